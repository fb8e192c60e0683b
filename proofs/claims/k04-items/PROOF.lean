import PyProof.Rows.All
import Wide.All
import OpenK.AllK
import Wide.FinOn
import HandS.ForMost
import HandS.Codes
import HandS.Deep
import HandS.Exc
import HandS.ExcOwn
import HandS.TryOnly
import HandS.Flow
import HandS.Style
import HandS.StrMore
import HandS.IsInst
import HandS.TupAny
import HandS.TupMul
import PyProof.ReprRoads
import HandS.Replace
import HandS.More
import HandS.Iter
import HandS.Comp
import HandS.ExcInit
import HandS.ExcField
import HandS.FStr
import HandS.Ends
import HandS.EndBits
import PyProof.ReprBulk
import KE.DataEq
import PySem.Challenge.RW_chunkletters_k04_items_told
set_option Elab.async false
set_option linter.all false
set_option maxRecDepth 100000
/-! part Py1 -/
/-! Cl: values, a store, a small language and its evaluator, in plain Lean. -/
namespace Cl
open PySem (PyData Str)

abbrev Tx := List Nat
def LIM : Nat := 16777216
/-- a text of codes from a Lean string -/
def tx (s : String) : Tx := s.toList.map Char.toNat

inductive D where
  | non | bl (b : Bool) | int (i : Int) | str (s : Tx) | tup (xs : List D) | ref (n : Nat) | exn (c : Nat) (fs : List D)
  deriving Inhabited

inductive Ob where
  | lst (xs : List D) | scr (ns : List Int) | ins (c : Nat) (fs : List (String × D)) | dct (kvs : List (D × D))
  deriving Inhabited

abbrev Sto := List Ob
abbrev Sg := List (Option D)

inductive R (α : Type) where
  | ok (a : α) (S : Sto)
  | exc (x : D) (S : Sto)
  | no

@[inline] def R.bind {α β : Type} (m : R α) (f : α → Sto → R β) : R β := match m with
  | .ok a S => f a S
  | .exc x S => .exc x S
  | .no => .no
@[simp] theorem R.bind_ok {α β : Type} (a : α) (S : Sto) (f : α → Sto → R β) : R.bind (.ok a S) f = f a S := (rfl)
@[simp] theorem R.bind_exc {α β : Type} (x : D) (S : Sto) (f : α → Sto → R β) : R.bind (.exc x S : R α) f = .exc x S := (rfl)
@[simp] theorem R.bind_no {α β : Type} (f : α → Sto → R β) : R.bind (.no : R α) f = .no := (rfl)
/-- an Option, or stuck -/
@[inline] def R.opt {α β : Type} (o : Option α) (f : α → R β) : R β := match o with
  | some a => f a
  | none => .no
@[simp] theorem R.opt_some {α β : Type} (a : α) (f : α → R β) : R.opt (some a) f = f a := (rfl)
@[simp] theorem R.opt_none {α β : Type} (f : α → R β) : R.opt (none : Option α) f = .no := (rfl)
/-- a condition, or stuck -/
@[inline] def R.req {β : Type} (c : Prop) [Decidable c] (m : R β) : R β := if c then m else .no
theorem R.req_of {β : Type} {c : Prop} [Decidable c] (h : c) (m : R β) : R.req c m = m := if_pos h
@[simp] theorem R.req_true {β : Type} (m : R β) : R.req True m = m := if_pos trivial

/-! ### data read out of the store -/
/-- a list of the store that may change; one that is read (the script, too) -/
def getL (S : Sto) (n : Nat) : Option (List D) := match S[n]? with
  | some (.lst xs) => some xs
  | _ => none
def getQ (S : Sto) (n : Nat) : Option (List D) := match S[n]? with
  | some (.lst xs) => some xs
  | some (.scr ns) => some (ns.map .int)
  | _ => none
def rdL (f : D → Option PyData) : List D → Option (List PyData)
  | [] => some []
  | x :: xs => match f x, rdL f xs with
    | some a, some as => some (a :: as)
    | _, _ => none
def rd (S : Sto) : Nat → D → Option PyData
  | _, .non => some .none
  | _, .bl b => some (.bool b)
  | _, .int i => some (.int i)
  | _, .str s => some (.str (SX.S s))
  | 0, .tup _ => none
  | n + 1, .tup xs => (rdL (rd S n) xs).map .tuple
  | 0, .ref _ => none
  | n + 1, .ref m => match getQ S m with
    | some xs => (rdL (rd S n) xs).map .list
    | none => none
  | _, .exn _ _ => none
/-- the depth that is read -/
def DEEP : Nat := 24
def eqD (S : Sto) (a b : D) : Option Bool := match rd S DEEP a, rd S DEEP b with
  | some x, some y => some (PyData.eqv x y)
  | _, _ => none
def truth (S : Sto) : D → Option Bool
  | .non => some false
  | .bl b => some b
  | .int i => some (i != 0)
  | .str s => some (!s.isEmpty)
  | .tup xs => some (!xs.isEmpty)
  | .ref n => (getQ S n).map fun xs => !xs.isEmpty
  | .exn _ _ => none

/-! ### the language -/
inductive Op where | add | sub | mul | fdiv | mod | pow
  deriving DecidableEq
inductive Cm where | eq | ne | lt | le | gt | ge | isin | notin | is | isnot
  deriving DecidableEq
/-- built-in functions, by the number of arguments -/
inductive Bf where | len | abs | max2 | min2 | int1 | int2 | str1 | bool1 | repr | list1 | tuple1 | all1 | any1 | sum1 | dict1 | sorted1 | max1 | min1
  deriving DecidableEq
/-- methods of built-in types -/
inductive Mt where
  | strip | lower | upper | split | partition | join | find | count | index
  | append | pop | popAt | insert | extend | reverse | clear
  deriving DecidableEq
/-- what isinstance asks: built-in types, exception classes, own classes -/
inductive Ty where | int | bool | str | list | tuple | base (s : String) | exc (c : Nat) | own (c : Nat)
  deriving DecidableEq

/-- constants: a default's value -/
inductive Kd where | non | bl (b : Bool) | int (i : Int) | str (s : Tx)
  deriving DecidableEq
def Kd.toD : Kd → D
  | .non => .non
  | .bl b => .bl b
  | .int i => .int i
  | .str s => .str s
def argOf (vs : List D) : Sum Nat Kd → Option D
  | .inl i => vs[i]?
  | .inr k => some k.toD
mutual
inductive E where
  | non | bl (b : Bool) | int (i : Int) | str (s : Tx)
  | var (i : Nat) | glo (g : Nat)
  | bin (o : Op) (a b : E) | neg (a : E) | not (a : E)
  | bop (isAnd : Bool) (es : Es)
  | ite (c a b : E)
  | cmp (o : Cm) (a b : E) | chain (o p : Cm) (a b c : E)
  | tup (es : Es) | lst (es : Es)
  | idx (a b : E) | slc (a : E) (lo hi : Es)
  | fld (a : E) (f : String)
  | call (f : Nat) (es : Es)
  | callk (f : Nat) (es ks : Es) (names : List String) (perm : List (Sum Nat Kd))
  | blt (b : Bf) (es : Es)
  | isi (a : E) (ts : List Ty) (single : Bool)
  | mth (m : Mt) (o : E) (es : Es)
  | comp (elt : E) (tg : List Nat) (tup : Bool) (it : It) (cond : Es) (own : List (String × Nat))
inductive Es where | nil | cons (e : E) (es : Es)
inductive It where | val (e : E) | rng (es : Es) | enm (e : E) | zip (a b : E)
end

/-- what an except suite gives back: constants, the exception's field, tuples -/
inductive XE where | cst (k : Kd) | fld | tup (xs : List XE)
mutual
inductive St where
  | set (i : Nat) (e : E)
  | sets (is : List Nat) (e : E)
  | par (is : List Nat) (es : Es)
  | aug (i : Nat) (o : Op) (e : E)
  | setf (o : E) (f : String) (e : E)
  | augf (o : E) (f : String) (op : Op) (e : E)
  | seti (o i e : E)
  | expr (e : E)
  | ret (e : E) | retn
  | ifs (c : E) (a b : Ss)
  | whl (c : E) (b : Ss)
  | forr (tg : List Nat) (tup : Bool) (it : It) (b : Ss)
  | raise (c : Nat) (es : Es)
  | tryx (b : Ss) (hs : Hs)
  | tryr (b : Ss) (c i : Nat) (x : XE)
  | pass | brk | cont
inductive Ss where | nil | cons (s : St) (ss : Ss)
inductive Hs where | nil | cons (cs : List Nat) (slot : Option Nat) (b : Ss) (hs : Hs)
end

/-! ### operations by values -/
def ins1 (S : Sto) (o : Ob) : R D := .ok (.ref S.length) (S ++ [o])
def binop (o : Op) (a b : D) (S : Sto) : R D := match o, a, b with
  | .add, .int i, .int j => .ok (.int (i + j)) S
  | .add, .str s, .str t => R.req (s.length + t.length ≤ LIM) (.ok (.str (s ++ t)) S)
  | .add, .tup s, .tup t => R.req (s.length + t.length ≤ LIM) (.ok (.tup (s ++ t)) S)
  | .add, .ref m, .ref n => R.opt (getL S m) fun s => R.opt (getL S n) fun t => R.req (s.length + t.length ≤ LIM) (ins1 S (.lst (s ++ t)))
  | .sub, .int i, .int j => .ok (.int (i - j)) S
  | .mul, .int i, .int j => R.req (i.natAbs < 2 ^ 64 ∨ j.natAbs < 2 ^ 64) (.ok (.int (i * j)) S)
  | .mul, .tup s, .int k => R.req (s ≠ [] ∧ 2 ≤ k ∧ k ≤ 1000 ∧ s.length ≤ 1000) (.ok (.tup (List.replicate k.toNat s).flatten) S)
  | .mul, .ref m, .int k => R.opt (getL S m) fun s => R.req (0 ≤ k ∧ k ≤ 100000 ∧ s.length * k.toNat ≤ LIM) (ins1 S (.lst (List.replicate k.toNat s).flatten))
  | .fdiv, .int i, .int j => R.req (0 < j ∧ j < 1073741824) (.ok (.int (i / j)) S)
  | .mod, .int i, .int j => R.req (0 < j) (.ok (.int (i % j)) S)
  | .pow, .int i, .int j => R.req (0 ≤ j ∧ j ≤ 1000000 ∧ i.natAbs < 2 ^ 64) (.ok (.int (i ^ j.toNat)) S)
  | _, _, _ => .no

/-- is y within x, as a text -/
def subTx (x y : Tx) : Bool := !(PySem.Builtin.Str.occurrences (SX.S x) (SX.S y) 0 (SX.S x).length 1).isEmpty
def memD (S : Sto) (x : D) (ys : D) : Option Bool := match rd S DEEP x, rd S (DEEP + 1) ys with
  | some d, some (.list ds) => some (ds.any fun z => PyData.eqv z d)
  | _, _ => none
/-- flat values: compared by ==, kept in tuples -/
def flat : D → Bool
  | .non => true | .bl _ => true | .int _ => true | .str _ => true | _ => false
def eqF : D → D → Bool
  | .non, .non => true
  | .bl a, .bl b => a == b
  | .bl a, .int b => (if a then 1 else 0) == b
  | .int a, .bl b => a == (if b then 1 else 0)
  | .int a, .int b => a == b
  | .str a, .str b => a == b
  | _, _ => false
def inF (S : Sto) (x y : D) : Option Bool := match x, y with
  | .str s, .str t => some (subTx t s)
  | x, .tup ys => if flat x && ys.all flat then some (ys.any fun y => eqF y x) else none
  | x, .ref m => match getQ S m with
    | some ys => if flat x && ys.all flat then some (ys.any fun y => eqF y x) else none
    | none => none
  | _, _ => none
def isNon : D → Bool | .non => true | _ => false
def cmpop (o : Cm) (a b : D) (S : Sto) : Option Bool := match o with
  | .eq => eqD S a b
  | .ne => (eqD S a b).map (!·)
  | .lt => match a, b with | .int i, .int j => some (decide (i < j)) | _, _ => none
  | .le => match a, b with | .int i, .int j => some (decide (i ≤ j)) | _, _ => none
  | .gt => match a, b with | .int i, .int j => some (decide (j < i)) | _, _ => none
  | .ge => match a, b with | .int i, .int j => some (decide (j ≤ i)) | _, _ => none
  | .isin => inF S a b
  | .notin => (inF S a b).map (!·)
  | .is => match b with | .non => some (isNon a) | .bl y => (match a with | .bl x => some (decide (x = y)) | _ => none) | _ => none
  | .isnot => match b with | .non => some (!isNon a) | .bl y => (match a with | .bl x => some (!decide (x = y)) | _ => none) | _ => none

def atI {α : Type} (xs : List α) (i : Int) : Option α := L2.atI xs i
def index (a b : D) (S : Sto) : R D := match a, b with
  | .str s, .int i => R.opt (atI s i) fun c => .ok (.str [c]) S
  | .tup xs, .int i => R.opt (atI xs i) fun d => .ok d S
  | .ref m, .int i => R.opt (getQ S m) fun xs => R.opt (atI xs i) fun d => .ok d S
  | _, _ => .no
/-- xs[lo:hi] -/
def cut {α : Type} (xs : List α) (lo hi : Option Int) : List α := (xs.drop (HT.sIx xs.length 0 lo)).take (HT.sIx xs.length xs.length hi - HT.sIx xs.length 0 lo)
def slice (a : D) (lo hi : Option Int) (S : Sto) : R D := match a with
  | .str s => .ok (.str (cut s lo hi)) S
  | .tup xs => .ok (.tup (cut xs lo hi)) S
  | .ref m => R.opt (getQ S m) fun xs => ins1 S (.lst (cut xs lo hi))
  | _ => .no

def asInts : List D → Option (List Int)
  | [] => some []
  | .int i :: r => (asInts r).map (i :: ·)
  | _ => none
def asStrs : List D → Option (List Tx)
  | [] => some []
  | .str i :: r => (asStrs r).map (i :: ·)
  | _ => none
def asBls : List D → Option (List Bool)
  | [] => some []
  | .bl i :: r => (asBls r).map (i :: ·)
  | _ => none
/-- decimal digits, or what int(text) takes -/
def blt (b : Bf) (vs : List D) (S : Sto) : R D := match b, vs with
  | .len, [.str s] => .ok (.int s.length) S
  | .len, [.tup xs] => .ok (.int xs.length) S
  | .len, [.ref m] => R.opt (getQ S m) fun xs => .ok (.int xs.length) S
  | .abs, [.int i] => .ok (.int (if i < 0 then -i else i)) S
  | .max2, [.int i, .int j] => .ok (.int (if j > i then j else i)) S
  | .min2, [.int i, .int j] => .ok (.int (if j < i then j else i)) S
  | .int1, [.int i] => .ok (.int i) S
  | .int1, [.bl k] => .ok (.int (if k then 1 else 0)) S
  | .repr, [v] => R.opt (rd S DEEP v) fun p => R.req (p.showable = true ∧ p.shown.length ≤ LIM) (.ok (.str p.shown.cps.toList) S)
  | .list1, [.tup xs] => ins1 S (.lst xs)
  | .list1, [.ref m] => R.opt (getQ S m) fun xs => ins1 S (.lst xs)
  | .tuple1, [.tup xs] => .ok (.tup xs) S
  | .tuple1, [.ref m] => R.opt (getQ S m) fun xs => .ok (.tup xs) S
  | .all1, [.ref m] => R.opt (getQ S m) fun xs => R.opt (asBls xs) fun bs => .ok (.bl (bs.all id)) S
  | .any1, [.ref m] => R.opt (getQ S m) fun xs => R.opt (asBls xs) fun bs => .ok (.bl (bs.any id)) S
  | _, _ => .no
/-- has a value the type -/
def hasTy : D → Ty → Option Bool
  | .non, .int | .non, .bool | .non, .str | .non, .list | .non, .tuple => some false
  | .bl _, .int | .bl _, .bool => some true
  | .bl _, .str | .bl _, .list | .bl _, .tuple => some false
  | .int _, .int => some true
  | .int _, .bool | .int _, .str | .int _, .list | .int _, .tuple => some false
  | .str _, .str => some true
  | .str _, .int | .str _, .bool | .str _, .list | .str _, .tuple => some false
  | .tup _, .tuple => some true
  | .tup _, .int | .tup _, .bool | .tup _, .list | .tup _, .str => some false
  | _, _ => none
def hasTyS (S : Sto) (v : D) (t : Ty) : Option Bool := match v with
  | .ref m => (match getQ S m, t with
    | some _, .list => some true
    | some _, .int | some _, .bool | some _, .str | some _, .tuple => some false
    | _, _ => none)
  | v => hasTy v t
def isiAny (S : Sto) (v : D) : List Ty → Option Bool
  | [] => some false
  | t :: ts => match hasTyS S v t with
    | some true => some true
    | some false => isiAny S v ts
    | none => none

def asciiAll (s : Tx) : Bool := s.all (· < 128)
/-- strip(" ") of a text -/
def stripS (s : Tx) (cs : Tx) : Tx := ((s.dropWhile (cs.contains ·)).reverse.dropWhile (cs.contains ·)).reverse
/-- is it a method of the lists (of the texts, if not) -/
def Mt.ofList : Mt → Bool
  | .append | .pop | .popAt | .insert | .extend | .reverse | .clear => true
  | _ => false
/-- has the receiver the type -/
def recv (m : Mt) (x : D) (S : Sto) : Bool := match x with
  | .str _ => !m.ofList
  | .ref n => m.ofList && (getQ S n).isSome
  | _ => false
/-- a text alone; a text and one text; a list and one argument -/
def str0 (o : D) (vs : List D) : Option Tx := match o, vs with
  | .str s, [] => some s
  | _, _ => none
def str1 (o : D) (vs : List D) : Option (Tx × Tx) := match o, vs with
  | .str s, [.str t] => some (s, t)
  | _, _ => none
def strL (o : D) (vs : List D) (S : Sto) : Option (Tx × List D) := match o, vs with
  | .str s, [.tup xs] => some (s, xs)
  | .str s, [.ref m] => (getQ S m).map fun xs => (s, xs)
  | _, _ => none
def lst0 (o : D) (vs : List D) (S : Sto) : Option (Nat × List D) := match o, vs with
  | .ref m, [] => (getL S m).map fun xs => (m, xs)
  | _, _ => none
def lst1 (o : D) (vs : List D) (S : Sto) : Option (Nat × List D × D) := match o, vs with
  | .ref m, [v] => (getL S m).map fun xs => (m, xs, v)
  | _, _ => none
def mth (m : Mt) (o : D) (vs : List D) (S : Sto) : R D := match m with
  | .strip => R.opt (str1 o vs) fun p => .ok (.str (stripS p.1 p.2)) S
  | .lower => R.opt (str0 o vs) fun s => R.req (s.length ≤ 5592405) (.ok (.str (s.map PyProof.Rows.lo1)) S)
  | .upper => R.opt (str0 o vs) fun s => R.req (s.length ≤ 5592405) (.ok (.str (s.map PyProof.Rows.up1)) S)
  | .split => R.opt (str1 o vs) fun p => R.req (p.2 ≠ [] ∧ p.1.length + 2 ≤ LIM) (ins1 S (.lst ((TL.spl p.2 0 [] p.1).map .str)))
  | .partition => R.opt (str1 o vs) fun p => R.req (p.2 ≠ []) (.ok (match TL.par p.2 [] p.1 with
      | some (a, b) => .tup [.str a, .str p.2, .str b]
      | none => .tup [.str p.1, .str [], .str []]) S)
  | .join => R.opt (strL o vs S) fun p => R.opt (asStrs p.2) fun ts => R.req ((ts.map List.length).sum + ts.length * p.1.length ≤ LIM) (.ok (.str (TL.joinL p.1 ts)) S)
  | .find => R.opt (str1 o vs) fun p => .ok (.int (PySem.Txt.find (SX.S p.1) (SX.S p.2))) S
  | .count => R.opt (str1 o vs) fun p => .ok (.int (PySem.Txt.count (SX.S p.1) (SX.S p.2))) S
  | .index => R.opt (str1 o vs) fun p => R.opt (PySem.Builtin.Str.occurrences (SX.S p.1) (SX.S p.2) 0 (SX.S p.1).length 1).head? fun i => .ok (.int (i : Nat)) S
  | .append => R.opt (lst1 o vs S) fun p => R.req (p.2.1.length < LIM) (.ok .non (S.set p.1 (.lst (p.2.1 ++ [p.2.2]))))
  | .pop => R.opt (lst0 o vs S) fun p => R.opt (p.2[p.2.length - 1]?) fun d => .ok d (S.set p.1 (.lst p.2.dropLast))
  | _ => .no

/-! ### walks -/
inductive Wk where
  | lst (m : Nat) | fix (xs : List D) | rng (lo : Int) (n : Nat) | enm (m : Nat) | zip (m n : Nat)
/-- at turn i: stuck | the end | an item -/
def Wk.at (w : Wk) (i : Nat) (S : Sto) : Option (Option D) := match w with
  | .lst m => (getQ S m).map fun xs => xs[i]?
  | .fix xs => some xs[i]?
  | .rng lo n => some (if i < n then some (.int (lo + i)) else none)
  | .enm m => (getQ S m).map fun xs => xs[i]?.map fun x => .tup [.int i, x]
  | .zip m n => match getQ S m, getQ S n with
    | some xs, some ys => some (match xs[i]?, ys[i]? with
      | some x, some y => some (.tup [x, y])
      | _, _ => none)
    | _, _ => none
def walk (d : D) (S : Sto) : R Wk := match d with
  | .tup xs => .ok (.fix xs) S
  | .str s => .ok (.fix (s.map fun c => .str [c])) S
  | .ref m => R.opt (getQ S m) fun _ => .ok (.lst m) S
  | _ => .no

def setAll (σ : Sg) : List Nat → List D → Sg
  | i :: is, d :: ds => setAll (σ.set i (some d)) is ds
  | _, _ => σ
/-- a target: one name, or a tuple of names -/
def target (tg : List Nat) (tup : Bool) (d : D) (σ : Sg) (S : Sto) : Option Sg := match tup with
  | false => match tg with
    | [i] => some (σ.set i (some d))
    | _ => none
  | true => match d with
    | .tup ds => if ds.length = tg.length then some (setAll σ tg ds) else none
    | .ref m => (match getQ S m with
      | some ds => if ds.length = tg.length then some (setAll σ tg ds) else none
      | none => none)
    | _ => none
def wipe (σ : Sg) : List Nat → Sg
  | [] => σ
  | v :: vs => (wipe σ vs).set v none

def FUEL : Nat := 2 ^ 26

/-- the turns of a comprehension: f gives the element, or nothing -/
def compLoop (f : D → Sto → R (Option D)) (w : Wk) : Nat → Nat → List D → Sto → R (List D)
  | 0, _, _, _ => .no
  | n + 1, i, acc, S => R.opt (w.at i S) fun
    | none => .ok acc S
    | some d => match f d S with
      | .ok none S1 => compLoop f w n (i + 1) acc S1
      | .ok (some y) S1 => R.req (acc.length < LIM) (compLoop f w n (i + 1) (acc ++ [y]) S1)
      | .exc _ _ => .no
      | .no => .no

structure Cfg where
  call : Nat → List D → Sto → R D
  glo : Nat → Option D

mutual
def evE (C : Cfg) : E → Sg → Sto → R D
  | .non, _, S => .ok .non S
  | .bl b, _, S => .ok (.bl b) S
  | .int i, _, S => .ok (.int i) S
  | .str s, _, S => .ok (.str s) S
  | .var i, σ, S => match σ[i]? with
    | some (some d) => .ok d S
    | _ => .no
  | .glo g, _, S => R.opt (C.glo g) fun d => .ok d S
  | .bin o a b, σ, S => (evE C a σ S).bind fun x S1 => (evE C b σ S1).bind fun y S2 => binop o x y S2
  | .neg a, σ, S => (evE C a σ S).bind fun x S1 => match x with
    | .int i => .ok (.int (-i)) S1
    | _ => .no
  | .not a, σ, S => (evE C a σ S).bind fun x S1 => R.opt (truth S1 x) fun k => .ok (.bl (!k)) S1
  | .bop k es, σ, S => evB C k es σ S
  | .ite c a b, σ, S => (evE C c σ S).bind fun t S1 => R.opt (truth S1 t) fun k => if k then evE C a σ S1 else evE C b σ S1
  | .cmp o a b, σ, S => (evE C a σ S).bind fun x S1 => (evE C b σ S1).bind fun y S2 => R.opt (cmpop o x y S2) fun k => .ok (.bl k) S2
  | .chain o p a b c, σ, S => (evE C a σ S).bind fun x S1 => (evE C b σ S1).bind fun y S2 => R.opt (cmpop o x y S2) fun k =>
      if k then (evE C c σ S2).bind fun z S3 => R.opt (cmpop p y z S3) fun k2 => .ok (.bl k2) S3 else .ok (.bl false) S2
  | .tup es, σ, S => (evEs C es σ S).bind fun vs S1 => R.req (vs.length ≤ LIM) (.ok (.tup vs) S1)
  | .lst es, σ, S => (evEs C es σ S).bind fun vs S1 => R.req (vs.length ≤ LIM) (ins1 S1 (.lst vs))
  | .idx a b, σ, S => (evE C a σ S).bind fun x S1 => (evE C b σ S1).bind fun y S2 => index x y S2
  | .slc a lo hi, σ, S => (evE C a σ S).bind fun x S1 => (evO C lo σ S1).bind fun l S2 => (evO C hi σ S2).bind fun h S3 => slice x l h S3
  | .fld a f, σ, S => .no
  | .call f es, σ, S => (evEs C es σ S).bind fun vs S1 => C.call f vs S1
  | .callk f es ks names perm, σ, S => (evEs C es σ S).bind fun vs S1 => (evEs C ks σ S1).bind fun zs S2 =>
      R.opt (perm.mapM (argOf (vs ++ zs))) fun as => C.call f as S2
  | .blt b es, σ, S => (evEs C es σ S).bind fun vs S1 => blt b vs S1
  | .isi a ts _, σ, S => (evE C a σ S).bind fun x S1 => R.opt (isiAny S1 x ts) fun k => .ok (.bl k) S1
  | .mth m o es, σ, S => (evE C o σ S).bind fun x S1 => R.req (recv m x S1 = true) ((evEs C es σ S1).bind fun vs S2 => mth m x vs S2)
  | .comp elt tg tp it cond own, σ, S => (evI C it σ S).bind fun w S1 =>
      (compLoop (fun d S2 => R.opt (target tg tp d (wipe σ (own.map (·.2))) S2) fun σ2 =>
        (evC C cond σ2 S2).bind fun k S3 => if k then (evE C elt σ2 S3).bind fun y S4 => .ok (some y) S4 else .ok none S3) w FUEL 0 [] S1).bind fun ys S2 => ins1 S2 (.lst ys)
def evEs (C : Cfg) : Es → Sg → Sto → R (List D)
  | .nil, _, S => .ok [] S
  | .cons e es, σ, S => (evE C e σ S).bind fun x S1 => (evEs C es σ S1).bind fun xs S2 => .ok (x :: xs) S2
/-- an optional part of a slice -/
def evO (C : Cfg) : Es → Sg → Sto → R (Option Int)
  | .nil, _, S => .ok none S
  | .cons e _, σ, S => (evE C e σ S).bind fun x S1 => match x with
    | .int i => .ok (some i) S1
    | _ => .no
/-- the tests of a comprehension -/
def evC (C : Cfg) : Es → Sg → Sto → R Bool
  | .nil, _, S => .ok true S
  | .cons e _, σ, S => (evE C e σ S).bind fun t S1 => R.opt (truth S1 t) fun k => .ok k S1
/-- and (true), or (false), as values -/
def evB (C : Cfg) (k : Bool) : Es → Sg → Sto → R D
  | .nil, _, _ => .no
  | .cons e .nil, σ, S => evE C e σ S
  | .cons e (.cons e2 es), σ, S => (evE C e σ S).bind fun x S1 => R.opt (truth S1 x) fun t => if t = k then evB C k (.cons e2 es) σ S1 else .ok x S1
def evI (C : Cfg) : It → Sg → Sto → R Wk
  | .val e, σ, S => (evE C e σ S).bind fun d S1 => walk d S1
  | .rng es, σ, S => (evEs C es σ S).bind fun vs S1 => match vs with
    | [.int j] => R.req (j < 2 ^ 62 ∧ -(2 ^ 62) ≤ j) (.ok (.rng 0 j.toNat) S1)
    | [.int i, .int j] => R.req ((-(2 ^ 62) ≤ i ∧ i < 2 ^ 62) ∧ -(2 ^ 62) ≤ j ∧ j < 2 ^ 62) (.ok (.rng i (j - i).toNat) S1)
    | _ => .no
  | .enm e, σ, S => (evE C e σ S).bind fun d S1 => match d with
    | .ref m => R.opt (getQ S1 m) fun _ => .ok (.enm m) S1
    | _ => .no
  | .zip a b, σ, S => (evE C a σ S).bind fun x S1 => (evE C b σ S1).bind fun y S2 => match x, y with
    | .ref m, .ref n => R.opt (getQ S2 m) fun _ => R.opt (getQ S2 n) fun _ => .ok (.zip m n) S2
    | _, _ => .no
end

/-! ### statements -/
inductive RS where
  | next (σ : Sg) (S : Sto) | ret (d : D) (S : Sto) | brk (σ : Sg) (S : Sto) | cont (σ : Sg) (S : Sto)
  | exc (x : D) (σ : Sg) (S : Sto) | no
/-- an expression's end within a statement at σ -/
@[inline] def R.at {α : Type} (m : R α) (σ : Sg) (f : α → Sto → RS) : RS := match m with
  | .ok a S => f a S
  | .exc x S => .exc x σ S
  | .no => .no
@[simp] theorem R.at_ok {α : Type} (a : α) (S : Sto) (σ : Sg) (f : α → Sto → RS) : R.at (.ok a S) σ f = f a S := (rfl)
@[simp] theorem R.at_exc {α : Type} (x : D) (S : Sto) (σ : Sg) (f : α → Sto → RS) : R.at (.exc x S : R α) σ f = .exc x σ S := (rfl)
@[simp] theorem R.at_no {α : Type} (σ : Sg) (f : α → Sto → RS) : R.at (.no : R α) σ f = .no := (rfl)
@[inline] def RS.opt {α : Type} (o : Option α) (f : α → RS) : RS := match o with
  | some a => f a
  | none => .no
@[simp] theorem RS.opt_some {α : Type} (a : α) (f : α → RS) : RS.opt (some a) f = f a := (rfl)
@[simp] theorem RS.opt_none {α : Type} (f : α → RS) : RS.opt (none : Option α) f = .no := (rfl)
/-- what follows -/
@[inline] def RS.seq (m : RS) (f : Sg → Sto → RS) : RS := match m with
  | .next σ S => f σ S
  | r => r
@[simp] theorem RS.seq_next (σ : Sg) (S : Sto) (f : Sg → Sto → RS) : RS.seq (.next σ S) f = f σ S := (rfl)
@[simp] theorem RS.seq_ret (d : D) (S : Sto) (f : Sg → Sto → RS) : RS.seq (.ret d S) f = .ret d S := (rfl)
@[simp] theorem RS.seq_brk (σ : Sg) (S : Sto) (f : Sg → Sto → RS) : RS.seq (.brk σ S) f = .brk σ S := (rfl)
@[simp] theorem RS.seq_cont (σ : Sg) (S : Sto) (f : Sg → Sto → RS) : RS.seq (.cont σ S) f = .cont σ S := (rfl)
@[simp] theorem RS.seq_exc (x : D) (σ : Sg) (S : Sto) (f : Sg → Sto → RS) : RS.seq (.exc x σ S) f = .exc x σ S := (rfl)
@[simp] theorem RS.seq_no (f : Sg → Sto → RS) : RS.seq .no f = .no := (rfl)

/-- what an exception's field may be: it is shown in its text -/
def exOk : List D → Bool
  | [.int i] => decide (i.natAbs < 1000000000000)
  | [.str s] => decide (s.length ≤ 1000000)
  | _ => false
def raiseR (c : Nat) (vs : List D) (σ : Sg) (S : Sto) : RS := if exOk vs then .exc (.exn c vs) σ S else .no
def augop (o : Op) (a b : D) (S : Sto) : R D := match o, a, b with
  | .add, .ref m, .ref n => R.opt (getL S m) fun s => R.opt (getL S n) fun t => R.req (s.length + t.length ≤ LIM) (.ok (.ref m) (S.set m (.lst (s ++ t))))
  | .add, .int i, .int j => .ok (.int (i + j)) S
  | .add, .str s, .str t => R.req (s.length + t.length ≤ LIM) (.ok (.str (s ++ t)) S)
  | .sub, .int i, .int j => .ok (.int (i - j)) S
  | _, _, _ => .no
/-- o[i] = v -/
def setItem (o i v : D) (S : Sto) : Option Sto := match o, i with
  | .ref m, .int k => match getL S m with
    | some xs => (L2.ixN xs.length k).map fun j => S.set m (.lst (xs.set j v))
    | none => none
  | _, _ => none

def forLoop (f : D → Sg → Sto → RS) (w : Wk) : Nat → Nat → Sg → Sto → RS
  | 0, _, _, _ => .no
  | n + 1, i, σ, S => RS.opt (w.at i S) fun
    | none => .next σ S
    | some d => match f d σ S with
      | .next σ1 S1 => forLoop f w n (i + 1) σ1 S1
      | .cont σ1 S1 => forLoop f w n (i + 1) σ1 S1
      | .brk σ1 S1 => .next σ1 S1
      | r => r
def whileLoop (c : Sg → Sto → R Bool) (f : Sg → Sto → RS) : Nat → Sg → Sto → RS
  | 0, _, _ => .no
  | n + 1, σ, S => (c σ S).at σ fun k S0 => match k with
    | false => .next σ S0
    | true => match f σ S0 with
      | .next σ1 S1 => whileLoop c f n σ1 S1
      | .cont σ1 S1 => whileLoop c f n σ1 S1
      | .brk σ1 S1 => .next σ1 S1
      | r => r
/-- the class that an exception has -/
def exCls : D → Option Nat
  | .exn c _ => some c
  | _ => none
/-- behind a suite: its name goes, nothing is raised out of it -/
def leaveSuite (slot : Option Nat) : RS → RS
  | .next σ S => .next (match slot with | some i => σ.set i none | none => σ) S
  | .brk σ S => .brk (match slot with | some i => σ.set i none | none => σ) S
  | .cont σ S => .cont (match slot with | some i => σ.set i none | none => σ) S
  | .ret d S => .ret d S
  | .exc _ _ _ => .no
  | .no => .no

mutual
def evX : XE → List D → Option D
  | .cst k, _ => some k.toD
  | .fld, fs => match fs with
    | [d] => some d
    | _ => none
  | .tup xs, fs => (evXs xs fs).map .tup
def evXs : List XE → List D → Option (List D)
  | [], _ => some []
  | x :: xs, fs => match evX x fs, evXs xs fs with
    | some d, some ds => some (d :: ds)
    | _, _ => none
end
/-- behind a try: body, except the c-th class as the i-th name: return x -/
def catchR (c i : Nat) (x : XE) : RS → RS
  | .exc e σ S => match e with
    | .exn c' fs => if c' = c then (if i < σ.length then RS.opt (evX x fs) fun d => .ret d S else .no) else .exc (.exn c' fs) σ S
    | _ => .no
  | r => r
mutual
def evS (C : Cfg) : St → Sg → Sto → RS
  | .set i e, σ, S => (evE C e σ S).at σ fun d S1 => .next (σ.set i (some d)) S1
  | .sets is e, σ, S => (evE C e σ S).at σ fun d S1 => RS.opt (target is true d σ S1) fun σ1 => .next σ1 S1
  | .par is es, σ, S => (evEs C es σ S).at σ fun ds S1 => if ds.length = is.length then .next (setAll σ is ds) S1 else .no
  | .aug i o e, σ, S => match σ[i]? with
    | some (some x) => (evE C e σ S).at σ fun y S1 => (augop o x y S1).at σ fun z S2 => .next (σ.set i (some z)) S2
    | _ => .no
  | .setf o f e, σ, S => .no
  | .augf o f op e, σ, S => .no
  | .seti o i e, σ, S => (evE C e σ S).at σ fun v S1 => (evE C o σ S1).at σ fun x S2 => (evE C i σ S2).at σ fun y S3 => RS.opt (setItem x y v S3) fun S4 => .next σ S4
  | .expr e, σ, S => (evE C e σ S).at σ fun _ S1 => .next σ S1
  | .ret e, σ, S => (evE C e σ S).at σ fun d S1 => .ret d S1
  | .retn, _, S => .ret .non S
  | .ifs c a b, σ, S => (evE C c σ S).at σ fun t S1 => RS.opt (truth S1 t) fun k => if k then evSs C a σ S1 else evSs C b σ S1
  | .whl c b, σ, S => whileLoop (fun σ S => (evE C c σ S).bind fun t S1 => R.opt (truth S1 t) fun k => .ok k S1) (evSs C b) FUEL σ S
  | .forr tg tp it b, σ, S => (evI C it σ S).at σ fun w S1 => forLoop (fun d σ S => RS.opt (target tg tp d σ S) fun σ1 => evSs C b σ1 S) w FUEL 0 σ S1
  | .raise c es, σ, S => (evEs C es σ S).at σ fun vs S1 => raiseR c vs σ S1
  | .tryx b hs, σ, S => match evSs C b σ S with
    | .exc x σ1 S1 => RS.opt (exCls x) fun c => evH C c x hs σ1 S1
    | r => r
  | .tryr b c i x, σ, S => catchR c i x (evSs C b σ S)
  | .pass, σ, S => .next σ S
  | .brk, σ, S => .brk σ S
  | .cont, σ, S => .cont σ S
def evSs (C : Cfg) : Ss → Sg → Sto → RS
  | .nil, σ, S => .next σ S
  | .cons s .nil, σ, S => evS C s σ S
  | .cons s (.cons s2 ss), σ, S => (evS C s σ S).seq fun σ1 S1 => evSs C (.cons s2 ss) σ1 S1
def evH (C : Cfg) (c : Nat) (x : D) : Hs → Sg → Sto → RS
  | .nil, σ, S => .exc x σ S
  | .cons cs slot b hs, σ, S => if cs.contains c then leaveSuite slot (evSs C b (match slot with | some i => σ.set i (some x) | none => σ) S) else evH C c x hs σ S
end

/-- a def: its parameters, its slots, its body -/
structure Fn where
  np : Nat
  ns : Nat
  body : Ss
/-- a call, by the depth that is left -/
def run (P : Nat → Option Fn) (glo : Nat → Option D) : Nat → Nat → List D → Sto → R D
  | 0, _, _, _ => .no
  | n + 1, f, vs, S => match P f with
    | none => .no
    | some F => if vs.length = F.np then match evSs ⟨run P glo n, glo⟩ F.body (vs.map some ++ List.replicate (F.ns - F.np) none) S with
        | .next _ S1 => .ok .non S1
        | .ret d S1 => .ok d S1
        | .exc x _ S1 => .exc x S1
        | _ => .no
      else .no
end Cl

/-! part Py2 -/
/-! Cl: how the values and the store of Py1 lie in the layer's heap. -/
namespace Cl
open PySem PySem.Spec PyProof.Rows L2
abbrev Fr' := PySem.W.Frag
abbrev Sv := List (Option V)

theorem LIM_eq : LIM = sizeLine := by rw [sizeLine_eq]; rfl

section
variable (K : Fr')
mutual
inductive RelD (ι : List Addr) (H : Hp) : D → V → Prop
  | non : RelD ι H .non .non
  | bl (b : Bool) : RelD ι H (.bl b) (.bl b)
  | int (i : Int) : RelD ι H (.int i) (.int i)
  | str {s : Tx} : s.length ≤ LIM → asciiAll s = true → RelD ι H (.str s) (.str (SX.S s))
  | tup {a : Addr} {vs : List V} {ds : List D} : SqT K H a vs → RelDs ι H ds vs → RelD ι H (.tup ds) (.ref a)
  | ref {n : Nat} {a : Addr} : ι[n]? = some a → RelD ι H (.ref n) (.ref a)
inductive RelDs (ι : List Addr) (H : Hp) : List D → List V → Prop
  | nil : RelDs ι H [] []
  | cons {d : D} {v : V} {ds : List D} {vs : List V} : RelD ι H d v → RelDs ι H ds vs → RelDs ι H (d :: ds) (v :: vs)
end
/-- an object of the store at its address -/
def RelOb (ι : List Addr) (H : Hp) (a : Addr) : Ob → Prop
  | .lst xs => ∃ vs, H a = some (.lst vs) ∧ RelDs K ι H xs vs
  | .scr ns => (∃ o, H a = some (.frz o (.lst (ns.map V.int)))) ∨
      ∃ (o : Obj) (its : Array Value) (n : Nat), K.lookup a = some o ∧ o.cls = .type "list" ∧ o.dict = none ∧ o.data = .seq its n ∧ its.size ≤ sizeLine ∧ Vals (ns.map V.int) its.toList
  | .ins _ _ => False
  | .dct _ => False
def Ob.mut : Ob → Bool
  | .scr _ => false
  | _ => true
structure RelS (ι : List Addr) (S : Sto) (H : Hp) : Prop where
  len : ι.length = S.length
  ob : ∀ (n : Nat) (o : Ob) (a : Addr), S[n]? = some o → ι[n]? = some a → RelOb K ι H a o
  inj : ∀ (m n : Nat) (o p : Ob) (a : Addr), S[m]? = some o → S[n]? = some p → ι[m]? = some a → ι[n]? = some a → o.mut = true → p.mut = true → m = n
/-- the slots -/
structure RelG (ι : List Addr) (H : Hp) (σ : Sg) (τ : Sv) : Prop where
  len : σ.length = τ.length
  at_ : ∀ (i : Nat) (d : D), σ[i]? = some (some d) → ∃ v, τ[i]? = some (some v) ∧ RelD K ι H d v
end
/-- an object of the store that may change stands at a -/
def Own (ι : List Addr) (S : Sto) (a : Addr) : Prop := ∃ (n : Nat) (o : Ob), ι[n]? = some a ∧ S[n]? = some o ∧ o.mut = true
/-- later: more objects; what the store does not own stands -/
structure Ext (ι : List Addr) (S : Sto) (H : Hp) (ι' : List Addr) (S' : Sto) (H' : Hp) : Prop where
  pre : ∃ l, ι' = ι ++ l
  keep : ∀ a o, H a = some o → ¬ Own ι S a → H' a = some o ∧ ¬ Own ι' S' a
theorem Ext.refl {ι : List Addr} {S : Sto} {H : Hp} : Ext ι S H ι S H := ⟨⟨[], (List.append_nil _).symm⟩, fun _ _ h n => ⟨h, n⟩⟩
theorem Ext.trans {ι ι1 ι2 : List Addr} {S S1 S2 : Sto} {H H1 H2 : Hp} (a : Ext ι S H ι1 S1 H1) (b : Ext ι1 S1 H1 ι2 S2 H2) : Ext ι S H ι2 S2 H2 := by
  obtain ⟨l, e⟩ := a.pre
  obtain ⟨l2, e2⟩ := b.pre
  refine ⟨⟨l ++ l2, by rw [e2, e, List.append_assoc]⟩, fun c o h n => ?_⟩
  obtain ⟨h1, n1⟩ := a.keep c o h n
  exact b.keep c o h1 n1
theorem Ext.get {ι ι' : List Addr} {S S' : Sto} {H H' : Hp} (e : Ext ι S H ι' S' H') {n : Nat} {a : Addr} (h : ι[n]? = some a) : ι'[n]? = some a := by
  obtain ⟨l, rfl⟩ := e.pre
  obtain ⟨hn, _⟩ := List.getElem?_eq_some_iff.mp h
  rw [List.getElem?_append_left hn]
  exact h
section
variable {K : Fr'} {ι ι' : List Addr} {H H' : Hp} {S S' : Sto}
theorem RelS.own (r : RelS K ι S H) {a : Addr} (h : Own ι S a) : ∃ vs, H a = some (.lst vs) := by
  obtain ⟨n, o, h1, h2, hm⟩ := h
  have h3 := r.ob n o a h2 h1
  cases o with
  | lst xs =>
    obtain ⟨vs, e, _⟩ := h3
    exact ⟨vs, e⟩
  | scr ns => cases hm
  | ins _ _ => exact h3.elim
  | dct _ => exact h3.elim
theorem RelS.free (r : RelS K ι S H) {a : Addr} (h : H a = none) : ¬ Own ι S a := fun q => by
  obtain ⟨vs, e⟩ := r.own q
  rw [h] at e; cases e
theorem Ext.tup (r : RelS K ι S H) (e : Ext ι S H ι' S' H') {a : Addr} {vs : List V} (h : SqT K H a vs) : SqT K H' a vs := by
  have out : ∀ u, H a = some u → (u = .tup vs ∨ ∃ o, u = .frz o (.tup vs)) → H' a = some u := fun u hu hk => by
    refine (e.keep a u hu fun hm => ?_).1
    obtain ⟨ws, z⟩ := r.own hm
    rw [hu] at z; cases z; rcases hk with k | ⟨o, k⟩ <;> cases k
  rcases h with (h | ⟨o, h⟩) | h
  · exact .inl (.inl (out _ h (.inl rfl)))
  · exact .inl (.inr ⟨o, out _ h (.inr ⟨o, rfl⟩)⟩)
  · exact .inr h
theorem RelOb.scr_mono {a : Addr} {ns : List Int} (r : RelS K ι S H) (e : Ext ι S H ι' S' H') (h : RelOb K ι H a (.scr ns)) : RelOb K ι' H' a (.scr ns) := by
  rcases h with ⟨o, h⟩ | h
  · refine .inl ⟨o, (e.keep a _ h fun hm => ?_).1⟩
    obtain ⟨ws, z⟩ := r.own hm
    rw [h] at z; cases z
  · exact .inr h
theorem RelOb.scr_sq {a : Addr} {ns : List Int} (h : RelOb K ι H a (.scr ns)) : SqL K H a (ns.map V.int) := by
  rcases h with ⟨o, h⟩ | h
  · exact .inl (.inr ⟨o, h⟩)
  · exact .inr h
mutual
theorem RelD.mono (r : RelS K ι S H) (e : Ext ι S H ι' S' H') : ∀ {d : D} {v : V}, RelD K ι H d v → RelD K ι' H' d v
  | _, _, .non => .non
  | _, _, .bl b => .bl b
  | _, _, .int i => .int i
  | _, _, .str h h2 => .str h h2
  | _, _, .tup h hs => .tup (e.tup r h) (RelDs.mono r e hs)
  | _, _, .ref h => .ref (e.get h)
theorem RelDs.mono (r : RelS K ι S H) (e : Ext ι S H ι' S' H') : ∀ {ds : List D} {vs : List V}, RelDs K ι H ds vs → RelDs K ι' H' ds vs
  | _, _, .nil => .nil
  | _, _, .cons h hs => .cons (RelD.mono r e h) (RelDs.mono r e hs)
end
theorem RelG.mono {σ : Sg} {τ : Sv} (r : RelS K ι S H) (e : Ext ι S H ι' S' H') (g : RelG K ι H σ τ) : RelG K ι' H' σ τ :=
  ⟨g.len, fun i d h => let ⟨v, h1, h2⟩ := g.at_ i d h; ⟨v, h1, h2.mono r e⟩⟩
theorem RelG.set {σ : Sg} {τ : Sv} {d : D} {v : V} (g : RelG K ι H σ τ) (i : Nat) (h : RelD K ι H d v) : RelG K ι H (σ.set i (some d)) (τ.set i (some v)) := by
  refine ⟨by rw [List.length_set, List.length_set, g.len], fun j e he => ?_⟩
  by_cases hj : i = j
  · subst hj
    by_cases hl : i < σ.length
    · rw [List.getElem?_set_self hl] at he
      cases he
      exact ⟨v, List.getElem?_set_self (by rw [← g.len]; exact hl), h⟩
    · rw [List.getElem?_eq_none (by rw [List.length_set]; omega)] at he
      cases he
  · rw [List.getElem?_set_ne hj] at he
    obtain ⟨w, h1, h2⟩ := g.at_ j e he
    exact ⟨w, by rw [List.getElem?_set_ne hj]; exact h1, h2⟩
theorem RelG.unset {σ : Sg} {τ : Sv} (g : RelG K ι H σ τ) (i : Nat) : RelG K ι H (σ.set i none) (τ.set i none) := by
  refine ⟨by rw [List.length_set, List.length_set, g.len], fun j e he => ?_⟩
  by_cases hj : i = j
  · subst hj
    by_cases hl : i < σ.length
    · rw [List.getElem?_set_self hl] at he
      cases he
    · rw [List.getElem?_eq_none (by rw [List.length_set]; omega)] at he
      cases he
  · rw [List.getElem?_set_ne hj] at he
    obtain ⟨w, h1, h2⟩ := g.at_ j e he
    exact ⟨w, by rw [List.getElem?_set_ne hj]; exact h1, h2⟩
theorem RelG.wipe {σ : Sg} {τ : Sv} (g : RelG K ι H σ τ) : ∀ vs : List Nat, RelG K ι H (Cl.wipe σ vs) (L2.wipe τ vs)
  | [] => g
  | v :: vs => (RelG.wipe g vs).unset v
theorem RelDs.length : ∀ {ds : List D} {vs : List V}, RelDs K ι H ds vs → ds.length = vs.length
  | _, _, .nil => rfl
  | _, _, .cons _ h => by simp [RelDs.length h]
theorem RelDs.get : ∀ {ds : List D} {vs : List V} {i : Nat} {d : D}, RelDs K ι H ds vs → ds[i]? = some d → ∃ v, vs[i]? = some v ∧ RelD K ι H d v
  | _, _, _, _, .nil, e => by simp at e
  | _, _, 0, _, .cons h _, e => by simp at e; subst e; exact ⟨_, rfl, h⟩
  | _, _, i + 1, _, .cons _ t, e => by
    obtain ⟨v, h1, h2⟩ := RelDs.get (i := i) t (by simpa using e)
    exact ⟨v, by simpa using h1, h2⟩
theorem RelDs.append : ∀ {ds es : List D} {vs us : List V}, RelDs K ι H ds vs → RelDs K ι H es us → RelDs K ι H (ds ++ es) (vs ++ us)
  | _, _, _, _, .nil, h => h
  | _, _, _, _, .cons a t, h => .cons a (RelDs.append t h)
theorem RelDs.drop : ∀ {ds : List D} {vs : List V} (n : Nat), RelDs K ι H ds vs → RelDs K ι H (ds.drop n) (vs.drop n)
  | _, _, 0, h => h
  | _, _, _ + 1, .nil => .nil
  | _, _, n + 1, .cons _ t => RelDs.drop n t
theorem RelDs.take : ∀ {ds : List D} {vs : List V} (n : Nat), RelDs K ι H ds vs → RelDs K ι H (ds.take n) (vs.take n)
  | _, _, 0, _ => .nil
  | _, _, _ + 1, .nil => .nil
  | _, _, n + 1, .cons a t => .cons a (RelDs.take n t)
theorem RelDs.set {d : D} {v : V} (h : RelD K ι H d v) : ∀ {ds : List D} {vs : List V} (i : Nat), RelDs K ι H ds vs → RelDs K ι H (ds.set i d) (vs.set i v)
  | _, _, _, .nil => .nil
  | _, _, 0, .cons _ t => .cons h t
  | _, _, i + 1, .cons a t => .cons a (RelDs.set h i t)
theorem RelDs.rep {ds : List D} {vs : List V} (h : RelDs K ι H ds vs) : ∀ k : Nat, RelDs K ι H (List.replicate k ds).flatten (List.replicate k vs).flatten
  | 0 => .nil
  | k + 1 => by
    rw [List.replicate_succ, List.replicate_succ, List.flatten_cons, List.flatten_cons]
    exact h.append (RelDs.rep h k)
theorem RelDs.dropLast {ds : List D} {vs : List V} (h : RelDs K ι H ds vs) : RelDs K ι H ds.dropLast vs.dropLast := by
  rw [List.dropLast_eq_take, List.dropLast_eq_take, h.length]
  exact h.take _

/-! ### new objects, writes -/
theorem Ext.put (r : RelS K ι S H) {p : Addr} {o : HO} (hp : H p = none) : Ext ι S H ι S (upd H p o) :=
  ⟨⟨[], (List.append_nil _).symm⟩, fun a u h n => ⟨by rw [upd_ne (ne_of_none h hp)]; exact h, n⟩⟩
theorem own_new {p a : Addr} {o : Ob} (hl : ι.length = S.length) (h : Own (ι ++ [p]) (S ++ [o]) a) : Own ι S a ∨ a = p := by
  obtain ⟨n, q, h1, h2, hm⟩ := h
  by_cases hn : n < ι.length
  · rw [List.getElem?_append_left hn] at h1
    rw [List.getElem?_append_left (by omega)] at h2
    exact .inl ⟨n, q, h1, h2, hm⟩
  · rw [List.getElem?_append_right (by omega)] at h1
    have : n - ι.length = 0 := by
      have := (List.getElem?_eq_some_iff.mp h1).1
      simp at this
      omega
    rw [this] at h1
    simp at h1
    exact .inr h1.symm
theorem Ext.new (r : RelS K ι S H) {p : Addr} {o : HO} (ob : Ob) (hp : H p = none) : Ext ι S H (ι ++ [p]) (S ++ [ob]) (upd H p o) :=
  ⟨⟨[p], rfl⟩, fun a u h n => ⟨by rw [upd_ne (ne_of_none h hp)]; exact h, fun q => by
    rcases own_new r.len q with q | q
    · exact n q
    · exact ne_of_none h hp q⟩⟩
theorem own_set {a : Addr} {n : Nat} {o o' : Ob} (h0 : S[n]? = some o) (hm : o.mut = true) (hm' : o'.mut = true) : Own ι (S.set n o') a ↔ Own ι S a := by
  have hl : n < S.length := (List.getElem?_eq_some_iff.mp h0).1
  constructor
  · rintro ⟨k, q, h1, h2, h3⟩
    by_cases hk : n = k
    · subst hk
      exact ⟨n, o, h1, h0, hm⟩
    · rw [List.getElem?_set_ne hk] at h2
      exact ⟨k, q, h1, h2, h3⟩
  · rintro ⟨k, q, h1, h2, h3⟩
    by_cases hk : n = k
    · subst hk
      exact ⟨n, o', h1, List.getElem?_set_self hl, hm'⟩
    · exact ⟨k, q, h1, by rw [List.getElem?_set_ne hk]; exact h2, h3⟩
theorem Ext.write {n : Nat} {p : Addr} {ob ob' : Ob} {o : HO} (hi : ι[n]? = some p) (h0 : S[n]? = some ob) (hm : ob.mut = true) (hm' : ob'.mut = true) : Ext ι S H ι (S.set n ob') (upd H p o) :=
  ⟨⟨[], (List.append_nil _).symm⟩, fun a u h q => ⟨by rw [upd_ne (fun z => q (by rw [z]; exact ⟨n, ob, hi, h0, hm⟩))]; exact h, fun z => q ((own_set h0 hm hm').mp z)⟩⟩
/-- objects that stand carry over -/
theorem RelOb.mono (r : RelS K ι S H) (e : Ext ι S H ι' S' H') {a : Addr} {o : Ob} (h : RelOb K ι H a o) (ha : o.mut = true → H' a = H a) : RelOb K ι' H' a o := by
  cases o with
  | lst xs =>
    obtain ⟨vs, h1, h2⟩ := h
    exact ⟨vs, (ha rfl).trans h1, h2.mono r e⟩
  | scr ns => exact RelOb.scr_mono r e h
  | ins _ _ => exact h.elim
  | dct _ => exact h.elim
/-- a thing that is no object of the store -/
theorem RelS.put (r : RelS K ι S H) {p : Addr} {o : HO} (hp : H p = none) : RelS K ι S (upd H p o) :=
  ⟨r.len, fun n ob a h1 h2 => (r.ob n ob a h1 h2).mono r (Ext.put r hp) fun hm => by
    obtain ⟨vs, e⟩ := r.own ⟨n, ob, h2, h1, hm⟩
    exact upd_ne (ne_of_none e hp), r.inj⟩
/-- a new list -/
theorem RelS.new (r : RelS K ι S H) {p : Addr} {xs : List D} {vs : List V} (hp : H p = none) (hx : RelDs K ι H xs vs) : RelS K (ι ++ [p]) (S ++ [.lst xs]) (upd H p (.lst vs)) := by
  have e := Ext.new r (o := .lst vs) (.lst xs) hp
  refine ⟨by simp [r.len], fun n ob a h1 h2 => ?_, fun m n o q a hm hn im in_ om qm => ?_⟩
  · by_cases hn : n < ι.length
    · rw [List.getElem?_append_left hn] at h2
      rw [List.getElem?_append_left (by rw [← r.len]; exact hn)] at h1
      refine (r.ob n ob a h1 h2).mono r e fun hm => ?_
      obtain ⟨ws, e⟩ := r.own ⟨n, ob, h2, h1, hm⟩
      exact upd_ne (ne_of_none e hp)
    · rw [List.getElem?_append_right (by omega)] at h2
      rw [List.getElem?_append_right (by rw [← r.len]; omega)] at h1
      have z : n - ι.length = 0 := by
        have := (List.getElem?_eq_some_iff.mp h2).1
        simp at this
        omega
      rw [z] at h2
      rw [← r.len, z] at h1
      simp at h1 h2
      subst h1
      subst h2
      exact ⟨vs, upd_same, hx.mono r e⟩
  · have side : ∀ {k : Nat} {o : Ob} {a : Addr}, (S ++ [Ob.lst xs])[k]? = some o → (ι ++ [p])[k]? = some a → o.mut = true → (k < ι.length ∧ S[k]? = some o ∧ ι[k]? = some a ∧ a ≠ p) ∨ (k = ι.length ∧ a = p) := by
      intro k o a h1 h2 h3
      by_cases hk : k < ι.length
      · rw [List.getElem?_append_left hk] at h2
        rw [List.getElem?_append_left (by rw [← r.len]; exact hk)] at h1
        refine .inl ⟨hk, h1, h2, ?_⟩
        obtain ⟨ws, e⟩ := r.own ⟨k, o, h2, h1, h3⟩
        exact ne_of_none e hp
      · rw [List.getElem?_append_right (by omega)] at h2
        have z : k - ι.length = 0 := by
          have := (List.getElem?_eq_some_iff.mp h2).1
          simp at this
          omega
        rw [z] at h2
        simp at h2
        exact .inr ⟨by omega, h2.symm⟩
    rcases side hm im om with ⟨l1, s1, i1, n1⟩ | ⟨l1, a1⟩
    · rcases side hn in_ qm with ⟨l2, s2, i2, n2⟩ | ⟨l2, a2⟩
      · exact r.inj m n o q a s1 s2 i1 i2 om qm
      · exact absurd a2 n1
    · rcases side hn in_ qm with ⟨l2, s2, i2, n2⟩ | ⟨l2, a2⟩
      · exact absurd a1 n2
      · omega
/-- a list is written -/
theorem RelS.write (r : RelS K ι S H) {n : Nat} {p : Addr} {ob : Ob} {xs : List D} {vs : List V} (hi : ι[n]? = some p) (h0 : S[n]? = some ob) (hm : ob.mut = true) (hx : RelDs K ι H xs vs) : RelS K ι (S.set n (.lst xs)) (upd H p (.lst vs)) := by
  have e : Ext ι S H ι (S.set n (.lst xs)) (upd H p (.lst vs)) := Ext.write hi h0 hm rfl
  have hl : n < S.length := (List.getElem?_eq_some_iff.mp h0).1
  refine ⟨by rw [List.length_set]; exact r.len, fun k o a h1 h2 => ?_, fun i j o q a h1 h2 h3 h4 om qm => ?_⟩
  · by_cases hk : n = k
    · subst hk
      rw [List.getElem?_set_self hl] at h1
      cases h1
      rw [hi] at h2
      cases h2
      exact ⟨vs, upd_same, hx.mono r e⟩
    · rw [List.getElem?_set_ne hk] at h1
      refine (r.ob k o a h1 h2).mono r e fun om => upd_ne fun z => ?_
      subst z
      exact hk (r.inj n k ob o a h0 h1 hi h2 hm om)
  · have back : ∀ {k : Nat} {o : Ob}, (S.set n (.lst xs))[k]? = some o → o.mut = true → ∃ o', S[k]? = some o' ∧ o'.mut = true := by
      intro k o h om
      by_cases hk : n = k
      · subst hk
        exact ⟨ob, h0, hm⟩
      · rw [List.getElem?_set_ne hk] at h
        exact ⟨o, h, om⟩
    obtain ⟨o1, e1, m1⟩ := back h1 om
    obtain ⟨o2, e2, m2⟩ := back h2 qm
    exact r.inj i j o1 o2 a e1 e2 h3 h4 m1 m2
/-- a list of the store, read -/
theorem RelS.lst (r : RelS K ι S H) {n : Nat} {a : Addr} {xs : List D} (hi : ι[n]? = some a) (h0 : S[n]? = some (.lst xs)) : ∃ vs, H a = some (.lst vs) ∧ RelDs K ι H xs vs := r.ob n _ a h0 hi
theorem RelS.addr (r : RelS K ι S H) {n : Nat} {o : Ob} (h : S[n]? = some o) : ∃ a, ι[n]? = some a := by
  have hl : n < ι.length := by rw [r.len]; exact (List.getElem?_eq_some_iff.mp h).1
  exact ⟨ι[n], List.getElem?_eq_getElem hl⟩
end
end Cl
namespace Cl
open PySem PySem.Spec PyProof.Rows L2
section
variable {K : Fr'} {ι : List Addr} {H : Hp} {S : Sto}
theorem getL_some {n : Nat} {xs : List D} (h : getL S n = some xs) : S[n]? = some (.lst xs) := by
  unfold getL at h
  split at h
  · rename_i ys e
    rw [e, Option.some.inj h]
  · cases h
/-- a list of the store that may change -/
theorem RelS.getL (r : RelS K ι S H) {n : Nat} {a : Addr} {xs : List D} (hi : ι[n]? = some a) (h : Cl.getL S n = some xs) : S[n]? = some (.lst xs) ∧ ∃ vs, H a = some (.lst vs) ∧ RelDs K ι H xs vs :=
  ⟨getL_some h, r.lst hi (getL_some h)⟩
theorem RelDs.ints : ∀ ns : List Int, RelDs K ι H (ns.map .int) (ns.map V.int)
  | [] => .nil
  | n :: ns => .cons (.int n) (RelDs.ints ns)
/-- one that is read -/
theorem RelS.getQ (r : RelS K ι S H) {n : Nat} {a : Addr} {xs : List D} (hi : ι[n]? = some a) (h : Cl.getQ S n = some xs) : ∃ vs, SqL K H a vs ∧ RelDs K ι H xs vs := by
  unfold Cl.getQ at h
  split at h
  · rename_i ys e
    cases h
    obtain ⟨vs, h1, h2⟩ := r.lst hi e
    exact ⟨vs, SqL.of h1, h2⟩
  · rename_i ns e
    cases h
    exact ⟨_, RelOb.scr_sq (r.ob n _ a e hi), RelDs.ints ns⟩
  · cases h
end
end Cl

/-! part Py3 -/
/-! Cl: judgements by the evaluator; expressions without calls. -/
namespace Cl
open PySem PySem.Spec PyProof.Rows L2

/-- exception classes: the class's address, its fields -/
abbrev XI := Nat → Option (Addr × List Str)
def RelX (K : Fr') (xi : XI) (ι : List Addr) (S : Sto) (H : Hp) (x : D) (cls : Value) (dd : Option Addr) : Prop :=
  ∃ c fs C names, x = .exn c fs ∧ xi c = some (C, names) ∧ cls = .ref C ∧
    ((names = [] ∧ fs = [] ∧ dd = none) ∨ ∃ d vs, dd = some d ∧ fs.length = names.length ∧ H d = some (.xd (names.zip vs)) ∧ RelDs K ι H fs vs)

section
variable {K : Fr'} {xi : XI} {α β γ δ : Type}
def PostR (K : Fr') (xi : XI) (rel : List Addr → Hp → α → β → Prop) (E : XK) (ι : List Addr) (S : Sto) (H : Hp) (Q : β → Hp → Prop) : R α → Prop
  | .ok a S' => ∀ ι' H' y, Ext ι S H ι' S' H' → RelS K ι' S' H' → rel ι' H' a y → Q y H'
  | .exc x S' => ∀ ι' H' cls dd, Ext ι S H ι' S' H' → RelS K ι' S' H' → RelX K xi ι' S' H' x cls dd → E cls dd H'
  | .no => False
variable {rel : List Addr → Hp → α → β → Prop} {rel2 : List Addr → Hp → γ → δ → Prop} {E : XK} {ι ι1 : List Addr} {S S1 : Sto} {H H1 : Hp} {Q Q' : β → Hp → Prop}
theorem PostR.mono (e : Ext ι S H ι1 S1 H1) {m : R α} (h : PostR K xi rel E ι S H Q m) : PostR K xi rel E ι1 S1 H1 Q m := by
  cases m with
  | ok a S' => exact fun ι' H' y e' r' q => h ι' H' y (e.trans e') r' q
  | exc x S' => exact fun ι' H' cls dd e' r' q => h ι' H' cls dd (e.trans e') r' q
  | no => exact h
theorem PostR.imp {m : R α} (h : PostR K xi rel E ι S H Q m) (hq : ∀ y H', Q y H' → Q' y H') : PostR K xi rel E ι S H Q' m := by
  cases m with
  | ok a S' => exact fun ι' H' y e' r' q => hq _ _ (h ι' H' y e' r' q)
  | exc x S' => exact h
  | no => exact h
/-- what holds between two steps -/
theorem PostR.bind {Q : δ → Hp → Prop} {m : R α} {f : α → Sto → R γ} (h : PostR K xi rel2 E ι S H Q (m.bind f)) :
    PostR K xi rel E ι S H (fun y H1 => ∃ ι1 a S1, Ext ι S H ι1 S1 H1 ∧ RelS K ι1 S1 H1 ∧ rel ι1 H1 a y ∧ PostR K xi rel2 E ι1 S1 H1 Q (f a S1)) m := by
  cases m with
  | ok a S' => exact fun ι' H' y e r q => ⟨ι', a, S', e, r, q, h.mono e⟩
  | exc x S' => exact h
  | no => exact h
theorem PostR.opt {o : Option γ} {f : γ → R α} (h : PostR K xi rel E ι S H Q (R.opt o f)) : ∃ a, o = some a ∧ PostR K xi rel E ι S H Q (f a) := by
  cases o with
  | none => exact h.elim
  | some a => exact ⟨a, rfl, h⟩
theorem PostR.req {c : Prop} [Decidable c] {m : R α} (h : PostR K xi rel E ι S H Q (R.req c m)) : c ∧ PostR K xi rel E ι S H Q m := by
  by_cases hc : c
  · rw [R.req_of hc] at h
    exact ⟨hc, h⟩
  · unfold R.req at h
    rw [if_neg hc] at h
    exact h.elim
/-- the end -/
theorem PostR.now {a : α} {y : β} (h : PostR K xi rel E ι S H Q (.ok a S)) (r : RelS K ι S H) (q : rel ι H a y) : Q y H := h ι H y .refl r q
theorem PostR.to {a : α} {y : β} (h : PostR K xi rel E ι S H Q (.ok a S1)) (e : Ext ι S H ι1 S1 H1) (r : RelS K ι1 S1 H1) (q : rel ι1 H1 a y) : Q y H1 := h ι1 H1 y e r q
end

/-! ### readings by the evaluator -/
section
variable (K : Fr') (xi : XI) (W : WX)
def tD (m : Sg → Sto → R D) : TE := fun τ H Q => ∃ ι σ S, RelS K ι S H ∧ RelG K ι H σ τ ∧ PostR K xi (RelD K) (fun c d H' => W c d τ H') ι S H Q (m σ S)
def tDs (m : Sg → Sto → R (List D)) : TA := fun τ H Q => ∃ ι σ S, RelS K ι S H ∧ RelG K ι H σ τ ∧ PostR K xi (RelDs K) (fun c d H' => W c d τ H') ι S H Q (m σ S)
def relB : List Addr → Hp → Bool → Bool → Prop := fun _ _ a b => a = b
def tDT (m : Sg → Sto → R Bool) : TT := fun τ H Q => ∃ ι σ S, RelS K ι S H ∧ RelG K ι H σ τ ∧ PostR K xi relB (fun c d H' => W c d τ H') ι S H Q (m σ S)
def relO : List Addr → Hp → Option Int → Option Int → Prop := fun _ _ a b => a = b
def tDO (m : Sg → Sto → R (Option Int)) : TO := fun τ H Q => ∃ ι σ S, RelS K ι S H ∧ RelG K ι H σ τ ∧ PostR K xi relO (fun c d H' => W c d τ H') ι S H Q (m σ S)
end
theorem _root_.L2.PE.mono {X : Cx} {e : Expr} {t t' : TE} (h : PE X e t) (i : ∀ σ H Q, t' σ H Q → t σ H Q) : PE X e t' := ⟨fun pins s σ H Q I q => h.run pins s σ H Q I (i σ H Q q)⟩
theorem _root_.L2.PT.mono {X : Cx} {e : Expr} {t t' : TT} (h : PT X e t) (i : ∀ σ H Q, t' σ H Q → t σ H Q) : PT X e t' := ⟨fun pins s σ H Q I q => h.run pins s σ H Q I (i σ H Q q)⟩
theorem _root_.L2.PW.mono {X : Cx} {e : Expr} {t t' : TT} (h : PW X e t) (i : ∀ σ H Q, t' σ H Q → t σ H Q) : PW X e t' := ⟨fun wh pins s σ H Q I q => h.run wh pins s σ H Q I (i σ H Q q)⟩
theorem _root_.L2.PA.mono {X : Cx} {e : List Expr} {t t' : TA} (h : PA X e t) (i : ∀ σ H Q, t' σ H Q → t σ H Q) : PA X e t' := ⟨fun p pins s σ H Q I q => h.run p pins s σ H Q I (i σ H Q q)⟩
theorem _root_.L2.PO.mono {X : Cx} {e : Option Expr} {t t' : TO} (h : PO X e t) (i : ∀ σ H Q, t' σ H Q → t σ H Q) : PO X e t' := ⟨fun pins s σ H Q I q => h.run pins s σ H Q I (i σ H Q q)⟩
theorem _root_.L2.PS.mono {X : Cx} {e : Stmt} {t t' : TS} (h : PS X e t) (i : ∀ D σ H, t' D σ H → t D σ H) : PS X e t' := ⟨fun pins s σ H D I q => h.run pins s σ H D I (i D σ H q)⟩
theorem _root_.L2.PSs.mono {X : Cx} {e : List Stmt} {t t' : TS} (h : PSs X e t) (i : ∀ D σ H, t' D σ H → t D σ H) : PSs X e t' := ⟨fun pins s σ H D I q => h.run pins s σ H D I (i D σ H q)⟩

section
variable {X : Cx} {xi : XI} {W : WX} {a b : Expr} {ma mb : Sg → Sto → R D} {pos : Pos}
/-- two in a row -/

theorem de_non {j} : PE X (.Constant .none j pos) (tD X.K xi W fun _ S => .ok .non S) := pe_non.mono fun _ _ _ ⟨_, _, _, r, _, h⟩ => h.now r .non
theorem de_bl {b j} : PE X (.Constant (.bool b) j pos) (tD X.K xi W fun _ S => .ok (.bl b) S) := pe_bl.mono fun _ _ _ ⟨_, _, _, r, _, h⟩ => h.now r (.bl b)
theorem de_int {i : Int} {j} : PE X (.Constant (.int i) j pos) (tD X.K xi W fun _ S => .ok (.int i) S) := pe_int.mono fun _ _ _ ⟨_, _, _, r, _, h⟩ => h.now r (.int i)
theorem de_str {x : Str} {s : Tx} {j} (hx : x = SX.S s) (hl : s.length ≤ LIM) (ha : asciiAll s = true) : PE X (.Constant (.str x) j pos) (tD X.K xi W fun _ S => .ok (.str s) S) := pe_str.mono fun _ _ _ ⟨_, _, _, r, _, h⟩ => by
  subst hx
  exact h.now r (.str hl ha)
theorem de_var {i : Nat} {x : Str} (hN : X.N[i]? = some x) (hv : Vis X.env.scope x) (hd : (x == ("__debug__" : Str)) = false) (hcd : (x == ("__classdict__" : Str)) = false) :
    PE X (.Name x pos) (tD X.K xi W fun σ S => match σ[i]? with | some (some d) => .ok d S | _ => .no) := (pe_var hN hv hd hcd).mono fun τ H Q ⟨ι, σ, S, r, g, h⟩ => by
  dsimp only at h
  cases e : σ[i]? with
  | none => rw [e] at h; exact h.elim
  | some o =>
    cases o with
    | none => rw [e] at h; exact h.elim
    | some d =>
      rw [e] at h
      obtain ⟨v, h1, h2⟩ := g.at_ i d e
      exact ⟨v, h1, h.now r h2⟩
/-- a value-level operator, by the evaluator's -/
def rD2 (K : Fr') (xi : XI) (f : D → D → Sto → R D) : R2 := fun x y H Q => ∃ ι S d e E, RelS K ι S H ∧ RelD K ι H d x ∧ RelD K ι H e y ∧ PostR K xi (RelD K) E ι S H Q (f d e S)
theorem imp_op2 {f : D → D → Sto → R D} {τ : Sv} {H : Hp} {Q : VK} (h : tD X.K xi W (fun σ S => (ma σ S).bind fun x S1 => (mb σ S1).bind fun y S2 => f x y S2) τ H Q) : tOp (rD2 X.K xi f) (tD X.K xi W ma) (tD X.K xi W mb) τ H Q := by
  obtain ⟨ι, σ, S, r, g, h⟩ := h
  refine ⟨ι, σ, S, r, g, (PostR.bind h).imp ?_⟩
  rintro x H1 ⟨ι1, d, S1, e1, r1, q1, h1⟩
  have g1 := g.mono r e1
  refine ⟨ι1, σ, S1, r1, g1, (PostR.bind h1).imp ?_⟩
  rintro y H2 ⟨ι2, e, S2, e2, r2, q2, h2⟩
  exact ⟨ι2, S2, d, e, _, r2, q1.mono r1 e2, q2, h2⟩
theorem de_bin {o : Op} {op : Operator} (ho : OpR X (binaryOp op) (rD2 X.K xi (binop o))) (ha : PE X a (tD X.K xi W ma)) (hb : PE X b (tD X.K xi W mb)) :
    PE X (.BinOp a op b pos) (tD X.K xi W fun σ S => (ma σ S).bind fun x S1 => (mb σ S1).bind fun y S2 => binop o x y S2) := (pe_op ho ha hb).mono fun _ _ _ h => imp_op2 h
end
end Cl

/-! part Py4 -/
/-! Cl: operations by values are sound. -/
namespace Cl
open PySem PySem.Spec PyProof.Rows L2
section
variable {X : Cx} {xi : XI}
theorem ascii_append {s t : Tx} (a : asciiAll s = true) (b : asciiAll t = true) : asciiAll (s ++ t) = true := by
  unfold asciiAll at *
  rw [List.all_append, a, b]; rfl
theorem ascii_mem {s : Tx} (a : asciiAll s = true) : ∀ c ∈ s, c < 128 := by
  intro c hc
  have := List.all_eq_true.mp a c hc
  simpa using this
theorem ascii_of {s : Tx} (h : ∀ c ∈ s, c < 128) : asciiAll s = true := List.all_eq_true.mpr fun c hc => by simpa using h c hc
theorem ascii_sub {s t : Tx} (a : asciiAll s = true) (h : ∀ c ∈ t, c ∈ s) : asciiAll t = true := ascii_of fun c hc => ascii_mem a c (h c hc)

theorem PostR.newT {K : Fr'} {E : XK} {ι : List Addr} {S : Sto} {H : Hp} {Q : VK} {ds : List D} {vs : List V} {p : Addr} (h : PostR K xi (RelD K) E ι S H Q (.ok (.tup ds) S)) (r : RelS K ι S H) (g : RelDs K ι H ds vs) (hp : H p = none) :
    Q (.ref p) (upd H p (.tup vs)) := by
  have e := Ext.put (o := .tup vs) r hp
  exact h.to e (r.put hp) (.tup (.inl (.inl upd_same)) (g.mono r e))
theorem PostR.newL {K : Fr'} {E : XK} {ι : List Addr} {S : Sto} {H : Hp} {Q : VK} {ds : List D} {vs : List V} {p : Addr} (h : PostR K xi (RelD K) E ι S H Q (ins1 S (.lst ds))) (r : RelS K ι S H) (g : RelDs K ι H ds vs) (hp : H p = none) :
    Q (.ref p) (upd H p (.lst vs)) := by
  refine PostR.to (show PostR K xi (RelD K) E ι S H Q (.ok (.ref S.length) (S ++ [.lst ds])) from h) (Ext.new r _ hp) (r.new hp g) (.ref ?_)
  rw [← r.len, List.getElem?_append_right (Nat.le_refl _)]
  simp
theorem RelDs.nil_iff {K : Fr'} {ι : List Addr} {H : Hp} {ds : List D} {vs : List V} (g : RelDs K ι H ds vs) : ds = [] ↔ vs = [] := by
  cases g <;> simp

/-! ### operators -/
theorem opr_add : OpR X (binaryOp .Add) (rD2 X.K xi (binop .add)) := by
  rintro pins s τ H x y v u Q I rx ry ⟨ι, S, d, e, E, r, qd, qe, h⟩
  cases qd with
  | int i =>
    cases qe with
    | int j => exact op_add pins s τ H _ _ v u Q I rx ry ⟨i, j, rfl, rfl, h.now r (.int _)⟩
    | _ => exact False.elim h
  | str h1 h2 =>
    rename_i s1
    cases qe with
    | str h3 h4 =>
      rename_i s2
      obtain ⟨hl, h⟩ := PostR.req (show PostR X.K xi (RelD X.K) E ι S H Q (R.req (s1.length + s2.length ≤ LIM) (.ok (.str (s1 ++ s2)) S)) from h)
      refine op_add_str pins s τ H _ _ v u Q I rx ry ⟨_, _, rfl, rfl, by rw [SX.S_len, SX.S_len, ← LIM_eq]; exact hl, ?_⟩
      rw [SX.S_cat]
      exact h.now r (.str (by rw [List.length_append]; exact hl) (ascii_append h2 h4))
    | _ => exact False.elim h
  | tup h1 h2 =>
    rename_i a vs ds
    cases qe with
    | tup h3 h4 =>
      rename_i b us es
      obtain ⟨hl, h⟩ := PostR.req (show PostR X.K xi (RelD X.K) E ι S H Q (R.req (ds.length + es.length ≤ LIM) (.ok (.tup (ds ++ es)) S)) from h)
      refine L2.op_catA pins s τ H _ _ v u Q I rx ry ⟨a, b, vs, us, rfl, rfl, h1, h3, by rw [← h2.length, ← h4.length, ← LIM_eq]; exact hl, fun z => ?_, fun _ z => ?_, fun _ _ p hp => h.newT r (h2.append h4) hp⟩
      · have z' := h2.nil_iff.mpr z
        subst z'
        exact h.now r (.tup h3 h4)
      · have z' := h4.nil_iff.mpr z
        subst z'
        rw [List.append_nil] at h
        exact h.now r (.tup h1 h2)
    | _ => exact False.elim h
  | ref h1 =>
    rename_i m a
    cases qe with
    | ref h2 =>
      rename_i n b
      obtain ⟨s1, e1, h⟩ := PostR.opt (show PostR X.K xi (RelD X.K) E ι S H Q (R.opt (getL S m) fun s => R.opt (getL S n) fun t => R.req (s.length + t.length ≤ LIM) (ins1 S (.lst (s ++ t)))) from h)
      obtain ⟨s2, e2, h⟩ := PostR.opt h
      obtain ⟨hl, h⟩ := PostR.req h
      obtain ⟨_, vs, f1, g1⟩ := r.getL h1 e1
      obtain ⟨_, us, f2, g2⟩ := r.getL h2 e2
      exact L2.op_cat pins s τ H _ _ v u Q I rx ry ⟨a, b, vs, us, rfl, rfl, f1, f2, by rw [← g1.length, ← g2.length, ← LIM_eq]; exact hl, fun p hp => h.newL r (g1.append g2) hp⟩
    | _ => exact False.elim h
  | _ => exact False.elim h
theorem opr_sub : OpR X (binaryOp .Sub) (rD2 X.K xi (binop .sub)) := by
  rintro pins s τ H x y v u Q I rx ry ⟨ι, S, d, e, E, r, qd, qe, h⟩
  cases qd with
  | int i =>
    cases qe with
    | int j => exact op_sub pins s τ H _ _ v u Q I rx ry ⟨i, j, rfl, rfl, h.now r (.int _)⟩
    | _ => exact False.elim h
  | _ => exact False.elim h
theorem opr_mul : OpR X (binaryOp .Mult) (rD2 X.K xi (binop .mul)) := by
  rintro pins s τ H x y v u Q I rx ry ⟨ι, S, d, e, E, r, qd, qe, h⟩
  cases qd with
  | int i =>
    cases qe with
    | int j =>
      obtain ⟨hc, h⟩ := PostR.req (show PostR X.K xi (RelD X.K) E ι S H Q (R.req (i.natAbs < 2 ^ 64 ∨ j.natAbs < 2 ^ 64) (.ok (.int (i * j)) S)) from h)
      refine op_mul pins s τ H _ _ v u Q I rx ry ⟨i, j, rfl, rfl, ?_, h.now r (.int _)⟩
      rcases hc with hc | hc
      · exact .inl ⟨by omega, by omega⟩
      · exact .inr ⟨by omega, by omega⟩
    | _ => exact False.elim h
  | tup h1 h2 =>
    rename_i a vs ds
    cases qe with
    | int k =>
      obtain ⟨⟨c1, c2, c3, c4⟩, h⟩ := PostR.req (show PostR X.K xi (RelD X.K) E ι S H Q (R.req (ds ≠ [] ∧ 2 ≤ k ∧ k ≤ 1000 ∧ ds.length ≤ 1000) (.ok (.tup (List.replicate k.toNat ds).flatten) S)) from h)
      exact L2.op_repT pins s τ H _ _ v u Q I rx ry ⟨a, k, vs, rfl, rfl, h1, fun z => c1 (h2.nil_iff.mpr z), c2, c3, by rw [← h2.length]; exact c4, fun p hp => h.newT r (h2.rep _) hp⟩
    | _ => exact False.elim h
  | ref h1 =>
    rename_i m a
    cases qe with
    | int k =>
      obtain ⟨s1, e1, h⟩ := PostR.opt (show PostR X.K xi (RelD X.K) E ι S H Q (R.opt (getL S m) fun s => R.req (0 ≤ k ∧ k ≤ 100000 ∧ s.length * k.toNat ≤ LIM) (ins1 S (.lst (List.replicate k.toNat s).flatten))) from h)
      obtain ⟨⟨c1, c2, c3⟩, h⟩ := PostR.req h
      obtain ⟨_, vs, f1, g1⟩ := r.getL h1 e1
      exact L2.op_rep pins s τ H _ _ v u Q I rx ry ⟨a, k, vs, rfl, rfl, f1, by omega, by omega, by rw [← g1.length, ← LIM_eq]; exact c3, fun p hp => h.newL r (g1.rep _) hp⟩
    | _ => exact False.elim h
  | _ => exact False.elim h
theorem opr_fdiv : OpR X (binaryOp .FloorDiv) (rD2 X.K xi (binop .fdiv)) := by
  rintro pins s τ H x y v u Q I rx ry ⟨ι, S, d, e, E, r, qd, qe, h⟩
  cases qd with
  | int i =>
    cases qe with
    | int j =>
      obtain ⟨hc, h⟩ := PostR.req (show PostR X.K xi (RelD X.K) E ι S H Q (R.req (0 < j ∧ j < 1073741824) (.ok (.int (i / j)) S)) from h)
      exact op_fdiv pins s τ H _ _ v u Q I rx ry ⟨i, j, rfl, rfl, hc, h.now r (.int _)⟩
    | _ => exact False.elim h
  | _ => exact False.elim h
theorem opr_mod : OpR X (binaryOp .Mod) (rD2 X.K xi (binop .mod)) := by
  rintro pins s τ H x y v u Q I rx ry ⟨ι, S, d, e, E, r, qd, qe, h⟩
  cases qd with
  | int i =>
    cases qe with
    | int j =>
      obtain ⟨hc, h⟩ := PostR.req (show PostR X.K xi (RelD X.K) E ι S H Q (R.req (0 < j) (.ok (.int (i % j)) S)) from h)
      exact op_mod pins s τ H _ _ v u Q I rx ry ⟨i, j, rfl, rfl, hc, h.now r (.int _)⟩
    | _ => exact False.elim h
  | _ => exact False.elim h
theorem opr_pow : OpR X (binaryOp .Pow) (rD2 X.K xi (binop .pow)) := by
  rintro pins s τ H x y v u Q I rx ry ⟨ι, S, d, e, E, r, qd, qe, h⟩
  cases qd with
  | int i =>
    cases qe with
    | int j =>
      obtain ⟨hc, h⟩ := PostR.req (show PostR X.K xi (RelD X.K) E ι S H Q (R.req (0 ≤ j ∧ j ≤ 1000000 ∧ i.natAbs < 2 ^ 64) (.ok (.int (i ^ j.toNat)) S)) from h)
      exact op_pow pins s τ H _ _ v u Q I rx ry ⟨i, j, rfl, rfl, hc, h.now r (.int _)⟩
    | _ => exact False.elim h
  | _ => exact False.elim h
def opOf : Op → Operator
  | .add => .Add | .sub => .Sub | .mul => .Mult | .fdiv => .FloorDiv | .mod => .Mod | .pow => .Pow
theorem opr_all (o : Op) : OpR X (binaryOp (opOf o)) (rD2 X.K xi (binop o)) := by
  cases o
  · exact opr_add
  · exact opr_sub
  · exact opr_mul
  · exact opr_fdiv
  · exact opr_mod
  · exact opr_pow

/-! ### data, ==, truth -/
mutual
theorem rd_dp {K : Fr'} {ι : List Addr} {S : Sto} {H : Hp} (r : RelS K ι S H) : ∀ (n : Nat) {d : D} {v : V} {p : PyData}, RelD K ι H d v → rd S n d = some p → Dp K H v p ∧ p.canLay0 = true ∧ p.depth ≤ n
  | n, .non, _, p, .non, e => by
    cases n <;> (cases e; exact ⟨.non, rfl, Nat.zero_le _⟩)
  | n, .bl b, _, p, .bl _, e => by
    cases n <;> (cases e; exact ⟨.bl b, rfl, Nat.zero_le _⟩)
  | n, .int i, _, p, .int _, e => by
    cases n <;> (cases e; exact ⟨.int i, rfl, Nat.zero_le _⟩)
  | n, .str s, _, p, .str h1 h2, e => by
    have ok : (PyData.str (SX.S s)).canLay0 = true := by
      show (SX.S s).cps.all (· < 0x110000) = true
      rw [← Array.all_toList]
      refine List.all_eq_true.mpr fun c hc => ?_
      have := ascii_mem h2 c hc
      simp only [decide_eq_true_eq]
      omega
    cases n <;> (cases e; exact ⟨.str _, ok, Nat.zero_le _⟩)
  | 0, .tup _, _, p, .tup _ _, e => by cases e
  | n + 1, .tup ds, _, p, .tup h1 h2, e => by
    simp only [rd] at e
    cases q : rdL (rd S n) ds with
    | none => rw [q] at e; cases e
    | some ps =>
      rw [q] at e
      cases e
      obtain ⟨a1, a2, a3⟩ := rdL_dp r n h2 q
      exact ⟨.tup h1 a1, a2, Nat.succ_le_succ a3⟩
  | 0, .ref _, _, p, .ref _, e => by cases e
  | n + 1, .ref m, _, p, .ref h1, e => by
    simp only [rd] at e
    cases g : Cl.getQ S m with
    | none => rw [g] at e; cases e
    | some xs =>
      rw [g] at e
      simp only at e
      cases q : rdL (rd S n) xs with
      | none => rw [q] at e; cases e
      | some ps =>
        rw [q] at e
        cases e
        obtain ⟨vs, f1, g1⟩ := r.getQ h1 g
        obtain ⟨a1, a2, a3⟩ := rdL_dp r n g1 q
        exact ⟨.lst f1 a1, a2, Nat.succ_le_succ a3⟩
theorem rdL_dp {K : Fr'} {ι : List Addr} {S : Sto} {H : Hp} (r : RelS K ι S H) : ∀ (n : Nat) {ds : List D} {vs : List V} {ps : List PyData}, RelDs K ι H ds vs → rdL (rd S n) ds = some ps → DpAll K H vs ps ∧ PyData.canLayAll0 ps = true ∧ PyData.depthAll ps ≤ n
  | n, [], _, ps, .nil, e => by cases e; exact ⟨.nil, rfl, Nat.zero_le _⟩
  | n, d :: ds, _, ps, .cons h hs, e => by
    simp only [rdL] at e
    split at e
    · rename_i a as q1 q2
      cases e
      obtain ⟨a1, a2, a3⟩ := rd_dp r n h q1
      obtain ⟨b1, b2, b3⟩ := rdL_dp r n hs q2
      exact ⟨.cons a1 b1, by simp [PyData.canLayAll0, a2, b2], Nat.max_le.mpr ⟨a3, b3⟩⟩
    · cases e
end
end
end Cl

/-! part Py5 -/
/-! Cl: comparisons, truth, places, built-in functions. -/
namespace Cl
open PySem PySem.Spec PyProof.Rows L2
section
variable {X : Cx} {xi : XI}
/-- a comparison by the evaluator's -/
def rC (K : Fr') (o : Cm) : R2 := fun x y H Q => ∃ ι S d e k, RelS K ι S H ∧ RelD K ι H d x ∧ RelD K ι H e y ∧ cmpop o d e S = some k ∧ Q (.bl k) H
def cmOf : Cm → CmpOp
  | .eq => .Eq | .ne => .NotEq | .lt => .Lt | .le => .LtE | .gt => .Gt | .ge => .GtE | .isin => .In | .notin => .NotIn | .is => .Is | .isnot => .IsNot
theorem eqD_some {S : Sto} {d e : D} {k : Bool} (h : eqD S d e = some k) : ∃ x y, rd S DEEP d = some x ∧ rd S DEEP e = some y ∧ PyData.eqv x y = k := by
  unfold eqD at h
  split at h
  · rename_i x y e1 e2
    exact ⟨x, y, e1, e2, Option.some.inj h⟩
  · cases h
theorem shaped_of {p : PyData} {n : Nat} (h1 : p.canLay0 = true) (h2 : p.depth ≤ n) (hn : n ≤ 64) : SeqAt.shaped p = true := by
  unfold SeqAt.shaped
  rw [h1, decide_eq_true (Nat.le_trans h2 hn)]
  rfl
theorem opc_eq (hu : X.A.units + 65 < cLine) : OpR X (compareOp .Eq) (rC X.K .eq) := by
  rintro pins s τ H x y v u Q I rx ry ⟨ι, S, d, e, k, r, qd, qe, h, q⟩
  obtain ⟨p1, p2, e1, e2, rfl⟩ := eqD_some h
  obtain ⟨a1, a2, a3⟩ := rd_dp r _ qd e1
  obtain ⟨b1, b2, b3⟩ := rd_dp r _ qe e2
  exact op_eqD (by omega) pins s τ H x y v u Q I rx ry ⟨p1, p2, a1, b1, shaped_of a2 a3 (by decide), shaped_of b2 b3 (by decide), q⟩
theorem opc_ne (hu : X.A.units + 65 < cLine) : OpR X (compareOp .NotEq) (rC X.K .ne) := by
  rintro pins s τ H x y v u Q I rx ry ⟨ι, S, d, e, k, r, qd, qe, h, q⟩
  obtain ⟨k', h', rfl⟩ := Option.map_eq_some_iff.mp (show (eqD S d e).map (!·) = some k from h)
  obtain ⟨p1, p2, e1, e2, rfl⟩ := eqD_some h'
  obtain ⟨a1, a2, a3⟩ := rd_dp r _ qd e1
  obtain ⟨b1, b2, b3⟩ := rd_dp r _ qe e2
  exact op_neD (by omega) pins s τ H x y v u Q I rx ry ⟨p1, p2, a1, b1, shaped_of a2 a3 (by decide), shaped_of b2 b3 (by decide), q⟩
theorem opc_lt : OpR X (compareOp .Lt) (rC X.K .lt) := by
  rintro pins s τ H x y v u Q I rx ry ⟨ι, S, d, e, k, r, qd, qe, h, q⟩
  cases qd with
  | int i => cases qe with
    | int j => cases h; exact op_lt pins s τ H _ _ v u Q I rx ry ⟨i, j, rfl, rfl, q⟩
    | _ => cases h
  | _ => cases h
theorem opc_le : OpR X (compareOp .LtE) (rC X.K .le) := by
  rintro pins s τ H x y v u Q I rx ry ⟨ι, S, d, e, k, r, qd, qe, h, q⟩
  cases qd with
  | int i => cases qe with
    | int j => cases h; exact op_le pins s τ H _ _ v u Q I rx ry ⟨i, j, rfl, rfl, q⟩
    | _ => cases h
  | _ => cases h
theorem opc_gt : OpR X (compareOp .Gt) (rC X.K .gt) := by
  rintro pins s τ H x y v u Q I rx ry ⟨ι, S, d, e, k, r, qd, qe, h, q⟩
  cases qd with
  | int i => cases qe with
    | int j => cases h; exact op_gt pins s τ H _ _ v u Q I rx ry ⟨i, j, rfl, rfl, q⟩
    | _ => cases h
  | _ => cases h
theorem opc_ge : OpR X (compareOp .GtE) (rC X.K .ge) := by
  rintro pins s τ H x y v u Q I rx ry ⟨ι, S, d, e, k, r, qd, qe, h, q⟩
  cases qd with
  | int i => cases qe with
    | int j => cases h; exact op_ge pins s τ H _ _ v u Q I rx ry ⟨i, j, rfl, rfl, q⟩
    | _ => cases h
  | _ => cases h
theorem flat_V {K : Fr'} {ι : List Addr} {H : Hp} {d : D} {v : V} (q : RelD K ι H d v) (h : flat d = true) : flatV v = true := by
  cases q <;> first | rfl | cases h
theorem flats_V {K : Fr'} {ι : List Addr} {H : Hp} : ∀ {ds : List D} {vs : List V}, RelDs K ι H ds vs → ds.all flat = true → vs.all flatV = true
  | _, _, .nil, _ => rfl
  | _, _, .cons q qs, h => by
    rw [List.all_cons, Bool.and_eq_true] at h
    rw [List.all_cons, flat_V q h.1, flats_V qs h.2]; rfl
theorem eqF_V {K : Fr'} {ι : List Addr} {H : Hp} {d e : D} {v u : V} (q : RelD K ι H d v) (q2 : RelD K ι H e u) (h : flat d = true) (h2 : flat e = true) : eqF d e = eqV v u := by
  cases q <;> cases q2 <;> first | rfl | exact (SX.S_beq _ _).symm | cases h | cases h2
theorem inV_any {K : Fr'} {ι : List Addr} {H : Hp} {d : D} {v : V} (q : RelD K ι H d v) (h : flat d = true) : ∀ {ds : List D} {vs : List V}, RelDs K ι H ds vs → ds.all flat = true → (ds.any fun y => eqF y d) = inV v vs
  | _, _, .nil, _ => rfl
  | _, _, .cons r rs, z => by
    rw [List.all_cons, Bool.and_eq_true] at z
    have ih := inV_any q h rs z.2
    unfold inV at *
    rw [List.any_cons, List.any_cons, eqF_V r q z.1 h, ih]
theorem inF_cases {S : Sto} {d e : D} {k : Bool} (h : inF S d e = some k) : (∃ s t, d = .str s ∧ e = .str t ∧ k = subTx t s) ∨
    (∃ ys, e = .tup ys ∧ flat d = true ∧ ys.all flat = true ∧ k = ys.any fun y => eqF y d) ∨ (∃ m ys, e = .ref m ∧ getQ S m = some ys ∧ flat d = true ∧ ys.all flat = true ∧ k = ys.any fun y => eqF y d) := by
  unfold inF at h
  split at h
  · exact .inl ⟨_, _, rfl, rfl, (Option.some.inj h).symm⟩
  · split at h
    · rename_i c
      rw [Bool.and_eq_true] at c
      exact .inr (.inl ⟨_, rfl, c.1, c.2, (Option.some.inj h).symm⟩)
    · cases h
  · split at h
    · rename_i ys e1
      split at h
      · rename_i c
        rw [Bool.and_eq_true] at c
        exact .inr (.inr ⟨_, ys, rfl, e1, c.1, c.2, (Option.some.inj h).symm⟩)
      · cases h
    · cases h
  · cases h
theorem opc_in : OpR X (compareOp .In) (rC X.K .isin) := by
  rintro pins s τ H x y v u Q I rx ry ⟨ι, S, d, e, k, r, qd, qe, h, q⟩
  rcases inF_cases h with ⟨a, b, rfl, rfl, rfl⟩ | ⟨ys, rfl, f1, f2, rfl⟩ | ⟨m, ys, rfl, g, f1, f2, rfl⟩
  · cases qd; cases qe
    exact op_in_str pins s τ H _ _ v u Q I rx ry ⟨_, _, rfl, rfl, q⟩
  · cases qe with
    | tup h1 h2 => exact op_in_seq pins s τ H _ _ v u Q I rx ry ⟨_, _, rfl, .inr h1, flat_V qd f1, flats_V h2 f2, by rw [if_neg Bool.false_ne_true, ← inV_any qd f1 h2 f2]; exact q⟩
  · cases qe with
    | ref h1 =>
      obtain ⟨vs, g1, g2⟩ := r.getQ h1 g
      exact op_in_seq pins s τ H _ _ v u Q I rx ry ⟨_, _, rfl, .inl g1, flat_V qd f1, flats_V g2 f2, by rw [if_neg Bool.false_ne_true, ← inV_any qd f1 g2 f2]; exact q⟩
theorem opc_notin : OpR X (compareOp .NotIn) (rC X.K .notin) := by
  rintro pins s τ H x y v u Q I rx ry ⟨ι, S, d, e, k, r, qd, qe, h, q⟩
  obtain ⟨k', h', rfl⟩ := Option.map_eq_some_iff.mp (show (inF S d e).map (!·) = some k from h)
  rcases inF_cases h' with ⟨a, b, rfl, rfl, rfl⟩ | ⟨ys, rfl, f1, f2, rfl⟩ | ⟨m, ys, rfl, g, f1, f2, rfl⟩
  · cases qd; cases qe
    exact L2.op_notin_str pins s τ H _ _ v u Q I rx ry ⟨_, _, rfl, rfl, q⟩
  · cases qe with
    | tup h1 h2 => exact op_notIn_seq pins s τ H _ _ v u Q I rx ry ⟨_, _, rfl, .inr h1, flat_V qd f1, flats_V h2 f2, by rw [if_pos rfl, ← inV_any qd f1 h2 f2]; exact q⟩
  · cases qe with
    | ref h1 =>
      obtain ⟨vs, g1, g2⟩ := r.getQ h1 g
      exact op_notIn_seq pins s τ H _ _ v u Q I rx ry ⟨_, _, rfl, .inl g1, flat_V qd f1, flats_V g2 f2, by rw [if_pos rfl, ← inV_any qd f1 g2 f2]; exact q⟩
theorem isNon_V {K : Fr'} {ι : List Addr} {H : Hp} {d : D} {v : V} (q : RelD K ι H d v) : isNon d = decide (v = .non) := by
  cases q <;> rfl
theorem opc_is : OpR X (compareOp .Is) (rC X.K .is) := by
  rintro pins s τ H x y v u Q I rx ry ⟨ι, S, d, e, k, r, qd, qe, h, q⟩
  cases qe with
  | non =>
    cases h
    exact op_isN pins s τ H _ _ v u Q I rx ry ⟨rfl, by rw [← isNon_V qd]; exact q⟩
  | bl b =>
    cases qd with
    | bl a => cases h; exact L2.op_isBl pins s τ H _ _ v u Q I rx ry ⟨a, b, rfl, rfl, q⟩
    | _ => cases h
  | _ => cases h
theorem opc_isnot : OpR X (compareOp .IsNot) (rC X.K .isnot) := by
  rintro pins s τ H x y v u Q I rx ry ⟨ι, S, d, e, k, r, qd, qe, h, q⟩
  cases qe with
  | non =>
    cases h
    exact op_notN pins s τ H _ _ v u Q I rx ry ⟨rfl, by rw [← isNon_V qd]; exact q⟩
  | bl b =>
    cases qd with
    | bl a => cases h; exact L2.op_notBl pins s τ H _ _ v u Q I rx ry ⟨a, b, rfl, rfl, q⟩
    | _ => cases h
  | _ => cases h
theorem opc_all (hu : X.A.units + 65 < cLine) (o : Cm) : OpR X (compareOp (cmOf o)) (rC X.K o) := by
  cases o
  · exact opc_eq hu
  · exact opc_ne hu
  · exact opc_lt
  · exact opc_le
  · exact opc_gt
  · exact opc_ge
  · exact opc_in
  · exact opc_notin
  · exact opc_is
  · exact opc_isnot

/-! ### truth -/
theorem isEmpty_V {K : Fr'} {ι : List Addr} {H : Hp} {ds : List D} {vs : List V} (g : RelDs K ι H ds vs) : ds.isEmpty = vs.isEmpty := by
  cases g <;> rfl
theorem truth_V {K : Fr'} {ι : List Addr} {S : Sto} {H : Hp} (r : RelS K ι S H) {d : D} {v : V} {k : Bool} (q : RelD K ι H d v) (h : truth S d = some k) : TruV K v H k := by
  cases q with
  | non => cases h; exact rfl
  | bl b => cases h; exact rfl
  | int i => cases h; exact rfl
  | str h1 h2 =>
    cases h
    refine ⟨by rw [SX.S_len, ← LIM_eq]; exact h1, ?_⟩
    rw [SX.S_len]
    rename_i s
    cases s with
    | nil => rfl
    | cons a s =>
      have : ((List.length (a :: s) : Nat) : Int) ≠ 0 := by
        rw [List.length_cons]
        omega
      show true = _
      exact (bne_iff_ne.mpr this).symm
  | tup h1 h2 =>
    cases h
    exact .inr (.inl ⟨_, h1, by rw [isEmpty_V h2]⟩)
  | ref h1 =>
    obtain ⟨xs, e, rfl⟩ := Option.map_eq_some_iff.mp (show (getQ S _).map (fun xs => !xs.isEmpty) = some k from h)
    obtain ⟨vs, g1, g2⟩ := r.getQ h1 e
    exact .inl ⟨vs, g1, by rw [isEmpty_V g2]⟩

/-! ### places and slices -/
theorem atI_V {K : Fr'} {ι : List Addr} {H : Hp} {ds : List D} {vs : List V} (g : RelDs K ι H ds vs) {i : Int} {d : D} (h : atI ds i = some d) : ∃ v, L2.atI vs i = some v ∧ RelD K ι H d v := by
  unfold atI L2.atI at *
  rw [← g.length]
  cases e : ixN ds.length i with
  | none => rw [e] at h; cases h
  | some j =>
    rw [e] at h
    exact g.get h
theorem ix_all : IxR X (rD2 X.K xi index) := by
  rintro value slc pins s τ H x y v u Q I rx ry ⟨ι, S, d, e, E, r, qd, qe, h⟩ hs
  cases qd with
  | str h1 h2 =>
    rename_i z
    cases qe with
    | int i =>
      obtain ⟨c, e1, h⟩ := PostR.opt (show PostR X.K xi (RelD X.K) E ι S H Q (R.opt (atI z i) fun c => .ok (.str [c]) S) from h)
      refine ix_str value slc pins s τ H _ _ v u Q I rx ry ⟨_, i, c, rfl, rfl, by rw [SX.S_len, ← LIM_eq]; exact h1, e1, ?_⟩ hs
      refine h.now r (.str (show 1 ≤ LIM by decide) (ascii_sub h2 fun x hx => ?_))
      rw [List.mem_singleton] at hx
      subst hx
      unfold atI L2.atI at e1
      cases e2 : ixN z.length i with
      | none => rw [e2] at e1; cases e1
      | some j => rw [e2] at e1; exact List.mem_of_getElem? e1
    | _ => exact False.elim h
  | tup h1 h2 =>
    rename_i a vs ds
    cases qe with
    | int i =>
      obtain ⟨c, e1, h⟩ := PostR.opt (show PostR X.K xi (RelD X.K) E ι S H Q (R.opt (atI ds i) fun c => .ok c S) from h)
      obtain ⟨w, e2, g⟩ := atI_V h2 e1
      exact ix_tup value slc pins s τ H _ _ v u Q I rx ry ⟨a, vs, i, w, rfl, rfl, h1, e2, h.now r g⟩ hs
    | _ => exact False.elim h
  | ref h1 =>
    rename_i m a
    cases qe with
    | int i =>
      obtain ⟨xs, e0, h⟩ := PostR.opt (show PostR X.K xi (RelD X.K) E ι S H Q (R.opt (getQ S m) fun xs => R.opt (atI xs i) fun c => .ok c S) from h)
      obtain ⟨c, e1, h⟩ := PostR.opt h
      obtain ⟨vs, g1, g2⟩ := r.getQ h1 e0
      obtain ⟨w, e2, g⟩ := atI_V g2 e1
      exact ix_list value slc pins s τ H _ _ v u Q I rx ry ⟨a, vs, i, w, rfl, rfl, g1, e2, h.now r g⟩ hs
    | _ => exact False.elim h
  | _ => exact False.elim h
theorem cut_V {K : Fr'} {ι : List Addr} {H : Hp} {ds : List D} {vs : List V} (g : RelDs K ι H ds vs) (lo hi : Option Int) : RelDs K ι H (cut ds lo hi) (cutV vs lo hi) := by
  unfold cut cutV
  rw [g.length]
  exact (g.drop _).take _
theorem cut_mem {α : Type} {xs : List α} {lo hi : Option Int} {c : α} (h : c ∈ cut xs lo hi) : c ∈ xs := List.mem_of_mem_drop (List.mem_of_mem_take h)
theorem cut_len {α : Type} (xs : List α) (lo hi : Option Int) : (cut xs lo hi).length ≤ xs.length := by
  unfold cut
  rw [List.length_take, List.length_drop]
  omega
def rSlD (K : Fr') (xi : XI) : V → Option Int → Option Int → Hp → VK → Prop := fun x lo hi H Q => ∃ ι S d E, RelS K ι S H ∧ RelD K ι H d x ∧ PostR K xi (RelD K) E ι S H Q (slice d lo hi S)
theorem sl_all : SlR X (rSlD X.K xi) := by
  rintro pins s τ H x v vl vu lo hi sl Q I rx hs pl pu ⟨ι, S, d, E, r, qd, h⟩
  cases qd with
  | str h1 h2 =>
    rename_i z
    refine sl_str pins s τ H _ v vl vu lo hi sl Q I rx hs pl pu ⟨_, rfl, by rw [SX.S_len, ← LIM_eq]; exact h1, ?_⟩
    have e : cutS (SX.S z) lo hi = SX.S (cut z lo hi) := by
      unfold cutS cut
      rw [SX.S_len]
    rw [e]
    exact h.now r (.str (Nat.le_trans (cut_len _ _ _) h1) (ascii_sub h2 fun c hc => cut_mem hc))
  | tup h1 h2 =>
    rename_i a vs ds
    refine L2.sl_tupA pins s τ H _ v vl vu lo hi sl Q I rx hs pl pu ⟨a, vs, rfl, h1, fun z => ?_, fun z p hp => h.newT r (cut_V h2 lo hi) hp⟩
    have e : cut ds lo hi = ds := by
      unfold cut
      rw [h2.length, z.1, z.2, List.drop_zero, Nat.sub_zero, ← h2.length, List.take_length]
    have h' : PostR X.K xi (RelD X.K) E ι S H Q (.ok (.tup (cut ds lo hi)) S) := h
    rw [e] at h'
    exact h'.now r (.tup h1 h2)
  | ref h1 =>
    rename_i m a
    obtain ⟨xs, e0, h⟩ := PostR.opt (show PostR X.K xi (RelD X.K) E ι S H Q (R.opt (getQ S m) fun xs => ins1 S (.lst (cut xs lo hi))) from h)
    obtain ⟨vs, g1, g2⟩ := r.getQ h1 e0
    exact sl_list pins s τ H _ v vl vu lo hi sl Q I rx hs pl pu ⟨a, vs, rfl, g1, fun p hp => h.newL r (cut_V g2 lo hi) hp⟩
  | _ => exact False.elim h
end
end Cl

/-! part Py6 -/
/-! Cl: the text of data has signs below 128 alone; built-in functions. -/
namespace Cl
open PySem PySem.Spec PyProof.Rows L2
open PySem.Builtin PySem.Builtin.Str

/-! ### repr gives ascii -/
def ascS (x : Str) : Bool := asciiAll x.cps.toList
theorem ascS_append {x y : Str} (a : ascS x = true) (b : ascS y = true) : ascS (x ++ y) = true := by
  unfold ascS at *
  rw [show (x ++ y).cps.toList = x.cps.toList ++ y.cps.toList from TL.tl_append x y]
  exact ascii_append a b
theorem reprChar_ascii : ∀ c, c < 128 → ((reprChar 39 c).all (· < 128) && (reprChar 34 c).all (· < 128)) = true := by decide +kernel
theorem ascS_reprText {x : Str} (h : ascS x = true) : ascS (reprText x) = true := by
  have hq : reprQuote x = 39 ∨ reprQuote x = 34 := by
    unfold reprQuote
    split
    · exact .inr rfl
    · exact .inl rfl
  have hc : ∀ c ∈ x.cps.toList, ∀ z ∈ reprChar (reprQuote x) c, z < 128 := fun c hc z hz => by
    have q := reprChar_ascii c (ascii_mem h c hc)
    rw [Bool.and_eq_true] at q
    rcases hq with e | e
    · rw [e] at hz
      simpa using List.all_eq_true.mp q.1 z hz
    · rw [e] at hz
      simpa using List.all_eq_true.mp q.2 z hz
  have hq2 : reprQuote x < 128 := by rcases hq with e | e <;> rw [e] <;> decide
  unfold ascS reprText
  generalize reprQuote x = q at *
  rw [← Array.foldl_toList]
  have key : ∀ (l : List Nat) (acc : Array Nat), (∀ c ∈ l, ∀ z ∈ reprChar q c, z < 128) → asciiAll acc.toList = true → asciiAll (l.foldl (fun out c => out ++ (reprChar q c).toArray) acc).toList = true := by
    intro l
    induction l with
    | nil => intro acc _ ha; exact ha
    | cons c l ih =>
      intro acc hl ha
      refine ih _ (fun d hd => hl d (List.mem_cons_of_mem _ hd)) ?_
      rw [Array.toList_append]
      exact ascii_append ha (ascii_of fun z hz => hl c List.mem_cons_self z (by simpa using hz))
  rw [Array.toList_push]
  refine ascii_append (key _ _ hc (ascii_of fun z hz => ?_)) (ascii_of fun z hz => ?_)
  · have : z = q := by simpa using hz
    omega
  · have : z = q := by simpa using hz
    omega
theorem ascS_num (n : Nat) : ascS (Str.ofString (toString ((n : Nat) : Int))) = true := by
  unfold ascS
  rw [show (Str.ofString (toString ((n : Nat) : Int))).cps.toList = TL.numL n from TL.tl_num n]
  exact ascii_of fun c hc => by
    have := TL.numL_digits n c hc
    omega
theorem ascS_int (i : Int) : ascS (Str.ofString (toString i)) = true := by
  cases i with
  | ofNat n => exact ascS_num n
  | negSucc n =>
    have e : toString (Int.negSucc n) = "-" ++ toString (((n + 1 : Nat)) : Int) := rfl
    have h := ascS_num (n + 1)
    unfold ascS at *
    rw [e]
    rw [show (Str.ofString ("-" ++ toString (((n + 1 : Nat)) : Int))).cps.toList = _ from TL.tl_ofString _]
    rw [show (Str.ofString (toString (((n + 1 : Nat)) : Int))).cps.toList = _ from TL.tl_ofString _] at h
    rw [String.toList_append, List.map_append]
    exact ascii_append (by decide) h
theorem ascS_join {y : Str} (hy : ascS y = true) : ∀ {ts : List Str}, (∀ t ∈ ts, ascS t = true) → ascS (Str.join y ts) = true
  | [], _ => rfl
  | [t], h => h t List.mem_cons_self
  | t :: u :: r, h => ascS_append (ascS_append (h t List.mem_cons_self) hy) (ascS_join hy fun z hz => h z (List.mem_cons_of_mem _ hz))
theorem ascS_from : ∀ {ts : List Str} (k : Nat) {acc : Str}, ascS acc = true → (∀ t ∈ ts, ascS t = true) → ascS (textFrom k acc ts) = true
  | [], _, _, ha, _ => ha
  | t :: r, k, acc, ha, h => by
    unfold textFrom
    refine ascS_from (k + 1) (ascS_append (ascS_append ha ?_) (h t List.mem_cons_self)) fun z hz => h z (List.mem_cons_of_mem _ hz)
    split <;> decide +kernel
theorem ascS_list {ts : List Str} (h : ∀ t ∈ ts, ascS t = true) : ascS (listText ts) = true :=
  ascS_append (ascS_from 0 (by decide +kernel) h) (by decide +kernel)
theorem ascS_tup {ts : List Str} (h : ∀ t ∈ ts, ascS t = true) : ascS (tupleText ts) = true := by
  unfold tupleText
  refine ascS_append (ascS_append (by decide +kernel) (ascS_join (by decide +kernel) h)) ?_
  split <;> decide +kernel
mutual
/-- every text in it is ascii -/
def pAsc : PyData → Bool
  | .str x => ascS x
  | .list xs => pAscs xs
  | .tuple xs => pAscs xs
  | .dict _ => false
  | _ => true
def pAscs : List PyData → Bool
  | [] => true
  | x :: xs => pAsc x && pAscs xs
end
mutual
theorem shown_asc : ∀ p : PyData, pAsc p = true → ascS p.shown = true
  | .none, _ => by decide +kernel
  | .bool b, _ => by cases b <;> decide +kernel
  | .int i, _ => ascS_int i
  | .str x, h => ascS_reprText h
  | .list xs, h => ascS_list (shown_ascs xs h)
  | .tuple xs, h => ascS_tup (shown_ascs xs h)
  | .dict _, h => by cases h
theorem shown_ascs : ∀ ps : List PyData, pAscs ps = true → ∀ t ∈ PyData.shownAll ps, ascS t = true
  | [], _, t, ht => by cases ht
  | x :: xs, h, t, ht => by
    unfold pAscs at h
    rw [Bool.and_eq_true] at h
    rcases List.mem_cons.mp ht with e | ht
    · rw [e]; exact shown_asc x h.1
    · exact shown_ascs xs h.2 t ht
end
mutual
theorem rd_asc {K : Fr'} {ι : List Addr} {S : Sto} {H : Hp} (r : RelS K ι S H) : ∀ (n : Nat) {d : D} {v : V} {p : PyData}, RelD K ι H d v → rd S n d = some p → pAsc p = true
  | n, .non, _, p, .non, e => by cases n <;> (cases e; rfl)
  | n, .bl b, _, p, .bl _, e => by cases n <;> (cases e; rfl)
  | n, .int i, _, p, .int _, e => by cases n <;> (cases e; rfl)
  | n, .str s, _, p, .str h1 h2, e => by cases n <;> (cases e; exact h2)
  | 0, .tup _, _, p, .tup _ _, e => by cases e
  | n + 1, .tup ds, _, p, .tup h1 h2, e => by
    simp only [rd] at e
    cases q : rdL (rd S n) ds with
    | none => rw [q] at e; cases e
    | some ps =>
      rw [q] at e
      cases e
      exact rdL_asc r n h2 q
  | 0, .ref _, _, p, .ref _, e => by cases e
  | n + 1, .ref m, _, p, .ref h1, e => by
    simp only [rd] at e
    cases g : Cl.getQ S m with
    | none => rw [g] at e; cases e
    | some xs =>
      rw [g] at e
      simp only at e
      cases q : rdL (rd S n) xs with
      | none => rw [q] at e; cases e
      | some ps =>
        rw [q] at e
        cases e
        obtain ⟨vs, f1, g1⟩ := r.getQ h1 g
        exact rdL_asc r n g1 q
theorem rdL_asc {K : Fr'} {ι : List Addr} {S : Sto} {H : Hp} (r : RelS K ι S H) : ∀ (n : Nat) {ds : List D} {vs : List V} {ps : List PyData}, RelDs K ι H ds vs → rdL (rd S n) ds = some ps → pAscs ps = true
  | n, [], _, ps, .nil, e => by cases e; rfl
  | n, d :: ds, _, ps, .cons h hs, e => by
    simp only [rdL] at e
    split at e
    · rename_i a as q1 q2
      cases e
      unfold pAscs
      rw [rd_asc r n h q1, rdL_asc r n hs q2]; rfl
    · cases e
end

/-! ### built-in functions -/
section
variable {X : Cx} {xi : XI}
def rBt (K : Fr') (xi : XI) (b : Bf) : List V → Hp → VK → Prop := fun vs H Q => ∃ ι S ds E, RelS K ι S H ∧ RelDs K ι H ds vs ∧ PostR K xi (RelD K) E ι S H Q (blt b ds S)
theorem cl_len : CallR X (.builtin "len") (rBt X.K xi .len) := by
  rintro pins s τ H xs us Q I rx ⟨ι, S, ds, E, r, g, h⟩
  cases g with
  | nil => exact False.elim h
  | cons q g2 =>
    cases g2 with
    | cons _ _ => cases q <;> exact False.elim h
    | nil =>
      cases q with
      | str h1 h2 =>
        refine call_len_str pins s τ H _ us Q I rx ⟨_, rfl, by rw [SX.S_len, ← LIM_eq]; exact h1, ?_⟩
        rw [SX.S_len]
        exact h.now r (.int _)
      | tup h1 h2 => exact call_len_seq pins s τ H _ us Q I rx ⟨_, _, rfl, .inr h1, by rw [← h2.length]; exact h.now r (.int _)⟩
      | ref h1 =>
        rename_i m a
        obtain ⟨xs, e0, h⟩ := PostR.opt (show PostR X.K xi (RelD X.K) E ι S H Q (R.opt (getQ S m) fun xs => .ok (.int xs.length) S) from h)
        obtain ⟨vs, g1, g2⟩ := r.getQ h1 e0
        exact call_len_seq pins s τ H _ us Q I rx ⟨_, _, rfl, .inl g1, by rw [← g2.length]; exact h.now r (.int _)⟩
      | _ => exact False.elim h
theorem cl_abs : CallR X (.builtin "abs") (rBt X.K xi .abs) := by
  rintro pins s τ H xs us Q I rx ⟨ι, S, ds, E, r, g, h⟩
  cases g with
  | nil => exact False.elim h
  | cons q g2 =>
    cases g2 with
    | cons _ _ => cases q <;> exact False.elim h
    | nil =>
      cases q with
      | int i => exact call_abs pins s τ H _ us Q I rx ⟨i, rfl, h.now r (.int _)⟩
      | _ => exact False.elim h
theorem cl_int1 : CallR X (.type "int") (rBt X.K xi .int1) := by
  rintro pins s τ H xs us Q I rx ⟨ι, S, ds, E, r, g, h⟩
  cases g with
  | nil => exact False.elim h
  | cons q g2 =>
    cases g2 with
    | cons _ _ => cases q <;> exact False.elim h
    | nil =>
      cases q with
      | int i => exact call_int1 pins s τ H _ us Q I rx (.inl ⟨i, rfl, h.now r (.int _)⟩)
      | bl k => exact call_int1 pins s τ H _ us Q I rx (.inr ⟨k, rfl, h.now r (.int _)⟩)
      | _ => exact False.elim h
theorem cl_max2 (hc : X.calm = true) : CallR X (.builtin "max") (rBt X.K xi .max2) := by
  rintro pins s τ H xs us Q I rx ⟨ι, S, ds, E, r, g, h⟩
  cases g with
  | nil => exact False.elim h
  | cons q g2 =>
    cases g2 with
    | nil => cases q <;> exact False.elim h
    | cons q2 g3 =>
      cases g3 with
      | cons _ _ => cases q <;> cases q2 <;> exact False.elim h
      | nil =>
        cases q with
        | int i =>
          cases q2 with
          | int j => exact call_max2 hc pins s τ H _ us Q I rx ⟨i, j, rfl, h.now r (.int _)⟩
          | _ => exact False.elim h
        | _ => cases q2 <;> exact False.elim h
theorem cl_min2 (hc : X.calm = true) : CallR X (.builtin "min") (rBt X.K xi .min2) := by
  rintro pins s τ H xs us Q I rx ⟨ι, S, ds, E, r, g, h⟩
  cases g with
  | nil => exact False.elim h
  | cons q g2 =>
    cases g2 with
    | nil => cases q <;> exact False.elim h
    | cons q2 g3 =>
      cases g3 with
      | cons _ _ => cases q <;> cases q2 <;> exact False.elim h
      | nil =>
        cases q with
        | int i =>
          cases q2 with
          | int j => exact call_min2 hc pins s τ H _ us Q I rx ⟨i, j, rfl, h.now r (.int _)⟩
          | _ => exact False.elim h
        | _ => cases q2 <;> exact False.elim h
theorem cl_list1 : CallR X (.type "list") (rBt X.K xi .list1) := by
  rintro pins s τ H xs us Q I rx ⟨ι, S, ds, E, r, g, h⟩
  cases g with
  | nil => exact False.elim h
  | cons q g2 =>
    cases g2 with
    | cons _ _ => cases q <;> exact False.elim h
    | nil =>
      cases q with
      | tup h1 h2 => exact call_list_of pins s τ H _ us Q I rx ⟨_, _, rfl, .inr h1, fun p hp => h.newL r h2 hp⟩
      | ref h1 =>
        rename_i m a
        obtain ⟨xs, e0, h⟩ := PostR.opt (show PostR X.K xi (RelD X.K) E ι S H Q (R.opt (getQ S m) fun xs => ins1 S (.lst xs)) from h)
        obtain ⟨vs, g1, g2⟩ := r.getQ h1 e0
        exact call_list_of pins s τ H _ us Q I rx ⟨_, _, rfl, .inl g1, fun p hp => h.newL r g2 hp⟩
      | _ => exact False.elim h
theorem cl_tuple1 : CallR X (.type "tuple") (rBt X.K xi .tuple1) := by
  rintro pins s τ H xs us Q I rx ⟨ι, S, ds, E, r, g, h⟩
  cases g with
  | nil => exact False.elim h
  | cons q g2 =>
    cases g2 with
    | cons _ _ => cases q <;> exact False.elim h
    | nil =>
      cases q with
      | tup h1 h2 => exact call_tuple_of pins s τ H _ us Q I rx ⟨_, _, rfl, .inr ⟨h1, h.now r (.tup h1 h2)⟩⟩
      | ref h1 =>
        rename_i m a
        obtain ⟨xs, e0, h⟩ := PostR.opt (show PostR X.K xi (RelD X.K) E ι S H Q (R.opt (getQ S m) fun xs => .ok (.tup xs) S) from h)
        obtain ⟨vs, g1, g2⟩ := r.getQ h1 e0
        exact call_tuple_of pins s τ H _ us Q I rx ⟨_, _, rfl, .inl ⟨g1, fun p hp => h.newT r g2 hp⟩⟩
      | _ => exact False.elim h
theorem bls_V {K : Fr'} {ι : List Addr} {H : Hp} : ∀ {ds : List D} {vs : List V} {bs : List Bool}, RelDs K ι H ds vs → asBls ds = some bs → vs = bs.map V.bl
  | [], _, bs, .nil, e => by cases e; rfl
  | .bl b :: ds, _, bs, .cons (.bl _) hs, e => by
    simp only [asBls] at e
    obtain ⟨cs, e1, rfl⟩ := Option.map_eq_some_iff.mp e
    rw [bls_V hs e1]; rfl
theorem cl_all1 (hc : X.calm = true) : CallR X (.builtin "all") (rBt X.K xi .all1) := by
  rintro pins s τ H xs us Q I rx ⟨ι, S, ds, E, r, g, h⟩
  cases g with
  | nil => exact False.elim h
  | cons q g2 =>
    cases g2 with
    | cons _ _ => cases q <;> exact False.elim h
    | nil =>
      cases q with
      | ref h1 =>
        rename_i m a
        obtain ⟨xs, e0, h⟩ := PostR.opt (show PostR X.K xi (RelD X.K) E ι S H Q (R.opt (getQ S m) fun xs => R.opt (asBls xs) fun bs => .ok (.bl (bs.all id)) S) from h)
        obtain ⟨bs, e1, h⟩ := PostR.opt h
        obtain ⟨vs, g1, g2⟩ := r.getQ h1 e0
        rw [bls_V g2 e1] at g1
        exact cr_all hc pins s τ H _ us Q I rx ⟨_, bs, rfl, g1, h.now r (.bl _)⟩
      | _ => exact False.elim h
theorem cl_any1 (hc : X.calm = true) : CallR X (.builtin "any") (rBt X.K xi .any1) := by
  rintro pins s τ H xs us Q I rx ⟨ι, S, ds, E, r, g, h⟩
  cases g with
  | nil => exact False.elim h
  | cons q g2 =>
    cases g2 with
    | cons _ _ => cases q <;> exact False.elim h
    | nil =>
      cases q with
      | ref h1 =>
        rename_i m a
        obtain ⟨xs, e0, h⟩ := PostR.opt (show PostR X.K xi (RelD X.K) E ι S H Q (R.opt (getQ S m) fun xs => R.opt (asBls xs) fun bs => .ok (.bl (bs.any id)) S) from h)
        obtain ⟨bs, e1, h⟩ := PostR.opt h
        obtain ⟨vs, g1, g2⟩ := r.getQ h1 e0
        rw [bls_V g2 e1] at g1
        exact cr_any hc pins s τ H _ us Q I rx ⟨_, bs, rfl, g1, h.now r (.bl _)⟩
      | _ => exact False.elim h
/-- repr of data -/
theorem cl_repr (hg : X.A.guards = some []) (hu : X.A.units + 65 < cLine) : CallR X (.builtin "repr") (rBt X.K xi .repr) := by
  rintro pins s τ H xs us Q I rx ⟨ι, S, ds, E, r, g, h⟩
  cases g with
  | nil => exact False.elim h
  | cons q g2 =>
    cases g2 with
    | cons _ _ => cases q <;> exact False.elim h
    | nil =>
      rename_i d v
      obtain ⟨p, e0, h⟩ := PostR.opt (show PostR X.K xi (RelD X.K) E ι S H Q (R.opt (rd S DEEP d) fun p => R.req (p.showable = true ∧ p.shown.length ≤ LIM) (.ok (.str p.shown.cps.toList) S)) from h)
      obtain ⟨⟨hs, hl⟩, h⟩ := PostR.req h
      obtain ⟨a1, a2, a3⟩ := rd_dp r _ q e0
      have asc := shown_asc p (rd_asc r _ q e0)
      have fin : Q (.str p.shown) H := by
        have z := h.now r (.str (ι := ι) (K := X.K) (H := H) (by rw [show p.shown.cps.toList.length = p.shown.length from by simp [Str.length]]; exact hl) asc)
        rw [SX.S_tl] at z
        exact z
      obtain ⟨u, rfl, ru⟩ := vals1 rx
      rw [LIM_eq] at hl
      cases q with
      | non => cases ru; cases e0; exact PySem.P.repr_of_none ⟨.str _, H, I.tok _, ⟨_, rfl⟩, fin⟩
      | bl b => cases ru; cases e0; exact PySem.P.repr_of_bool ⟨.str _, H, I.tok _, ⟨_, rfl⟩, fin⟩
      | int i => obtain ⟨t, rfl⟩ := ru; cases e0; exact PySem.P.repr_of_int (of_decide_eq_true hs) ⟨.str _, H, I.tok _, ⟨_, rfl⟩, fin⟩
      | str h1 h2 => obtain ⟨t, rfl⟩ := ru; cases e0; exact PySem.P.repr_of_str ⟨.str _, H, I.tok _, ⟨_, rfl⟩, fin⟩ hl
      | tup h1 h2 =>
        obtain ⟨as, rr⟩ := Dp.reads I p _ u a1 ru
        cases ru
        exact repr_of_reads' rr hs (PyData.noDict_hsm (PyData.hasDict_of_canLay p a2)) hg (by have : p.depth ≤ 24 := a3; omega) (fun _ _ e => e)
          (fun h' w tk k => ⟨.str _, H, I.kept k, ⟨w, rfl⟩, fin⟩) hl
      | ref h1 =>
        obtain ⟨as, rr⟩ := Dp.reads I p _ u a1 ru
        cases ru
        exact repr_of_reads' rr hs (PyData.noDict_hsm (PyData.hasDict_of_canLay p a2)) hg (by have : p.depth ≤ 24 := a3; omega) (fun _ _ e => e)
          (fun h' w tk k => ⟨.str _, H, I.kept k, ⟨w, rfl⟩, fin⟩) hl
end
end Cl

/-! part Py7 -/
/-! Cl: methods of texts and lists. -/
namespace Cl
open PySem PySem.Spec PyProof.Rows L2
open PySem.Builtin PySem.Builtin.Str
theorem takeWhile_drop {p : Nat → Bool} : ∀ l : List Nat, l.drop (l.takeWhile p).length = l.dropWhile p
  | [] => rfl
  | c :: r => by
    rw [List.takeWhile_cons, List.dropWhile_cons]
    split
    · rw [List.length_cons, List.drop_succ_cons]
      exact takeWhile_drop r
    · rfl
theorem takeWhile_le {p : Nat → Bool} : ∀ l : List Nat, (l.takeWhile p).length ≤ l.length
  | [] => Nat.le_refl _
  | c :: r => by
    rw [List.takeWhile_cons]
    split
    · simpa using takeWhile_le r
    · simp
theorem stripChars_S (s cs : Tx) : Txt.stripChars (SX.S s) (SX.S cs) = SX.S (stripS s cs) := by
  have hp : ∀ c, (SX.S cs).cps.contains c = cs.contains c := fun c => List.contains_toArray
  have hf : (SX.S cs).cps.contains = fun c => cs.contains c := funext hp
  refine TL.ext_tl ?_
  unfold Txt.stripChars
  rw [hf]
  generalize hq : (fun c => cs.contains c) = q
  rw [stripBy_eq, TL.tl_strSub]
  have e0 : stripLo q true (SX.S s) = (s.takeWhile q).length := rfl
  have e1 : stripHi q true (SX.S s) (stripLo q true (SX.S s)) = s.length - ((s.dropWhile q).reverse.takeWhile q).length := by
    rw [e0]
    unfold stripHi
    rw [if_pos rfl, SX.S_len]
    show s.length - ((s.drop (s.takeWhile q).length).reverse.takeWhile q).length = _
    rw [takeWhile_drop]
  rw [e1, e0]
  show (s.drop (s.takeWhile q).length).take _ = (stripS s cs)
  unfold stripS
  rw [hq, takeWhile_drop]
  have hl : (s.dropWhile q).length = s.length - (s.takeWhile q).length := by rw [← takeWhile_drop, List.length_drop]
  have hk := takeWhile_le (p := q) (s.dropWhile q).reverse
  rw [List.length_reverse] at hk
  have h0 := takeWhile_le (p := q) s
  rw [← takeWhile_drop (p := q) (s.dropWhile q).reverse]
  rw [show s.length - ((s.dropWhile q).reverse.takeWhile q).length - (s.takeWhile q).length = (s.dropWhile q).length - ((s.dropWhile q).reverse.takeWhile q).length from by omega]
  rw [List.drop_reverse, List.reverse_reverse]
theorem stripS_mem {s cs : Tx} {c : Nat} (h : c ∈ stripS s cs) : c ∈ s := by
  unfold stripS at h
  have h1 := (List.dropWhile_sublist _).subset (List.mem_reverse.mp h)
  exact (List.dropWhile_sublist _).subset (List.mem_reverse.mp h1)
theorem stripS_len (s cs : Tx) : (stripS s cs).length ≤ s.length := by
  unfold stripS
  rw [List.length_reverse]
  have h1 := (List.dropWhile_sublist (p := (cs.contains ·)) (l := (s.dropWhile (cs.contains ·)).reverse)).length_le
  have h2 := (List.dropWhile_sublist (p := (cs.contains ·)) (l := s)).length_le
  rw [List.length_reverse] at h1
  omega

section
variable {X : Cx} {xi : XI}
def rMt (K : Fr') (xi : XI) (m : Mt) : V → List V → Hp → VK → Prop := fun x vs H Q => ∃ ι S d ds E, RelS K ι S H ∧ RelD K ι H d x ∧ RelDs K ι H ds vs ∧ PostR K xi (RelD K) E ι S H Q (mth m d ds S)
theorem str1_V {K : Fr'} {ι : List Addr} {H : Hp} {d : D} {x : V} {ds : List D} {vs : List V} {p : Tx × Tx} (qd : RelD K ι H d x) (g : RelDs K ι H ds vs) (h : str1 d ds = some p) :
    x = .str (SX.S p.1) ∧ vs = [.str (SX.S p.2)] ∧ p.1.length ≤ LIM ∧ asciiAll p.1 = true ∧ p.2.length ≤ LIM ∧ asciiAll p.2 = true := by
  unfold str1 at h
  split at h
  · cases h
    cases qd with
    | str h1 h2 => cases g with
      | cons q g2 => cases g2; cases q with
        | str h3 h4 => exact ⟨rfl, rfl, h1, h2, h3, h4⟩
  · cases h
theorem str0_V {K : Fr'} {ι : List Addr} {H : Hp} {d : D} {x : V} {ds : List D} {vs : List V} {p : Tx} (qd : RelD K ι H d x) (g : RelDs K ι H ds vs) (h : str0 d ds = some p) :
    x = .str (SX.S p) ∧ vs = [] ∧ p.length ≤ LIM ∧ asciiAll p = true := by
  unfold str0 at h
  split at h
  · cases h
    cases qd with
    | str h1 h2 => cases g; exact ⟨rfl, rfl, h1, h2⟩
  · cases h
theorem lst1_V {K : Fr'} {ι : List Addr} {S : Sto} {H : Hp} (r : RelS K ι S H) {d : D} {x : V} {ds : List D} {vs : List V} {p : Nat × List D × D} (qd : RelD K ι H d x) (g : RelDs K ι H ds vs) (h : lst1 d ds S = some p) :
    ∃ a xs v, x = .ref a ∧ vs = [v] ∧ ι[p.1]? = some a ∧ S[p.1]? = some (.lst p.2.1) ∧ H a = some (.lst xs) ∧ RelDs K ι H p.2.1 xs ∧ RelD K ι H p.2.2 v := by
  unfold lst1 at h
  split at h
  · obtain ⟨ys, e, rfl⟩ := Option.map_eq_some_iff.mp h
    cases qd with
    | ref h1 => cases g with
      | cons q g2 =>
        cases g2
        obtain ⟨e1, xs, e2, e3⟩ := r.getL h1 e
        exact ⟨_, xs, _, rfl, rfl, h1, e1, e2, e3, q⟩
  · cases h
theorem lst0_V {K : Fr'} {ι : List Addr} {S : Sto} {H : Hp} (r : RelS K ι S H) {d : D} {x : V} {ds : List D} {vs : List V} {p : Nat × List D} (qd : RelD K ι H d x) (g : RelDs K ι H ds vs) (h : lst0 d ds S = some p) :
    ∃ a xs, x = .ref a ∧ vs = [] ∧ ι[p.1]? = some a ∧ S[p.1]? = some (.lst p.2) ∧ H a = some (.lst xs) ∧ RelDs K ι H p.2 xs := by
  unfold lst0 at h
  split at h
  · obtain ⟨ys, e, rfl⟩ := Option.map_eq_some_iff.mp h
    cases qd with
    | ref h1 =>
      cases g
      obtain ⟨e1, xs, e2, e3⟩ := r.getL h1 e
      exact ⟨_, xs, rfl, rfl, h1, e1, e2, e3⟩
  · cases h
/-- a list is written -/
theorem PostR.wr {K : Fr'} {E : XK} {ι : List Addr} {S : Sto} {H : Hp} {Q : VK} {n : Nat} {a : Addr} {xs ys : List D} {vs : List V} {d : D} {v : V} (h : PostR K xi (RelD K) E ι S H Q (.ok d (S.set n (.lst ys)))) (r : RelS K ι S H) (hi : ι[n]? = some a)
    (h0 : S[n]? = some (.lst xs)) (g : RelDs K ι H ys vs) (q : RelD K ι H d v) : Q v (upd H a (.lst vs)) := by
  have e : Ext ι S H ι (S.set n (.lst ys)) (upd H a (.lst vs)) := Ext.write hi h0 rfl rfl
  exact h.to e (r.write hi h0 rfl g) (q.mono r e)
theorem ml_strip : MtR X "str.strip" (rMt X.K xi .strip) := by
  rintro pins s τ H x xs v us Q I rx rs ⟨ι, S, d, ds, E, r, qd, g, h⟩
  obtain ⟨p, e, h⟩ := PostR.opt (show PostR X.K xi (RelD X.K) E ι S H Q (R.opt (str1 d ds) fun p => .ok (.str (stripS p.1 p.2)) S) from h)
  obtain ⟨rfl, rfl, l1, a1, l2, a2⟩ := str1_V qd g e
  refine mt_stripChars pins s τ H _ _ v us Q I rx rs ⟨_, _, rfl, rfl, by rw [SX.S_len, ← LIM_eq]; exact l1, ?_⟩
  rw [stripChars_S]
  exact h.now r (.str (Nat.le_trans (stripS_len _ _) l1) (ascii_sub a1 fun c hc => stripS_mem hc))
theorem lo1_lt {c : Nat} (h : c < 128) : PyProof.Rows.lo1 c < 128 := by
  unfold PyProof.Rows.lo1
  split <;> omega
theorem up1_lt {c : Nat} (h : c < 128) : PyProof.Rows.up1 c < 128 := by
  unfold PyProof.Rows.up1
  split <;> omega
theorem ml_lower : MtR X "str.lower" (rMt X.K xi .lower) := by
  rintro pins s τ H x xs v us Q I rx rs ⟨ι, S, d, ds, E, r, qd, g, h⟩
  obtain ⟨p, e, h⟩ := PostR.opt (show PostR X.K xi (RelD X.K) E ι S H Q (R.opt (str0 d ds) fun s => R.req (s.length ≤ 5592405) (.ok (.str (s.map PyProof.Rows.lo1)) S)) from h)
  obtain ⟨hl, h⟩ := PostR.req h
  obtain ⟨rfl, rfl, l1, a1⟩ := str0_V qd g e
  refine mt_lower pins s τ H _ _ v us Q I rx rs ⟨_, rfl, rfl, by rw [SX.S_len]; exact hl, ?_⟩
  rw [SX.lower_S a1]
  exact h.now r (.str (by rw [List.length_map]; exact l1) (ascii_of fun c hc => by
    obtain ⟨b, hb, rfl⟩ := List.mem_map.mp hc
    exact lo1_lt (ascii_mem a1 b hb)))
theorem ml_upper : MtR X "str.upper" (rMt X.K xi .upper) := by
  rintro pins s τ H x xs v us Q I rx rs ⟨ι, S, d, ds, E, r, qd, g, h⟩
  obtain ⟨p, e, h⟩ := PostR.opt (show PostR X.K xi (RelD X.K) E ι S H Q (R.opt (str0 d ds) fun s => R.req (s.length ≤ 5592405) (.ok (.str (s.map PyProof.Rows.up1)) S)) from h)
  obtain ⟨hl, h⟩ := PostR.req h
  obtain ⟨rfl, rfl, l1, a1⟩ := str0_V qd g e
  refine mt_upper pins s τ H _ _ v us Q I rx rs ⟨_, rfl, rfl, by rw [SX.S_len]; exact hl, ?_⟩
  rw [SX.upper_S a1]
  exact h.now r (.str (by rw [List.length_map]; exact l1) (ascii_of fun c hc => by
    obtain ⟨b, hb, rfl⟩ := List.mem_map.mp hc
    exact up1_lt (ascii_mem a1 b hb)))
theorem ml_find : MtR X "str.find" (rMt X.K xi .find) := by
  rintro pins s τ H x xs v us Q I rx rs ⟨ι, S, d, ds, E, r, qd, g, h⟩
  obtain ⟨p, e, h⟩ := PostR.opt (show PostR X.K xi (RelD X.K) E ι S H Q (R.opt (str1 d ds) fun p => .ok (.int (PySem.Txt.find (SX.S p.1) (SX.S p.2))) S) from h)
  obtain ⟨rfl, rfl, l1, a1, l2, a2⟩ := str1_V qd g e
  exact mt_find pins s τ H _ _ v us Q I rx rs ⟨_, _, rfl, rfl, h.now r (.int _)⟩
theorem ml_index : MtR X "str.index" (rMt X.K xi .index) := by
  rintro pins s τ H x xs v us Q I rx rs ⟨ι, S, d, ds, E, r, qd, g, h⟩
  obtain ⟨p, e, h⟩ := PostR.opt (show PostR X.K xi (RelD X.K) E ι S H Q (R.opt (str1 d ds) fun p => R.opt (PySem.Builtin.Str.occurrences (SX.S p.1) (SX.S p.2) 0 (SX.S p.1).length 1).head? fun i => .ok (.int (i : Nat)) S) from h)
  obtain ⟨rfl, rfl, l1, a1, l2, a2⟩ := str1_V qd g e
  obtain ⟨i, e2, h⟩ := PostR.opt h
  cases hl : PySem.Builtin.Str.occurrences (SX.S p.1) (SX.S p.2) 0 (SX.S p.1).length 1 with
  | nil => rw [hl] at e2; cases e2
  | cons k rest =>
    rw [hl] at e2
    have ek : k = i := Option.some.inj e2
    subst ek
    exact mt_sindex pins s τ H _ _ v us Q I rx rs ⟨_, _, k, rest, rfl, rfl, hl, h.now r (.int _)⟩
theorem ml_count : MtR X "str.count" (rMt X.K xi .count) := by
  rintro pins s τ H x xs v us Q I rx rs ⟨ι, S, d, ds, E, r, qd, g, h⟩
  obtain ⟨p, e, h⟩ := PostR.opt (show PostR X.K xi (RelD X.K) E ι S H Q (R.opt (str1 d ds) fun p => .ok (.int (PySem.Txt.count (SX.S p.1) (SX.S p.2))) S) from h)
  obtain ⟨rfl, rfl, l1, a1, l2, a2⟩ := str1_V qd g e
  exact mt_count pins s τ H _ _ v us Q I rx rs ⟨_, _, rfl, rfl, h.now r (.int _)⟩
/-- every part of a split lies in the text -/
theorem spl_parts (t : Tx) : ∀ (k : Nat) (acc l : Tx) (p : Tx), p ∈ TL.spl t k acc l → p.length ≤ acc.length + l.length ∧ ∀ c ∈ p, c ∈ acc ∨ c ∈ l
  | k, acc, [], p, h => by
    rw [TL.spl_nil, List.mem_singleton] at h
    subst h
    exact ⟨by simp, fun c hc => .inl hc⟩
  | k + 1, acc, c :: r, p, h => by
    obtain ⟨h1, h2⟩ := spl_parts t k acc r p (show p ∈ TL.spl t k acc r from h)
    exact ⟨by rw [List.length_cons]; omega, fun d hd => (h2 d hd).imp id (List.mem_cons_of_mem _)⟩
  | 0, acc, c :: r, p, h => by
    cases q : TL.pre t (c :: r) with
    | true =>
      rw [TL.spl_hit q] at h
      rcases List.mem_cons.mp h with e | h
      · subst e
        exact ⟨by omega, fun d hd => .inl hd⟩
      · obtain ⟨h1, h2⟩ := spl_parts t _ [] r p h
        refine ⟨by rw [List.length_cons]; simp at h1; omega, fun d hd => .inr (List.mem_cons_of_mem _ ((h2 d hd).resolve_left (by simp)))⟩
    | false =>
      rw [TL.spl_miss q] at h
      obtain ⟨h1, h2⟩ := spl_parts t 0 (acc ++ [c]) r p h
      refine ⟨by rw [List.length_cons]; rw [List.length_append] at h1; simp at h1; omega, fun d hd => ?_⟩
      rcases h2 d hd with z | z
      · rcases List.mem_append.mp z with z | z
        · exact .inl z
        · exact .inr (by rw [List.mem_singleton.mp z]; exact List.mem_cons_self)
      · exact .inr (List.mem_cons_of_mem _ z)
theorem strs_rel {K : Fr'} {ι : List Addr} {H : Hp} : ∀ {l : List Tx}, (∀ p ∈ l, p.length ≤ LIM ∧ asciiAll p = true) → RelDs K ι H (l.map .str) ((l.map SX.S).map V.str)
  | [], _ => .nil
  | p :: l, h => .cons (.str (h p List.mem_cons_self).1 (h p List.mem_cons_self).2) (strs_rel fun q hq => h q (List.mem_cons_of_mem _ hq))
theorem ml_split : MtR X "str.split" (rMt X.K xi .split) := by
  rintro pins s τ H x xs v us Q I rx rs ⟨ι, S, d, ds, E, r, qd, g, h⟩
  obtain ⟨p, e, h⟩ := PostR.opt (show PostR X.K xi (RelD X.K) E ι S H Q (R.opt (str1 d ds) fun p => R.req (p.2 ≠ [] ∧ p.1.length + 2 ≤ LIM) (ins1 S (.lst ((TL.spl p.2 0 [] p.1).map .str)))) from h)
  obtain ⟨⟨hn, hl⟩, h⟩ := PostR.req h
  obtain ⟨rfl, rfl, l1, a1, l2, a2⟩ := str1_V qd g e
  have hb : p.2.all (· < 256) = true := List.all_eq_true.mpr fun c hc => by
    have := ascii_mem a2 c hc
    simp only [decide_eq_true_eq]
    omega
  refine mt_split pins s τ H _ _ v us Q I rx rs ⟨_, _, rfl, rfl, ?_, by rw [SX.S_len, ← LIM_eq]; exact hl, fun q hq => ?_⟩
  · rw [SX.S_len]
    cases e2 : p.2 with
    | nil => exact absurd e2 hn
    | cons _ _ => rfl
  · rw [SX.split_S hn hb]
    refine h.newL r (strs_rel fun z hz => ?_) hq
    obtain ⟨z1, z2⟩ := spl_parts _ _ _ _ _ hz
    exact ⟨by simp at z1; omega, ascii_sub a1 fun c hc => (z2 c hc).resolve_left (by simp)⟩
theorem par_parts (t : Tx) : ∀ (acc l a b : Tx), TL.par t acc l = some (a, b) → a.length ≤ acc.length + l.length ∧ b.length ≤ l.length ∧ (∀ c ∈ a, c ∈ acc ∨ c ∈ l) ∧ ∀ c ∈ b, c ∈ l
  | acc, [], a, b, h => by cases h
  | acc, c :: r, a, b, h => by
    cases q : TL.pre t (c :: r) with
    | true =>
      rw [TL.par_hit q] at h
      cases h
      refine ⟨by omega, by rw [List.length_drop]; omega, fun d hd => .inl hd, fun d hd => List.mem_of_mem_drop hd⟩
    | false =>
      rw [TL.par_miss q] at h
      obtain ⟨h1, h2, h3, h4⟩ := par_parts t (acc ++ [c]) r a b h
      refine ⟨by rw [List.length_append] at h1; rw [List.length_cons]; simp at h1; omega, by rw [List.length_cons]; omega, fun d hd => ?_, fun d hd => List.mem_cons_of_mem _ (h4 d hd)⟩
      rcases h3 d hd with z | z
      · rcases List.mem_append.mp z with z | z
        · exact .inl z
        · exact .inr (by rw [List.mem_singleton.mp z]; exact List.mem_cons_self)
      · exact .inr (List.mem_cons_of_mem _ z)
theorem ml_partition : MtR X "str.partition" (rMt X.K xi .partition) := by
  rintro pins s τ H x xs v us Q I rx rs ⟨ι, S, d, ds, E, r, qd, g, h⟩
  obtain ⟨p, e, h⟩ := PostR.opt (show PostR X.K xi (RelD X.K) E ι S H Q (R.opt (str1 d ds) fun p => R.req (p.2 ≠ []) (.ok (match TL.par p.2 [] p.1 with
      | some (a, b) => .tup [.str a, .str p.2, .str b]
      | none => .tup [.str p.1, .str [], .str []]) S)) from h)
  obtain ⟨hn, h⟩ := PostR.req h
  obtain ⟨rfl, rfl, l1, a1, l2, a2⟩ := str1_V qd g e
  refine mt_partition pins s τ H _ _ v us Q I rx rs ⟨_, _, rfl, rfl, ?_, by rw [SX.S_len, ← LIM_eq]; exact l1, fun q hq => ?_⟩
  · rw [SX.S_len]
    cases e2 : p.2 with
    | nil => exact absurd e2 hn
    | cons _ _ => rfl
  · cases e3 : TL.par p.2 [] p.1 with
    | none =>
      rw [e3] at h
      rw [SX.partition_none hn e3]
      exact h.newT r (.cons (.str l1 a1) (.cons (.str (Nat.zero_le _) rfl) (.cons (.str (Nat.zero_le _) rfl) .nil))) hq
    | some ab =>
      obtain ⟨a, b⟩ := ab
      rw [e3] at h
      rw [SX.partition_some hn e3]
      obtain ⟨h1, h2, h3, h4⟩ := par_parts _ _ _ _ _ e3
      exact h.newT r (.cons (.str (by simp at h1; omega) (ascii_sub a1 fun c hc => (h3 c hc).resolve_left (by simp))) (.cons (.str l2 a2) (.cons (.str (by omega) (ascii_sub a1 h4)) .nil))) hq
theorem strs_V {K : Fr'} {ι : List Addr} {H : Hp} : ∀ {ds : List D} {vs : List V} {ts : List Tx}, RelDs K ι H ds vs → asStrs ds = some ts → vs = (ts.map SX.S).map V.str ∧ ∀ t ∈ ts, asciiAll t = true
  | [], _, ts, .nil, e => by cases e; exact ⟨rfl, fun _ h => by cases h⟩
  | .str b :: ds, _, ts, .cons (.str h1 h2) hs, e => by
    simp only [asStrs] at e
    obtain ⟨cs, e1, rfl⟩ := Option.map_eq_some_iff.mp e
    obtain ⟨z1, z2⟩ := strs_V hs e1
    refine ⟨by rw [z1]; rfl, fun t ht => ?_⟩
    rcases List.mem_cons.mp ht with q | q
    · rw [q]; exact h2
    · exact z2 t q
theorem joinL_ascii {s : Tx} (hs : asciiAll s = true) : ∀ {ts : List Tx}, (∀ t ∈ ts, asciiAll t = true) → asciiAll (TL.joinL s ts) = true
  | [], _ => rfl
  | [t], h => h t List.mem_cons_self
  | t :: u :: r, h => ascii_append (h t List.mem_cons_self) (ascii_append hs (joinL_ascii hs fun z hz => h z (List.mem_cons_of_mem _ hz)))
theorem joinL_len (s : Tx) : ∀ ts : List Tx, (TL.joinL s ts).length ≤ (ts.map List.length).sum + ts.length * s.length
  | [] => Nat.zero_le _
  | [t] => by simp [TL.joinL]
  | t :: u :: r => by
    have ih := joinL_len s (u :: r)
    have e : TL.joinL s (t :: u :: r) = t ++ (s ++ TL.joinL s (u :: r)) := rfl
    rw [e, List.length_append, List.length_append, List.map_cons, List.sum_cons, List.length_cons, Nat.succ_mul]
    omega
theorem ml_join : MtR X "str.join" (rMt X.K xi .join) := by
  rintro pins s τ H x xs v us Q I rx rs ⟨ι, S, d, ds, E, r, qd, g, h⟩
  obtain ⟨p, e, h⟩ := PostR.opt (show PostR X.K xi (RelD X.K) E ι S H Q (R.opt (strL d ds S) fun p => R.opt (asStrs p.2) fun ts => R.req ((ts.map List.length).sum + ts.length * p.1.length ≤ LIM) (.ok (.str (TL.joinL p.1 ts)) S)) from h)
  obtain ⟨ts, e1, h⟩ := PostR.opt h
  obtain ⟨hl, h⟩ := PostR.req h
  have main : ∀ {a : Addr}, x = .str (SX.S p.1) → xs = [.ref a] → asciiAll p.1 = true → (∃ ws, (SqL X.K H a ws ∨ SqT X.K H a ws) ∧ RelDs X.K ι H p.2 ws) → wpAny (model X.prog X.w) X.A (call (.builtin "str.join") (v :: us)) (EP X pins τ Q) X.xe s := by
    rintro a rfl rfl ha ⟨ws, hw, gw⟩
    obtain ⟨rfl, hts⟩ := strs_V gw e1
    refine mt_join pins s τ H _ _ v us Q I rx rs ⟨_, a, ts.map SX.S, rfl, rfl, hw, ?_, ?_⟩
    · rw [SX.lens, List.length_map, SX.S_len]
      exact hl
    · rw [SX.join_S]
      exact h.now r (.str (Nat.le_trans (joinL_len _ _) hl) (joinL_ascii ha hts))
  unfold strL at e
  split at e
  · cases e
    cases qd with
    | str h1 h2 => cases g with
      | cons q g2 => cases g2; cases q with
        | tup h3 h4 => exact main rfl rfl h2 ⟨_, .inr h3, h4⟩
  · obtain ⟨ys, e2, rfl⟩ := Option.map_eq_some_iff.mp e
    cases qd with
    | str h1 h2 => cases g with
      | cons q g2 => cases g2; cases q with
        | ref h3 =>
          obtain ⟨ws, g3, g4⟩ := r.getQ h3 e2
          exact main rfl rfl h2 ⟨ws, .inl g3, g4⟩
  · cases e
theorem ml_append : MtR X "list.append" (rMt X.K xi .append) := by
  rintro pins s τ H x xs v us Q I rx rs ⟨ι, S, d, ds, E, r, qd, g, h⟩
  obtain ⟨p, e, h⟩ := PostR.opt (show PostR X.K xi (RelD X.K) E ι S H Q (R.opt (lst1 d ds S) fun p => R.req (p.2.1.length < LIM) (.ok .non (S.set p.1 (.lst (p.2.1 ++ [p.2.2]))))) from h)
  obtain ⟨hl, h⟩ := PostR.req h
  obtain ⟨a, ws, w, rfl, rfl, h1, h2, h3, h4, h5⟩ := lst1_V r qd g e
  exact mt_append pins s τ H _ _ v us Q I rx rs ⟨a, ws, w, rfl, rfl, h3, by rw [← h4.length, ← LIM_eq]; exact hl, h.wr r h1 h2 (h4.append (.cons h5 .nil)) .non⟩
theorem ml_pop : MtR X "list.pop" (rMt X.K xi .pop) := by
  rintro pins s τ H x xs v us Q I rx rs ⟨ι, S, d, ds, E, r, qd, g, h⟩
  obtain ⟨p, e, h⟩ := PostR.opt (show PostR X.K xi (RelD X.K) E ι S H Q (R.opt (lst0 d ds S) fun p => R.opt (p.2[p.2.length - 1]?) fun d => .ok d (S.set p.1 (.lst p.2.dropLast))) from h)
  obtain ⟨y, e1, h⟩ := PostR.opt h
  obtain ⟨a, ws, rfl, rfl, h1, h2, h3, h4⟩ := lst0_V r qd g e
  obtain ⟨w, e2, h5⟩ := h4.get e1
  rw [h4.length] at e2
  exact mt_pop pins s τ H _ _ v us Q I rx rs ⟨a, ws, w, rfl, rfl, h3, e2, h.wr r h1 h2 h4.dropLast h5⟩
/-- the receiver's type -/
theorem recv_V {K : Fr'} {ι : List Addr} {S : Sto} {H : Hp} (r : RelS K ι S H) {m : Mt} {d : D} {x : V} (q : RelD K ι H d x) (h : recv m d S = true) : tyV K (if m.ofList then "list" else "str") x H := by
  cases q with
  | str h1 h2 =>
    have : m.ofList = false := by simpa [recv] using h
    rw [this]
    exact rfl
  | ref h1 =>
    simp only [recv, Bool.and_eq_true] at h
    rw [h.1, if_pos rfl]
    obtain ⟨xs, e⟩ := Option.isSome_iff_exists.mp h.2
    obtain ⟨vs, g1, g2⟩ := r.getQ h1 e
    exact .inl ⟨rfl, vs, g1⟩
  | _ => cases h
end
end Cl

/-! part Py8 -/
/-! Cl: calls of the program's own defs. -/
namespace Cl
open PySem PySem.Spec PyProof.Rows L2

/-- what runs around: room, nothing handled, no repr under way -/
structure GOk (n : Nat) (A : Around) : Prop where
  room : Room n A
  gu : A.guards = some []
theorem GOk.mono {j k : Nat} {A : Around} (g : GOk k A) (h : j ≤ k) : GOk j A := ⟨g.room.mono h, g.gu⟩
theorem GOk.deeper {k : Nat} {A : Around} (g : GOk (k + 1) A) (env : Env) : GOk k (A.deeper env) := ⟨g.room.deeper env, g.gu⟩
/-- a def keeps a promise, called where GOk holds -/
structure FnG (P : Program) (w : World) (K : Fr') (mg : Str → Option Value) (base : Heap) (n : Nat) (f : Addr) (fd : FuncData) (ps : List Str) (sp : Sp) : Prop where
  len : ∀ vs H Q E, sp vs H Q E → vs.length = ps.length
  run : ∀ (A : Around) (outer : List Env) (s : Shared) (H : Hp) (args : Args) (us : List Value) (vs : List V) (Q : VK) (E : XK), GOk n A → Env0 P w K mg base A outer s H → BindsTo s fd args (ps.zip us) → Vals vs us →
    sp vs H Q E → codeAny (model P w) A (.call (.ref f) args) (CR (L2.CX P w) outer P w H s Q E) s
theorem FnG.mono {P : Program} {w : World} {K : Fr'} {mg : Str → Option Value} {base : Heap} {j k : Nat} {f : Addr} {fd : FuncData} {ps : List Str} {sp : Sp} (F : FnG P w K mg base j f fd ps sp) (h : j ≤ k) : FnG P w K mg base k f fd ps sp :=
  ⟨F.len, fun A outer s H args us vs Q E g => F.run A outer s H args us vs Q E (g.mono h)⟩
/-- a call's promise by a function of the evaluator -/
def spF (K : Fr') (xi : XI) (c : List D → Sto → R D) : Sp := fun vs H Q E => ∃ ι ds S, RelS K ι S H ∧ RelDs K ι H ds vs ∧ PostR K xi (RelD K) E ι S H Q (c ds S)

section
variable {X : Cx} {xi : XI} {W : WX} {n : Nat} {f : Addr} {fd : FuncData} {ps : List Str} {sp : Sp}
/-- the callee, at the caller's slots τ -/
theorem run_G {pins : List (Addr × Obj)} {τ : Sv} {H : Hp} {s : Shared} {Q : VK} {us ws : List Value} {kw : List (Str × Value)} {vs : List V} (F : FnG X.prog X.w X.K X.mg X.base n f fd ps sp) (g : GOk n X.A) (tk : Takes X W) (I : Inv X pins τ H s)
    (hb : BindsTo s fd ⟨us, kw⟩ (ps.zip ws)) (r : Vals vs ws) (h : sp vs H Q fun c d H' => W c d τ H') : wpAny (model X.prog X.w) X.A (call (.ref f) us kw) (EP X pins τ Q) X.xe s := by
  refine wpAny_call (codeAny_mono (F.run X.A X.stack s H ⟨us, kw⟩ ws vs Q _ g I.env0 hb r h) fun res s' hq => ?_)
  cases res with
  | error e => exact tk e s' (XE.of_call I (W := W) (fun _ _ _ z => z) hq)
  | ok fl =>
    cases fl with
    | ret u => exact I.after hq
    | next => exact hq.elim
    | brk => exact hq.elim
    | cont => exact hq.elim

/-! ### argument lists -/
def plainE : Expr → Bool
  | .Starred _ _ => false
  | _ => true
theorem starEach_plain {e : Expr} {es : List Expr} {env : Env} (h : plainE e = true) : starEach (e :: es) env = (false, eval e env) :: starEach es env := by
  cases e <;> first | rfl | cases h
theorem star_none {env : Env} {pos : Pos} : ∀ {es : List Expr}, es.all plainE = true → (backTo pos (starEach es env)).any (·.1) = false
  | [], _ => rfl
  | e :: es, h => by
    rw [List.all_cons, Bool.and_eq_true] at h
    rw [starEach_plain h.1]
    exact star_none (es := es) h.2
theorem star_all {env : Env} {pos : Pos} : ∀ {es : List Expr}, es.all plainE = true → (backTo pos (starEach es env)).all (fun x => !x.1) = true
  | [], _ => rfl
  | e :: es, h => by
    rw [List.all_cons, Bool.and_eq_true] at h
    rw [starEach_plain h.1]
    show (!false && (backTo pos (starEach es env)).all (fun x => !x.1)) = true
    rw [star_all (es := es) h.2]; rfl
theorem das_nil : PA X [] (tDs X.K xi W fun _ S => .ok [] S) := pa_nil.mono fun _ _ _ ⟨_, _, _, r, _, h⟩ => h.now r .nil
theorem das_cons {e : Expr} {es : List Expr} {m : Sg → Sto → R D} {ms : Sg → Sto → R (List D)} (he : PE X e (tD X.K xi W m)) (hs : PA X es (tDs X.K xi W ms)) (hp : plainE e = true) :
    PA X (e :: es) (tDs X.K xi W fun σ S => (m σ S).bind fun x S1 => (ms σ S1).bind fun xs S2 => .ok (x :: xs) S2) := (pa_cons he hs (starEach_plain hp)).mono fun τ H Q ⟨ι, σ, S, r, g, h⟩ => by
  refine ⟨ι, σ, S, r, g, (PostR.bind h).imp ?_⟩
  rintro x H1 ⟨ι1, d, S1, e1, r1, q1, h1⟩
  refine ⟨ι1, σ, S1, r1, g.mono r e1, (PostR.bind h1).imp ?_⟩
  rintro xs H2 ⟨ι2, ds, S2, e2, r2, q2, h2⟩
  exact h2.now r2 (.cons (q1.mono r1 e2) q2)
/-- behind the arguments -/
theorem imp_args {τ : Sv} {H : Hp} {Q : VK} {ms : Sg → Sto → R (List D)} {f : List D → Sto → R D} (h : tD X.K xi W (fun σ S => (ms σ S).bind fun vs S1 => f vs S1) τ H Q) :
    tDs X.K xi W ms τ H fun vs H1 => ∃ ι ds S, RelS X.K ι S H1 ∧ RelDs X.K ι H1 ds vs ∧ PostR X.K xi (RelD X.K) (fun c d H' => W c d τ H') ι S H1 Q (f ds S) := by
  obtain ⟨ι, σ, S, r, g, h⟩ := h
  refine ⟨ι, σ, S, r, g, (PostR.bind h).imp ?_⟩
  rintro vs H1 ⟨ι1, ds, S1, e1, r1, q1, h1⟩
  exact ⟨ι1, ds, S1, r1, q1, h1⟩

/-! ### f(e, ..) -/
theorem de_call {x : Str} {p pos : Pos} {es : List Expr} {ms : Sg → Sto → R (List D)} {c : List D → Sto → R D} (F : FnG X.prog X.w X.K X.mg X.base n f fd ps (spF X.K xi c)) (g : GOk n X.A) (tk : Takes X W) (hg : Gl X x) (hm : X.mg x = some (.ref f))
    (hk : PySem.W.keepIn X.K (.ref f) = true) (hb : Binds X.K fd ps []) (ha : PA X es (tDs X.K xi W ms)) (hp : es.all plainE = true) (hdb : (x == ("__debug__" : Str)) = false) :
    PE X (.Call (.Name x p) es [] pos) (tD X.K xi W fun σ S => (ms σ S).bind fun vs S1 => c vs S1) := by
  have core : ∀ {pins : List (Addr × Obj)} {τ : Sv} {H : Hp} {s : Shared} {Q : VK} {us : List Value} {vs : List V}, Inv X pins τ H s → Vals vs us →
      (∃ ι ds S, RelS X.K ι S H ∧ RelDs X.K ι H ds vs ∧ PostR X.K xi (RelD X.K) (fun c d H' => W c d τ H') ι S H Q (c ds S)) → wpAny (model X.prog X.w) X.A (call (.ref f) us) (EP X pins τ Q) X.xe s := by
    intro pins τ H s Q us vs I r h
    have hl : (us ++ []).length = ps.length := by rw [List.append_nil, ← r.length]; exact F.len _ _ _ _ h
    have b := hb s us I.kIn hl
    rw [List.append_nil] at b
    exact run_G F g tk I b r h
  refine ⟨fun pins s τ H Q I h => ?_⟩
  refine wpAny_Call_Name_kw (ld_glob I hg hm ?_ hdb)
  have hpl := star_none (env := X.env) (pos := pos) hp
  refine PySem.W.callWith_of (P := X.K.In) (by rw [hpl]; rfl) (PySem.W.keeps_K hk) (L2.FK.evalArgs_any hpl (thn (ha.run pos pins s τ H _ I (imp_args h)) fun us s1 ⟨vs, H1, I1, r, q⟩ => ⟨I1.kIn, core I1 r q⟩))
end

/-! ### built-ins by their names -/
section
variable {X : Cx} {xi : XI} {W : WX}
theorem de_bltF {b : Bf} {id : String} {x : Str} {p pos : Pos} {e : Expr} {es : List Expr} {ms : Sg → Sto → R (List D)} (hc : CallR X (.builtin id) (rBt X.K xi b)) (hg : Gl X x) (hm : X.mg x = none) (hv : bootBuiltins x = some (.builtin id))
    (ha : PA X (e :: es) (tDs X.K xi W ms)) (hn : x ≠ "__name__") (hdb : (x == ("__debug__" : Str)) = false) (hp : (e :: es).all plainE = true) :
    PE X (.Call (.Name x p) (e :: es) [] pos) (tD X.K xi W fun σ S => (ms σ S).bind fun vs S1 => blt b vs S1) := by
  have hp' := hp
  rw [List.all_cons, Bool.and_eq_true] at hp'
  refine (pe_callB hc hg hm hv ha hn hdb (starEach_plain hp'.1) (star_none hp'.2)).mono fun τ H Q h => ?_
  obtain ⟨ι, σ, S, r, g, h⟩ := imp_args h
  refine ⟨ι, σ, S, r, g, h.imp ?_⟩
  rintro vs H1 ⟨ι1, ds, S1, r1, q1, h1⟩
  exact ⟨ι1, S1, ds, _, r1, q1, h1⟩
theorem de_bltT {b : Bf} {T : String} {x : Str} {p pos : Pos} {e : Expr} {es : List Expr} {ms : Sg → Sto → R (List D)} (hc : CallR X (.type T) (rBt X.K xi b)) (hg : Gl X x) (hm : X.mg x = none) (hv : bootBuiltins x = some (.type T))
    (ha : PA X (e :: es) (tDs X.K xi W ms)) (hn : x ≠ "__name__") (hdb : (x == ("__debug__" : Str)) = false) (hp : (e :: es).all plainE = true) :
    PE X (.Call (.Name x p) (e :: es) [] pos) (tD X.K xi W fun σ S => (ms σ S).bind fun vs S1 => blt b vs S1) := by
  have hp' := hp
  rw [List.all_cons, Bool.and_eq_true] at hp'
  refine (pe_callTy hc hg hm hv ha hn hdb (starEach_plain hp'.1) (star_none hp'.2)).mono fun τ H Q h => ?_
  obtain ⟨ι, σ, S, r, g, h⟩ := imp_args h
  refine ⟨ι, σ, S, r, g, h.imp ?_⟩
  rintro vs H1 ⟨ι1, ds, S1, r1, q1, h1⟩
  exact ⟨ι1, S1, ds, _, r1, q1, h1⟩
/-- o.m(e, ..) of a text or a list -/
theorem kw_nil {env : Env} {pos : Pos} : (backToKw pos (keywordEach [] env)).all (fun x => x.1.isSome) = true := rfl
theorem de_mth {m : Mt} {T id : String} {name : Str} {apos cpos : Pos} {o e : Expr} {es : List Expr} {mo : Sg → Sto → R D} {ms : Sg → Sto → R (List D)} (hT : T = if m.ofList then "list" else "str") (pa : PlainAttrs T) (slot : Slot T name id)
    (hty : typeOf (.builtin id) = pure (.type "method_descriptor")) (hm : MtR X id (rMt X.K xi m)) (ho : PE X o (tD X.K xi W mo)) (ha : PA X (e :: es) (tDs X.K xi W ms)) (hbase : attributeBase o name X.env (eval o X.env) = eval o X.env)
    (hline : (apos.endLine == cpos.line) = true) (hp : (e :: es).all plainE = true) (hlen : (e :: es).length < 30) :
    PE X (.Call (.Attribute o name apos) (e :: es) [] cpos) (tD X.K xi W fun σ S => (mo σ S).bind fun x S1 => R.req (recv m x S1 = true) ((ms σ S1).bind fun vs S2 => mth m x vs S2)) := by
  have hp' := hp
  rw [List.all_cons, Bool.and_eq_true] at hp'
  refine (pe_bm pa slot hty hm ho ha hbase ?_ hline (starEach_plain hp'.1) (star_none hp'.2)).mono fun τ H Q ⟨ι, σ, S, r, g, h⟩ => ?_
  · rw [star_all hp, kw_nil]
    simp only [Bool.true_and, List.isEmpty_nil, if_true, Nat.add_zero, List.length_nil]
    exact decide_eq_true hlen
  · refine ⟨ι, σ, S, r, g, (PostR.bind h).imp ?_⟩
    rintro x H1 ⟨ι1, d, S1, e1, r1, q1, h1⟩
    obtain ⟨hr, h1⟩ := PostR.req h1
    refine ⟨by rw [hT]; exact recv_V r1 q1 hr, ι1, σ, S1, r1, g.mono r e1, (PostR.bind h1).imp ?_⟩
    rintro vs H2 ⟨ι2, ds, S2, e2, r2, q2, h2⟩
    exact ⟨ι2, S2, d, ds, _, r2, q1.mono r1 e2, q2, h2⟩
theorem de_mth0 {m : Mt} {T id : String} {name : Str} {apos cpos : Pos} {o : Expr} {mo : Sg → Sto → R D} (hT : T = if m.ofList then "list" else "str") (pa : PlainAttrs T) (slot : Slot T name id)
    (hty : typeOf (.builtin id) = pure (.type "method_descriptor")) (hm : MtR X id (rMt X.K xi m)) (ho : PE X o (tD X.K xi W mo)) (hbase : attributeBase o name X.env (eval o X.env) = eval o X.env) (hline : (apos.endLine == cpos.line) = true) :
    PE X (.Call (.Attribute o name apos) [] [] cpos) (tD X.K xi W fun σ S => (mo σ S).bind fun x S1 => R.req (recv m x S1 = true) (R.bind (.ok [] S1) fun vs S2 => mth m x vs S2)) := by
  refine (pe_bm0 pa slot hty hm ho hbase hline).mono fun τ H Q ⟨ι, σ, S, r, g, h⟩ => ?_
  refine ⟨ι, σ, S, r, g, (PostR.bind h).imp ?_⟩
  rintro x H1 ⟨ι1, d, S1, e1, r1, q1, h1⟩
  obtain ⟨hr, h1⟩ := PostR.req h1
  exact ⟨by rw [hT]; exact recv_V r1 q1 hr, ι1, S1, d, [], _, r1, q1, .nil, h1⟩
/-- a call's attribute base -/
def plainBase : Expr → Bool
  | .Call (.Name _ _) [] [] _ => false
  | _ => true
theorem base_plain {o : Expr} {name : Str} {env : Env} (h : plainBase o = true) : attributeBase o name env (eval o env) = eval o env := by
  unfold attributeBase
  split
  · cases h
  · rfl

/-! ### displays, places, slices -/
theorem de_tup {x1} {pos : Pos} {es : List Expr} {ms : Sg → Sto → R (List D)} (ha : PA X es (tDs X.K xi W ms)) : PE X (.Tuple es x1 pos) (tD X.K xi W fun σ S => (ms σ S).bind fun vs S1 => R.req (vs.length ≤ LIM) (.ok (.tup vs) S1)) :=
  (pe_tup ha).mono fun τ H Q h => by
    obtain ⟨ι, σ, S, r, g, h⟩ := imp_args h
    refine ⟨ι, σ, S, r, g, h.imp ?_⟩
    rintro vs H1 ⟨ι1, ds, S1, r1, q1, h1⟩
    obtain ⟨hl, h1⟩ := PostR.req h1
    exact ⟨by rw [← q1.length, ← LIM_eq]; exact hl, fun p hp => h1.newT r1 q1 hp⟩
theorem de_lst {pos : Pos} {es : List Expr} {ms : Sg → Sto → R (List D)} (ha : PA X es (tDs X.K xi W ms)) : PE X (.List es pos) (tD X.K xi W fun σ S => (ms σ S).bind fun vs S1 => R.req (vs.length ≤ LIM) (ins1 S1 (.lst vs))) :=
  (pe_lst ha).mono fun τ H Q h => by
    obtain ⟨ι, σ, S, r, g, h⟩ := imp_args h
    refine ⟨ι, σ, S, r, g, h.imp ?_⟩
    rintro vs H1 ⟨ι1, ds, S1, r1, q1, h1⟩
    obtain ⟨hl, h1⟩ := PostR.req h1
    exact ⟨by rw [← q1.length, ← LIM_eq]; exact hl, fun p hp => h1.newL r1 q1 hp⟩
def notSlice : Expr → Bool
  | .Slice .. => false
  | _ => true
theorem plainIx_of {b : Expr} (h : notSlice b = true) : PlainIx b := by
  intro o i
  cases b <;> first | rfl | cases h
theorem de_idx {a b : Expr} {ma mb : Sg → Sto → R D} {pos : Pos} (ha : PE X a (tD X.K xi W ma)) (hb : PE X b (tD X.K xi W mb)) (hs : notSlice b = true) :
    PE X (.Subscript a b pos) (tD X.K xi W fun σ S => (ma σ S).bind fun x S1 => (mb σ S1).bind fun y S2 => index x y S2) := (pe_ix ix_all ha hb (plainIx_of hs)).mono fun _ _ _ h => imp_op2 h
theorem do_none : PO X none (tDO X.K xi W fun _ S => .ok none S) := po_none.mono fun _ _ _ ⟨_, _, _, r, _, h⟩ => h.now r rfl
theorem do_some {e : Expr} {m : Sg → Sto → R D} (he : PE X e (tD X.K xi W m)) : PO X (some e) (tDO X.K xi W fun σ S => (m σ S).bind fun x S1 => match x with | .int i => .ok (some i) S1 | _ => .no) :=
  (po_some he).mono fun τ H Q ⟨ι, σ, S, r, g, h⟩ => by
    refine ⟨ι, σ, S, r, g, (PostR.bind h).imp ?_⟩
    rintro x H1 ⟨ι1, d, S1, e1, r1, q1, h1⟩
    cases q1 with
    | int i => exact ⟨i, rfl, h1.now r1 rfl⟩
    | _ => exact h1.elim
theorem de_slc {a : Expr} {lo hi : Option Expr} {ma : Sg → Sto → R D} {ml mh : Sg → Sto → R (Option Int)} {pos p2 : Pos} (ha : PE X a (tD X.K xi W ma)) (hl : PO X lo (tDO X.K xi W ml)) (hh : PO X hi (tDO X.K xi W mh)) :
    PE X (.Subscript a (.Slice lo hi none p2) pos) (tD X.K xi W fun σ S => (ma σ S).bind fun x S1 => (ml σ S1).bind fun l S2 => (mh σ S2).bind fun u S3 => slice x l u S3) := (pe_slice (sl_all (xi := xi)) ha hl hh).mono fun τ H Q ⟨ι, σ, S, r, g, h⟩ => by
  refine ⟨ι, σ, S, r, g, (PostR.bind h).imp ?_⟩
  rintro x H1 ⟨ι1, d, S1, e1, r1, q1, h1⟩
  have g1 := g.mono r e1
  refine ⟨ι1, σ, S1, r1, g1, (PostR.bind h1).imp ?_⟩
  rintro l H2 ⟨ι2, l', S2, e2, r2, rfl, h2⟩
  have g2 := g1.mono r1 e2
  refine ⟨ι2, σ, S2, r2, g2, (PostR.bind h2).imp ?_⟩
  rintro u H3 ⟨ι3, u', S3, e3, r3, rfl, h3⟩
  exact ⟨ι3, S3, d, _, r3, (q1.mono r1 e2).mono r2 e3, h3⟩

/-! ### comparisons, truth, and, or, not, if -/
def notSet : Expr → Bool
  | .Set .. => false
  | _ => true
theorem marks_of {op : CmpOp} {b : Expr} (h : notSet b = true) : behindInMarks op b = false := by
  cases b <;> first | rfl | cases h
theorem imp_cmp {a b : Expr} {ma mb : Sg → Sto → R D} {o : Cm} {τ : Sv} {H : Hp} {Q : VK} (h : tD X.K xi W (fun σ S => (ma σ S).bind fun x S1 => (mb σ S1).bind fun y S2 => R.opt (cmpop o x y S2) fun k => .ok (.bl k) S2) τ H Q) :
    tOp (rC X.K o) (tD X.K xi W ma) (tD X.K xi W mb) τ H Q := by
  obtain ⟨ι, σ, S, r, g, h⟩ := h
  refine ⟨ι, σ, S, r, g, (PostR.bind h).imp ?_⟩
  rintro x H1 ⟨ι1, d, S1, e1, r1, q1, h1⟩
  refine ⟨ι1, σ, S1, r1, g.mono r e1, (PostR.bind h1).imp ?_⟩
  rintro y H2 ⟨ι2, e, S2, e2, r2, q2, h2⟩
  obtain ⟨k, hk, h2⟩ := PostR.opt h2
  exact ⟨ι2, S2, d, e, k, r2, q1.mono r1 e2, q2, hk, h2.now r2 (.bl k)⟩
theorem de_cmp {a b : Expr} {ma mb : Sg → Sto → R D} {o : Cm} {pos : Pos} (hu : X.A.units + 65 < cLine) (ha : PE X a (tD X.K xi W ma)) (hb : PE X b (tD X.K xi W mb)) (hs : notSet b = true) :
    PE X (.Compare a [cmOf o] [b] pos) (tD X.K xi W fun σ S => (ma σ S).bind fun x S1 => (mb σ S1).bind fun y S2 => R.opt (cmpop o x y S2) fun k => .ok (.bl k) S2) :=
  (pe_cmpR (opc_all hu o) ha hb (marks_of hs)).mono fun _ _ _ h => imp_cmp (a := a) (b := b) h
/-- a test by a value's truth -/
def tstD (m : Sg → Sto → R D) : Sg → Sto → R Bool := fun σ S => (m σ S).bind fun x S1 => R.opt (truth S1 x) fun k => .ok k S1
theorem R.bind_assoc {α β γ : Type} (m : R α) (f : α → Sto → R β) (g : β → Sto → R γ) : (m.bind f).bind g = m.bind fun a S => (f a S).bind g := by cases m <;> rfl
theorem R.opt_bind {α β γ : Type} (o : Option α) (f : α → R β) (g : β → Sto → R γ) : (R.opt o f).bind g = R.opt o fun a => (f a).bind g := by cases o <;> rfl
theorem dt_cmp {a b : Expr} {ma mb : Sg → Sto → R D} {o : Cm} {pos : Pos} (hu : X.A.units + 65 < cLine) (ha : PE X a (tD X.K xi W ma)) (hb : PE X b (tD X.K xi W mb)) (hs : notSet b = true) :
    PT X (.Compare a [cmOf o] [b] pos) (tDT X.K xi W (tstD fun σ S => (ma σ S).bind fun x S1 => (mb σ S1).bind fun y S2 => R.opt (cmpop o x y S2) fun k => .ok (.bl k) S2)) :=
  (pt_cmpR (opc_all hu o) ha hb (marks_of hs)).mono fun τ H Q ⟨ι, σ, S, r, g, h⟩ => by
    unfold tstD at h
    simp only [R.bind_assoc, R.opt_bind] at h
    refine ⟨ι, σ, S, r, g, (PostR.bind h).imp ?_⟩
    rintro x H1 ⟨ι1, d, S1, e1, r1, q1, h1⟩
    refine ⟨ι1, σ, S1, r1, g.mono r e1, (PostR.bind h1).imp ?_⟩
    rintro y H2 ⟨ι2, e, S2, e2, r2, q2, h2⟩
    obtain ⟨k, hk, h2⟩ := PostR.opt h2
    exact ⟨ι2, S2, d, e, k, r2, q1.mono r1 e2, q2, hk, k, rfl, PostR.now (show PostR X.K xi relB _ ι2 S2 H2 Q (.ok k S2) from h2) r2 rfl⟩
/-- any expression whose test is its value's truth -/
theorem dt_plain {a : Expr} {m : Sg → Sto → R D} (ha : PE X a (tD X.K xi W m)) (he : ∀ whole, isTrue a X.env whole = (do let v ← whole; standAt a.pos; holding [v] (truthy v))) : PT X a (tDT X.K xi W (tstD m)) :=
  (pt_truth ha he).mono fun τ H Q ⟨ι, σ, S, r, g, h⟩ => by
    refine ⟨ι, σ, S, r, g, (PostR.bind h).imp ?_⟩
    rintro x H1 ⟨ι1, d, S1, e1, r1, q1, h1⟩
    obtain ⟨k, hk, h1⟩ := PostR.opt h1
    exact ⟨k, truth_V r1 q1 hk, h1.now r1 rfl⟩
theorem de_not {a : Expr} {m : Sg → Sto → R D} {pos : Pos} (ha : PE X a (tD X.K xi W m)) : PE X (.UnaryOp .Not a pos) (tD X.K xi W fun σ S => (m σ S).bind fun x S1 => R.opt (truth S1 x) fun k => .ok (.bl (!k)) S1) :=
  (pe_notT ha).mono fun τ H Q ⟨ι, σ, S, r, g, h⟩ => by
    refine ⟨ι, σ, S, r, g, (PostR.bind h).imp ?_⟩
    rintro x H1 ⟨ι1, d, S1, e1, r1, q1, h1⟩
    obtain ⟨k, hk, h1⟩ := PostR.opt h1
    exact ⟨k, truth_V r1 q1 hk, h1.now r1 (.bl _)⟩
theorem dt_not {a : Expr} {m : Sg → Sto → R D} {pos : Pos} (ha : PT X a (tDT X.K xi W (tstD m))) : PT X (.UnaryOp .Not a pos) (tDT X.K xi W (tstD fun σ S => (m σ S).bind fun x S1 => R.opt (truth S1 x) fun k => .ok (.bl (!k)) S1)) :=
  (pt_not ha).mono fun τ H Q ⟨ι, σ, S, r, g, h⟩ => by
    unfold tstD at h
    simp only [R.bind_assoc, R.opt_bind] at h
    have h' : PostR X.K xi relB (fun c d H' => W c d τ H') ι S H Q ((tstD m σ S).bind fun k S1 => .ok (!k) S1) := by
      unfold tstD
      simp only [R.bind_assoc, R.opt_bind]
      exact h
    refine ⟨ι, σ, S, r, g, (PostR.bind h').imp ?_⟩
    rintro k H1 ⟨ι1, k', S1, e1, r1, rfl, h1⟩
    exact h1.now r1 rfl
theorem de_neg {a : Expr} {m : Sg → Sto → R D} {pos : Pos} (ha : PE X a (tD X.K xi W m)) : PE X (.UnaryOp .USub a pos) (tD X.K xi W fun σ S => (m σ S).bind fun x S1 => match x with | .int i => .ok (.int (-i)) S1 | _ => .no) :=
  (pe_un un_neg ha).mono fun τ H Q ⟨ι, σ, S, r, g, h⟩ => by
    refine ⟨ι, σ, S, r, g, (PostR.bind h).imp ?_⟩
    rintro x H1 ⟨ι1, d, S1, e1, r1, q1, h1⟩
    cases q1 with
    | int i => exact ⟨i, rfl, h1.now r1 (.int _)⟩
    | _ => exact h1.elim
theorem de_ite {c a b : Expr} {mc ma mb : Sg → Sto → R D} {pos : Pos} (hc : PT X c (tDT X.K xi W (tstD mc))) (ha : PE X a (tD X.K xi W ma)) (hb : PE X b (tD X.K xi W mb)) :
    PE X (.IfExp c a b pos) (tD X.K xi W fun σ S => (mc σ S).bind fun t S1 => R.opt (truth S1 t) fun k => if k then ma σ S1 else mb σ S1) := (pe_ifExp hc ha hb).mono fun τ H Q ⟨ι, σ, S, r, g, h⟩ => by
  have h' : PostR X.K xi (RelD X.K) (fun c d H' => W c d τ H') ι S H Q ((tstD mc σ S).bind fun k S1 => if k then ma σ S1 else mb σ S1) := by
    unfold tstD
    simp only [R.bind_assoc, R.opt_bind]
    exact h
  refine ⟨ι, σ, S, r, g, (PostR.bind h').imp ?_⟩
  rintro k H1 ⟨ι1, k', S1, e1, r1, rfl, h1⟩
  have g1 := g.mono r e1
  cases k' with
  | true => exact iteT ⟨ι1, σ, S1, r1, g1, h1⟩
  | false => exact iteF ⟨ι1, σ, S1, r1, g1, h1⟩
theorem dt_ite {c a b : Expr} {mc ma mb : Sg → Sto → R D} {pos : Pos} (hc : PT X c (tDT X.K xi W (tstD mc))) (ha : PT X a (tDT X.K xi W (tstD ma))) (hb : PT X b (tDT X.K xi W (tstD mb))) :
    PT X (.IfExp c a b pos) (tDT X.K xi W (tstD fun σ S => (mc σ S).bind fun t S1 => R.opt (truth S1 t) fun k => if k then ma σ S1 else mb σ S1)) := by
  refine ⟨fun pins s τ H Q I ⟨ι, σ, S, r, g, h⟩ => ?_⟩
  have h' : PostR X.K xi relB (fun c d H' => W c d τ H') ι S H Q ((tstD mc σ S).bind fun k S1 => if k then tstD ma σ S1 else tstD mb σ S1) := by
    have e : ((tstD mc σ S).bind fun k S1 => if k then tstD ma σ S1 else tstD mb σ S1) = tstD (fun σ S => (mc σ S).bind fun t S1 => R.opt (truth S1 t) fun k => if k then ma σ S1 else mb σ S1) σ S := by
      unfold tstD
      simp only [R.bind_assoc, R.opt_bind]
      congr 1
      funext a S1
      congr 1
      funext k
      cases k <;> rfl
    rw [e]
    exact h
  show wpAny _ _ (do if ← isTrue c X.env (eval c X.env) then isTrue a X.env (eval a X.env) else isTrue b X.env (eval b X.env)) _ _ _
  refine wpAny_bind (thn (hc.run pins s τ H _ I ⟨ι, σ, S, r, g, PostR.bind h'⟩) ?_)
  rintro k s1 ⟨H1, I1, ι1, k', S1, e1, r1, rfl, h1⟩
  have g1 := g.mono r e1
  cases k' with
  | true => exact ha.run pins s1 τ H1 Q I1 ⟨ι1, σ, S1, r1, g1, h1⟩
  | false => exact hb.run pins s1 τ H1 Q I1 ⟨ι1, σ, S1, r1, g1, h1⟩

/-! ### a < b < c -/
theorem de_chain {a b c : Expr} {ma mb mc : Sg → Sto → R D} {o p : Cm} {pos : Pos} (hu : X.A.units + 65 < cLine) (ha : PE X a (tD X.K xi W ma)) (hb : PE X b (tD X.K xi W mb)) (hc : PE X c (tD X.K xi W mc)) (hs : notSet c = true) :
    PE X (.Compare a [cmOf o, cmOf p] [b, c] pos) (tD X.K xi W fun σ S => (ma σ S).bind fun x S1 => (mb σ S1).bind fun y S2 => R.opt (cmpop o x y S2) fun k =>
      if k then (mc σ S2).bind fun z S3 => R.opt (cmpop p y z S3) fun k2 => .ok (.bl k2) S3 else .ok (.bl false) S2) :=
  (pe_chain (opc_all hu o) (opc_all hu p) ha hb hc (marks_of hs)).mono fun τ H Q ⟨ι, σ, S, r, g, h⟩ => by
    refine ⟨ι, σ, S, r, g, (PostR.bind h).imp ?_⟩
    rintro x H1 ⟨ι1, d, S1, e1, r1, q1, h1⟩
    have g1 := g.mono r e1
    refine ⟨ι1, σ, S1, r1, g1, (PostR.bind h1).imp ?_⟩
    rintro y H2 ⟨ι2, e, S2, e2, r2, q2, h2⟩
    have g2 := g1.mono r1 e2
    obtain ⟨k, hk, h2⟩ := PostR.opt h2
    refine ⟨ι2, S2, d, e, k, r2, q1.mono r1 e2, q2, hk, k, rfl, ?_⟩
    cases k with
    | false => exact iteF (PostR.now (show PostR X.K xi (RelD X.K) _ ι2 S2 H2 Q (.ok (.bl false) S2) from h2) r2 (.bl _))
    | true =>
      refine iteT ⟨ι2, σ, S2, r2, g2, (PostR.bind (rel := RelD X.K) (show PostR X.K xi (RelD X.K) _ ι2 S2 H2 Q ((mc σ S2).bind fun z S3 => R.opt (cmpop p e z S3) fun k2 => .ok (.bl k2) S3) from h2)).imp ?_⟩
      rintro z H3 ⟨ι3, c', S3, e3, r3, q3, h3⟩
      obtain ⟨k2, hk2, h3⟩ := PostR.opt h3
      exact ⟨ι3, S3, e, c', k2, r3, q2.mono r2 e3, q3, hk2, h3.now r3 (.bl _)⟩
theorem dt_chain {a b c : Expr} {ma mb mc : Sg → Sto → R D} {o p : Cm} {pos : Pos} (hu : X.A.units + 65 < cLine) (ha : PE X a (tD X.K xi W ma)) (hb : PE X b (tD X.K xi W mb)) (hc : PE X c (tD X.K xi W mc)) (hs : notSet c = true) :
    PT X (.Compare a [cmOf o, cmOf p] [b, c] pos) (tDT X.K xi W (tstD fun σ S => (ma σ S).bind fun x S1 => (mb σ S1).bind fun y S2 => R.opt (cmpop o x y S2) fun k =>
      if k then (mc σ S2).bind fun z S3 => R.opt (cmpop p y z S3) fun k2 => .ok (.bl k2) S3 else .ok (.bl false) S2)) :=
  (pt_chain (opc_all hu o) (opc_all hu p) ha hb hc (marks_of hs)).mono fun τ H Q ⟨ι, σ, S, r, g, h⟩ => by
    unfold tstD at h
    simp only [R.bind_assoc, R.opt_bind] at h
    refine ⟨ι, σ, S, r, g, (PostR.bind h).imp ?_⟩
    rintro x H1 ⟨ι1, d, S1, e1, r1, q1, h1⟩
    have g1 := g.mono r e1
    refine ⟨ι1, σ, S1, r1, g1, (PostR.bind h1).imp ?_⟩
    rintro y H2 ⟨ι2, e, S2, e2, r2, q2, h2⟩
    have g2 := g1.mono r1 e2
    obtain ⟨k, hk, h2⟩ := PostR.opt h2
    refine ⟨ι2, S2, d, e, k, r2, q1.mono r1 e2, q2, hk, k, rfl, ?_⟩
    cases k with
    | false => exact iteF ⟨false, rfl, PostR.now (show PostR X.K xi relB _ ι2 S2 H2 Q (.ok false S2) from h2) r2 rfl⟩
    | true =>
      have h2' : PostR X.K xi relB (fun c d H' => W c d τ H') ι2 S2 H2 Q (((mc σ S2).bind fun z S3 => R.opt (cmpop p e z S3) fun k2 => .ok (.bl k2) S3).bind fun x S1 => R.opt (truth S1 x) fun k => .ok k S1) := h2
      simp only [R.bind_assoc, R.opt_bind] at h2'
      refine iteT ⟨ι2, σ, S2, r2, g2, (PostR.bind (rel := RelD X.K) h2').imp ?_⟩
      rintro z H3 ⟨ι3, c', S3, e3, r3, q3, h3⟩
      obtain ⟨k2, hk2, h3⟩ := PostR.opt h3
      exact ⟨ι3, S3, e, c', k2, r3, q2.mono r2 e3, q3, hk2, k2, rfl, PostR.now (show PostR X.K xi relB _ ι3 S3 H3 Q (.ok k2 S3) from h3) r3 rfl⟩
/-! ### and, or -/
theorem de_one {op : BoolOp} {a : Expr} {m : Sg → Sto → R D} {pos : Pos} (ha : PE X a (tD X.K xi W m)) : PE X (.BoolOp op [a] pos) (tD X.K xi W m) := pe_one ha
theorem de_and {a b : Expr} {rest : List Expr} {ma mb : Sg → Sto → R D} {pos : Pos} (ha : PE X a (tD X.K xi W ma)) (hb : PE X (.BoolOp .And (b :: rest) pos) (tD X.K xi W mb)) :
    PE X (.BoolOp .And (a :: b :: rest) pos) (tD X.K xi W fun σ S => (ma σ S).bind fun x S1 => R.opt (truth S1 x) fun t => if t = true then mb σ S1 else .ok x S1) := (pe_andT ha hb).mono fun τ H Q ⟨ι, σ, S, r, g, h⟩ => by
  refine ⟨ι, σ, S, r, g, (PostR.bind h).imp ?_⟩
  rintro x H1 ⟨ι1, d, S1, e1, r1, q1, h1⟩
  obtain ⟨k, hk, h1⟩ := PostR.opt h1
  refine ⟨k, truth_V r1 q1 hk, ?_⟩
  cases k with
  | true => exact iteT ⟨ι1, σ, S1, r1, g.mono r e1, h1⟩
  | false => exact iteF (PostR.now (show PostR X.K xi (RelD X.K) _ ι1 S1 H1 Q (.ok d S1) from h1) r1 q1)
theorem de_or {a b : Expr} {rest : List Expr} {ma mb : Sg → Sto → R D} {pos : Pos} (ha : PE X a (tD X.K xi W ma)) (hb : PE X (.BoolOp .Or (b :: rest) pos) (tD X.K xi W mb)) :
    PE X (.BoolOp .Or (a :: b :: rest) pos) (tD X.K xi W fun σ S => (ma σ S).bind fun x S1 => R.opt (truth S1 x) fun t => if t = false then mb σ S1 else .ok x S1) := (pe_orT ha hb).mono fun τ H Q ⟨ι, σ, S, r, g, h⟩ => by
  refine ⟨ι, σ, S, r, g, (PostR.bind h).imp ?_⟩
  rintro x H1 ⟨ι1, d, S1, e1, r1, q1, h1⟩
  obtain ⟨k, hk, h1⟩ := PostR.opt h1
  refine ⟨k, truth_V r1 q1 hk, ?_⟩
  cases k with
  | true => exact iteT (PostR.now (show PostR X.K xi (RelD X.K) _ ι1 S1 H1 Q (.ok d S1) from h1) r1 q1)
  | false => exact iteF ⟨ι1, σ, S1, r1, g.mono r e1, h1⟩
theorem dw_one {k : Bool} {a : Expr} {m : Sg → Sto → R D} {pos : Pos} (ha : PT X a (tDT X.K xi W (tstD m))) : PW X (.BoolOp (if k then .And else .Or) [a] pos) (tDT X.K xi W (tstD m)) := by
  cases k
  · exact pw_or1 ha
  · exact pw_and1 ha
theorem tst_bop {ma mb : Sg → Sto → R D} {k : Bool} : (tstD fun σ S => (ma σ S).bind fun x S1 => R.opt (truth S1 x) fun t => if t = k then mb σ S1 else .ok x S1) =
    fun σ S => (tstD ma σ S).bind fun t S1 => if t = k then tstD mb σ S1 else .ok t S1 := by
  funext σ S
  unfold tstD
  simp only [R.bind_assoc, R.opt_bind]
  cases ma σ S with
  | ok x S1 =>
    simp only [R.bind_ok]
    cases e : truth S1 x with
    | none => rfl
    | some t =>
      simp only [R.opt_some, R.bind_ok]
      split
      · rfl
      · rw [R.bind_ok, e]; rfl
  | exc x S1 => rfl
  | no => rfl
theorem dw_and {a b : Expr} {rest : List Expr} {ma mb : Sg → Sto → R D} {pos : Pos} (ha : PT X a (tDT X.K xi W (tstD ma))) (hb : PW X (.BoolOp .And (b :: rest) pos) (tDT X.K xi W (tstD mb))) :
    PW X (.BoolOp .And (a :: b :: rest) pos) (tDT X.K xi W (tstD fun σ S => (ma σ S).bind fun x S1 => R.opt (truth S1 x) fun t => if t = true then mb σ S1 else .ok x S1)) := (pw_and ha hb).mono fun τ H Q ⟨ι, σ, S, r, g, h⟩ => by
  rw [tst_bop] at h
  refine ⟨ι, σ, S, r, g, (PostR.bind h).imp ?_⟩
  rintro k H1 ⟨ι1, k', S1, e1, r1, rfl, h1⟩
  cases k' with
  | true => exact iteT ⟨ι1, σ, S1, r1, g.mono r e1, h1⟩
  | false => exact iteF (PostR.now (show PostR X.K xi relB _ ι1 S1 H1 Q (.ok false S1) from h1) r1 rfl)
theorem dw_or {a b : Expr} {rest : List Expr} {ma mb : Sg → Sto → R D} {pos : Pos} (ha : PT X a (tDT X.K xi W (tstD ma))) (hb : PW X (.BoolOp .Or (b :: rest) pos) (tDT X.K xi W (tstD mb))) :
    PW X (.BoolOp .Or (a :: b :: rest) pos) (tDT X.K xi W (tstD fun σ S => (ma σ S).bind fun x S1 => R.opt (truth S1 x) fun t => if t = false then mb σ S1 else .ok x S1)) := (pw_or ha hb).mono fun τ H Q ⟨ι, σ, S, r, g, h⟩ => by
  rw [tst_bop] at h
  refine ⟨ι, σ, S, r, g, (PostR.bind h).imp ?_⟩
  rintro k H1 ⟨ι1, k', S1, e1, r1, rfl, h1⟩
  cases k' with
  | true => exact iteT (PostR.now (show PostR X.K xi relB _ ι1 S1 H1 Q (.ok true S1) from h1) r1 rfl)
  | false => exact iteF ⟨ι1, σ, S1, r1, g.mono r e1, h1⟩
end
end Cl

/-! part Py9 -/
/-! Cl: walks, targets, statements, loops. -/
namespace Cl
open PySem PySem.Spec PyProof.Rows L2
section
variable {K : Fr'} {xi : XI} {W : WX}
/-- the layer's walk J does what w does, from the state ι S H on -/
def WkOk (K : Fr') (ι : List Addr) (S : Sto) (H : Hp) (w : Wk) (J : L2.It) : Prop :=
  ∀ (ι' : List Addr) (S' : Sto) (H' : Hp) (i : Nat), Ext ι S H ι' S' H' → RelS K ι' S' H' →
    (w.at i S' = some none → J.stop i H') ∧
    ∀ d, w.at i S' = some (some d) → J.go i H' ∧ ∀ x H2, J.yld i H' x H2 → Ext ι' S' H' ι' S' H2 ∧ RelS K ι' S' H2 ∧ RelD K ι' H2 d x
theorem RelDs.none {ι : List Addr} {H : Hp} {ds : List D} {vs : List V} (g : RelDs K ι H ds vs) {i : Nat} (h : ds[i]? = Option.none) : vs.length ≤ i := by
  rw [← g.length]
  exact List.getElem?_eq_none_iff.mp h
theorem wk_lst {ι : List Addr} {S : Sto} {H : Hp} {m : Nat} {a : Addr} (h : ι[m]? = some a) : WkOk K ι S H (.lst m) (Itl K a) := by
  intro ι' S' H' i e r
  have h' := e.get h
  refine ⟨fun z => ?_, fun d z => ?_⟩
  · obtain ⟨xs, e1, e2⟩ := Option.map_eq_some_iff.mp z
    obtain ⟨vs, g1, g2⟩ := r.getQ h' e1
    exact ⟨vs, g1, g2.none e2⟩
  · obtain ⟨xs, e1, e2⟩ := Option.map_eq_some_iff.mp z
    obtain ⟨vs, g1, g2⟩ := r.getQ h' e1
    obtain ⟨v, g3, g4⟩ := g2.get e2
    refine ⟨⟨vs, v, g1, g3⟩, ?_⟩
    rintro x H2 ⟨rfl, hx⟩
    have : x = v := Option.some.inj ((hx vs g1).symm.trans g3)
    subst this
    exact ⟨.refl, r, g4⟩
theorem wk_tup {ι : List Addr} {S : Sto} {H : Hp} {a : Addr} {ds : List D} {vs : List V} (r0 : RelS K ι S H) (h : SqT K H a vs) (g : RelDs K ι H ds vs) : WkOk K ι S H (.fix ds) (Itt K a) := by
  intro ι' S' H' i e r
  have h' := e.tup r0 h
  have g' := g.mono r0 e
  refine ⟨fun z => ⟨vs, h', g'.none (Option.some.inj z)⟩, fun d z => ?_⟩
  obtain ⟨v, g3, g4⟩ := g'.get (Option.some.inj z)
  refine ⟨⟨vs, v, h', g3⟩, ?_⟩
  rintro x H2 ⟨rfl, hx⟩
  have : x = v := Option.some.inj ((hx vs h').symm.trans g3)
  subst this
  exact ⟨.refl, r, g4⟩
theorem wk_str {ι : List Addr} {S : Sto} {H : Hp} {s : Tx} (ha : asciiAll s = true) : WkOk K ι S H (.fix (s.map fun c => .str [c])) (Its (SX.S s)) := by
  intro ι' S' H' i e r
  refine ⟨fun z => ?_, fun d z => ?_⟩
  · have h := List.getElem?_eq_none_iff.mp (Option.some.inj z)
    rw [List.length_map] at h
    exact h
  · have z' := Option.some.inj z
    rw [List.getElem?_map] at z'
    obtain ⟨c, e1, rfl⟩ := Option.map_eq_some_iff.mp z'
    refine ⟨(List.getElem?_eq_some_iff.mp e1).1, ?_⟩
    rintro x H2 ⟨rfl, c', e2, rfl⟩
    have e3 : s[i]? = some c' := by
      have q : (SX.S s).cps[i]? = some c' := e2
      simpa using q
    have : c' = c := Option.some.inj (e3.symm.trans e1)
    subst this
    exact ⟨.refl, r, .str (s := [c']) (show 1 ≤ LIM by decide) (ascii_sub ha fun b hb => by rw [List.mem_singleton.mp hb]; exact List.mem_of_getElem? e1)⟩
theorem wk_rng {ι : List Addr} {S : Sto} {H : Hp} (lo : Int) (n : Nat) : WkOk K ι S H (.rng lo n) (Itr lo n) := by
  intro ι' S' H' i e r
  refine ⟨fun z => ?_, fun d z => ?_⟩
  · have z' := Option.some.inj z
    by_cases h : i < n
    · rw [if_pos h] at z'; cases z'
    · exact Nat.le_of_not_lt h
  · have z' := Option.some.inj z
    by_cases h : i < n
    · rw [if_pos h] at z'
      cases z'
      refine ⟨h, ?_⟩
      rintro x H2 ⟨rfl, rfl⟩
      exact ⟨.refl, r, .int _⟩
    · rw [if_neg h] at z'; cases z'
theorem wk_enm {ι : List Addr} {S : Sto} {H : Hp} {m : Nat} {a : Addr} (h : ι[m]? = some a) : WkOk K ι S H (.enm m) (Ite K a) := by
  intro ι' S' H' i e r
  have h' := e.get h
  refine ⟨fun z => ?_, fun d z => ?_⟩
  · obtain ⟨xs, e1, e2⟩ := Option.map_eq_some_iff.mp z
    obtain ⟨vs, g1, g2⟩ := r.getQ h' e1
    exact ⟨vs, g1, g2.none (Option.map_eq_none_iff.mp e2)⟩
  · obtain ⟨xs, e1, e2⟩ := Option.map_eq_some_iff.mp z
    obtain ⟨y, e3, rfl⟩ := Option.map_eq_some_iff.mp e2
    obtain ⟨vs, g1, g2⟩ := r.getQ h' e1
    obtain ⟨v, g3, g4⟩ := g2.get e3
    refine ⟨⟨vs, v, g1, g3⟩, ?_⟩
    rintro x H2 ⟨T, v', rfl, nT, rfl, hx⟩
    have : v' = v := Option.some.inj ((hx vs g1).symm.trans g3)
    subst this
    have ex := Ext.put (o := .tup [.int (i : Nat), v']) r nT
    exact ⟨ex, r.put nT, .tup (.inl (.inl upd_same)) (.cons (.int _) (.cons (g4.mono r ex) .nil))⟩
theorem wk_zip {ι : List Addr} {S : Sto} {H : Hp} {m n : Nat} {a b : Addr} (h : ι[m]? = some a) (h2 : ι[n]? = some b) : WkOk K ι S H (.zip m n) (Itz K a b) := by
  intro ι' S' H' i e r
  have h' := e.get h
  have h2' := e.get h2
  have two : ∀ {o : Option D}, Wk.at (.zip m n) i S' = some o → ∃ xs ys, getQ S' m = some xs ∧ getQ S' n = some ys ∧ o = (match xs[i]?, ys[i]? with
      | some x, some y => some (.tup [x, y])
      | _, _ => Option.none) := by
    intro o z
    simp only [Wk.at] at z
    split at z
    · rename_i xs ys e1 e2
      exact ⟨xs, ys, e1, e2, (Option.some.inj z).symm⟩
    · cases z
  refine ⟨fun z => ?_, fun d z => ?_⟩
  · obtain ⟨xs, ys, e1, e2, e3⟩ := two z
    obtain ⟨vs, g1, g2⟩ := r.getQ h' e1
    obtain ⟨us, f1, f2⟩ := r.getQ h2' e2
    refine ⟨vs, us, g1, f1, ?_⟩
    cases q1 : xs[i]? with
    | none => exact .inl (g2.none q1)
    | some x =>
      cases q2 : ys[i]? with
      | none => exact .inr (f2.none q2)
      | some y => rw [q1, q2] at e3; cases e3
  · obtain ⟨xs, ys, e1, e2, e3⟩ := two z
    obtain ⟨vs, g1, g2⟩ := r.getQ h' e1
    obtain ⟨us, f1, f2⟩ := r.getQ h2' e2
    cases q1 : xs[i]? with
    | none => rw [q1] at e3; cases e3
    | some x =>
      cases q2 : ys[i]? with
      | none => rw [q1, q2] at e3; cases e3
      | some y =>
        rw [q1, q2] at e3
        cases e3
        obtain ⟨v, g3, g4⟩ := g2.get q1
        obtain ⟨u, f3, f4⟩ := f2.get q2
        refine ⟨⟨vs, us, v, u, g1, f1, g3, f3⟩, ?_⟩
        rintro z H2 ⟨T, v', u', rfl, nT, rfl, hx, hy⟩
        have : v' = v := Option.some.inj ((hx vs g1).symm.trans g3)
        subst this
        have : u' = u := Option.some.inj ((hy us f1).symm.trans f3)
        subst this
        have ex := Ext.put (o := .tup [v', u']) r nT
        exact ⟨ex, r.put nT, .tup (.inl (.inl upd_same)) (.cons (g4.mono r ex) (.cons (f4.mono r ex) .nil))⟩

/-! ### what is walked -/
def PostI (K : Fr') (xi : XI) (E : XK) (ι : List Addr) (S : Sto) (H : Hp) (Rr : L2.It → Hp → Prop) : R Wk → Prop
  | .ok w S' => ∀ ι' H' J, Ext ι S H ι' S' H' → RelS K ι' S' H' → WkOk K ι' S' H' w J → Rr J H'
  | .exc x S' => ∀ ι' H' cls dd, Ext ι S H ι' S' H' → RelS K ι' S' H' → RelX K xi ι' S' H' x cls dd → E cls dd H'
  | .no => False
def tDI (K : Fr') (xi : XI) (W : WX) (m : Sg → Sto → R Wk) : TI := fun τ H Rr => ∃ ι σ S, RelS K ι S H ∧ RelG K ι H σ τ ∧ PostI K xi (fun c d H' => W c d τ H') ι S H Rr (m σ S)
theorem PostI.mono {E : XK} {ι ι1 : List Addr} {S S1 : Sto} {H H1 : Hp} {Rr : L2.It → Hp → Prop} (e : Ext ι S H ι1 S1 H1) {m : R Wk} (h : PostI K xi E ι S H Rr m) : PostI K xi E ι1 S1 H1 Rr m := by
  cases m with
  | ok a S' => exact fun ι' H' J e' r' q => h ι' H' J (e.trans e') r' q
  | exc x S' => exact fun ι' H' cls dd e' r' q => h ι' H' cls dd (e.trans e') r' q
  | no => exact h
theorem PostI.bind {α β : Type} {rel : List Addr → Hp → α → β → Prop} {E : XK} {ι : List Addr} {S : Sto} {H : Hp} {Rr : L2.It → Hp → Prop} {m : R α} {f : α → Sto → R Wk} (h : PostI K xi E ι S H Rr (m.bind f)) :
    PostR K xi rel E ι S H (fun y H1 => ∃ ι1 a S1, Ext ι S H ι1 S1 H1 ∧ RelS K ι1 S1 H1 ∧ rel ι1 H1 a y ∧ PostI K xi E ι1 S1 H1 Rr (f a S1)) m := by
  cases m with
  | ok a S' => exact fun ι' H' y e r q => ⟨ι', a, S', e, r, q, h.mono e⟩
  | exc x S' => exact h
  | no => exact h
theorem PostI.opt {γ : Type} {E : XK} {ι : List Addr} {S : Sto} {H : Hp} {Rr : L2.It → Hp → Prop} {o : Option γ} {f : γ → R Wk} (h : PostI K xi E ι S H Rr (R.opt o f)) : ∃ a, o = some a ∧ PostI K xi E ι S H Rr (f a) := by
  cases o with
  | none => exact h.elim
  | some a => exact ⟨a, rfl, h⟩
theorem PostI.now {E : XK} {ι : List Addr} {S : Sto} {H : Hp} {Rr : L2.It → Hp → Prop} {w : Wk} {J : L2.It} (h : PostI K xi E ι S H Rr (.ok w S)) (r : RelS K ι S H) (q : WkOk K ι S H w J) : Rr J H := h ι H J .refl r q
theorem PostI.req {E : XK} {ι : List Addr} {S : Sto} {H : Hp} {Rr : L2.It → Hp → Prop} {c : Prop} [Decidable c] {m : R Wk} (h : PostI K xi E ι S H Rr (R.req c m)) : c ∧ PostI K xi E ι S H Rr m := by
  by_cases hc : c
  · rw [R.req_of hc] at h
    exact ⟨hc, h⟩
  · unfold R.req at h
    rw [if_neg hc] at h
    exact h.elim
end
section
variable {X : Cx} {xi : XI} {W : WX} {tg : Expr}
theorem _root_.L2.PI.mono {it : Expr} {t t' : TI} (h : PI X tg it t) (i : ∀ σ H Q, t' σ H Q → t σ H Q) : PI X tg it t' := ⟨fun pins s σ H Q I q => h.run pins s σ H Q I (i σ H Q q)⟩
/-- a value is walked: a list, a tuple, a text -/
theorem di_val {e : Expr} {m : Sg → Sto → R D} (he : PE X e (tD X.K xi W m)) : PI X tg e (tDI X.K xi W fun σ S => (m σ S).bind fun d S1 => walk d S1) := by
  refine ⟨fun pins s τ H Rr I ⟨ι, σ, S, r, g, h⟩ => ?_⟩
  refine thn (he.run pins s τ H _ I ⟨ι, σ, S, r, g, PostI.bind h⟩) ?_
  rintro v s1 ⟨x, H1, I1, rx, ι1, d, S1, e1, r1, q1, h1⟩
  cases q1 with
  | str l1 a1 =>
    rename_i z
    obtain ⟨t, rfl⟩ := rx
    have fin := PostI.now (show PostI X.K xi _ ι1 S1 H1 Rr (.ok (.fix (z.map fun c => .str [c])) S1) from h1) r1 (wk_str a1)
    have ha : (SX.S z).cps.all (· < 128) = true := by
      rw [← Array.all_toList]
      exact a1
    exact wpAny_pyIter_ascii ha (pi_one (tk := s1.toks) I1 _ (turn_str _ _ t "str_ascii_iterator" (.inl rfl))
      ⟨_, Heap.get?_push_size _ rfl, rfl, rfl⟩ fin)
  | tup h2 h3 =>
    rename_i a vs ds
    cases rx
    have fin := PostI.now (show PostI X.K xi _ ι1 S1 H1 Rr (.ok (.fix ds) S1) from h1) r1 (wk_tup r1 h2 h3)
    obtain ⟨its, rv, p, hz⟩ := I1.tuple h2
    exact wpAny_pyIter_tuple (show s1.heap.IsTuple a its.toArray from p) (pi_one (tk := s1.toks) I1 _ (turn_tuple a _)
      ⟨_, Heap.get?_push_size _ rfl, rfl, rfl⟩ fin)
  | ref h2 =>
    rename_i k a
    cases rx
    obtain ⟨xs, e2, h1⟩ := PostI.opt (show PostI X.K xi _ ι1 S1 H1 Rr (R.opt (getQ S1 k) fun _ => .ok (.lst k) S1) from h1)
    have fin := PostI.now h1 r1 (wk_lst h2)
    obtain ⟨vs, g1, g2⟩ := r1.getQ h2 e2
    obtain ⟨its, rv, p, hz⟩ := I1.list g1
    exact wpAny_pyIter_list p.isList (pi_one (tk := s1.toks) I1 _ (turn_list a _)
      ⟨_, Heap.get?_push_size _ rfl, rfl, rfl⟩ fin)
  | _ => exact h1.elim
theorem starEach_one {e : Expr} {env : Env} (h : plainE e = true) : starEach [e] env = [(false, eval e env)] := by
  cases e <;> first | rfl | cases h
def rngOf (vs : List D) (S1 : Sto) : R Wk := match vs with
    | [.int j] => R.req (j < 2 ^ 62 ∧ -(2 ^ 62) ≤ j) (.ok (.rng 0 j.toNat) S1)
    | [.int i, .int j] => R.req ((-(2 ^ 62) ≤ i ∧ i < 2 ^ 62) ∧ -(2 ^ 62) ≤ j ∧ j < 2 ^ 62) (.ok (.rng i (j - i).toNat) S1)
    | _ => .no
theorem imp_argsI {τ : Sv} {H : Hp} {Rr : L2.It → Hp → Prop} {ms : Sg → Sto → R (List D)} {f : List D → Sto → R Wk} (h : tDI X.K xi W (fun σ S => (ms σ S).bind fun vs S1 => f vs S1) τ H Rr) :
    tDs X.K xi W ms τ H fun vs H1 => ∃ ι ds S, RelS X.K ι S H1 ∧ RelDs X.K ι H1 ds vs ∧ PostI X.K xi (fun c d H' => W c d τ H') ι S H1 Rr (f ds S) := by
  obtain ⟨ι, σ, S, r, g, h⟩ := h
  refine ⟨ι, σ, S, r, g, (PostI.bind h).imp ?_⟩
  rintro vs H1 ⟨ι1, ds, S1, e1, r1, q1, h1⟩
  exact ⟨ι1, ds, S1, r1, q1, h1⟩
theorem tDs.imp {ms : Sg → Sto → R (List D)} {τ : Sv} {H : Hp} {Q Q' : List V → Hp → Prop} (h : tDs X.K xi W ms τ H Q) (i : ∀ vs H1, Q vs H1 → Q' vs H1) : tDs X.K xi W ms τ H Q' :=
  let ⟨ι, σ, S, r, g, h⟩ := h
  ⟨ι, σ, S, r, g, h.imp i⟩
theorem wk_rng0 {K : Fr'} {ι : List Addr} {S : Sto} {H : Hp} {lo : Int} {n : Nat} : WkOk K ι S H (.rng lo n) (Itr lo n) := wk_rng lo n
theorem di_rng1 {a : Expr} {ms : Sg → Sto → R (List D)} {p pos : Pos} (hl : ∀ σ S vs S1, ms σ S = .ok vs S1 → vs.length = 1) (hg : Gl X "range") (hm : X.mg "range" = none) (ha : PA X [a] (tDs X.K xi W ms)) (hp : plainE a = true) :
    PI X tg (.Call (.Name "range" p) [a] [] pos) (tDI X.K xi W fun σ S => (ms σ S).bind fun vs S1 => rngOf vs S1) := (pi_range1 hg hm ha (starEach_one hp)).mono fun τ H Q h => by
  obtain ⟨ι, σ, S, r, g, h⟩ := h
  refine ⟨ι, σ, S, r, g, ?_⟩
  dsimp only at h ⊢
  cases em : ms σ S with
  | no => rw [em] at h; exact h.elim
  | exc x S1 => rw [em] at h; exact h
  | ok ds S1 =>
    rw [em] at h
    intro ι1 H1 vs e1 r1 q1
    obtain ⟨j, rfl, b1, b2, fin⟩ : ∃ j, ds = [.int j] ∧ -(2 ^ 62) ≤ j ∧ j < 2 ^ 62 ∧ PostI X.K xi (fun c d H' => W c d τ H') ι S H Q (.ok (.rng 0 j.toNat) S1) := by
      have h2 : PostI X.K xi (fun c d H' => W c d τ H') ι S H Q (rngOf ds S1) := h
      have l := hl σ S ds S1 em
      unfold rngOf at h2
      split at h2
      · obtain ⟨c, h2⟩ := PostI.req h2
        exact ⟨_, rfl, c.2, c.1, h2⟩
      · cases l
      · exact h2.elim
    cases q1 with
    | cons z zs =>
      cases zs
      cases z
      exact ⟨j, rfl, b1, b2, fin ι1 H1 _ e1 r1 wk_rng0⟩
theorem di_rng2 {a b : Expr} {ms : Sg → Sto → R (List D)} {p pos : Pos} (hl : ∀ σ S vs S1, ms σ S = .ok vs S1 → vs.length = 2) (hg : Gl X "range") (hm : X.mg "range" = none) (ha : PA X [a, b] (tDs X.K xi W ms)) (hp : plainE a = true) (hp2 : plainE b = true) :
    PI X tg (.Call (.Name "range" p) [a, b] [] pos) (tDI X.K xi W fun σ S => (ms σ S).bind fun vs S1 => rngOf vs S1) := (pi_range2 hg hm ha ((starEach_plain hp).trans (congrArg _ (starEach_one hp2))) (starEach_one hp2)).mono fun τ H Q h => by
  obtain ⟨ι, σ, S, r, g, h⟩ := h
  refine ⟨ι, σ, S, r, g, ?_⟩
  dsimp only at h ⊢
  cases em : ms σ S with
  | no => rw [em] at h; exact h.elim
  | exc x S1 => rw [em] at h; exact h
  | ok ds S1 =>
    rw [em] at h
    intro ι1 H1 vs e1 r1 q1
    obtain ⟨i, j, rfl, b, fin⟩ : ∃ i j, ds = [.int i, .int j] ∧ (-(2 ^ 62) ≤ i ∧ i < 2 ^ 62 ∧ -(2 ^ 62) ≤ j ∧ j < 2 ^ 62) ∧ PostI X.K xi (fun c d H' => W c d τ H') ι S H Q (.ok (.rng i (j - i).toNat) S1) := by
      have h2 : PostI X.K xi (fun c d H' => W c d τ H') ι S H Q (rngOf ds S1) := h
      have l := hl σ S ds S1 em
      unfold rngOf at h2
      split at h2
      · cases l
      · obtain ⟨c, h2⟩ := PostI.req h2
        exact ⟨_, _, rfl, ⟨c.1.1, c.1.2, c.2.1, c.2.2⟩, h2⟩
      · exact h2.elim
    cases q1 with
    | cons z zs =>
      cases zs with
      | cons z' zs =>
        cases zs
        cases z
        cases z'
        exact ⟨i, j, rfl, b, fin ι1 H1 _ e1 r1 wk_rng0⟩
theorem di_enm {e : Expr} {m : Sg → Sto → R D} {p pos tpos : Pos} {elts : List Expr} {kk : Nat} (hg : Gl X "enumerate") (hm : X.mg "enumerate" = none) (he : PE X e (tD X.K xi W m)) (hp : plainE e = true) :
    PI X (.Tuple elts kk tpos) (.Call (.Name "enumerate" p) [e] [] pos) (tDI X.K xi W fun σ S => (m σ S).bind fun d S1 => match d with
      | .ref n => R.opt (getQ S1 n) fun _ => .ok (.enm n) S1
      | _ => .no) := (pi_enum hg hm (das_cons he das_nil hp) (starEach_one hp)).mono fun τ H Q h => by
  obtain ⟨ι, σ, S, r, g, h⟩ := h
  refine ⟨ι, σ, S, r, g, ?_⟩
  dsimp only at h ⊢
  cases em : m σ S with
  | no => rw [em] at h; exact h.elim
  | exc x S1 => rw [em] at h; exact h
  | ok d S1 =>
    rw [em] at h
    intro ι1 H1 vs e1 r1 q1
    cases q1 with
    | cons z zs =>
      cases zs
      have h2 := h
      rw [R.bind_ok] at h2
      cases z with
      | ref hz =>
        obtain ⟨xs, ex, h2⟩ := PostI.opt h2
        obtain ⟨us, g1, g2⟩ := r1.getQ hz ex
        exact ⟨_, us, rfl, g1, h2 ι1 H1 _ e1 r1 (wk_enm hz)⟩
      | _ => exact h2.elim
theorem di_zip {a b : Expr} {ma mb : Sg → Sto → R D} {p pos tpos : Pos} {elts : List Expr} {kk : Nat} (hg : Gl X "zip") (hm : X.mg "zip" = none) (ha : PE X a (tD X.K xi W ma)) (hb : PE X b (tD X.K xi W mb)) (hp : plainE a = true) (hp2 : plainE b = true) :
    PI X (.Tuple elts kk tpos) (.Call (.Name "zip" p) [a, b] [] pos) (tDI X.K xi W fun σ S => (ma σ S).bind fun x S1 => (mb σ S1).bind fun y S2 => match x, y with
      | .ref m, .ref n => R.opt (getQ S2 m) fun _ => R.opt (getQ S2 n) fun _ => .ok (.zip m n) S2
      | _, _ => .no) := (pi_zip hg hm (das_cons ha (das_cons hb das_nil hp2) hp) (starEach_plain hp) (by rw [starEach_one hp2]; rfl)).mono fun τ H Q h => by
  obtain ⟨ι, σ, S, r, g, h⟩ := h
  refine ⟨ι, σ, S, r, g, ?_⟩
  dsimp only at h ⊢
  cases em : ma σ S with
  | no => rw [em] at h; exact h.elim
  | exc x S1 => rw [em] at h; exact h
  | ok d S1 =>
    rw [em] at h
    rw [R.bind_ok] at h ⊢
    cases em2 : mb σ S1 with
    | no => rw [em2] at h; exact h.elim
    | exc x S1 => rw [em2] at h; exact h
    | ok d2 S2 =>
      rw [em2] at h
      intro ι1 H1 vs e1 r1 q1
      cases q1 with
      | cons z zs =>
        cases zs with
        | cons z2 zs =>
          cases zs
          have h2 := h
          rw [R.bind_ok] at h2
          cases z with
          | ref hz =>
            cases z2 with
            | ref hz2 =>
              obtain ⟨xs, ex, h2⟩ := PostI.opt h2
              obtain ⟨ys, ey, h2⟩ := PostI.opt h2
              obtain ⟨us, g1, g2⟩ := r1.getQ hz ex
              obtain ⟨ws, f1, f2⟩ := r1.getQ hz2 ey
              exact ⟨_, _, us, ws, rfl, g1, f1, h2 ι1 H1 _ e1 r1 (wk_zip hz hz2)⟩
            | _ => exact h2.elim
          | _ => exact h2.elim
end
end Cl

/-! part Py10 -/
/-! Cl: targets, statements, loops, comprehensions. -/
namespace Cl
open PySem PySem.Spec PyProof.Rows L2
/-! ### how a statement ends -/
section
variable {K : Fr'} {xi : XI}
def PostS (K : Fr') (xi : XI) (W : WX) (G : Ends) (ι : List Addr) (S : Sto) (H : Hp) : RS → Prop
  | .next σ' S' => ∀ ι' H' τ', Ext ι S H ι' S' H' → RelS K ι' S' H' → RelG K ι' H' σ' τ' → G.nx τ' H'
  | .ret d S' => ∀ ι' H' v, Ext ι S H ι' S' H' → RelS K ι' S' H' → RelD K ι' H' d v → G.rt v H'
  | .brk σ' S' => ∀ ι' H' τ', Ext ι S H ι' S' H' → RelS K ι' S' H' → RelG K ι' H' σ' τ' → G.bk τ' H'
  | .cont σ' S' => ∀ ι' H' τ', Ext ι S H ι' S' H' → RelS K ι' S' H' → RelG K ι' H' σ' τ' → G.ct τ' H'
  | .exc x σ' S' => ∀ ι' H' τ' cls dd, Ext ι S H ι' S' H' → RelS K ι' S' H' → RelG K ι' H' σ' τ' → RelX K xi ι' S' H' x cls dd → W cls dd τ' H'
  | .no => False
variable {W : WX} {G : Ends} {ι ι1 : List Addr} {S S1 : Sto} {H H1 : Hp}
theorem PostS.mono (e : Ext ι S H ι1 S1 H1) {m : RS} (h : PostS K xi W G ι S H m) : PostS K xi W G ι1 S1 H1 m := by
  cases m with
  | next σ' S' => exact fun ι' H' τ' e' r' q => h ι' H' τ' (e.trans e') r' q
  | ret σ' S' => exact fun ι' H' τ' e' r' q => h ι' H' τ' (e.trans e') r' q
  | brk σ' S' => exact fun ι' H' τ' e' r' q => h ι' H' τ' (e.trans e') r' q
  | cont σ' S' => exact fun ι' H' τ' e' r' q => h ι' H' τ' (e.trans e') r' q
  | exc x σ' S' => exact fun ι' H' τ' cls dd e' r' q => h ι' H' τ' cls dd (e.trans e') r' q
  | no => exact h
def tSm (K : Fr') (xi : XI) (W : WX) (m : Sg → Sto → RS) : TS := fun G τ H => ∃ ι σ S, RelS K ι S H ∧ RelG K ι H σ τ ∧ PostS K xi W G ι S H (m σ S)
theorem PostS.at {α β : Type} {rel : List Addr → Hp → α → β → Prop} {σ : Sg} {τ : Sv} (r : RelS K ι S H) (g : RelG K ι H σ τ) {m : R α} {f : α → Sto → RS} (h : PostS K xi W G ι S H (m.at σ f)) :
    PostR K xi rel (fun c d H' => W c d τ H') ι S H (fun y H1 => ∃ ι1 a S1, Ext ι S H ι1 S1 H1 ∧ RelS K ι1 S1 H1 ∧ rel ι1 H1 a y ∧ PostS K xi W G ι1 S1 H1 (f a S1)) m := by
  cases m with
  | ok a S' => exact fun ι' H' y e r' q => ⟨ι', a, S', e, r', q, h.mono e⟩
  | exc x S' => exact fun ι' H' cls dd e r' q => h ι' H' τ cls dd e r' (g.mono r e) q
  | no => exact h
theorem PostS.opt {γ : Type} {o : Option γ} {f : γ → RS} (h : PostS K xi W G ι S H (RS.opt o f)) : ∃ a, o = some a ∧ PostS K xi W G ι S H (f a) := by
  cases o with
  | none => exact h.elim
  | some a => exact ⟨a, rfl, h⟩
theorem PostS.seq {m : RS} {f : Sg → Sto → RS} (h : PostS K xi W G ι S H (m.seq f)) : PostS K xi W { G with nx := fun τ H => tSm K xi W f G τ H } ι S H m := by
  cases m with
  | next σ' S' => exact fun ι' H' τ' e r q => ⟨ι', σ', S', r, q, h.mono e⟩
  | ret σ' S' => exact h
  | brk σ' S' => exact h
  | cont σ' S' => exact h
  | exc x σ' S' => exact h
  | no => exact h
theorem PostS.now {σ : Sg} {τ : Sv} (h : PostS K xi W G ι S H (.next σ S)) (r : RelS K ι S H) (g : RelG K ι H σ τ) : G.nx τ H := h ι H τ .refl r g
end

/-! ### targets -/
def setV (τ : Sv) : List Nat → List V → Sv
  | i :: is, v :: vs => setV (τ.set i (some v)) is vs
  | _, _ => τ
theorem RelG.setAll {K : Fr'} {ι : List Addr} {H : Hp} : ∀ {is : List Nat} {σ : Sg} {τ : Sv} {ds : List D} {vs : List V}, RelG K ι H σ τ → RelDs K ι H ds vs → RelG K ι H (Cl.setAll σ is ds) (setV τ is vs)
  | [], _, _, _, _, g, _ => g
  | _ :: _, _, _, _, _, g, .nil => g
  | i :: is, _, _, _, _, g, .cons h hs => RelG.setAll (is := is) (g.set i h) hs
def gAll (is : List Nat) : TGs := fun vs τ H Q => vs.length = is.length ∧ Q (setV τ is vs) H
/-- what a target takes -/
def tTg (K : Fr') (tg : List Nat) (tup : Bool) : TG := fun v τ H Q => match tup with
  | false => ∃ i, tg = [i] ∧ Q (τ.set i (some v)) H
  | true => ∃ a xs, v = .ref a ∧ (SqT K H a xs ∨ SqL K H a xs) ∧ xs.length = tg.length ∧ Q (setV τ tg xs) H
theorem tgt_ok {K : Fr'} {ι : List Addr} {S : Sto} {H : Hp} {tg : List Nat} {tup : Bool} {d : D} {v : V} {σ σ' : Sg} {τ : Sv} {Q : L2.St → Hp → Prop} (r : RelS K ι S H) (g : RelG K ι H σ τ) (q : RelD K ι H d v) (h : target tg tup d σ S = some σ')
    (k : ∀ τ', RelG K ι H σ' τ' → Q τ' H) : tTg K tg tup v τ H Q := by
  cases tup with
  | false =>
    cases tg with
    | nil => cases h
    | cons i is =>
      cases is with
      | cons _ _ => cases h
      | nil =>
        cases h
        exact ⟨i, rfl, k _ (g.set i q)⟩
  | true =>
    cases q with
    | tup h1 h2 =>
      simp only [target] at h
      split at h
      · rename_i hl
        cases h
        exact ⟨_, _, rfl, .inl h1, by rw [← h2.length]; exact hl, k _ (g.setAll h2)⟩
      · cases h
    | ref h1 =>
      simp only [target] at h
      split at h
      · rename_i ds e
        obtain ⟨vs, g1, g2⟩ := r.getQ h1 e
        split at h
        · rename_i hl
          cases h
          exact ⟨_, vs, rfl, .inr g1, by rw [← g2.length]; exact hl, k _ (g.setAll g2)⟩
        · cases h
      · cases h
    | _ => cases h
/-- the names of a target -/
def namesOf : List Expr → Option (List Str)
  | [] => some []
  | .Name x _ :: es => (namesOf es).map (x :: ·)
  | _ => none
def locB (sc : Scope) (x : Str) : Bool := match sc.names.lookup x with
  | some .local => true
  | some .cell => true
  | _ => false
theorem loc_of {sc : Scope} {x : Str} (h : locB sc x = true) : Loc sc x := by
  unfold locB at h
  split at h
  · rename_i e; exact .inl e
  · rename_i e; exact .inr e
  · cases h
section
variable {X : Cx} {pos : Pos}
/-- a name that may be stored -/
structure Stor (X : Cx) (i : Nat) (x : Str) : Prop where
  ix : X.N[i]? = some x
  loc : Loc X.env.scope x
  fn : X.fn x = true ∨ X.env.scope.names.lookup x = some .local
inductive Stors (X : Cx) : List Nat → List Expr → Prop
  | nil : Stors X [] []
  | cons {i : Nat} {x : Str} {p : Pos} {is : List Nat} {es : List Expr} : Stor X i x → Stors X is es → Stors X (i :: is) (.Name x p :: es)
theorem pgs_names (hN : X.N.Nodup) : ∀ {is : List Nat} {es : List Expr}, Stors X is es → PGs X es (gAll is)
  | _, _, .nil => ⟨fun pins s σ H vs us Q I r h => by
      obtain ⟨e, h⟩ := h
      cases vs with
      | nil => exact pgs_nil.run pins s σ H [] us Q I r ⟨rfl, h⟩
      | cons _ _ => cases e⟩
  | _, _, .cons s t => ⟨fun pins sh σ H vs us Q I r h => by
      obtain ⟨e, h⟩ := h
      cases vs with
      | nil => cases e
      | cons v vs => exact (pgs_cons (pg_name hN s.ix s.loc s.fn) (pgs_names hN t)).run pins sh σ H (v :: vs) us Q I r ⟨v, vs, rfl, by simpa using e, h⟩⟩
theorem Stors.length : ∀ {is : List Nat} {es : List Expr}, Stors X is es → (assignEach es X.env).length = is.length
  | _, _, .nil => rfl
  | _, _, .cons s t => by
    have := Stors.length t
    simp [assignEach, this]
theorem Stors.plain : ∀ {is : List Nat} {es : List Expr}, Stors X is es → (assignEach es X.env).findIdx? (·.1) = none
  | _, _, .nil => rfl
  | _, _, .cons s t => by
    have := Stors.plain t
    simp [assignEach, List.findIdx?_cons, this]
/-- a target, whole -/
def TgOk (X : Cx) (tg : List Nat) (tup : Bool) (e : Expr) : Prop := match tup with
  | false => ∃ i x p, tg = [i] ∧ e = .Name x p ∧ Stor X i x
  | true => ∃ es k p, e = .Tuple es k p ∧ Stors X tg es
theorem pg_tg {tg : List Nat} {tup : Bool} {e : Expr} (hc : X.calm = true) (hN : X.N.Nodup) (ok : TgOk X tg tup e) : PG X e (tTg X.K tg tup) := by
  cases tup with
  | false =>
    obtain ⟨i, x, p, rfl, rfl, s⟩ := ok
    refine ⟨fun pins sh σ H v u Q I r h => ?_⟩
    obtain ⟨j, e, h⟩ := h
    cases e
    exact (pg_name hN s.ix s.loc s.fn).run pins sh σ H v u Q I r h
  | true =>
    obtain ⟨es, k, p, rfl, s⟩ := ok
    refine ⟨fun pins sh σ H v u Q I r h => ?_⟩
    obtain ⟨a, xs, rfl, hq, hl, h⟩ := h
    rcases hq with hq | hq
    · exact (pg_tup hc (pgs_names hN s) s.length s.plain).run pins sh σ H _ u Q I r ⟨a, xs, rfl, hq, hl, hl, h⟩
    · exact (pg_lst hc (pgs_names hN s) s.length s.plain).run pins sh σ H _ u Q I r ⟨a, xs, rfl, hq, hl, hl, h⟩
end

/-! ### small statements -/
section
variable {X : Cx} {xi : XI} {W : WX} {pos : Pos}
def notComp : Expr → Bool
  | .ListComp .. => false
  | .SetComp .. => false
  | .DictComp .. => false
  | _ => true
theorem swaps_plain {e : Expr} {t : Option Expr} {l : Nat} {env : Env} (h : notComp e = true) : swapsWith e t l env = pure false := by
  cases e <;> first | rfl | cases h
theorem dss_nil : PSs X [] (tSm X.K xi W fun σ S => .next σ S) := pss_nil.mono fun G τ H ⟨_, _, _, r, g, h⟩ => h.now r g
theorem dss_one {st : Stmt} {m : Sg → Sto → RS} (h : PS X st (tSm X.K xi W m)) : PSs X [st] (tSm X.K xi W m) := pss_one h
theorem dss_cons {st s2 : Stmt} {rest : List Stmt} {m m2 : Sg → Sto → RS} (h : PS X st (tSm X.K xi W m)) (h2 : PSs X (s2 :: rest) (tSm X.K xi W m2)) : PSs X (st :: s2 :: rest) (tSm X.K xi W fun σ S => (m σ S).seq m2) :=
  (pss_cons h h2).mono fun G τ H ⟨ι, σ, S, r, g, h⟩ => ⟨ι, σ, S, r, g, h.seq⟩
theorem ds_set {i : Nat} {x : Str} {p : Pos} {e : Expr} {m : Sg → Sto → R D} (hN : X.N.Nodup) (s : Stor X i x) (he : PE X e (tD X.K xi W m)) (hs : swapsWith e (some (.Name x p)) pos.line X.env = pure false) :
    PS X (.Assign [.Name x p] e pos) (tSm X.K xi W fun σ S => (m σ S).at σ fun d S1 => .next (σ.set i (some d)) S1) := (ps_set hN s.ix s.loc he hs s.fn).mono fun G τ H ⟨ι, σ, S, r, g, h⟩ => by
  refine ⟨ι, σ, S, r, g, (PostS.at r g h).imp ?_⟩
  rintro y H1 ⟨ι1, d, S1, e1, r1, q1, h1⟩
  exact h1.now r1 ((g.mono r e1).set i q1)
theorem ds_sets {tg : List Nat} {e : Expr} {es : List Expr} {k : Nat} {p : Pos} {m : Sg → Sto → R D} (hc : X.calm = true) (hN : X.N.Nodup) (ok : Stors X tg es) (he : PE X e (tD X.K xi W m)) (hs : swapsWith e (some (.Tuple es k p)) pos.line X.env = pure false)
    (hw : swappedStores [.Tuple es k p] e X.env = pure none) :
    PS X (.Assign [.Tuple es k p] e pos) (tSm X.K xi W fun σ S => (m σ S).at σ fun d S1 => RS.opt (target tg true d σ S1) fun σ1 => .next σ1 S1) :=
  (ps_asg he (pg_tg hc hN (tup := true) ⟨es, k, p, rfl, ok⟩) hs hw (by simp [assignEach])).mono fun G τ H ⟨ι, σ, S, r, g, h⟩ => by
    refine ⟨ι, σ, S, r, g, (PostS.at r g h).imp ?_⟩
    rintro y H1 ⟨ι1, d, S1, e1, r1, q1, h1⟩
    obtain ⟨σ1, hσ, h1⟩ := PostS.opt h1
    exact tgt_ok r1 (g.mono r e1) q1 hσ fun τ' g' => h1.now r1 g'
theorem ds_expr {e : Expr} {m : Sg → Sto → R D} (he : PE X e (tD X.K xi W m)) (hs : notComp e = true) : PS X (.Expr e pos) (tSm X.K xi W fun σ S => (m σ S).at σ fun _ S1 => .next σ S1) :=
  (ps_expr he (swaps_plain hs)).mono fun G τ H ⟨ι, σ, S, r, g, h⟩ => by
    refine ⟨ι, σ, S, r, g, (PostS.at r g h).imp ?_⟩
    rintro y H1 ⟨ι1, d, S1, e1, r1, q1, h1⟩
    exact h1.now r1 (g.mono r e1)
theorem ds_ret {e : Expr} {m : Sg → Sto → R D} (he : PE X e (tD X.K xi W m)) : PS X (.Return (some e) pos) (tSm X.K xi W fun σ S => (m σ S).at σ fun d S1 => .ret d S1) :=
  (ps_ret he).mono fun G τ H ⟨ι, σ, S, r, g, h⟩ => by
    refine ⟨ι, σ, S, r, g, (PostS.at r g h).imp ?_⟩
    rintro y H1 ⟨ι1, d, S1, e1, r1, q1, h1⟩
    exact h1 ι1 H1 y .refl r1 q1
theorem ds_retn : PS X (.Return none pos) (tSm X.K xi W fun _ S => .ret .non S) := ps_retN.mono fun G τ H ⟨ι, σ, S, r, g, h⟩ => h ι H .non .refl r .non
theorem ds_pass : PS X (.Pass pos) (tSm X.K xi W fun σ S => .next σ S) := ps_pass.mono fun G τ H ⟨ι, σ, S, r, g, h⟩ => h.now r g
theorem ds_brk : PS X (.Break pos) (tSm X.K xi W fun σ S => .brk σ S) := ps_break.mono fun G τ H ⟨ι, σ, S, r, g, h⟩ => h ι H τ .refl r g
theorem ds_cont : PS X (.Continue pos) (tSm X.K xi W fun σ S => .cont σ S) := ps_continue.mono fun G τ H ⟨ι, σ, S, r, g, h⟩ => h ι H τ .refl r g
theorem ds_doc {x j p} : PS X (.Expr (.Constant (.str x) j p) pos) (tSm X.K xi W fun σ S => .next σ S) := ps_doc.mono fun G τ H ⟨ι, σ, S, r, g, h⟩ => h.now r g
theorem ds_if {c : Expr} {a b : List Stmt} {mc : Sg → Sto → R D} {ma mb : Sg → Sto → RS} (hc : PT X c (tDT X.K xi W (tstD mc))) (ha : PSs X a (tSm X.K xi W ma)) (hb : PSs X b (tSm X.K xi W mb)) :
    PS X (.If c a b pos) (tSm X.K xi W fun σ S => (mc σ S).at σ fun t S1 => RS.opt (truth S1 t) fun k => if k then ma σ S1 else mb σ S1) :=
  (ps_if hc ha hb).mono fun G τ H ⟨ι, σ, S, r, g, h⟩ => by
    have h' : PostS X.K xi W G ι S H ((tstD mc σ S).at σ fun k S1 => if k then ma σ S1 else mb σ S1) := by
      unfold tstD
      cases e : mc σ S with
      | ok x S1 =>
        simp only [e, R.bind_ok, R.at_ok] at h ⊢
        cases e2 : truth S1 x with
        | none => rw [e2] at h; exact h
        | some k => rw [e2] at h; exact h
      | exc x S1 => simp only [e] at h; exact h
      | no => simp only [e] at h; exact h
    refine ⟨ι, σ, S, r, g, (PostS.at r g h').imp ?_⟩
    rintro k H1 ⟨ι1, k', S1, e1, r1, rfl, h1⟩
    cases k' with
    | true => exact iteT ⟨ι1, σ, S1, r1, g.mono r e1, h1⟩
    | false => exact iteF ⟨ι1, σ, S1, r1, g.mono r e1, h1⟩
end
end Cl

/-! part Py11 -/
/-! Cl: name += e, a, b = x, y, o[i] = e, while, for, comprehensions. -/
namespace Cl
open PySem PySem.Spec PyProof.Rows L2
section
variable {X : Cx} {xi : XI} {W : WX} {pos : Pos}
/-! ### name op= e -/
theorem iopr_add : OpR X (inplaceOp .Add) (rD2 X.K xi (augop .add)) := by
  rintro pins s τ H x y v u Q I rx ry ⟨ι, S, d, e, E, r, qd, qe, h⟩
  cases qd with
  | int i =>
    cases qe with
    | int j => exact iop_add pins s τ H _ _ v u Q I rx ry ⟨i, j, rfl, rfl, h.now r (.int _)⟩
    | _ => exact False.elim h
  | str h1 h2 =>
    rename_i s1
    cases qe with
    | str h3 h4 =>
      rename_i s2
      obtain ⟨hl, h⟩ := PostR.req (show PostR X.K xi (RelD X.K) E ι S H Q (R.req (s1.length + s2.length ≤ LIM) (.ok (.str (s1 ++ s2)) S)) from h)
      refine iop_add_str pins s τ H _ _ v u Q I rx ry ⟨_, _, rfl, rfl, by rw [SX.S_len, SX.S_len, ← LIM_eq]; exact hl, ?_⟩
      rw [SX.S_cat]
      exact h.now r (.str (by rw [List.length_append]; exact hl) (ascii_append h2 h4))
    | _ => exact False.elim h
  | ref h1 =>
    rename_i m a
    cases qe with
    | ref h2 =>
      rename_i n b
      obtain ⟨s1, e1, h⟩ := PostR.opt (show PostR X.K xi (RelD X.K) E ι S H Q (R.opt (getL S m) fun s => R.opt (getL S n) fun t => R.req (s.length + t.length ≤ LIM) (.ok (.ref m) (S.set m (.lst (s ++ t))))) from h)
      obtain ⟨s2, e2, h⟩ := PostR.opt h
      obtain ⟨hl, h⟩ := PostR.req h
      obtain ⟨hS, vs, f1, g1⟩ := r.getL h1 e1
      obtain ⟨_, us, f2, g2⟩ := r.getL h2 e2
      exact iop_ext pins s τ H _ _ v u Q I rx ry ⟨a, b, vs, us, rfl, rfl, f1, f2, by rw [← g1.length, ← g2.length, ← LIM_eq]; exact hl, h.wr r h1 hS (g1.append g2) (.ref h1)⟩
    | _ => exact False.elim h
  | _ => exact False.elim h
theorem iopr_sub : OpR X (inplaceOp .Sub) (rD2 X.K xi (augop .sub)) := by
  rintro pins s τ H x y v u Q I rx ry ⟨ι, S, d, e, E, r, qd, qe, h⟩
  cases qd with
  | int i =>
    cases qe with
    | int j => exact iop_sub pins s τ H _ _ v u Q I rx ry ⟨i, j, rfl, rfl, h.now r (.int _)⟩
    | _ => exact False.elim h
  | _ => exact False.elim h
theorem iopr_all (o : Op) : OpR X (inplaceOp (opOf o)) (rD2 X.K xi (augop o)) := by
  cases o with
  | add => exact iopr_add
  | sub => exact iopr_sub
  | _ => rintro pins s τ H x y v u Q I rx ry ⟨ι, S, d, e, E, r, qd, qe, h⟩; exact False.elim h
theorem ds_aug {i : Nat} {x : Str} {p : Pos} {o : Op} {e : Expr} {m : Sg → Sto → R D} (hN : X.N.Nodup) (s : Stor X i x) (he : PE X e (tD X.K xi W m)) :
    PS X (.AugAssign (.Name x p) (opOf o) e pos) (tSm X.K xi W fun σ S => match σ[i]? with
      | some (some x) => (m σ S).at σ fun y S1 => (augop o x y S1).at σ fun z S2 => .next (σ.set i (some z)) S2
      | _ => .no) := (ps_aug hN s.ix s.loc he (iopr_all (xi := xi) o) s.fn).mono fun G τ H ⟨ι, σ, S, r, g, h⟩ => by
  dsimp only at h
  cases ed : σ[i]? with
  | none => rw [ed] at h; exact h.elim
  | some od =>
    cases od with
    | none => rw [ed] at h; exact h.elim
    | some d =>
      rw [ed] at h
      obtain ⟨v, h1, h2⟩ := g.at_ i d ed
      refine ⟨v, h1, ι, σ, S, r, g, (PostS.at r g h).imp ?_⟩
      rintro y H1 ⟨ι1, e', S1, e1, r1, q1, h1⟩
      have g1 := g.mono r e1
      refine ⟨ι1, S1, d, e', _, r1, h2.mono r e1, q1, (PostS.at r1 g1 h1).imp ?_⟩
      rintro z H2 ⟨ι2, z', S2, e2, r2, q2, h2⟩
      exact h2.now r2 ((g1.mono r1 e2).set i q2)
/-! ### o[i] = e -/
theorem swaps_sub {e o i : Expr} {p : Pos} {l : Nat} {env : Env} : swapsWith e (some (.Subscript o i p)) l env = pure false := by cases e <;> rfl
theorem ds_seti {o i e : Expr} {p : Pos} {mo mi me : Sg → Sto → R D} (ho : PE X o (tD X.K xi W mo)) (hi : PE X i (tD X.K xi W mi)) (he : PE X e (tD X.K xi W me)) (hn : notSlice i = true) :
    PS X (.Assign [.Subscript o i p] e pos) (tSm X.K xi W fun σ S => (me σ S).at σ fun v S1 => (mo σ S1).at σ fun x S2 => (mi σ S2).at σ fun y S3 => RS.opt (Cl.setItem x y v S3) fun S4 => .next σ S4) :=
  (ps_asg he (pg_sub ho hi set_list (by cases i <;> first | (intro _; rfl) | cases hn)) (show swapsWithSole [.Subscript o i p] e pos.line X.env = pure false from swaps_sub (o := o) (i := i) (p := p) (l := pos.line) (env := X.env)) (by rfl) (by rfl)).mono fun G τ H ⟨ι, σ, S, r, g, h⟩ => by
    refine ⟨ι, σ, S, r, g, (PostS.at r g h).imp ?_⟩
    rintro v H1 ⟨ι1, d, S1, e1, r1, q1, h1⟩
    have g1 := g.mono r e1
    refine ⟨ι1, σ, S1, r1, g1, (PostS.at r1 g1 h1).imp ?_⟩
    rintro x H2 ⟨ι2, d2, S2, e2, r2, q2, h2⟩
    have g2 := g1.mono r1 e2
    refine ⟨ι2, σ, S2, r2, g2, (PostS.at r2 g2 h2).imp ?_⟩
    rintro y H3 ⟨ι3, d3, S3, e3, r3, q3, h3⟩
    obtain ⟨S4, hS, h3⟩ := PostS.opt h3
    have g3 := g2.mono r2 e3
    have q1' := (q1.mono r1 e2).mono r2 e3
    cases q2 with
    | ref hm =>
      rename_i m a
      have hm' := e3.get hm
      cases q3 with
      | int k =>
        simp only [Cl.setItem] at hS
        split at hS
        · rename_i xs ex
          obtain ⟨j, hj, rfl⟩ := Option.map_eq_some_iff.mp hS
          obtain ⟨h0, vs, f1, f2⟩ := r3.getL hm' ex
          have f3 := f2.set q1' j
          have ew : Ext ι3 S3 H3 ι3 (S3.set m (.lst (xs.set j d))) (upd H3 a (.lst (vs.set j v))) := Ext.write hm' h0 rfl rfl
          exact ⟨a, vs, k, j, rfl, rfl, f1, by rw [← f2.length]; exact hj, h3 ι3 _ τ ew (r3.write hm' h0 rfl f3) (g3.mono r3 ew)⟩
        · cases hS
      | _ => cases hS
    | _ => cases hS
/-! ### a, b = x, y -/
theorem ds_par0 {is : List Nat} {ts es : List Expr} {k k2 : Nat} {pt pt2 : Pos} {ms : Sg → Sto → R (List D)} (hc : X.calm = true) (hN : X.N.Nodup) (ok : Stors X is ts) (hl : is.length ≤ LIM) (ha : PA X es (tDs X.K xi W ms))
    (hw : swappedStores [.Tuple ts k pt] (.Tuple es k2 pt2) X.env = pure none) :
    PS X (.Assign [.Tuple ts k pt] (.Tuple es k2 pt2) pos) (tSm X.K xi W fun σ S => (ms σ S).at σ fun ds S1 => if ds.length = is.length then .next (Cl.setAll σ is ds) S1 else .no) :=
  (ps_asg (pe_tup ha) (pg_tup hc (pgs_names hN ok) ok.length ok.plain) rfl hw (by simp [assignEach])).mono fun G τ H ⟨ι, σ, S, r, g, h⟩ => by
    refine ⟨ι, σ, S, r, g, (PostS.at r g h).imp ?_⟩
    rintro vs H1 ⟨ι1, ds, S1, e1, r1, q1, h1⟩
    split at h1
    · rename_i hd
      have hv : vs.length = is.length := by rw [← q1.length]; exact hd
      refine ⟨by rw [hv, ← LIM_eq]; exact hl, fun p hp => ⟨p, vs, rfl, .inl (.inl upd_same), hv, hv, ?_⟩⟩
      have ex := Ext.put (o := .tup vs) r1 hp
      exact h1 ι1 _ _ ex (r1.put hp) (((g.mono r e1).mono r1 ex).setAll (q1.mono r1 ex))
    · exact h1.elim
theorem ds_par2 {i j : Nat} {x y : Str} {a b : Expr} {px py pt pt2 : Pos} {kt k2} {ms : Sg → Sto → R (List D)} (hc : X.calm = true) (hN : X.N.Nodup) (hi : X.N[i]? = some x) (hj : X.N[j]? = some y) (hij : i ≠ j)
    (hx : X.env.scope.names.lookup x = some .local) (hy : X.env.scope.names.lookup y = some .local) (ha : PA X [a, b] (tDs X.K xi W ms))
    (hw : swappedStores [.Tuple [.Name x px, .Name y py] kt pt] (.Tuple [a, b] k2 pt2) X.env = pure (some [x, y])) :
    PS X (.Assign [.Tuple [.Name x px, .Name y py] kt pt] (.Tuple [a, b] k2 pt2) pos) (tSm X.K xi W fun σ S => (ms σ S).at σ fun ds S1 => if ds.length = [i, j].length then .next (Cl.setAll σ [i, j] ds) S1 else .no) :=
  (ps_par hc hN hi hj hij hx hy ha hw rfl).mono fun G τ H ⟨ι, σ, S, r, g, h⟩ => by
    refine ⟨ι, σ, S, r, g, (PostS.at r g h).imp ?_⟩
    rintro vs H1 ⟨ι1, ds, S1, e1, r1, q1, h1⟩
    split at h1
    · rename_i hd
      have g1 := (g.mono r e1).setAll (is := [i, j]) q1
      have fin := h1.now r1 g1
      cases q1 with
      | nil => cases hd
      | cons z zs =>
        cases zs with
        | nil => cases hd
        | cons z2 zs =>
          cases zs with
          | nil => exact ⟨_, _, rfl, fin⟩
          | cons _ _ => simp at hd
    · exact h1.elim
theorem ds_par3 {i j l : Nat} {x y z : Str} {a b c : Expr} {px py pz pt pt2 : Pos} {kt k2} {ms : Sg → Sto → R (List D)} (hc : X.calm = true) (hN : X.N.Nodup) (hi : X.N[i]? = some x) (hj : X.N[j]? = some y) (hl : X.N[l]? = some z) (hij : i ≠ j) (hil : i ≠ l) (hjl : j ≠ l)
    (hx : X.env.scope.names.lookup x = some .local) (hy : X.env.scope.names.lookup y = some .local) (hz : X.env.scope.names.lookup z = some .local) (ha : PA X [a, b, c] (tDs X.K xi W ms))
    (hw : swappedStores [.Tuple [.Name x px, .Name y py, .Name z pz] kt pt] (.Tuple [a, b, c] k2 pt2) X.env = pure (some [x, y, z])) :
    PS X (.Assign [.Tuple [.Name x px, .Name y py, .Name z pz] kt pt] (.Tuple [a, b, c] k2 pt2) pos) (tSm X.K xi W fun σ S => (ms σ S).at σ fun ds S1 => if ds.length = [i, j, l].length then .next (Cl.setAll σ [i, j, l] ds) S1 else .no) :=
  (ps_par3 hc hN hi hj hl hij hil hjl hx hy hz ha hw rfl).mono fun G τ H ⟨ι, σ, S, r, g, h⟩ => by
    refine ⟨ι, σ, S, r, g, (PostS.at r g h).imp ?_⟩
    rintro vs H1 ⟨ι1, ds, S1, e1, r1, q1, h1⟩
    split at h1
    · rename_i hd
      have g1 := (g.mono r e1).setAll (is := [i, j, l]) q1
      have fin := h1.now r1 g1
      cases q1 with
      | nil => cases hd
      | cons z zs =>
        cases zs with
        | nil => cases hd
        | cons z2 zs =>
          cases zs with
          | nil => cases hd
          | cons z3 zs =>
            cases zs with
            | nil => exact ⟨_, _, _, rfl, fin⟩
            | cons _ _ => simp at hd
    · exact h1.elim

/-! ### while -/
theorem PostS.turn {K : Fr'} {G : Ends} {ι : List Addr} {S : Sto} {H : Hp} {m : RS} {k : Sg → Sto → RS} (h : PostS K xi W G ι S H (match m with
      | .next σ1 S1 => k σ1 S1
      | .cont σ1 S1 => k σ1 S1
      | .brk σ1 S1 => .next σ1 S1
      | r => r)) {N : L2.St → Hp → Prop} (hk : ∀ ι' σ' S' H' τ', Ext ι S H ι' S' H' → RelS K ι' S' H' → RelG K ι' H' σ' τ' → PostS K xi W G ι S H (k σ' S') → N τ' H') : PostS K xi W { G with nx := N, ct := N, bk := G.nx } ι S H m := by
  cases m with
  | next σ1 S1 => exact fun ι' H' τ' e r g => hk ι' σ1 S1 H' τ' e r g h
  | cont σ1 S1 => exact fun ι' H' τ' e r g => hk ι' σ1 S1 H' τ' e r g h
  | brk σ1 S1 => exact h
  | ret d S1 => exact h
  | exc x σ1 S1 => exact h
  | no => exact h
theorem ds_while {c : Expr} {body : List Stmt} {mc : Sg → Sto → R Bool} {mb : Sg → Sto → RS} (hp : PassesOwn (model X.prog X.w) X.A X.env X.xe) (hc : PT X c (tDT X.K xi W mc)) (hb : PSs X body (tSm X.K xi W mb)) :
    PS X (.While c body [] pos) (tSm X.K xi W fun σ S => whileLoop mc mb FUEL σ S) := (ps_while hp hc hb).mono fun G τ H ⟨ι, σ, S, r, g, h⟩ => by
  refine ⟨fun m τ H => ∃ ι σ S, RelS X.K ι S H ∧ RelG X.K ι H σ τ ∧ PostS X.K xi W G ι S H (whileLoop mc mb m σ S), ⟨FUEL, ι, σ, S, r, g, h⟩, ?_⟩
  rintro m τ H ⟨ι, σ, S, r, g, h⟩
  cases m with
  | zero => exact h.elim
  | succ n =>
    unfold whileLoop at h
    refine ⟨ι, σ, S, r, g, (PostS.at r g h).imp ?_⟩
    rintro k H1 ⟨ι1, k', S1, e1, r1, rfl, h1⟩
    have g1 := g.mono r e1
    cases k' with
    | false => exact iteF (PostS.now (show PostS X.K xi W G ι1 S1 H1 (.next σ S1) from h1) r1 g1)
    | true =>
      refine iteT ⟨fun τ' H' => ∃ ι σ S, RelS X.K ι S H' ∧ RelG X.K ι H' σ τ' ∧ PostS X.K xi W G ι S H' (whileLoop mc mb n σ S), fun τ' H' z => ⟨n, Nat.lt_succ_self n, z⟩, ι1, σ, S1, r1, g1, PostS.turn (k := whileLoop mc mb n) h1 ?_⟩
      exact fun ι' σ' S' H' τ' e' r' g' h' => ⟨ι', σ', S', r', g', h'.mono e'⟩
/-! ### for -/
theorem PostS.atI {K : Fr'} {G : Ends} {ι : List Addr} {S : Sto} {H : Hp} {σ : Sg} {τ : Sv} (r : RelS K ι S H) (g : RelG K ι H σ τ) {m : R Wk} {f : Wk → Sto → RS} (h : PostS K xi W G ι S H (m.at σ f)) :
    PostI K xi (fun c d H' => W c d τ H') ι S H (fun J H1 => ∃ ι1 w S1, Ext ι S H ι1 S1 H1 ∧ RelS K ι1 S1 H1 ∧ WkOk K ι1 S1 H1 w J ∧ PostS K xi W G ι1 S1 H1 (f w S1)) m := by
  cases m with
  | ok a S' => exact fun ι' H' y e r' q => ⟨ι', a, S', e, r', q, h.mono e⟩
  | exc x S' => exact fun ι' H' cls dd e r' q => h ι' H' τ cls dd e r' (g.mono r e) q
  | no => exact h
def notSetE : Expr → Bool
  | .Set .. => false
  | _ => true
theorem fold_of {e : Expr} {env : Env} (h : notSetE e = true) (x : Value) : foldedSetIterable e env x = pure x := by
  cases e <;> first | rfl | cases h
theorem ds_for {tg : List Nat} {tup : Bool} {te iter : Expr} {body : List Stmt} {mi : Sg → Sto → R Wk} {mb : Sg → Sto → RS} (hp : PassesOwn (model X.prog X.w) X.A X.env X.xe) (hc : X.calm = true) (hN : X.N.Nodup) (ok : TgOk X tg tup te)
    (hi : PI X te iter (tDI X.K xi W mi)) (hb : PSs X body (tSm X.K xi W mb)) (hs : notSetE iter = true) :
    PS X (.For te iter body [] pos) (tSm X.K xi W fun σ S => (mi σ S).at σ fun w S1 => forLoop (fun d σ S => RS.opt (target tg tup d σ S) fun σ1 => mb σ1 S) w FUEL 0 σ S1) :=
  (ps_for hp hc hi (pg_tg hc hN ok) hb (fold_of hs)).mono fun G τ H ⟨ι, σ, S, r, g, h⟩ => by
    refine ⟨ι, σ, S, r, g, ?_⟩
    have key := PostS.atI r g h
    revert key
    generalize mi σ S = m0
    intro key
    have imp : ∀ {m0 : R Wk} {Rr Rr' : L2.It → Hp → Prop}, PostI X.K xi (fun c d H' => W c d τ H') ι S H Rr m0 → (∀ J H', Rr J H' → Rr' J H') → PostI X.K xi (fun c d H' => W c d τ H') ι S H Rr' m0 := by
      intro m0 Rr Rr' h i
      cases m0 with
      | ok a S' => exact fun ι' H' y e r' q => i _ _ (h ι' H' y e r' q)
      | exc x S' => exact h
      | no => exact h
    refine imp key ?_
    rintro J H1 ⟨ι1, w, S1, e1, r1, wk, h1⟩
    have g1 := g.mono r e1
    refine ⟨fun i m τ H' => ∃ ι' σ' S', Ext ι1 S1 H1 ι' S' H' ∧ RelS X.K ι' S' H' ∧ RelG X.K ι' H' σ' τ ∧ PostS X.K xi W G ι' S' H' (forLoop (fun d σ S => RS.opt (target tg tup d σ S) fun σ1 => mb σ1 S) w m i σ' S'), ⟨FUEL, ι1, σ, S1, .refl, r1, g1, h1⟩, ?_⟩
    rintro i m τ2 H2 ⟨ι2, σ2, S2, e2, r2, g2, h2⟩
    cases m with
    | zero => exact h2.elim
    | succ n =>
      unfold forLoop at h2
      obtain ⟨o, ho, h2⟩ := PostS.opt h2
      obtain ⟨w1, w2⟩ := wk ι2 S2 H2 i e2 r2
      cases o with
      | none => exact .inl ⟨w1 ho, PostS.now (show PostS X.K xi W G ι2 S2 H2 (.next σ2 S2) from h2) r2 g2⟩
      | some d =>
        obtain ⟨go, yl⟩ := w2 d ho
        refine .inr ⟨go, fun τ' H' => ∃ ι' σ' S', Ext ι1 S1 H1 ι' S' H' ∧ RelS X.K ι' S' H' ∧ RelG X.K ι' H' σ' τ' ∧ PostS X.K xi W G ι' S' H' (forLoop (fun d σ S => RS.opt (target tg tup d σ S) fun σ1 => mb σ1 S) w n (i + 1) σ' S'), fun τ' H' z => ⟨n, Nat.lt_succ_self n, z⟩, fun x H3 hy => ?_⟩
        obtain ⟨e3, r3, q3⟩ := yl x H3 hy
        have g3 := g2.mono r2 e3
        have h3 := PostS.turn (k := forLoop (fun d σ S => RS.opt (target tg tup d σ S) fun σ1 => mb σ1 S) w n (i + 1)) (h2.mono e3) (N := fun τ' H' => ∃ ι' σ' S', Ext ι1 S1 H1 ι' S' H' ∧ RelS X.K ι' S' H' ∧ RelG X.K ι' H' σ' τ' ∧ PostS X.K xi W G ι' S' H' (forLoop (fun d σ S => RS.opt (target tg tup d σ S) fun σ1 => mb σ1 S) w n (i + 1) σ' S'))
          fun ι' σ' S' H' τ' e' r' g' h' => ⟨ι', σ', S', (e2.trans e3).trans e', r', g', h'.mono e'⟩
        obtain ⟨σ4, hσ, h4⟩ := PostS.opt h3
        exact tgt_ok r3 g3 q3 hσ fun τ4 g4 => ⟨ι2, σ4, S2, r3, g4, h4⟩
end
end Cl

/-! part Py12 -/
/-! Cl: list comprehensions. -/
namespace Cl
open PySem PySem.Spec PyProof.Rows L2
theorem wipe_get (τ : Sv) (j : Nat) : ∀ vs : List Nat, (L2.wipe τ vs)[j]? = if j ∈ vs then (if j < τ.length then some none else none) else τ[j]?
  | [] => by simp [L2.wipe]
  | v :: vs => by
    unfold L2.wipe
    by_cases h : v = j
    · subst h
      by_cases hl : v < τ.length
      · rw [List.getElem?_set_self (by rw [wipe_length]; exact hl)]
        simp [hl]
      · rw [List.getElem?_eq_none (by rw [List.length_set, wipe_length]; omega)]
        simp [hl]
    · rw [List.getElem?_set_ne h, wipe_get τ j vs]
      have : (j ∈ v :: vs) ↔ j ∈ vs := by simp [Ne.symm h]
      simp only [this]
theorem wipe_same {τ τ' : Sv} {vs : List Nat} (hl : τ.length = τ'.length) (h : ∀ j, j ∉ vs → τ[j]? = τ'[j]?) : L2.wipe τ vs = L2.wipe τ' vs := by
  apply List.ext_getElem?
  intro j
  rw [wipe_get, wipe_get, hl]
  by_cases hj : j ∈ vs
  · simp only [hj, if_true]
  · simp only [hj, if_false]
    exact h j hj
theorem setV_length : ∀ {is : List Nat} {τ : Sv} {vs : List V}, (setV τ is vs).length = τ.length
  | [], _, _ => rfl
  | _ :: _, _, [] => rfl
  | i :: is, τ, v :: vs => by
    unfold setV
    rw [setV_length, List.length_set]
theorem setV_out {j : Nat} : ∀ {is : List Nat} {τ : Sv} {vs : List V}, j ∉ is → (setV τ is vs)[j]? = τ[j]?
  | [], _, _, _ => rfl
  | _ :: _, _, [], _ => rfl
  | i :: is, τ, v :: vs, h => by
    unfold setV
    rw [setV_out (fun q => h (List.mem_cons_of_mem _ q)), List.getElem?_set_ne (fun q => h (by rw [q]; exact List.mem_cons_self))]
theorem wipe_of {τ τ' : Sv} {vs : List Nat} (hl : τ'.length = τ.length) (h : ∀ j, j ∉ vs → τ'[j]? = τ[j]?) : L2.wipe τ' vs = L2.wipe τ vs := wipe_same hl h
theorem wipe_wipe {τ : Sv} {vs : List Nat} : L2.wipe (L2.wipe τ vs) vs = L2.wipe τ vs := wipe_of (wipe_length _ _) fun j hj => by rw [wipe_get, if_neg hj]
section
variable {K : Fr'} {ι : List Addr} {H : Hp} {S : Sto}
/-! ### a list that the store does not own is written -/
theorem SqT.wr {p a : Addr} {ws us vs : List V} (hp : H p = some (.lst ws)) (h : SqT K H a vs) : SqT K (upd H p (.lst us)) a vs := by
  have ne : ∀ {u : HO}, H a = some u → (∀ xs, u ≠ .lst xs) → a ≠ p := fun hu hn e => by
    subst e
    rw [hp] at hu
    exact hn ws (Option.some.inj hu).symm
  rcases h with (h | ⟨o, h⟩) | h
  · exact .inl (.inl (by rw [upd_ne (ne h fun xs e => by cases e)]; exact h))
  · exact .inl (.inr ⟨o, by rw [upd_ne (ne h fun xs e => by cases e)]; exact h⟩)
  · exact .inr h
mutual
theorem RelD.wr {p : Addr} {ws us : List V} (hp : H p = some (.lst ws)) : ∀ {d : D} {v : V}, RelD K ι H d v → RelD K ι (upd H p (.lst us)) d v
  | _, _, .non => .non
  | _, _, .bl b => .bl b
  | _, _, .int i => .int i
  | _, _, .str h h2 => .str h h2
  | _, _, .tup h hs => .tup (SqT.wr hp h) (RelDs.wr hp hs)
  | _, _, .ref h => .ref h
theorem RelDs.wr {p : Addr} {ws us : List V} (hp : H p = some (.lst ws)) : ∀ {ds : List D} {vs : List V}, RelDs K ι H ds vs → RelDs K ι (upd H p (.lst us)) ds vs
  | _, _, .nil => .nil
  | _, _, .cons h hs => .cons (RelD.wr hp h) (RelDs.wr hp hs)
end
theorem RelS.wr (r : RelS K ι S H) {p : Addr} {ws us : List V} (hp : H p = some (.lst ws)) (no : ¬ Own ι S p) : RelS K ι S (upd H p (.lst us)) := by
  refine ⟨r.len, fun n o a h1 h2 => ?_, r.inj⟩
  have h := r.ob n o a h1 h2
  cases o with
  | lst xs =>
    obtain ⟨vs, e, g⟩ := h
    refine ⟨vs, ?_, g.wr hp⟩
    rw [upd_ne fun z => no ⟨n, _, by rw [← z]; exact h2, h1, rfl⟩]
    exact e
  | scr ns =>
    rcases h with ⟨o, h⟩ | h
    · refine .inl ⟨o, ?_⟩
      rw [upd_ne fun z => by subst z; rw [hp] at h; cases h]
      exact h
    · exact .inr h
  | ins _ _ => exact h.elim
  | dct _ => exact h.elim
/-- it is owned from now on -/
theorem RelS.take (r : RelS K ι S H) {p : Addr} {xs : List D} {vs : List V} (hp : H p = some (.lst vs)) (no : ¬ Own ι S p) (g : RelDs K ι H xs vs) : RelS K (ι ++ [p]) (S ++ [.lst xs]) H := by
  have monos : ∀ {d v}, RelDs K ι H d v → RelDs K (ι ++ [p]) H d v := fun h => RelDs.mono r (S' := S) ⟨⟨[p], rfl⟩, fun a u h n => ⟨h, fun q => by
    obtain ⟨k, o, h1, h2, h3⟩ := q
    have hl : k < ι.length := by rw [r.len]; exact (List.getElem?_eq_some_iff.mp h2).1
    rw [List.getElem?_append_left hl] at h1
    exact n ⟨k, o, h1, h2, h3⟩⟩⟩ h
  have side : ∀ {k : Nat} {o : Ob} {a : Addr}, (S ++ [Ob.lst xs])[k]? = some o → (ι ++ [p])[k]? = some a → (S[k]? = some o ∧ ι[k]? = some a ∧ k < ι.length) ∨ (k = ι.length ∧ a = p ∧ o = .lst xs) := by
    intro k o a h1 h2
    by_cases hk : k < ι.length
    · rw [List.getElem?_append_left hk] at h2
      rw [List.getElem?_append_left (by rw [← r.len]; exact hk)] at h1
      exact .inl ⟨h1, h2, hk⟩
    · rw [List.getElem?_append_right (by omega)] at h2
      rw [List.getElem?_append_right (by rw [← r.len]; omega)] at h1
      have z : k - ι.length = 0 := by
        have := (List.getElem?_eq_some_iff.mp h2).1
        simp at this
        omega
      rw [← r.len] at h1
      rw [z] at h1 h2
      simp at h1 h2
      exact .inr ⟨by omega, h2.symm, h1.symm⟩
  refine ⟨by simp [r.len], fun n o a h1 h2 => ?_, fun m n o q a hm hn im in_ om qm => ?_⟩
  · rcases side h1 h2 with ⟨s1, s2, _⟩ | ⟨rfl, rfl, rfl⟩
    · have h := r.ob n o a s1 s2
      cases o with
      | lst ys =>
        obtain ⟨us, e, g⟩ := h
        exact ⟨us, e, monos g⟩
      | scr ns => exact h
      | ins _ _ => exact h.elim
      | dct _ => exact h.elim
    · exact ⟨vs, hp, monos g⟩
  · rcases side hm im with ⟨s1, i1, l1⟩ | ⟨l1, a1, _⟩
    · rcases side hn in_ with ⟨s2, i2, l2⟩ | ⟨l2, a2, _⟩
      · exact r.inj m n o q a s1 s2 i1 i2 om qm
      · exact absurd ⟨m, o, by rw [← a2]; exact i1, s1, om⟩ no
    · rcases side hn in_ with ⟨s2, i2, l2⟩ | ⟨l2, a2, _⟩
      · exact absurd ⟨n, q, by rw [← a1]; exact i2, s2, qm⟩ no
      · omega
end
/-- what a turn does -/
def turnF (tg : List Nat) (tup : Bool) (vs : List Nat) (mc : Sg → Sto → R Bool) (me : Sg → Sto → R D) (σ : Sg) : D → Sto → R (Option D) := fun d S2 => R.opt (target tg tup d (wipe σ vs) S2) fun σ2 =>
  (mc σ2 S2).bind fun k S3 => if k then (me σ2 S3).bind fun y S4 => .ok (some y) S4 else .ok none S3
def compM (tg : List Nat) (tup : Bool) (vs : List Nat) (mi : Sg → Sto → R Wk) (mc : Sg → Sto → R Bool) (me : Sg → Sto → R D) : Sg → Sto → R D := fun σ S => (mi σ S).bind fun w S1 => (compLoop (turnF tg tup vs mc me σ) w FUEL 0 [] S1).bind fun ys S2 => ins1 S2 (.lst ys)
def noW : WX := fun _ _ _ _ => False
section
variable {X : Cx} {xi : XI} {W : WX} {pos : Pos}
theorem tgt_wipe {K : Fr'} {tg vs : List Nat} {tup : Bool} {v : V} {τ : Sv} {H : Hp} {Q : L2.St → Hp → Prop} (hv : ∀ i ∈ tg, i ∈ vs) (h : tTg K tg tup v (L2.wipe τ vs) H Q) :
    tTg K tg tup v (L2.wipe τ vs) H fun σ2 H2 => L2.wipe σ2 vs = L2.wipe τ vs ∧ Q σ2 H2 := by
  cases tup with
  | false =>
    obtain ⟨i, rfl, q⟩ := h
    refine ⟨i, rfl, ?_, q⟩
    rw [← wipe_wipe (τ := τ) (vs := vs)]
    refine wipe_of (by simp [wipe_length]) fun j hj => ?_
    rw [List.getElem?_set_ne (fun e => hj (by rw [← e]; exact hv i (by simp))), wipe_wipe]
  | true =>
    obtain ⟨a, xs, e, hq, hl, q⟩ := h
    refine ⟨a, xs, e, hq, hl, ?_, q⟩
    rw [← wipe_wipe (τ := τ) (vs := vs)]
    refine wipe_of (by simp [wipe_length, setV_length]) fun j hj => ?_
    rw [setV_out (fun e => hj (hv j e)), wipe_wipe]
theorem imp_lc {tg vs : List Nat} {tup : Bool} {mi : Sg → Sto → R Wk} {mc : Sg → Sto → R Bool} {me : Sg → Sto → R D} {τ : Sv} {H : Hp} {Q : VK} (hv : ∀ i ∈ tg, i ∈ vs) (h : tD X.K xi W (compM tg tup vs mi mc me) τ H Q) :
    tLc (tDI X.K xi W mi) (tTg X.K tg tup) (tDT X.K xi noW mc) (tD X.K xi noW me) vs τ H Q := by
  obtain ⟨ι, σ, S, r, g, h⟩ := h
  refine ⟨ι, σ, S, r, g, ?_⟩
  unfold compM at h
  cases em : mi σ S with
  | no => rw [em] at h; exact h
  | exc x S1 => rw [em] at h; exact h
  | ok w S1 =>
    rw [em, R.bind_ok] at h
    intro ι1 H1 J e1 r1 wk L hL
    have g1 := g.mono r e1
    have key := h.mono e1
    clear h
    have eL := Ext.put (o := .lst []) r1 hL
    refine ⟨fun i m H' => ∃ ι2 S2 acc us, Ext ι1 S1 H1 ι2 S2 H' ∧ RelS X.K ι2 S2 H' ∧ H' L = some (.lst us) ∧ ¬ Own ι2 S2 L ∧ RelDs X.K ι2 H' acc us ∧
      PostR X.K xi (RelD X.K) (fun c d H' => W c d τ H') ι1 S1 H1 Q ((compLoop (turnF tg tup vs mc me σ) w m i acc S2).bind fun ys S2 => ins1 S2 (.lst ys)),
      ⟨FUEL, ι1, S1, [], [], eL, r1.put hL, upd_same, r1.free hL, .nil, key⟩, ?_⟩
    rintro i m H2 ⟨ι2, S2, acc, us, e2, r2, hL2, no2, ga, h2⟩
    cases m with
    | zero => exact h2.elim
    | succ n =>
      unfold compLoop at h2
      obtain ⟨w1, w2⟩ := wk ι2 S2 H2 i e2 r2
      cases ea : w.at i S2 with
      | none => rw [ea] at h2; exact h2.elim
      | some o =>
        rw [ea, R.opt_some] at h2
        cases o with
        | none =>
          refine .inl ⟨w1 ea, ?_⟩
          have fin : Ext ι1 S1 H1 (ι2 ++ [L]) (S2 ++ [.lst acc]) H2 := by
            refine ⟨?_, fun a u hu hn => ?_⟩
            · obtain ⟨l, e⟩ := e2.pre
              exact ⟨l ++ [L], by rw [e, List.append_assoc]⟩
            · obtain ⟨k1, k2⟩ := e2.keep a u hu hn
              refine ⟨k1, fun q => ?_⟩
              rcases own_new r2.len q with q | q
              · exact k2 q
              · subst q
                rw [hL] at hu
                cases hu
          have h3 : PostR X.K xi (RelD X.K) (fun c d H' => W c d τ H') ι1 S1 H1 Q (.ok (.ref S2.length) (S2 ++ [.lst acc])) := h2
          refine h3 (ι2 ++ [L]) H2 (.ref L) fin (r2.take hL2 no2 ga) (.ref ?_)
          rw [← r2.len, List.getElem?_append_right (Nat.le_refl _)]
          simp
        | some d =>
          obtain ⟨go, yl⟩ := w2 d ea
          dsimp only at h2
          -- the turn
          refine .inr ⟨go, fun H' => ∃ m', m' < n + 1 ∧ ∃ ι2 S2 acc us, Ext ι1 S1 H1 ι2 S2 H' ∧ RelS X.K ι2 S2 H' ∧ H' L = some (.lst us) ∧ ¬ Own ι2 S2 L ∧ RelDs X.K ι2 H' acc us ∧
            PostR X.K xi (RelD X.K) (fun c d H' => W c d τ H') ι1 S1 H1 Q ((compLoop (turnF tg tup vs mc me σ) w m' (i + 1) acc S2).bind fun ys S2 => ins1 S2 (.lst ys)), fun H' z => z, fun x H3 hy => ?_⟩
          obtain ⟨e3, r3, q3⟩ := yl x H3 hy
          have gw := ((g1.mono r1 (e2.trans e3)).wipe vs)
          cases et : target tg tup d (wipe σ vs) S2 with
          | none =>
            simp only [turnF, et, R.opt_none] at h2
            exact h2.elim
          | some σ2 =>
            refine tgt_wipe hv (tgt_ok r3 gw q3 et fun τ4 g4 => ?_)
            simp only [turnF, et, R.opt_some] at h2
            obtain ⟨hL3, no3⟩ := e3.keep L _ hL2 no2
            refine ⟨ι2, σ2, S2, r3, g4, ?_⟩
            cases ec : mc σ2 S2 with
            | no => rw [ec] at h2; exact h2.elim
            | exc _ _ => rw [ec] at h2; exact h2.elim
            | ok k S4 =>
              rw [ec] at h2
              rintro ι4 H4 k' e4 r4 rfl
              obtain ⟨hL4, no4⟩ := e4.keep L _ hL3 no3
              have e24 := e3.trans e4
              have ga4 := ga.mono r2 e24
              cases k with
              | false => exact iteF ⟨n, Nat.lt_succ_self n, ι4, S4, acc, us, e2.trans e24, r4, hL4, no4, ga4, h2⟩
              | true =>
                refine iteT ?_
                simp only [R.bind_ok, if_true] at h2
                refine ⟨ι4, σ2, S4, r4, g4.mono r3 e4, ?_⟩
                cases ee : me σ2 S4 with
                | no => rw [ee] at h2; exact h2.elim
                | exc _ _ => rw [ee] at h2; exact h2.elim
                | ok y S5 =>
                  rw [ee] at h2
                  simp only [R.bind_ok] at h2
                  intro ι5 H5 v e5 r5 q5
                  obtain ⟨hL5, no5⟩ := e5.keep L _ hL4 no4
                  have ga5 := ga4.mono r4 e5
                  have hl : acc.length < LIM := by
                    by_cases hl : acc.length < LIM
                    · exact hl
                    · unfold R.req at h2
                      rw [if_neg hl] at h2
                      exact h2.elim
                  rw [R.req_of hl] at h2
                  refine ⟨us, hL5, by rw [← ga5.length, ← LIM_eq]; exact hl, n, Nat.lt_succ_self n, ι5, S5, acc ++ [y], us ++ [v], ?_, r5.wr hL5 no5, upd_same, no5, (ga5.append (.cons q5 .nil)).wr hL5, h2⟩
                  have eb := (e2.trans e24).trans e5
                  refine ⟨eb.pre, fun a u hu hn => ?_⟩
                  obtain ⟨k1, k2⟩ := eb.keep a u hu hn
                  refine ⟨?_, k2⟩
                  rw [upd_ne fun z => by subst z; rw [hL] at hu; cases hu]
                  exact k1
theorem dts_nil : PTs X [] (tDT X.K xi W fun _ S => .ok true S) := ⟨fun pins s τ H Q I ⟨ι, σ, S, r, g, h⟩ => pts_nil.run pins s τ H Q I (PostR.now (a := true) (y := true) h r rfl)⟩
theorem de_comp {tg : List Nat} {tup : Bool} {elt te iter : Expr} {ifs : List Expr} {scope : Scope} {own : List (Str × Nat)} {mi : Sg → Sto → R Wk} {mc : Sg → Sto → R Bool} {me : Sg → Sto → R D} (hc : X.calm = true) (hN : X.N.Nodup)
    (hi : PI X te iter (tDI X.K xi W mi)) (ok : BlkOk X.N X.env.scope scope own) (hv : ∀ i ∈ tg, i ∈ own.map (·.2))
    (hg : ∀ (s : Shared) (H : Hp) (C : Addr) (cl : List (Str × Addr)) (fp : List Addr), TgOk (X.blk s H scope (compEnvC scope cl C X.env) fp) tg tup te)
    (ht : ∀ (s : Shared) (H : Hp) (C : Addr) (cl : List (Str × Addr)) (fp : List Addr), PTs (X.blk s H scope (compEnvC scope cl C X.env) fp) ifs (tDT X.K xi noW mc))
    (he : ∀ (s : Shared) (H : Hp) (C : Addr) (cl : List (Str × Addr)) (fp : List Addr), PE (X.blk s H scope (compEnvC scope cl C X.env) fp) elt (tD X.K xi noW me)) (hs : notSetE iter = true) :
    PE X (.ListComp elt [⟨te, iter, ifs, 0⟩] scope pos) (tD X.K xi W (compM tg tup (own.map (·.2)) mi mc me)) :=
  (pe_lc hc hN hi ok (fun s H C cl fp => pg_tg (X := X.blk s H scope (compEnvC scope cl C X.env) fp) hc hN (hg s H C cl fp)) ht he (fold_of hs)).mono fun _ _ _ h => imp_lc hv h
theorem ds_setLc {i : Nat} {y : Str} {py spos : Pos} {tg : List Nat} {tup : Bool} {elt te iter : Expr} {ifs : List Expr} {scope : Scope} {own : List (Str × Nat)} {mi : Sg → Sto → R Wk} {mc : Sg → Sto → R Bool} {me : Sg → Sto → R D} (hc : X.calm = true) (hN : X.N.Nodup)
    (hy : X.N[i]? = some y) (hyl : X.env.scope.names.lookup y = some .local) (hsw : swapsWith (.ListComp elt [⟨te, iter, ifs, 0⟩] scope pos) (some (.Name y py)) spos.line X.env = pure true)
    (hi : PI X te iter (tDI X.K xi W mi)) (ok : BlkOk X.N X.env.scope scope own) (hv : ∀ i ∈ tg, i ∈ own.map (·.2))
    (hg : ∀ (s : Shared) (H : Hp) (C : Addr) (cl : List (Str × Addr)) (fp : List Addr), TgOk (X.blk s H scope (compEnvC scope cl C X.env) fp) tg tup te)
    (ht : ∀ (s : Shared) (H : Hp) (C : Addr) (cl : List (Str × Addr)) (fp : List Addr), PTs (X.blk s H scope (compEnvC scope cl C X.env) fp) ifs (tDT X.K xi noW mc))
    (he : ∀ (s : Shared) (H : Hp) (C : Addr) (cl : List (Str × Addr)) (fp : List Addr), PE (X.blk s H scope (compEnvC scope cl C X.env) fp) elt (tD X.K xi noW me)) (hs : notSetE iter = true) :
    PS X (.Assign [.Name y py] (.ListComp elt [⟨te, iter, ifs, 0⟩] scope pos) spos) (tSm X.K xi W fun σ S => (compM tg tup (own.map (·.2)) mi mc me σ S).at σ fun d S1 => .next (σ.set i (some d)) S1) :=
  (ps_setLc hc hN hy hyl hsw hi ok (fun s H C cl fp => pg_tg (X := X.blk s H scope (compEnvC scope cl C X.env) fp) hc hN (hg s H C cl fp)) ht he (fold_of hs)).mono fun G τ H ⟨ι, σ, S, r, g, h⟩ =>
    imp_lc hv ⟨ι, σ, S, r, g, (PostS.at r g h).imp fun y H1 ⟨ι1, d, S1, e1, r1, q1, h1⟩ => h1.now r1 ((g.mono r e1).set i q1)⟩
end
end Cl

/-! part Py13 -/
/-! Cl: calls with keywords; what stands around an expression; built-ins and methods by their names. -/
namespace Cl
open PySem PySem.Spec PyProof.Rows L2
/-- a def, for its callers -/
structure DefT where
  name : Str
  ps : List Str
  shapes : List (Nat × List String × List (Sum Nat Kd))
def Kd.toV : Kd → V
  | .non => .non
  | .bl b => .bl b
  | .int i => .int i
  | .str s => .str (SX.S s)
def Kd.ok : Kd → Bool
  | .str s => decide (s.length ≤ LIM) && asciiAll s
  | _ => true
/-- a call's values in the parameters' order -/
inductive Perm (all : List Value) : List (Sum Nat Kd) → List Value → Prop
  | nil : Perm all [] []
  | pos {i : Nat} {u : Value} {p : List (Sum Nat Kd)} {us : List Value} : all[i]? = some u → Perm all p us → Perm all (.inl i :: p) (u :: us)
  | dft {k : Kd} {u : Value} {p : List (Sum Nat Kd)} {us : List Value} : RelV k.toV u → Perm all p us → Perm all (.inr k :: p) (u :: us)
def KFact (K : Fr') (fd : FuncData) (ps : List Str) (n : Nat) (names : List String) (perm : List (Sum Nat Kd)) : Prop :=
  ∀ (s : Shared) (us ws : List Value), K.In s.heap → us.length = n → ws.length = names.length → ∃ as, Perm (us ++ ws) perm as ∧ BindsTo s fd ⟨us, (names.map Str.ofString).zip ws⟩ (ps.zip as)
section
variable {K : Fr'} {ι : List Addr} {H : Hp}
theorem vals_get : ∀ {vs : List V} {us : List Value} {i : Nat} {u : Value}, Vals vs us → us[i]? = some u → ∃ v, vs[i]? = some v ∧ RelV v u
  | _, _, _, _, .nil, h => by simp at h
  | _, _, 0, _, .cons r _, h => by simp at h; subst h; exact ⟨_, rfl, r⟩
  | _, _, i + 1, _, .cons _ t, h => by
    obtain ⟨v, h1, h2⟩ := vals_get (i := i) t (by simpa using h)
    exact ⟨v, by simpa using h1, h2⟩
theorem Kd.rel {k : Kd} (h : k.ok = true) : RelD K ι H k.toD k.toV := by
  cases k with
  | non => exact .non
  | bl b => exact .bl b
  | int i => exact .int i
  | str s =>
    have h' : (decide (s.length ≤ LIM) && asciiAll s) = true := h
    rw [Bool.and_eq_true] at h'
    exact .str (of_decide_eq_true h'.1) h'.2
def permOk (p : List (Sum Nat Kd)) : Bool := p.all fun | .inl _ => true | .inr k => k.ok
theorem perm_vals {all : List Value} {vs : List V} {ds : List D} (r : Vals vs all) (g : RelDs K ι H ds vs) {p : List (Sum Nat Kd)} {as : List Value} (hp : Perm all p as) : ∀ {es : List D}, permOk p = true → p.mapM (argOf ds) = some es → ∃ xs, Vals xs as ∧ RelDs K ι H es xs := by
  induction hp with
  | nil =>
    intro es _ h
    have e : es = [] := (Option.some.inj h).symm
    subst e
    exact ⟨[], .nil, .nil⟩
  | @pos i u p us hu t ih =>
    intro es hk h
    rw [List.mapM_cons] at h
    obtain ⟨d, e1, h⟩ := Option.bind_eq_some_iff.mp h
    obtain ⟨es', e2, h⟩ := Option.bind_eq_some_iff.mp h
    have e : es = d :: es' := (Option.some.inj h).symm
    subst e
    obtain ⟨v, h1, h2⟩ := vals_get r hu
    obtain ⟨v', h3, h4⟩ := g.get (show ds[i]? = some d from e1)
    have : v' = v := Option.some.inj (h3.symm.trans h1)
    subst this
    obtain ⟨xs, x1, x2⟩ := ih (by unfold permOk at hk ⊢; simpa using hk) e2
    exact ⟨v' :: xs, .cons h2 x1, .cons h4 x2⟩
  | @dft k u p us hu t ih =>
    intro es hk h
    rw [List.mapM_cons] at h
    obtain ⟨d, e1, h⟩ := Option.bind_eq_some_iff.mp h
    obtain ⟨es', e2, h⟩ := Option.bind_eq_some_iff.mp h
    have e : es = d :: es' := (Option.some.inj h).symm
    subst e
    have e3 : d = k.toD := (Option.some.inj e1).symm
    subst e3
    have hk' : k.ok = true ∧ permOk p = true := by
      unfold permOk at hk ⊢
      rw [List.all_cons, Bool.and_eq_true] at hk
      exact hk
    obtain ⟨xs, x1, x2⟩ := ih hk'.2 e2
    exact ⟨k.toV :: xs, .cons hu x1, .cons (Kd.rel hk'.1) x2⟩
end
/-! ### keywords -/
inductive Kws : List String → List Expr → List Keyword → Prop
  | nil : Kws [] [] []
  | cons {x : String} {e : Expr} {p : Pos} {xs : List String} {es : List Expr} {ks : List Keyword} : Kws xs es ks → Kws (x :: xs) (e :: es) (⟨some (Str.ofString x), e, p⟩ :: ks)
theorem Kws.all {env : Env} {pos : Pos} {xs es ks} (h : Kws xs es ks) : (backToKw pos (keywordEach ks env)).all (·.1.isSome) = true := by
  induction h with
  | nil => rfl
  | cons _ ih => exact ih
theorem Kws.none {env : Env} {pos : Pos} {xs es ks} (h : Kws xs es ks) : (backToKw pos (keywordEach ks env)).any (·.1.isNone) = false := by
  induction h with
  | nil => rfl
  | cons _ ih => exact ih
theorem Kws.names {env : Env} {pos : Pos} {xs es ks} (h : Kws xs es ks) : (backToKw pos (keywordEach ks env)).filterMap (·.1) = xs.map Str.ofString := by
  induction h with
  | nil => rfl
  | cons _ ih => rw [List.map_cons, ← ih]; rfl
section
variable {X : Cx} {xi : XI} {W : WX} {n : Nat} {f : Addr} {fd : FuncData} {ps : List Str}
theorem _root_.L2.PK.mono {X : Cx} {ks : List Keyword} {t t' : TA} (h : PK X ks t) (i : ∀ σ H Q, t' σ H Q → t σ H Q) : PK X ks t' := ⟨fun p pins s σ H Q I q => h.run p pins s σ H Q I (i σ H Q q)⟩
theorem dks_nil : PK X [] (tDs X.K xi W fun _ S => .ok [] S) := pk_nil.mono fun _ _ _ ⟨_, _, _, r, _, h⟩ => h.now r .nil
theorem dks_cons {e : Expr} {ks : List Keyword} {nm : Option Str} {p : Pos} {m : Sg → Sto → R D} {ms : Sg → Sto → R (List D)} (he : PE X e (tD X.K xi W m)) (hs : PK X ks (tDs X.K xi W ms)) :
    PK X (⟨nm, e, p⟩ :: ks) (tDs X.K xi W fun σ S => (m σ S).bind fun x S1 => (ms σ S1).bind fun xs S2 => .ok (x :: xs) S2) := (pk_cons he hs).mono fun τ H Q ⟨ι, σ, S, r, g, h⟩ => by
  refine ⟨ι, σ, S, r, g, (PostR.bind h).imp ?_⟩
  rintro x H1 ⟨ι1, d, S1, e1, r1, q1, h1⟩
  refine ⟨ι1, σ, S1, r1, g.mono r e1, (PostR.bind h1).imp ?_⟩
  rintro xs H2 ⟨ι2, ds, S2, e2, r2, q2, h2⟩
  exact h2.now r2 (.cons (q1.mono r1 e2) q2)
/-- f(e, .., k = e, ..) -/
theorem de_callk {x : Str} {p pos : Pos} {es ke : List Expr} {kws : List Keyword} {names : List String} {perm : List (Sum Nat Kd)} {ms mk : Sg → Sto → R (List D)} {c : List D → Sto → R D} (F : FnG X.prog X.w X.K X.mg X.base n f fd ps (spF X.K xi c)) (g : GOk n X.A) (tk : Takes X W) (hg : Gl X x)
    (hm : X.mg x = some (.ref f)) (hk : PySem.W.keepIn X.K (.ref f) = true) (kf : KFact X.K fd ps es.length names perm) (pk : permOk perm = true) (ha : PA X es (tDs X.K xi W ms)) (hp : es.all plainE = true) (hks : Kws names ke kws) (hkw : PK X kws (tDs X.K xi W mk))
    (l1 : ∀ σ S vs S1, ms σ S = .ok vs S1 → vs.length = es.length) (l2 : ∀ σ S vs S1, mk σ S = .ok vs S1 → vs.length = names.length) (h0 : es = [] → ms = fun _ S => .ok [] S) (hdb : (x == ("__debug__" : Str)) = false) :
    PE X (.Call (.Name x p) es kws pos) (tD X.K xi W fun σ S => (ms σ S).bind fun vs S1 => (mk σ S1).bind fun zs S2 => R.opt (perm.mapM (argOf (vs ++ zs))) fun as => c as S2) := by
  refine ⟨fun pins s τ H Q I h => ?_⟩
  refine wpAny_Call_Name_kw (ld_glob I hg hm ?_ hdb)
  have hpl : ((backTo pos (starEach es X.env)).any (·.1) || (backToKw pos (keywordEach kws X.env)).any (·.1.isNone)) = false := by rw [star_none hp, hks.none]; rfl
  obtain ⟨ι, σ, S, r, gg, h⟩ := h
  -- what is wanted behind the positional values
  have step1 : tDs X.K xi W ms τ H fun vs H1 => vs.length = es.length ∧ ∃ ι1 ds S1, RelS X.K ι1 S1 H1 ∧ RelG X.K ι1 H1 σ τ ∧ RelDs X.K ι1 H1 ds vs ∧ PostR X.K xi (RelD X.K) (fun c d H' => W c d τ H') ι1 S1 H1 Q ((mk σ S1).bind fun zs S2 => R.opt (perm.mapM (argOf (ds ++ zs))) fun as => c as S2) := by
    refine ⟨ι, σ, S, r, gg, ?_⟩
    dsimp only at h
    cases em : ms σ S with
    | no => rw [em] at h; exact h
    | exc y S1 => rw [em] at h; exact h
    | ok ds S1 =>
      rw [em] at h
      intro ι1 H1 vs e1 r1 q1
      exact ⟨by rw [← q1.length]; exact l1 _ _ _ _ em, ι1, ds, S1, r1, gg.mono r e1, q1, PostR.mono e1 h⟩
  have step2 : ∀ {pins' : List (Addr × Obj)} {vs : List V} {us : List Value} {H1 : Hp} {s1 : Shared}, Inv X pins' τ H1 s1 → Vals vs us → (vs.length = es.length ∧ ∃ ι1 ds S1, RelS X.K ι1 S1 H1 ∧ RelG X.K ι1 H1 σ τ ∧ RelDs X.K ι1 H1 ds vs ∧ PostR X.K xi (RelD X.K) (fun c d H' => W c d τ H') ι1 S1 H1 Q ((mk σ S1).bind fun zs S2 => R.opt (perm.mapM (argOf (ds ++ zs))) fun as => c as S2)) →
      wpAny (model X.prog X.w) X.A (evalAll ((backToKw pos (keywordEach kws X.env)).map (·.2))) (fun ks s2 => X.K.In s2.heap ∧ wpAny (model X.prog X.w) X.A (call (.ref f) us (((backToKw pos (keywordEach kws X.env)).filterMap (·.1)).zip ks)) (EP X pins' τ Q) X.xe s2) X.xe s1 := by
    rintro pins' vs us H1 s1 I1 ru ⟨hl1, ι1, ds, S1, r1, g1, q1, h1⟩
    have st : tDs X.K xi W mk τ H1 fun zs H2 => zs.length = names.length ∧ ∃ ι2 fs S2, RelS X.K ι2 S2 H2 ∧ RelDs X.K ι2 H2 (ds ++ fs) (vs ++ zs) ∧ PostR X.K xi (RelD X.K) (fun c d H' => W c d τ H') ι2 S2 H2 Q (R.opt (perm.mapM (argOf (ds ++ fs))) fun as => c as S2) := by
      refine ⟨ι1, σ, S1, r1, g1, ?_⟩
      cases em : mk σ S1 with
      | no => rw [em] at h1; exact h1
      | exc y S2 => rw [em] at h1; exact h1
      | ok fs S2 =>
        rw [em] at h1
        intro ι2 H2 zs e2 r2 q2
        exact ⟨by rw [← q2.length]; exact l2 _ _ _ _ em, ι2, fs, S2, r2, (RelDs.mono r1 e2 q1).append q2, PostR.mono e2 h1⟩
    refine thn (hkw.run pos pins' s1 τ H1 _ I1 st) fun ws s2 ⟨zs, H2, I2, rz, hl2, ι2, fs, S2, r2, q2, h2⟩ => ⟨I2.kIn, ?_⟩
    obtain ⟨es', hes, h2⟩ := PostR.opt h2
    obtain ⟨as, pm, hb⟩ := kf s2 us ws I2.kIn (ru.length.symm.trans hl1) (rz.length.symm.trans hl2)
    obtain ⟨xs, x1, x2⟩ := perm_vals (ru.append rz) q2 pm pk hes
    rw [hks.names]
    exact run_G F g tk I2 hb x1 ⟨ι2, es', S2, r2, x2, h2⟩
  cases es with
  | nil =>
    refine PySem.W.callWith_KW0 (h₀ := X.base) I.ok.mod.kin hk hks.all ?_ hpl
    have em : ms σ S = .ok [] S := by rw [h0 rfl]
    dsimp only at h
    rw [em] at h
    exact step2 I .nil ⟨rfl, ι, [], S, r, gg, .nil, h⟩
  | cons e es =>
    have hp' := hp
    rw [List.all_cons, Bool.and_eq_true] at hp'
    exact PySem.W.callWith_KW (h₀ := X.base) I.ok.mod.kin hk hks.all (thn (ha.run pos pins s τ H _ I step1) fun us s1 ⟨vs, H1, I1, ru, q⟩ => step2 I1 ru q) hpl (starEach_plain hp'.1)
end
end Cl

/-! part Py13b -/
/-! Cl: isinstance of built-in types. -/
namespace Cl
open PySem PySem.Spec PyProof.Rows L2
def tyN : Ty → Option String
  | .int => some "int" | .bool => some "bool" | .str => some "str" | .list => some "list" | .tuple => some "tuple" | _ => none
section
variable {K : Fr'} {ι : List Addr} {H : Hp} {S : Sto}
/-- a value's type, and what isinstance says of it -/
theorem tyD {d : D} {v : V} (r : RelS K ι S H) (q : RelD K ι H d v) : (∀ t, hasTyS S d t = none) ∨ ∃ T, (∀ H' : Hp, (∀ a u, H a = some u → H' a = some u) → TyX K H' v (.type T)) ∧ ∀ t nm b, tyN t = some nm → hasTyS S d t = some b → kitB T nm = some b := by
  cases q with
  | non =>
    refine .inr ⟨"NoneType", fun _ _ => .base .non, fun t nm b h1 h2 => ?_⟩
    cases t <;> cases h1 <;> cases h2 <;> decide +kernel
  | bl x =>
    refine .inr ⟨"bool", fun _ _ => .base (.bl x), fun t nm b h1 h2 => ?_⟩
    cases t <;> cases h1 <;> cases h2 <;> decide +kernel
  | int x =>
    refine .inr ⟨"int", fun _ _ => .base (.int x), fun t nm b h1 h2 => ?_⟩
    cases t <;> cases h1 <;> cases h2 <;> decide +kernel
  | str h1 h2 =>
    refine .inr ⟨"str", fun _ _ => .base (.str _), fun t nm b h1 h2 => ?_⟩
    cases t <;> cases h1 <;> cases h2 <;> decide +kernel
  | tup h1 h2 =>
    rename_i a vs ds
    refine .inr ⟨"tuple", fun H' up => ?_, fun t nm b h1 h2 => ?_⟩
    · rcases h1 with (h | ⟨o, h⟩) | ⟨o, its, n, h, c, _⟩
      · exact .base (.tup (up _ _ h))
      · exact .fTuple (up _ _ h)
      · exact .kTuple h c
    · cases t <;> cases h1 <;> cases h2 <;> decide +kernel
  | ref h1 =>
    rename_i n a
    cases e : getQ S n with
    | none =>
      refine .inl fun t => ?_
      unfold hasTyS
      dsimp only
      rw [e]
    | some xs =>
      refine .inr ⟨"list", fun H' up => ?_, fun t nm b h1 h2 => ?_⟩
      · obtain ⟨vs, (h | ⟨o, h⟩) | ⟨o, its, n, h, c, _⟩, _⟩ := r.getQ h1 e
        · exact .base (.lst (up _ _ h))
        · exact .base (.frz (up _ _ h))
        · exact .kList h c
      · unfold hasTyS at h2
        dsimp only at h2
        rw [e] at h2
        cases t <;> cases h1 <;> cases h2 <;> decide +kernel
end
section
variable {X : Cx} {xi : XI} {W : WX}
theorem pe_tyName {T : String} {x : Str} {p : Pos} (hg : Gl X x) (hm : X.mg x = none) (hv : bootBuiltins x = some (.type T)) (hn : x ≠ "__name__") (hdb : (x == ("__debug__" : Str)) = false) : PE X (.Name x p) (tC (.ty T)) :=
  ⟨fun pins s σ H Q I h => ld_blt I hg hm hv ⟨.ty T, H, I, rfl, h⟩ hn hdb⟩
/-- the names of types -/
inductive TyNames (X : Cx) : List Ty → List Expr → Prop
  | nil : TyNames X [] []
  | cons {t : Ty} {nm : String} {p : Pos} {ts : List Ty} {es : List Expr} : tyN t = some nm → Gl X (Str.ofString nm) → X.mg (Str.ofString nm) = none → TyNames X ts es → TyNames X (t :: ts) (.Name (Str.ofString nm) p :: es)
theorem boot_ty : ∀ {t : Ty} {nm : String}, tyN t = some nm → bootBuiltins (Str.ofString nm) = some (.type nm) ∧ (Str.ofString nm) ≠ "__name__" ∧ (Str.ofString nm == ("__debug__" : Str)) = false := by
  intro t nm h
  cases t <;> cases h <;> exact ⟨by decide +kernel, by decide +kernel, by decide +kernel⟩
theorem pe_ty1 {t : Ty} {nm : String} {p : Pos} (h : tyN t = some nm) (hg : Gl X (Str.ofString nm)) (hm : X.mg (Str.ofString nm) = none) : PE X (.Name (Str.ofString nm) p) (tC (.ty nm)) := pe_tyName hg hm (boot_ty h).1 (boot_ty h).2.1 (boot_ty h).2.2
theorem de_isi1 {t : Ty} {nm : String} {e : Expr} {m : Sg → Sto → R D} {p p2 pos : Pos} (ht : tyN t = some nm) (hg : Gl X "isinstance") (hm : X.mg "isinstance" = none) (hg2 : Gl X (Str.ofString nm)) (hm2 : X.mg (Str.ofString nm) = none) (he : PE X e (tD X.K xi W m)) (hp : plainE e = true) :
    PE X (.Call (.Name "isinstance" p) [e, .Name (Str.ofString nm) p2] [] pos) (tD X.K xi W fun σ S => (m σ S).bind fun x S1 => R.opt (isiAny S1 x [t]) fun k => .ok (.bl k) S1) := by
  refine (pe_callB (call_isi (X := X)) hg hm (by decide +kernel) (pa_cons he (pa_cons (pe_ty1 ht hg2 hm2) pa_nil (by rfl)) (starEach_plain hp)) (by decide) (by decide +kernel) (starEach_plain hp) (by rfl)).mono fun τ H Q ⟨ι, σ, S, r, g, h⟩ => ?_
  refine ⟨ι, σ, S, r, g, (PostR.bind h).imp ?_⟩
  rintro x H1 ⟨ι1, d, S1, e1, r1, q1, h1⟩
  obtain ⟨k, hk, h1⟩ := PostR.opt h1
  have hk' : hasTyS S1 d t = some k := by
    unfold isiAny at hk
    cases e2 : hasTyS S1 d t with
    | none => rw [e2] at hk; cases hk
    | some b => cases b <;> rw [e2] at hk <;> cases hk <;> rfl
  rcases tyD r1 q1 with z | ⟨T, ty, kb⟩
  · rw [z t] at hk'; cases hk'
  · exact ⟨x, .ty nm, _, _, k, rfl, .ty nm, ty H1 (fun _ _ z => z), kit_ty (kb t nm k ht hk'), h1.now r1 (.bl k)⟩
theorem pa_tys : ∀ {ts : List Ty} {es : List Expr}, TyNames X ts es → ∃ cs us : List _, Paired ClsV cs us ∧ (∀ (K : Fr') (T : String) (S : Sto) (d : D) (k : Bool), (∀ t nm b, tyN t = some nm → hasTyS S d t = some b → kitB T nm = some b) → isiAny S d ts = some k → PySem.W.kitAny K (.type T) us = some k) ∧ cs.length = ts.length ∧ PA X es (fun σ H Q => Q cs H)
  | _, _, .nil => ⟨[], [], .nil, fun K T S d k _ h => by cases h; exact kitAny_nil, rfl, pa_nil.mono fun _ _ _ h => h⟩
  | _, _, .cons (t := t) (nm := nm) h1 h2 h3 tl => by
    obtain ⟨cs, us, p, q, l, pa⟩ := pa_tys tl
    refine ⟨.ty nm :: cs, .type nm :: us, .cons (.ty nm) p, fun K T S d k hT h => ?_, by simp [l], (pa_cons (pe_ty1 h1 h2 h3) pa (by rfl)).mono fun _ _ _ h => h⟩
    unfold isiAny at h
    cases e2 : hasTyS S d t with
    | none => rw [e2] at h; cases h
    | some b =>
      rw [e2] at h
      refine kitAny_cons (kit_ty (hT t nm b h1 e2)) (fun hb => ?_) fun hb => ?_
      · subst hb
        exact q K T S d k hT h
      · subst hb
        cases h
        rfl
theorem de_isiT {ts : List Ty} {es : List Expr} {e : Expr} {m : Sg → Sto → R D} {x1} {p p2 pos : Pos} (hts : TyNames X ts es) (hne : ts ≠ []) (hl : ts.length ≤ 1000) (hg : Gl X "isinstance") (hm : X.mg "isinstance" = none) (he : PE X e (tD X.K xi W m)) (hp : plainE e = true) :
    PE X (.Call (.Name "isinstance" p) [e, .Tuple es x1 p2] [] pos) (tD X.K xi W fun σ S => (m σ S).bind fun x S1 => R.opt (isiAny S1 x ts) fun k => .ok (.bl k) S1) := by
  obtain ⟨cs, us, pr, kit, lc, pa⟩ := pa_tys hts
  refine (pe_callB (call_isiT (X := X)) hg hm (by decide +kernel) (pa_cons he (pa_cons (pe_tup pa) pa_nil (by rfl)) (starEach_plain hp)) (by decide) (by decide +kernel) (starEach_plain hp) (by rfl)).mono fun τ H Q ⟨ι, σ, S, r, g, h⟩ => ?_
  refine ⟨ι, σ, S, r, g, (PostR.bind h).imp ?_⟩
  rintro x H1 ⟨ι1, d, S1, e1, r1, q1, h1⟩
  obtain ⟨k, hk, h1⟩ := PostR.opt h1
  refine ⟨by rw [lc]; exact Nat.le_of_lt (small1000 hl), fun tp htp => ?_⟩
  rcases tyD r1 q1 with z | ⟨T, ty, kb⟩
  · cases ts with
    | nil => exact absurd rfl hne
    | cons t ts =>
      unfold isiAny at hk
      rw [z t] at hk
      cases hk
  · have ex := Ext.put (o := .tup cs) r1 htp
    exact ⟨x, tp, cs, _, us, k, rfl, upd_same, pr, ty _ (fun a u e => by rw [upd_ne (ne_of_none e htp)]; exact e), kit X.K T S1 d k kb hk, h1 ι1 _ _ ex (r1.put htp) (.bl k)⟩
end
end Cl

/-! part Py13c -/
/-! Cl: exceptions with one field: made, raised, caught. -/
namespace Cl
open PySem PySem.Spec PyProof.Rows L2
/-! ### __init__(self, x): ValueError.__init__(self, f'..{x}'); self.x = x -/
def argV (v : V) : Prop := (∃ y : Str, v = .str y ∧ y.length ≤ 1000000) ∨ ∃ i : Int, v = .int i ∧ i.natAbs < 10 ^ 12
def spI (K : Fr') (C : Addr) (x : Str) : Sp := fun vs H Q _ => ∃ a v, vs = [.ref a, v] ∧ OexC K C ∧ H a = some (exo a C none) ∧ argV v ∧ ∀ dx, H dx = none → dx ≠ a → Q .non (upd (upd H dx (exd dx [(x, v)])) a (exo a C (some dx)))
/-- the text of such an __init__: the call, the store -/
structure InitTxt where
  p1 : Pos
  p2 : Pos
  q1 : Pos
  j : Nat
  q2 : Pos
  q3 : Pos
  q4 : Pos
  q5 : Pos
  q6 : Pos
  q7 : Pos
  q8 : Pos
  q9 : Pos
  q10 : Pos
  q11 : Pos
def InitTxt.call (t : InitTxt) (x lit : Str) : Expr := .Call (.Attribute (.Name "ValueError" t.p1) "__init__" t.p2) [.Name "self" t.q1, .JoinedStr [.Constant (.str lit) t.j t.q2, .FormattedValue (.Name x t.q3) (-1) none t.q4] t.q5] [] t.q6
def InitTxt.body (t : InitTxt) (x lit : Str) : List Stmt := [.Expr (t.call x lit) t.q7, .Assign [.Attribute (.Name "self" t.q8) x t.q9] (.Name x t.q10) t.q11]
/-- how the call is entered (by rfl at given places) -/
def InitTxt.Ok (t : InitTxt) (x lit : Str) : Prop := ∀ env : Env, ∃ pl : Sem Bool, eval (t.call x lit) env = (do
      let ov ← eval (.Name "ValueError" t.p1) env
      standAt t.p2.atName
      let (f, first) ← holding [ov] (getMethod ov "__init__" pl)
      callWith t.q6 f first (backTo t.q6 (starEach [.Name "self" t.q1, .JoinedStr [.Constant (.str lit) t.j t.q2, .FormattedValue (.Name x t.q3) (-1) none t.q4] t.q5] env)) (backToKw t.q6 (keywordEach [] env)))
theorem log2_12 {i : Int} (h : i.natAbs < 10 ^ 12) : i.natAbs.log2 < 1920 := by
  by_cases h0 : i.natAbs = 0
  · rw [h0]; decide
  · refine (Nat.log2_lt h0).mpr (Nat.lt_trans h ?_)
    decide +kernel
section
variable {P : Program} {w : World} {K : Fr'} {mg : Str → Option Value} {base : Heap}
theorem init_ok {k : Nat} {f C : Addr} {name qual x lit : Str} {params : Arguments} {body : List Stmt} {scope : Scope} {dV kV doc pm cdv ct oc : Value} {an od : Option Addr} {osl : Array (Option Value)}
    (lk : K.lookup f = some ⟨oc, od, .func (PySem.W.fnOf name qual params body scope dV kV doc pm an cdv ct), osl⟩) (hcd : PySem.W.codeIn K cdv qual = true) (S : FnScope ["self", x] ["self", x] scope) (t : InitTxt) (hb : body = t.body x lit) (ht : t.Ok x lit) (hlit : lit.length ≤ 1000)
    (hgV : scope.names.lookup ("ValueError" : Str) = some .globalImplicit) (hmV : mg "ValueError" = none) (vV : PySem.W.findCls K (.type "ValueError") (.type "type") "__init__" = some (.val (.builtin "ValueError.__init__"))) (hno : PySem.W.findIn K (.ref C) x = some none)
    (hd : (x == ("__debug__" : Str)) = false) (hcl : (x == ("__classdict__" : Str)) = false) : FnOk P w K mg base CX0 (k + 1) f (PySem.W.fnOf name qual params body scope dV kV doc pm an cdv ct) ["self", x] (spI K C x) := by
  refine fn_of lk hcd S (fun vs H Q E ⟨a, v, e, _⟩ => by rw [e]; rfl) ?_
  rintro A outer s H vs Q E hr ⟨a, v, rfl, T, ha, hv, q⟩
  subst hb
  obtain ⟨pl, hcall⟩ := ht (cxOf CX0 P w K mg base ["self", x] qual scope f cdv A outer s H E).env
  have v0 : ∀ p, PE (cxOf CX0 P w K mg base ["self", x] qual scope f cdv A outer s H E) (.Name "self" p) (tVar 0) := fun p => pe_var (i := 0) rfl (by
    rcases S.par "self" List.mem_cons_self with z | z
    · exact .inl z
    · exact .inr (.inl z)) (by decide) (by decide)
  have v1 : ∀ p, PE (cxOf CX0 P w K mg base ["self", x] qual scope f cdv A outer s H E) (.Name x p) (tVar 1) := fun p => pe_var (i := 1) rfl (by
    rcases S.par x (List.mem_cons_of_mem _ List.mem_cons_self) with z | z
    · exact .inl z
    · exact .inr (.inl z)) hd hcl
  refine ⟨_, pss_cons (ps_expr (pe_veinit hgV hmV vV (pa_cons (v0 _) (pa_cons (pe_joined (.cons pe_str (.cons (pe_fmt (v1 _)) .nil))) pa_nil)) hcall)) (pss_one (ps_ost (v0 _) (v1 _))), ?_⟩
  have hl : ∀ y : Str, y.length ≤ 1000000 → (Str.empty ++ lit).length ≤ sizeLine ∧ ((Str.empty ++ lit) ++ y).length ≤ sizeLine := fun y hy => by
    have e1 : (Str.empty ++ lit).length = lit.length := by rw [Str.length_append]; exact Nat.zero_add _
    exact ⟨by rw [e1, sizeLine_eq]; omega, by rw [Str.length_append (Str.empty ++ lit) y, e1, sizeLine_eq]; omega⟩
  have fin : ∀ out : Str, tOst K x (tVar 0) (tVar 1) { nx := fun _ H' => Q .non H', rt := Q } (L2.start ["self", x] [.ref a, v]) H := fun out =>
    ⟨v, rfl, .ref a, rfl, a, C, rfl, T, hno, .inl ⟨ha, fun dx n1 n2 => q dx n1 n2⟩⟩
  rcases hv with ⟨y, rfl, hy⟩ | ⟨i, rfl, hi⟩
  · refine ⟨.ref a, rfl, ⟨lit, rfl, (hl y hy).1, .str y, rfl, .inl ⟨y, rfl, by rw [sizeLine_eq]; omega, ⟨y, rfl, (hl y hy).2, ?_⟩⟩⟩⟩
    exact ⟨a, C, _, rfl, by show 1 ≤ 1000; decide, T, ha, fin lit⟩
  · have hs : ((toString i : String) : Str).length ≤ 13 := by
      have := PyData.shown_int_le hi
      rw [PyData.shown_int] at this
      exact this
    refine ⟨.ref a, rfl, ⟨lit, rfl, (hl (toString i) (by omega)).1, .int i, rfl, .inr ⟨i, rfl, log2_12 hi, ⟨_, rfl, (hl (toString i) (by omega)).2, ?_⟩⟩⟩⟩
    exact ⟨a, C, _, rfl, by show 1 ≤ 1000; decide, T, ha, fin lit⟩
end
/-! ### raise C(e) -/
/-- an exception class with one field -/
structure XCls (P : Program) (w : World) (K : Fr') (mg : Str → Option Value) (base : Heap) (xi : XI) (c : Nat) (nm fld : Str) : Prop where
  ex : ∃ (C fI : Addr) (fd : FuncData), xi c = some (C, [fld]) ∧ mg nm = some (.ref C) ∧ OexC K C ∧ PySem.W.findIn K (.ref C) "__init__" = some (some (.ref fI)) ∧ PySem.W.typeIn K (.ref fI) = some (.type "function") ∧
    (∀ k, FnOk P w K mg base CX0 (k + 1) fI fd ["self", fld] (spI K C fld)) ∧ L2.Binds K fd ["self", fld] [] ∧ XfC K C ∧ PySem.W.findIn K (.ref C) fld = some none
section
variable {X : Cx} {xi : XI} {W : WX}
theorem argV_of {K : Fr'} {ι : List Addr} {H : Hp} {ds : List D} {vs : List V} (g : RelDs K ι H ds vs) (h : exOk ds = true) : ∃ v, vs = [v] ∧ argV v := by
  cases g with
  | nil => cases h
  | cons q t =>
    cases t with
    | cons _ _ =>
      cases q <;> cases h
    | nil =>
      cases q with
      | int i => exact ⟨_, rfl, .inr ⟨i, rfl, of_decide_eq_true h⟩⟩
      | str h1 h2 => exact ⟨_, rfl, .inl ⟨_, rfl, by rw [SX.S_len]; exact of_decide_eq_true h⟩⟩
      | _ => cases h
theorem ds_raise {c n : Nat} {nm fld : Str} {e : Expr} {es : List Expr} {p pos rpos : Pos} {ms : Sg → Sto → R (List D)} (hc : X.calm = true) (tk : Takes X W) (hr : Room (n + 2) X.A) (xc : XCls X.prog X.w X.K X.mg X.base xi c nm fld) (hg : Gl X nm) (ha : PA X (e :: es) (tDs X.K xi W ms))
    (hp : (e :: es).all plainE = true) (hdb : (nm == ("__debug__" : Str)) = false) :
    PS X (.Raise (some (.Call (.Name nm p) (e :: es) [] pos)) none rpos) (tSm X.K xi W fun σ S => (ms σ S).at σ fun vs S1 => raiseR c vs σ S1) := by
  obtain ⟨C, fI, fd, hx, hm, T, iC, tI, F1, hb, _, _⟩ := xc.ex
  have hp' := hp
  rw [List.all_cons, Bool.and_eq_true] at hp'
  refine (ps_raise hc tk (pmk_oex (k := n + 1) (dvs := []) T iC tI (F1 n) hr hb .nil (fun _ _ _ _ _ _ _ h => h.elim) hg hm ha hdb (starEach_plain hp'.1) (star_none hp'.2))).mono fun G τ H ⟨ι, σ, S, r, g, h⟩ => ?_
  refine ⟨ι, σ, S, r, g, (PostS.at r g h).imp ?_⟩
  rintro vs H1 ⟨ι1, ds, S1, e1, r1, q1, h1⟩
  unfold raiseR at h1
  by_cases hk : exOk ds = true
  · rw [if_pos hk] at h1
    obtain ⟨v, rfl, av⟩ := argV_of q1 hk
    refine ⟨by show 1 ≤ 1000; decide, fun a na => ⟨a, v, rfl, T, upd_same, av, fun dx n1 n2 => ⟨rfl, dx, [(fld, v)], upd_same, ?_, ?_, ?_⟩⟩⟩
    · rw [upd_ne n2, upd_same]
    · rw [upd_ne n2] at n1
      exact n1
    · have nd : H1 dx = none := by
        rw [upd_ne n2] at n1
        exact n1
      have eH : upd (L2.del (upd (upd (upd H1 a (exo a C none)) dx (exd dx [(fld, v)])) a (exo a C (some dx))) a) dx (.xd [(fld, v)]) = upd H1 dx (.xd [(fld, v)]) := by
        funext b
        by_cases hb : b = dx
        · subst hb
          rw [upd_same, upd_same]
        · rw [upd_ne hb, upd_ne hb]
          by_cases hba : b = a
          · subst hba
            rw [del_same, na]
          · rw [del_ne hba, upd_ne hba, upd_ne hb, upd_ne hba]
      rw [eH]
      have ex := Ext.put (o := .xd [(fld, v)]) r1 nd
      refine h1 ι1 _ τ _ _ ex (r1.put nd) ((g.mono r e1).mono r1 ex) ⟨c, ds, C, [fld], rfl, hx, rfl, .inr ⟨dx, [v], rfl, by rw [q1.length]; rfl, upd_same, q1.mono r1 ex⟩⟩
  · rw [if_neg hk] at h1
    exact h1.elim
end
end Cl
namespace Cl
open PySem PySem.Spec PyProof.Rows L2
/-- the places of an __init__'s text -/
def txOf : List Stmt → InitTxt
  | [.Expr (.Call (.Attribute (.Name _ p1) _ p2) [.Name _ q1, .JoinedStr [.Constant _ j q2, .FormattedValue (.Name _ q3) _ _ q4] q5] [] q6) q7, .Assign [.Attribute (.Name _ q8) _ q9] (.Name _ q10) q11] => ⟨p1, p2, q1, j, q2, q3, q4, q5, q6, q7, q8, q9, q10, q11⟩
  | _ => ⟨⟨0, 0, 0, 0⟩, ⟨0, 0, 0, 0⟩, ⟨0, 0, 0, 0⟩, 0, ⟨0, 0, 0, 0⟩, ⟨0, 0, 0, 0⟩, ⟨0, 0, 0, 0⟩, ⟨0, 0, 0, 0⟩, ⟨0, 0, 0, 0⟩, ⟨0, 0, 0, 0⟩, ⟨0, 0, 0, 0⟩, ⟨0, 0, 0, 0⟩, ⟨0, 0, 0, 0⟩, ⟨0, 0, 0, 0⟩⟩
theorem veF {K : Fr'} : PySem.W.findCls K (.type "ValueError") (.type "type") "__init__" = some (.val (.builtin "ValueError.__init__")) := by kernel_rfl
end Cl

/-! part Py13d -/
/-! Cl: try .. except C as e: return ... -/
namespace Cl
open PySem PySem.Spec PyProof.Rows L2
section
variable {X : Cx} {xi : XI} {W : WX}
/-- what holds of the caught exception where its suite runs, and what is wanted of the values -/
def tXe (K : Fr') (i : Nat) (C : Addr) (fld : Str) (a : Addr) (cls : Value) (d : Option Addr) (x : XE) : TE := fun τ H Q => τ[i]? = some (some (.ref a)) ∧ cls = .ref C ∧ ∃ ι S v0 d0 dd, d = some dd ∧ H dd = some (.xd [(fld, v0)]) ∧ RelS K ι S H ∧ RelD K ι H d0 v0 ∧
  ∃ r, evX x [d0] = some r ∧ ∀ ι' H' v, Ext ι S H ι' S H' → RelS K ι' S H' → RelD K ι' H' r v → Q v H'
def tXes (K : Fr') (i : Nat) (C : Addr) (fld : Str) (a : Addr) (cls : Value) (d : Option Addr) (xs : List XE) : TA := fun τ H Q => τ[i]? = some (some (.ref a)) ∧ cls = .ref C ∧ ∃ ι S v0 d0 dd, d = some dd ∧ H dd = some (.xd [(fld, v0)]) ∧ RelS K ι S H ∧ RelD K ι H d0 v0 ∧
  ∃ rs, evXs xs [d0] = some rs ∧ ∀ ι' H' vs, Ext ι S H ι' S H' → RelS K ι' S H' → RelDs K ι' H' rs vs → Q vs H'
theorem xd_free {K : Fr'} {ι : List Addr} {S : Sto} {H : Hp} {dd : Addr} {l : List (Str × V)} (r : RelS K ι S H) (h : H dd = some (.xd l)) : ¬ Own ι S dd := fun q => by
  obtain ⟨vs, e⟩ := r.own q
  rw [h] at e
  cases e
section
variable {i : Nat} {C a : Addr} {fld n : Str} {cls : Value} {d : Option Addr} {oe : Obj} {pn : List (Addr × Obj)} {pos : Pos}
theorem dx_cst {e : Expr} {k : Kd} (h : ∀ (Y : Cx), PE Y e (tC k.toV)) (ho : k.ok = true) : PE X e (tXe X.K i C fld a cls d (.cst k)) := (h X).mono fun τ H Q ⟨_, _, ι, S, v0, d0, dd, _, _, r, _, y, e1, q⟩ => by
  have e2 : y = k.toD := (Option.some.inj e1).symm
  subst e2
  exact q ι H k.toV .refl r (Kd.rel ho)
theorem dx_fld (T : XfC X.K C) (hno : PySem.W.findIn X.K (.ref C) fld = some none) (hz : Zc cls d oe) (hf : ∃ vs, oe.data = .fields vs) (hN : X.N[i]? = some n) (hv : Vis X.env.scope n) (hd : (n == ("__debug__" : Str)) = false) (hcd : (n == ("__classdict__" : Str)) = false) {p : Pos} :
    PE (X.suite a ((a, oe) :: pn)) (.Attribute (.Name n p) fld pos) (tXe X.K i C fld a cls d .fld) :=
  (pe_xf T hno hz hf (pe_var (X := X.suite a ((a, oe) :: pn)) hN hv hd hcd) (by rfl)).mono fun τ H Q ⟨h1, h2, ι, S, v0, d0, dd, e1, e2, r, q0, y, e3, q⟩ => by
    have e4 : y = d0 := (Option.some.inj e3).symm
    subst e4
    exact ⟨.ref a, h1, rfl, h2, dd, _, v0, e1, e2, by simp, q ι H v0 .refl r q0⟩
theorem dxs_nil : PA X [] (tXes X.K i C fld a cls d []) := pa_nil.mono fun τ H Q ⟨_, _, ι, S, v0, d0, dd, _, _, r, _, y, e1, q⟩ => by
  have e2 : y = [] := (Option.some.inj e1).symm
  subst e2
  exact q ι H [] .refl r .nil
theorem dxs_cons {e : Expr} {es : List Expr} {x : XE} {xs : List XE} (he : PE X e (tXe X.K i C fld a cls d x)) (hs : PA X es (tXes X.K i C fld a cls d xs)) (hp : plainE e = true) : PA X (e :: es) (tXes X.K i C fld a cls d (x :: xs)) :=
  (pa_cons he hs (starEach_plain hp)).mono fun τ H Q ⟨h1, h2, ι, S, v0, d0, dd, e1, e2, r, q0, y, e3, q⟩ => by
    unfold evXs at e3
    cases ea : evX x [d0] with
    | none => rw [ea] at e3; cases e3
    | some r1 =>
      cases eb : evXs xs [d0] with
      | none => rw [ea, eb] at e3; cases e3
      | some rs =>
        rw [ea, eb] at e3
        have e4 : y = r1 :: rs := (Option.some.inj e3).symm
        subst e4
        refine ⟨h1, h2, ι, S, v0, d0, dd, e1, e2, r, q0, r1, ea, fun ι' H' v ex r' qv => ?_⟩
        refine ⟨h1, h2, ι', S, v0, d0, dd, e1, (ex.keep _ _ e2 (xd_free r e2)).1, r', q0.mono r ex, rs, eb, fun ι2 H2 vs ex2 r2 qs => ?_⟩
        exact q ι2 H2 (v :: vs) (ex.trans ex2) r2 (.cons (qv.mono r' ex2) qs)
theorem dx_tup {es : List Expr} {xs : List XE} {x1} (hs : PA X es (tXes X.K i C fld a cls d xs)) (hl : xs.length ≤ 1000) : PE X (.Tuple es x1 pos) (tXe X.K i C fld a cls d (.tup xs)) :=
  (pe_tup hs).mono fun τ H Q ⟨h1, h2, ι, S, v0, d0, dd, e1, e2, r, q0, y, e3, q⟩ => by
    have e3' : (evXs xs [d0]).map D.tup = some y := e3
    obtain ⟨rs, eb, rfl⟩ := Option.map_eq_some_iff.mp e3'
    have len : ∀ {xs : List XE} {rs : List D}, evXs xs [d0] = some rs → rs.length = xs.length := by
      intro xs
      induction xs with
      | nil => intro rs h; cases h; rfl
      | cons x xs ih =>
        intro rs h
        unfold evXs at h
        cases ea : evX x [d0] with
        | none => rw [ea] at h; cases h
        | some r1 =>
          cases ec : evXs xs [d0] with
          | none => rw [ea, ec] at h; cases h
          | some r2 =>
            rw [ea, ec] at h
            cases h
            rw [List.length_cons, ih ec]; rfl
    refine ⟨h1, h2, ι, S, v0, d0, dd, e1, e2, r, q0, rs, eb, fun ι' H' vs ex r' qs => ⟨?_, fun p hp => ?_⟩⟩
    · rw [← qs.length, len eb]
      exact Nat.le_of_lt (small1000 hl)
    · have ex2 := Ext.put (o := .tup vs) r' hp
      exact q ι' _ _ (ex.trans ex2) (r'.put hp) (.tup (.inl (.inl upd_same)) (RelDs.mono r' ex2 qs))
end
/-- the suite: return x -/
def tsX (K : Fr') (i : Nat) (C : Addr) (fld : Str) (x : XE) (a : Addr) (cls : Value) (d : Option Addr) : TS := fun G τ H => tXe K i C fld a cls d x τ H G.rt
theorem ds_try {c i : Nat} {nm fld n : Str} {body : List Stmt} {xe : Expr} {x : XE} {np rp pos' pos : Pos} {mb : Sg → Sto → RS} {C : Addr} (hs : X.stack = X.env :: X.outer) (hf : X.env.frame = some X.env.locals) (hN : X.N.Nodup) (hi : X.N[i]? = some n) (hln : X.env.kindOf n = some .local)
    (hx : xi c = some (C, [fld])) (hc : Names X nm (.ref C)) (tk : Takes X W) (xm : ∀ c' C' ns, xi c' = some (C', ns) → PySem.W.exmOne X.K (.ref C') (.ref C) = some (decide (c' = c)))
    (hb : ∀ (W : WX) (pn : List (Addr × Obj)) (xe : Value → Shared → Prop), Takes (X.tr pn xe) W → PassesOwn (model X.prog X.w) X.A X.env xe → PSs (X.tr pn xe) body (tSm X.K xi W mb))
    (hsu : ∀ (a : Addr) (oe : Obj) (cls : Value) (d : Option Addr) (pn : List (Addr × Obj)), Zc cls d oe → (∃ vs, oe.data = .fields vs) → PE (X.suite a ((a, oe) :: pn)) xe (tXe X.K i C fld a cls d x)) :
    PS X (.Try body [.ExceptHandler (some (.Name nm np)) (some n) [.Return (some xe) rp] pos'] [] [] pos) (tSm X.K xi W fun σ S => catchR c i x (mb σ S)) := by
  refine (ps_try_as (tb := fun W' => tSm X.K xi W' mb) (ts := tsX X.K i C fld x) hs hf hN hi hln hc tk hb fun a oe cls d pn hz hv => pss_one ((ps_ret (hsu a oe cls d pn hz hv)).mono fun G τ H h => h)).mono fun G τ H ⟨ι, σ, S, r, g, h⟩ => ?_
  refine ⟨ι, σ, S, r, g, ?_⟩
  dsimp only at h
  revert h
  cases mb σ S with
  | next σ1 S1 => exact fun h => h
  | ret d S1 => exact fun h => h
  | brk σ1 S1 => exact fun h => h
  | cont σ1 S1 => exact fun h => h
  | no => exact fun h => h
  | exc e σ1 S1 =>
    intro h ι1 H1 τ1 cls dd ex r1 g1 rx
    obtain ⟨c', fs, C', names, rfl, hx', rfl, alt⟩ := rx
    have xm' := xm c' C' names hx'
    refine ⟨_, xm', fun hb a na => ?_, fun hb => ?_⟩
    · have ec : c' = c := of_decide_eq_true hb
      subst ec
      rw [hx] at hx'
      cases hx'
      unfold catchR at h
      dsimp only at h
      rw [if_pos rfl] at h
      by_cases hl : i < σ1.length
      · rw [if_pos hl] at h
        obtain ⟨y, ey, h2⟩ := PostS.opt h
        rcases alt with ⟨z, _⟩ | ⟨d, vs, rfl, hlen, hd, q⟩
        · cases z
        · cases q with
          | nil => cases hlen
          | cons q0 t =>
            cases t with
            | cons _ _ => simp at hlen
            | nil =>
              rename_i d0 v0
              refine ⟨?_, rfl, ι1, S1, v0, d0, d, rfl, hd, r1, q0, y, ey, fun ι' H' v ex' r' qv => h2 ι' H' v (ex.trans ex') r' qv⟩
              rw [List.getElem?_set_self (by rw [← g1.len]; exact hl)]
      · rw [if_neg hl] at h
        exact h.elim
    · have ec : c' ≠ c := of_decide_eq_false hb
      unfold catchR at h
      dsimp only at h
      rw [if_neg ec] at h
      exact h ι1 H1 τ1 _ dd ex r1 g1 ⟨c', fs, C', names, rfl, hx', rfl, alt⟩
end
end Cl

/-! part Py14 -/
/-! Cl: the checker of terms against the text, and that it is sound. -/
namespace Cl
open PySem PySem.Spec PyProof.Rows L2
/-! ### built-ins, methods -/
def bltN : Bf → Option String
  | .len => some "len" | .abs => some "abs" | .max2 => some "max" | .min2 => some "min" | .int1 => some "int" | .repr => some "repr"
  | .list1 => some "list" | .tuple1 => some "tuple" | .all1 => some "all" | .any1 => some "any" | _ => none
def BltOk (b : Bf) (x : Str) : Prop := (x ≠ "__name__" ∧ (x == ("__debug__" : Str)) = false) ∧
  ((∃ id, bootBuiltins x = some (.builtin id) ∧ ∀ (X : Cx) (xi : XI), X.calm = true → X.A.guards = some [] → X.A.units + 65 < cLine → CallR X (.builtin id) (rBt X.K xi b)) ∨
    ∃ T, bootBuiltins x = some (.type T) ∧ ∀ (X : Cx) (xi : XI), CallR X (.type T) (rBt X.K xi b))
theorem bltOk : ∀ {b : Bf} {nm : String}, bltN b = some nm → BltOk b (Str.ofString nm) := by
  intro b nm h
  cases b <;> cases h
  · exact ⟨by decide +kernel, .inl ⟨_, PySem.boot_len, fun X xi _ _ _ => cl_len⟩⟩
  · exact ⟨by decide +kernel, .inl ⟨"abs", by decide +kernel, fun X xi _ _ _ => cl_abs⟩⟩
  · exact ⟨by decide +kernel, .inl ⟨"max", by decide +kernel, fun X xi hc _ _ => cl_max2 hc⟩⟩
  · exact ⟨by decide +kernel, .inl ⟨"min", by decide +kernel, fun X xi hc _ _ => cl_min2 hc⟩⟩
  · exact ⟨by decide +kernel, .inr ⟨"int", by decide +kernel, fun X xi => cl_int1⟩⟩
  · exact ⟨by decide +kernel, .inl ⟨"repr", by decide +kernel, fun X xi _ hg hu => cl_repr hg hu⟩⟩
  · exact ⟨by decide +kernel, .inr ⟨"list", by decide +kernel, fun X xi => cl_list1⟩⟩
  · exact ⟨by decide +kernel, .inr ⟨"tuple", by decide +kernel, fun X xi => cl_tuple1⟩⟩
  · exact ⟨by decide +kernel, .inl ⟨"all", by decide +kernel, fun X xi hc _ _ => cl_all1 hc⟩⟩
  · exact ⟨by decide +kernel, .inl ⟨"any", by decide +kernel, fun X xi hc _ _ => cl_any1 hc⟩⟩
def mthN : Mt → Option String
  | .strip => some "strip" | .lower => some "lower" | .upper => some "upper" | .split => some "split" | .partition => some "partition" | .join => some "join"
  | .find => some "find" | .index => some "index" | .count => some "count" | .append => some "append" | .pop => some "pop" | _ => none
def MthOk (m : Mt) (x : Str) : Prop := ∃ T id, T = (if m.ofList then "list" else "str") ∧ PlainAttrs T ∧ Slot T x id ∧ typeOf (.builtin id) = pure (.type "method_descriptor") ∧ ∀ (X : Cx) (xi : XI), MtR X id (rMt X.K xi m)
theorem mthOk : ∀ {m : Mt} {nm : String}, mthN m = some nm → MthOk m (Str.ofString nm) := by
  intro m nm h
  cases m <;> cases h
  · exact ⟨_, _, rfl, PySem.F.plainAttrs_str, PySem.F.slot_str_strip, PySem.F.type_str_strip, fun X xi => ml_strip⟩
  · exact ⟨_, _, rfl, PySem.F.plainAttrs_str, PySem.F.slot_str_lower, PySem.F.type_str_lower, fun X xi => ml_lower⟩
  · exact ⟨_, _, rfl, PySem.F.plainAttrs_str, PySem.F.slot_str_upper, PySem.F.type_str_upper, fun X xi => ml_upper⟩
  · exact ⟨_, _, rfl, PySem.F.plainAttrs_str, PySem.F.slot_str_split, PySem.F.type_str_split, fun X xi => ml_split⟩
  · exact ⟨_, _, rfl, PySem.F.plainAttrs_str, PySem.F.slot_str_partition, PySem.F.type_str_partition, fun X xi => ml_partition⟩
  · exact ⟨_, _, rfl, PySem.F.plainAttrs_str, PySem.F.slot_str_join, PySem.F.type_str_join, fun X xi => ml_join⟩
  · exact ⟨_, _, rfl, PySem.F.plainAttrs_str, PySem.F.slot_str_find, PySem.F.type_str_find, fun X xi => ml_find⟩
  · exact ⟨_, _, rfl, PySem.F.plainAttrs_str, PySem.F.slot_str_count, PySem.F.type_str_count, fun X xi => ml_count⟩
  · exact ⟨_, _, rfl, PySem.F.plainAttrs_str, PySem.F.slot_str_index, PySem.F.type_str_index, fun X xi => ml_index⟩
  · exact ⟨_, _, rfl, PySem.F.plainAttrs_list, PySem.F.slot_list_append, PySem.F.type_list_append, fun X xi => ml_append⟩
  · exact ⟨_, _, rfl, PySem.F.plainAttrs_list, PySem.F.slot_list_pop, PySem.F.type_list_pop, fun X xi => ml_pop⟩
/-! ### tables -/
structure Tab where
  T : List DefT
  G : List String
  B : List String
  X : List (String × String)
structure Cxt (t : Tab) (X : Cx) (xi : XI) (W : WX) (C : Cfg) (sc : Scope) (N : List Str) (n : Nat) : Prop where
  hs : X.env.scope = sc
  kind : sc.kind = .function
  hN : X.N = N
  nd : N.Nodup
  calm : X.calm = true
  g : GOk n X.A
  n2 : 2 ≤ n
  tk : Takes X W
  fn : ∀ f d, t.T[f]? = some d → ∃ a fd, X.mg d.name = some (.ref a) ∧ PySem.W.keepIn X.K (.ref a) = true ∧ Binds X.K fd d.ps [] ∧ (∀ sh ∈ d.shapes, KFact X.K fd d.ps sh.1 sh.2.1 sh.2.2) ∧ FnG X.prog X.w X.K X.mg X.base n a fd d.ps (spF X.K xi (C.call f))
  gl : ∀ g x, t.G[g]? = some x → ∃ d u v, C.glo g = some d ∧ X.mg (Str.ofString x) = some u ∧ RelV v u ∧ ∀ ι H, RelD X.K ι H d v
  bl : ∀ x ∈ t.B, X.mg (Str.ofString x) = none
  xc : ∀ c nm fld, t.X[c]? = some (nm, fld) → XCls X.prog X.w X.K X.mg X.base xi c (Str.ofString nm) (Str.ofString fld)
  xm : ∀ c C ns c' C' ns', xi c = some (C, ns) → xi c' = some (C', ns') → PySem.W.exmOne X.K (.ref C') (.ref C) = some (decide (c' = c))
theorem Cxt.hu {t : Tab} {X : Cx} {xi : XI} {W : WX} {C : Cfg} {sc : Scope} {N : List Str} {n : Nat} (c : Cxt t X xi W C sc N n) : X.A.units + 65 < cLine := by
  have := c.g.room.un
  omega
theorem takes_no {X : Cx} {s : Shared} {H : Hp} {sc : Scope} {e : Env} {fp : List Addr} : Takes (X.blk s H sc e fp) noW := fun u s' h => by
  obtain ⟨_, _, _, _, _, _, _, _, _, _, _, _, _, _, _, _, z⟩ := h
  exact z.elim
theorem Cxt.blk {t : Tab} {X : Cx} {xi : XI} {W : WX} {C : Cfg} {sc : Scope} {N : List Str} {n : Nat} (c : Cxt t X xi W C sc N n) (s : Shared) (H : Hp) {scope : Scope} (hk : scope.kind = .function) (a : Addr) (cl : List (Str × Addr)) (fp : List Addr) :
    Cxt t (X.blk s H scope (compEnvC scope cl a X.env) fp) xi noW C (relS scope sc) N n :=
  ⟨by rw [← c.hs]; rfl, hk, c.hN, c.nd, c.calm, c.g, c.n2, takes_no, c.fn, c.gl, c.bl, c.xc, c.xm⟩

/-! ### the checker -/
def eqS (x : Str) (s : String) : Bool := decide (x = Str.ofString s)
def visB (sc : Scope) (x : Str) : Bool := match sc.names.lookup x with
  | some .local => true
  | some .cell => true
  | some .free => true
  | _ => false
def glB (sc : Scope) (x : Str) : Bool := match sc.names.lookup x with
  | some .globalImplicit => true
  | _ => false
def dbgB (x : Str) : Bool := !(x == ("__debug__" : Str)) && !(x == ("__classdict__" : Str))
theorem vis_of {sc : Scope} {x : Str} (h : visB sc x = true) : Vis sc x := by
  unfold visB at h
  split at h
  · rename_i e; exact .inl e
  · rename_i e; exact .inr (.inl e)
  · rename_i e; exact .inr (.inr e)
  · cases h
theorem gl_of {sc : Scope} {x : Str} (h : glB sc x = true) : sc.names.lookup x = some .globalImplicit := by
  unfold glB at h
  split at h
  · rename_i e; exact e
  · cases h
/-- a target's names -/
def locS (strict : Bool) (sc : Scope) (x : Str) : Bool := if strict then decide (sc.names.lookup x = some .local) else locB sc x
theorem locS_ok {strict : Bool} {sc : Scope} {x : Str} (h : locS strict sc x = true) : Loc sc x ∧ (strict = true → sc.names.lookup x = some .local) := by
  unfold locS at h
  cases strict with
  | true =>
    have h' := of_decide_eq_true h
    exact ⟨.inl h', fun _ => h'⟩
  | false => exact ⟨loc_of h, fun z => by cases z⟩
def storsB (strict : Bool) (N : List Str) (sc : Scope) : List Nat → List Expr → Bool
  | [], [] => true
  | i :: is, .Name x _ :: es => decide (N[i]? = some x) && locS strict sc x && storsB strict N sc is es
  | _, _ => false
def tgB (strict : Bool) (N : List Str) (sc : Scope) (tg : List Nat) (tup : Bool) (e : Expr) : Bool := match tup, e with
  | false, .Name x p => decide (tg.length = 1) && storsB strict N sc tg [.Name x p]
  | true, .Tuple es _ _ => storsB strict N sc tg es
  | _, _ => false
def isTup : Expr → Bool
  | .Tuple .. => true
  | _ => false
def tyB (t : Tab) (sc : Scope) (ty : Ty) (x : Str) : Bool := match tyN ty with
  | some nm => eqS x nm && glB sc x && t.B.contains nm
  | none => false
def tysB (t : Tab) (sc : Scope) : List Ty → List Expr → Bool
  | [], [] => true
  | ty :: ts, .Name x _ :: es => tyB t sc ty x && tysB t sc ts es
  | _, _ => false
def lenEs : Es → Nat
  | .nil => 0
  | .cons _ es => lenEs es + 1
def kwB : List String → List Keyword → Option (List Expr)
  | [], [] => some []
  | n :: ns, ⟨some x, e, _⟩ :: ks => if x = Str.ofString n then (kwB ns ks).map (e :: ·) else none
  | _, _ => none
def ownS (own : List (String × Nat)) : List (Str × Nat) := own.map fun p => (Str.ofString p.1, p.2)
theorem ownS_ix (own : List (String × Nat)) : (ownS own).map (·.2) = own.map (·.2) := by
  unfold ownS
  rw [List.map_map]
  rfl
def permB : List (Sum Nat Kd) → List (Sum Nat Kd) → Bool
  | [], [] => true
  | .inl i :: p, .inl j :: q => decide (i = j) && permB p q
  | .inr a :: p, .inr b :: q => decide (a = b) && permB p q
  | _, _ => false
theorem permB_eq : ∀ {p q : List (Sum Nat Kd)}, permB p q = true → p = q
  | [], [], _ => rfl
  | .inl i :: p, .inl j :: q, h => by
    unfold permB at h
    rw [Bool.and_eq_true] at h
    rw [of_decide_eq_true h.1, permB_eq h.2]
  | .inr i :: p, .inr j :: q, h => by
    unfold permB at h
    rw [Bool.and_eq_true] at h
    rw [of_decide_eq_true h.1, permB_eq h.2]
  | [], _ :: _, h => by cases h
  | .inl _ :: _, [], h => by cases h
  | .inr _ :: _, [], h => by cases h
  | .inl _ :: _, .inr _ :: _, h => by cases h
  | .inr _ :: _, .inl _ :: _, h => by cases h
def shapeB (n : Nat) (names : List String) (perm : List (Sum Nat Kd)) (l : List (Nat × List String × List (Sum Nat Kd))) : Bool := l.any fun s => decide (s.1 = n) && decide (s.2.1 = names) && permB s.2.2 perm
theorem shapeB_mem {n : Nat} {names : List String} {perm : List (Sum Nat Kd)} {l : List (Nat × List String × List (Sum Nat Kd))} (h : shapeB n names perm l = true) : (n, names, perm) ∈ l := by
  obtain ⟨s, hs, h⟩ := List.any_eq_true.mp h
  rw [Bool.and_eq_true, Bool.and_eq_true] at h
  have e : s = (n, names, perm) := by
    rw [← of_decide_eq_true h.1.1, ← of_decide_eq_true h.1.2, ← permB_eq h.2]
  rw [← e]
  exact hs
mutual
def chkE (t : Tab) (N : List Str) (sc : Scope) : E → Expr → Bool
  | .non, x => match x with | .Constant .none _ _ => true | _ => false
  | .bl b, x => match x with | .Constant (.bool c) _ _ => decide (b = c) | _ => false
  | .int i, x => match x with | .Constant (.int j) _ _ => decide (i = j) | _ => false
  | .str s, x => match x with | .Constant (.str y) _ _ => decide (y = SX.S s) && decide (s.length ≤ LIM) && asciiAll s | _ => false
  | .var i, x => match x with | .Name y _ => decide (N[i]? = some y) && visB sc y && dbgB y | _ => false
  | .glo g, x => match x with | .Name y _ => glB sc y && dbgB y && (match t.G[g]? with | some z => eqS y z | none => false) | _ => false
  | .bin o a b, x => match x with | .BinOp l op r _ => decide (op = opOf o) && chkE t N sc a l && chkE t N sc b r | _ => false
  | .neg a, x => match x with | .UnaryOp .USub l _ => chkE t N sc a l | _ => false
  | .not a, x => match x with | .UnaryOp .Not l _ => chkE t N sc a l | _ => false
  | .bop k es, x => match x with | .BoolOp op xs _ => decide (op = if k then .And else .Or) && chkEs t N sc es xs | _ => false
  | .ite c a b, x => match x with | .IfExp y l r _ => chkE t N sc c y && chkE t N sc a l && chkE t N sc b r | _ => false
  | .cmp o a b, x => match x with | .Compare l [op] [r] _ => decide (op = cmOf o) && chkE t N sc a l && chkE t N sc b r && notSet r | _ => false
  | .chain o p a b c, x => match x with | .Compare l [op, op2] [r, r2] _ => decide (op = cmOf o) && decide (op2 = cmOf p) && chkE t N sc a l && chkE t N sc b r && chkE t N sc c r2 && notSet r2 | _ => false
  | .tup es, x => match x with | .Tuple xs _ _ => chkEs t N sc es xs | _ => false
  | .lst es, x => match x with | .List xs _ => chkEs t N sc es xs | _ => false
  | .idx a b, x => match x with | .Subscript l r _ => chkE t N sc a l && chkE t N sc b r && notSlice r | _ => false
  | .slc a lo hi, x => match x with | .Subscript l (.Slice u v none _) _ => chkE t N sc a l && chkO t N sc lo u && chkO t N sc hi v | _ => false
  | .fld _ _, _ => false
  | .call f es, x => match x with | .Call (.Name y _) xs [] _ => glB sc y && dbgB y && xs.all plainE && (match t.T[f]? with | some d => decide (y = d.name) | none => false) && chkEs t N sc es xs | _ => false
  | .callk f es ks names perm, x => match x with
    | .Call (.Name y _) xs kws _ => glB sc y && dbgB y && xs.all plainE && (match t.T[f]? with | some d => decide (y = d.name) && shapeB xs.length names perm d.shapes | none => false) && permOk perm && chkEs t N sc es xs &&
      (match kwB names kws with | some zs => chkEs t N sc ks zs | none => false)
    | _ => false
  | .blt b es, x => match x with | .Call (.Name y _) (x1 :: xs) [] _ => glB sc y && (x1 :: xs).all plainE && (match bltN b with | some nm => eqS y nm && t.B.contains nm | none => false) && chkEs t N sc es (x1 :: xs) | _ => false
  | .isi a ts single, x => match x with
    | .Call (.Name y _) [e, .Name z _] [] _ => single && eqS y "isinstance" && glB sc y && t.B.contains "isinstance" && plainE e && (match ts with | [ty] => tyB t sc ty z | _ => false) && chkE t N sc a e
    | .Call (.Name y _) [e, .Tuple es _ _] [] _ => !single && eqS y "isinstance" && glB sc y && t.B.contains "isinstance" && plainE e && tysB t sc ts es && decide (ts.length ≤ 1000) && !ts.isEmpty && chkE t N sc a e
    | _ => false
  | .mth m o es, x => match x with
    | .Call (.Attribute y name apos) xs [] cpos => (match mthN m with | some nm => eqS name nm | none => false) && plainBase y && (apos.endLine == cpos.line) && xs.all plainE && decide (xs.length < 30) && chkE t N sc o y && chkEs t N sc es xs
    | _ => false
  | .comp elt tg tup it cond own, x => match x with
    | .ListComp el [⟨te, iter, ifs, z⟩] scope _ => decide (z = 0) && blkC N sc scope (ownS own) && tg.all (fun i => (own.map (·.2)).contains i) && tgB true N (relS scope sc) tg tup te && notSetE iter && chkI t N sc it (isTup te) iter && chkC t N (relS scope sc) cond ifs && chkE t N (relS scope sc) elt el
    | _ => false
def chkEs (t : Tab) (N : List Str) (sc : Scope) : Es → List Expr → Bool
  | .nil, xs => match xs with | [] => true | _ => false
  | .cons e es, xs => match xs with | y :: ys => chkE t N sc e y && plainE y && chkEs t N sc es ys | _ => false
def chkO (t : Tab) (N : List Str) (sc : Scope) : Es → Option Expr → Bool
  | .nil, x => match x with | none => true | _ => false
  | .cons e _, x => match x with | some y => chkE t N sc e y | _ => false
def chkC (t : Tab) (N : List Str) (sc : Scope) : Es → List Expr → Bool
  | .nil, xs => match xs with | [] => true | _ => false
  | .cons e _, xs => match xs with | [y] => chkE t N sc e y | _ => false
def chkI (t : Tab) (N : List Str) (sc : Scope) : It → Bool → Expr → Bool
  | .val e, _, x => chkE t N sc e x
  | .rng es, _, x => match x with
    | .Call (.Name y _) [a] [] _ => eqS y "range" && glB sc y && t.B.contains "range" && chkEs t N sc es [a]
    | .Call (.Name y _) [a, b] [] _ => eqS y "range" && glB sc y && t.B.contains "range" && chkEs t N sc es [a, b]
    | _ => false
  | .enm e, tp, x => match x with | .Call (.Name y _) [a] [] _ => tp && eqS y "enumerate" && glB sc y && t.B.contains "enumerate" && plainE a && chkE t N sc e a | _ => false
  | .zip e f, tp, x => match x with | .Call (.Name y _) [a, b] [] _ => tp && eqS y "zip" && glB sc y && t.B.contains "zip" && plainE a && plainE b && chkE t N sc e a && chkE t N sc f b | _ => false
end
/-! ### lengths -/
theorem evEs_len {C : Cfg} : ∀ {es : Es} {σ : Sg} {S S1 : Sto} {vs : List D}, evEs C es σ S = .ok vs S1 → vs.length = lenEs es
  | .nil, _, _, _, _, h => by
    unfold evEs at h
    cases h
    rfl
  | .cons e es, σ, S, S1, vs, h => by
    unfold evEs at h
    cases e1 : evE C e σ S with
    | no => rw [e1] at h; cases h
    | exc _ _ => rw [e1] at h; cases h
    | ok x S2 =>
      rw [e1, R.bind_ok] at h
      cases e2 : evEs C es σ S2 with
      | no => rw [e2] at h; cases h
      | exc _ _ => rw [e2] at h; cases h
      | ok xs S3 =>
        rw [e2, R.bind_ok] at h
        cases h
        rw [List.length_cons, evEs_len e2]
        rfl
theorem chkEs_len {t : Tab} {N : List Str} {sc : Scope} : ∀ {es : Es} {xs : List Expr}, chkEs t N sc es xs = true → lenEs es = xs.length
  | .nil, xs, h => by
    unfold chkEs at h
    cases xs with
    | nil => rfl
    | cons _ _ => cases h
  | .cons e es, xs, h => by
    unfold chkEs at h
    cases xs with
    | nil => cases h
    | cons y ys =>
      dsimp only at h
      rw [Bool.and_eq_true] at h
      rw [List.length_cons, ← chkEs_len h.2]
      rfl
theorem chkEs_plain {t : Tab} {N : List Str} {sc : Scope} : ∀ {es : Es} {xs : List Expr}, chkEs t N sc es xs = true → xs.all plainE = true
  | .nil, xs, h => by
    unfold chkEs at h
    cases xs with
    | nil => rfl
    | cons _ _ => cases h
  | .cons e es, xs, h => by
    unfold chkEs at h
    cases xs with
    | nil => cases h
    | cons y ys =>
      dsimp only at h
      rw [Bool.and_eq_true, Bool.and_eq_true] at h
      rw [List.all_cons, h.1.2, chkEs_plain h.2]
      rfl
theorem kwB_ok : ∀ {ns : List String} {ks : List Keyword} {zs : List Expr}, kwB ns ks = some zs → Kws ns zs ks
  | [], [], zs, h => by
    cases h
    exact .nil
  | n :: ns, ⟨some x, e, p⟩ :: ks, zs, h => by
    unfold kwB at h
    split at h
    · rename_i hx
      obtain ⟨ys, e1, rfl⟩ := Option.map_eq_some_iff.mp h
      subst hx
      exact .cons (kwB_ok e1)
    · cases h
  | [], _ :: _, _, h => by cases h
  | _ :: _, [], _, h => by cases h
  | _ :: _, ⟨none, _, _⟩ :: _, _, h => by cases h
theorem stors_of {strict : Bool} {X : Cx} {sc : Scope} {N : List Str} (hs : X.env.scope = sc) (hN : X.N = N) (hf : strict = true ∨ ∀ x, X.fn x = true) : ∀ {is : List Nat} {es : List Expr}, storsB strict N sc is es = true → Stors X is es
  | [], [], _ => .nil
  | [], _ :: _, h => by cases h
  | _ :: _, [], h => by cases h
  | i :: is, e :: es, h => by
    cases e with
    | Name x p =>
      unfold storsB at h
      rw [Bool.and_eq_true, Bool.and_eq_true] at h
      have l := locS_ok h.1.2
      exact .cons ⟨by rw [hN]; exact of_decide_eq_true h.1.1, by rw [hs]; exact l.1, by rw [hs]; exact hf.elim (fun z => .inr (l.2 z)) fun z => .inl (z x)⟩ (stors_of hs hN hf h.2)
    | _ => cases h
theorem tgOk_of {strict : Bool} {X : Cx} {sc : Scope} {N : List Str} {tg : List Nat} {tup : Bool} {e : Expr} (hs : X.env.scope = sc) (hN : X.N = N) (hf : strict = true ∨ ∀ x, X.fn x = true) (h : tgB strict N sc tg tup e = true) : TgOk X tg tup e := by
  cases tup with
  | false =>
    cases e with
    | Name x p =>
      unfold tgB at h
      rw [Bool.and_eq_true] at h
      cases stors_of hs hN hf h.2 with
      | cons s t =>
        cases t
        exact ⟨_, x, p, rfl, rfl, s⟩
    | _ => cases h
  | true =>
    cases e with
    | Tuple es k p => exact ⟨es, k, p, rfl, stors_of hs hN hf h⟩
    | _ => cases h
end Cl

/-! part Py15 -/
/-! Cl: soundness of the checker, expressions. -/
namespace Cl
open PySem PySem.Spec PyProof.Rows L2
theorem Kws.len {xs es ks} (h : Kws xs es ks) : es.length = xs.length := by
  induction h with
  | nil => rfl
  | cons _ ih => simp [ih]
theorem and2 {a b : Bool} (h : (a && b) = true) : a = true ∧ b = true := by rwa [Bool.and_eq_true] at h
theorem dbg1 {x : Str} (h : dbgB x = true) : (x == ("__debug__" : Str)) = false ∧ (x == ("__classdict__" : Str)) = false := by
  unfold dbgB at h
  simp only [Bool.and_eq_true] at h
  obtain ⟨a, b⟩ := h
  exact ⟨by simpa using a, by simpa using b⟩
theorem de_glo {X : Cx} {xi : XI} {W : WX} {C : Cfg} {g : Nat} {x : Str} {pos : Pos} (hg : Gl X x) (hdb : (x == ("__debug__" : Str)) = false) (h : ∃ d u v, C.glo g = some d ∧ X.mg x = some u ∧ RelV v u ∧ ∀ ι H, RelD X.K ι H d v) :
    PE X (.Name x pos) (tD X.K xi W fun _ S => R.opt (C.glo g) fun d => .ok d S) := by
  obtain ⟨d, u, v, h1, h2, h3, h4⟩ := h
  refine (pe_glob hg h2 h3 hdb).mono fun τ H Q ⟨ι, σ, S, r, _, h⟩ => ?_
  rw [h1] at h
  exact PostR.now (show PostR X.K xi (RelD X.K) _ ι S H Q (.ok d S) from h) r (h4 ι H)
abbrev Ev (X : Cx) (xi : XI) (W : WX) (m : Sg → Sto → R D) (x : Expr) : Prop := PE X x (tD X.K xi W m) ∧ PT X x (tDT X.K xi W (tstD m))
theorem ev_plain {X : Cx} {xi : XI} {W : WX} {m : Sg → Sto → R D} {x : Expr} (h : PE X x (tD X.K xi W m)) (he : ∀ whole, isTrue x X.env whole = (do let v ← whole; standAt x.pos; holding [v] (truthy v))) : Ev X xi W m x := ⟨h, dt_plain h he⟩
theorem Cxt.gl_ {t : Tab} {X : Cx} {xi : XI} {W : WX} {C : Cfg} {sc : Scope} {N : List Str} {n : Nat} (c : Cxt t X xi W C sc N n) {x : Str} (h : glB sc x = true) : Gl X x := by
  show X.env.scope.names.lookup x = some .globalImplicit
  rw [c.hs]
  exact gl_of h
theorem Cxt.bl_ {t : Tab} {X : Cx} {xi : XI} {W : WX} {C : Cfg} {sc : Scope} {N : List Str} {n : Nat} (c : Cxt t X xi W C sc N n) {s : String} (h : t.B.contains s = true) : X.mg (Str.ofString s) = none := c.bl s (by simpa using h)
theorem tyB_ok {t : Tab} {X : Cx} {xi : XI} {W : WX} {C : Cfg} {sc : Scope} {N : List Str} {n : Nat} (c : Cxt t X xi W C sc N n) {ty : Ty} {x : Str} (h : tyB t sc ty x = true) : ∃ nm, tyN ty = some nm ∧ Gl X (Str.ofString nm) ∧ X.mg (Str.ofString nm) = none ∧ x = Str.ofString nm := by
  unfold tyB at h
  split at h
  · rename_i nm e
    simp only [Bool.and_eq_true] at h
    obtain ⟨⟨h0, h1⟩, h2⟩ := h
    have ex := of_decide_eq_true h0
    exact ⟨nm, e, by rw [← ex]; exact c.gl_ h1, c.bl_ h2, ex⟩
  · cases h
theorem tysB_ok {t : Tab} {X : Cx} {xi : XI} {W : WX} {C : Cfg} {sc : Scope} {N : List Str} {n : Nat} (c : Cxt t X xi W C sc N n) : ∀ {ts : List Ty} {es : List Expr}, tysB t sc ts es = true → TyNames X ts es
  | [], [], _ => .nil
  | [], _ :: _, h => by cases h
  | _ :: _, [], h => by cases h
  | ty :: ts, e :: es, h => by
    cases e with
    | Name x p =>
      unfold tysB at h
      obtain ⟨h0, h1⟩ := and2 h
      obtain ⟨nm, n1, n2, n3, n4⟩ := tyB_ok c h0
      subst n4
      exact .cons n1 n2 n3 (tysB_ok c h1)
    | _ => cases h
mutual
theorem sE {t : Tab} {N : List Str} {C : Cfg} {xi : XI} {n : Nat} : ∀ (e : E) (x : Expr) (sc : Scope) (X : Cx) (W : WX), chkE t N sc e x = true → Cxt t X xi W C sc N n → Ev X xi W (evE C e) x
  | .non, x, sc, X, W, h, c => by
    cases x <;> unfold chkE at h <;> try cases h
    rename_i v _ _
    cases v <;> try cases h
    exact ev_plain de_non fun _ => rfl
  | .bl b, x, sc, X, W, h, c => by
    cases x <;> unfold chkE at h <;> try cases h
    rename_i v _ _
    cases v <;> try cases h
    have e := of_decide_eq_true h
    subst e
    exact ev_plain de_bl fun _ => rfl
  | .int i, x, sc, X, W, h, c => by
    cases x <;> unfold chkE at h <;> try cases h
    rename_i v _ _
    cases v <;> try cases h
    have e := of_decide_eq_true h
    subst e
    exact ev_plain de_int fun _ => rfl
  | .str s, x, sc, X, W, h, c => by
    cases x <;> unfold chkE at h <;> try cases h
    rename_i v _ _
    cases v <;> try cases h
    simp only [Bool.and_eq_true] at h
    obtain ⟨⟨h0, h1⟩, h2⟩ := h
    exact ev_plain (de_str (of_decide_eq_true h0) (of_decide_eq_true h1) h2) fun _ => rfl
  | .var i, x, sc, X, W, h, c => by
    cases x <;> unfold chkE at h <;> try cases h
    simp only [Bool.and_eq_true] at h
    obtain ⟨⟨h0, h1⟩, h2⟩ := h
    exact ev_plain (de_var (by rw [c.hN]; exact of_decide_eq_true h0) (by rw [c.hs]; exact vis_of h1) (dbg1 h2).1 (dbg1 h2).2) fun _ => rfl
  | .glo g, x, sc, X, W, h, c => by
    cases x <;> unfold chkE at h <;> try cases h
    simp only [Bool.and_eq_true] at h
    obtain ⟨⟨h0, h1⟩, h2⟩ := h
    cases eg : t.G[g]? with
    | none => simp only [eg] at h2; cases h2
    | some z =>
      simp only [eg] at h2
      have e := of_decide_eq_true h2
      subst e
      exact ev_plain (de_glo (c.gl_ h0) (dbg1 h1).1 (c.gl g z eg)) fun _ => rfl
  | .bin o a b, x, sc, X, W, h, c => by
    cases x <;> unfold chkE at h <;> try cases h
    simp only [Bool.and_eq_true] at h
    obtain ⟨⟨h0, h1⟩, h2⟩ := h
    have e := of_decide_eq_true h0
    subst e
    exact ev_plain (de_bin (opr_all o) (sE a _ sc X W h1 c).1 (sE b _ sc X W h2 c).1) fun _ => rfl
  | .neg a, x, sc, X, W, h, c => by
    cases x <;> unfold chkE at h <;> try cases h
    rename_i op _ _
    cases op <;> try cases h
    exact ev_plain (de_neg (sE a _ sc X W h c).1) fun _ => rfl
  | .not a, x, sc, X, W, h, c => by
    cases x <;> unfold chkE at h <;> try cases h
    rename_i op _ _
    cases op <;> try cases h
    have ih := sE a _ sc X W h c
    exact ⟨de_not ih.1, dt_not ih.2⟩
  | .bop k es, x, sc, X, W, h, c => by
    cases x <;> unfold chkE at h <;> try cases h
    simp only [Bool.and_eq_true] at h
    obtain ⟨h0, h1⟩ := h
    have e := of_decide_eq_true h0
    subst e
    exact sB k es _ _ sc X W h1 c
  | .ite p a b, x, sc, X, W, h, c => by
    cases x <;> unfold chkE at h <;> try cases h
    simp only [Bool.and_eq_true] at h
    obtain ⟨⟨h0, h1⟩, h2⟩ := h
    have i0 := sE p _ sc X W h0 c
    have i1 := sE a _ sc X W h1 c
    have i2 := sE b _ sc X W h2 c
    exact ⟨de_ite i0.2 i1.1 i2.1, dt_ite i0.2 i1.2 i2.2⟩
  | .cmp o a b, x, sc, X, W, h, c => by
    cases x <;> unfold chkE at h <;> try cases h
    rename_i l ops rs pos
    split at h
    · simp only [Bool.and_eq_true] at h
      obtain ⟨⟨⟨h0, h1⟩, h2⟩, h3⟩ := h
      rename_i op r e1
      cases e1
      have e := of_decide_eq_true h0
      subst e
      have i1 := sE a _ sc X W h1 c
      have i2 := sE b _ sc X W h2 c
      exact ⟨de_cmp c.hu i1.1 i2.1 h3, dt_cmp c.hu i1.1 i2.1 h3⟩
    · cases h
  | .chain o p a b d, x, sc, X, W, h, c => by
    cases x <;> unfold chkE at h <;> try cases h
    rename_i l ops rs pos
    split at h
    · simp only [Bool.and_eq_true] at h
      obtain ⟨⟨⟨⟨⟨h0, h1⟩, h2⟩, h3⟩, h4⟩, h5⟩ := h
      rename_i op op2 r r2 e1
      cases e1
      have e := of_decide_eq_true h0
      subst e
      have e := of_decide_eq_true h1
      subst e
      have i1 := sE a _ sc X W h2 c
      have i2 := sE b _ sc X W h3 c
      have i3 := sE d _ sc X W h4 c
      exact ⟨de_chain c.hu i1.1 i2.1 i3.1 h5, dt_chain c.hu i1.1 i2.1 i3.1 h5⟩
    · cases h
  | .tup es, x, sc, X, W, h, c => by
    cases x <;> unfold chkE at h <;> try cases h
    exact ev_plain (de_tup (sEs es _ sc X W h c)) fun _ => rfl
  | .lst es, x, sc, X, W, h, c => by
    cases x <;> unfold chkE at h <;> try cases h
    exact ev_plain (de_lst (sEs es _ sc X W h c)) fun _ => rfl
  | .idx a b, x, sc, X, W, h, c => by
    cases x <;> unfold chkE at h <;> try cases h
    simp only [Bool.and_eq_true] at h
    obtain ⟨⟨h0, h1⟩, h2⟩ := h
    exact ev_plain (de_idx (sE a _ sc X W h0 c).1 (sE b _ sc X W h1 c).1 h2) fun _ => rfl
  | .slc a lo hi, x, sc, X, W, h, c => by
    unfold chkE at h
    split at h
    · rename_i l u v p2 pos
      simp only [Bool.and_eq_true] at h
      obtain ⟨⟨h0, h1⟩, h2⟩ := h
      exact ev_plain (de_slc (sE a _ sc X W h0 c).1 (sO lo _ sc X W h1 c) (sO hi _ sc X W h2 c)) fun _ => rfl
    · cases h
  | .fld a f, x, sc, X, W, h, c => by
    unfold chkE at h
    cases h
  | .call f es, x, sc, X, W, h, c => by
    unfold chkE at h
    split at h
    · simp only [Bool.and_eq_true] at h
      obtain ⟨⟨⟨⟨h0, h1⟩, h2⟩, h3⟩, h4⟩ := h
      cases ef : t.T[f]? with
      | none => rw [ef] at h3; cases h3
      | some d =>
        rw [ef] at h3
        have e := of_decide_eq_true h3
        subst e
        obtain ⟨a, fd, m1, m2, m3, m4, m5⟩ := c.fn f d ef
        exact ev_plain (de_call m5 c.g c.tk (c.gl_ h0) m1 m2 m3 (sEs es _ sc X W h4 c) h2 (dbg1 h1).1) fun _ => rfl
    · cases h
  | .callk f es ks names perm, x, sc, X, W, h, c => by
    unfold chkE at h
    split at h
    · simp only [Bool.and_eq_true] at h
      obtain ⟨⟨⟨⟨⟨⟨h0, h1⟩, h2⟩, h3⟩, h4⟩, h5⟩, h6⟩ := h
      cases ef : t.T[f]? with
      | none => rw [ef] at h3; cases h3
      | some d =>
        rw [ef] at h3
        obtain ⟨h3, hsh⟩ := and2 h3
        have e := of_decide_eq_true h3
        subst e
        obtain ⟨a, fd, m1, m2, m3, m4, m5⟩ := c.fn f d ef
        split at h6
        · rename_i zs ek
          have kw := kwB_ok ek
          have hn : zs.length = names.length := kw.len
          refine ev_plain (de_callk m5 c.g c.tk (c.gl_ h0) m1 m2 (m4 _ (shapeB_mem hsh)) h4 (sEs es _ sc X W h5 c) h2 kw (sK ks _ sc X W h6 kw c) (fun σ S vs S1 hv => ?_) (fun σ S vs S1 hv => ?_) (fun e0 => ?_) (dbg1 h1).1) fun _ => rfl
          · rw [evEs_len hv, chkEs_len h5]
          · rw [evEs_len hv, chkEs_len h6, hn]
          · subst e0
            cases es with
            | nil => rfl
            | cons _ _ => cases h5
        · cases h6
    · cases h
  | .blt b es, x, sc, X, W, h, c => by
    unfold chkE at h
    split at h
    · simp only [Bool.and_eq_true] at h
      obtain ⟨⟨⟨h0, h1⟩, h2⟩, h3⟩ := h
      cases eb : bltN b with
      | none => rw [eb] at h2; cases h2
      | some nm =>
        rw [eb] at h2
        obtain ⟨h2, hB⟩ := and2 h2
        have e := of_decide_eq_true h2
        subst e
        obtain ⟨⟨nn, nd⟩, ok⟩ := bltOk eb
        refine ev_plain ?_ fun _ => rfl
        rcases ok with ⟨id, o1, o2⟩ | ⟨T, o1, o2⟩
        · exact de_bltF (o2 X xi c.calm c.g.gu c.hu) (c.gl_ h0) (c.bl_ hB) o1 (sEs es _ sc X W h3 c) nn nd h1
        · exact de_bltT (o2 X xi) (c.gl_ h0) (c.bl_ hB) o1 (sEs es _ sc X W h3 c) nn nd h1
    · cases h
  | .isi a ts single, x, sc, X, W, h, c => by
    unfold chkE at h
    split at h
    · simp only [Bool.and_eq_true] at h
      obtain ⟨⟨⟨⟨⟨⟨h0, h1⟩, h2⟩, h3⟩, h4⟩, h5⟩, h6⟩ := h
      have e := of_decide_eq_true h1
      subst e
      cases ts with
      | nil => cases h5
      | cons ty ts =>
        cases ts with
        | cons _ _ => cases h5
        | nil =>
          obtain ⟨nm, n1, n2, n3, n4⟩ := tyB_ok c h5
          subst n4
          exact ev_plain (de_isi1 n1 (c.gl_ h2) (c.bl_ h3) n2 n3 (sE a _ sc X W h6 c).1 h4) fun _ => rfl
    · simp only [Bool.and_eq_true] at h
      obtain ⟨⟨⟨⟨⟨⟨⟨⟨h0, h1⟩, h2⟩, h3⟩, h4⟩, h5⟩, h6⟩, h7⟩, h8⟩ := h
      have e := of_decide_eq_true h1
      subst e
      exact ev_plain (de_isiT (tysB_ok c h5) (by intro z; rw [z] at h7; cases h7) (of_decide_eq_true h6) (c.gl_ h2) (c.bl_ h3) (sE a _ sc X W h8 c).1 h4) fun _ => rfl
    · cases h
  | .mth m o es, x, sc, X, W, h, c => by
    unfold chkE at h
    split at h
    · simp only [Bool.and_eq_true] at h
      obtain ⟨⟨⟨⟨⟨⟨h0, h1⟩, h2⟩, h3⟩, h4⟩, h5⟩, h6⟩ := h
      cases em : mthN m with
      | none => rw [em] at h0; cases h0
      | some nm =>
        rw [em] at h0
        have e := of_decide_eq_true h0
        subst e
        obtain ⟨T, id, k1, k2, k3, k4, k5⟩ := mthOk em
        refine ev_plain ?_ fun _ => rfl
        rename_i xs _
        have io := (sE o _ sc X W h5 c).1
        cases xs with
        | nil =>
          cases es with
          | nil => exact de_mth0 k1 k2 k3 k4 (k5 X xi) io (base_plain h1) h2
          | cons _ _ => cases h6
        | cons y ys => exact de_mth k1 k2 k3 k4 (k5 X xi) io (sEs es _ sc X W h6 c) (base_plain h1) h2 h3 (of_decide_eq_true h4)
    · cases h
  | .comp elt tg tup it cond own, x, sc, X, W, h, c => by
    unfold chkE at h
    split at h
    · simp only [Bool.and_eq_true] at h
      obtain ⟨⟨⟨⟨⟨⟨⟨h0, h1⟩, h2⟩, h3⟩, h4⟩, h5⟩, h6⟩, h7⟩ := h
      rename_i el te iter ifs z scope pos
      have hz := of_decide_eq_true h0
      subst hz
      have bo := blkOk_by h1
      have key := de_comp (X := X) (xi := xi) (W := W) (pos := pos) (elt := el) (te := te) (iter := iter) (ifs := ifs) (scope := scope) (own := ownS own) (tg := tg) (tup := tup) (mi := evI C it) (mc := evC C cond) (me := evE C elt) c.calm (by rw [c.hN]; exact c.nd) (sI it te iter sc X W h5 c) (by rw [c.hN, c.hs]; exact bo)
        (fun i hi => by rw [ownS_ix]; simpa using List.all_eq_true.mp h2 i hi)
        (fun s H C' cl fp => let c2 := c.blk s H bo.kind C' cl fp; tgOk_of c2.hs c2.hN (.inl rfl) h3)
        (fun s H C' cl fp => sC cond ifs _ _ _ h6 (c.blk s H bo.kind C' cl fp))
        (fun s H C' cl fp => (sE elt el _ _ _ h7 (c.blk s H bo.kind C' cl fp)).1) h4
      rw [ownS_ix] at key
      exact ev_plain key fun _ => rfl
    · cases h
theorem sEs {t : Tab} {N : List Str} {C : Cfg} {xi : XI} {n : Nat} : ∀ (es : Es) (xs : List Expr) (sc : Scope) (X : Cx) (W : WX), chkEs t N sc es xs = true → Cxt t X xi W C sc N n → PA X xs (tDs X.K xi W (evEs C es))
  | .nil, xs, sc, X, W, h, c => by
    cases xs <;> unfold chkEs at h <;> try cases h
    exact das_nil
  | .cons e es, xs, sc, X, W, h, c => by
    cases xs <;> unfold chkEs at h <;> try cases h
    simp only [Bool.and_eq_true] at h
    obtain ⟨⟨h0, h1⟩, h2⟩ := h
    exact das_cons (sE e _ sc X W h0 c).1 (sEs es _ sc X W h2 c) h1
theorem sK {t : Tab} {N : List Str} {C : Cfg} {xi : XI} {n : Nat} : ∀ (es : Es) (xs : List Expr) (sc : Scope) (X : Cx) (W : WX) {names : List String} {ks : List Keyword}, chkEs t N sc es xs = true → Kws names xs ks → Cxt t X xi W C sc N n → PK X ks (tDs X.K xi W (evEs C es))
  | .nil, xs, sc, X, W, names, ks, h, k, c => by
    cases xs <;> unfold chkEs at h <;> try cases h
    cases k
    exact dks_nil
  | .cons e es, xs, sc, X, W, names, ks, h, k, c => by
    cases xs <;> unfold chkEs at h <;> try cases h
    cases k with
    | cons k' =>
      simp only [Bool.and_eq_true] at h
      obtain ⟨⟨h0, h1⟩, h2⟩ := h
      exact dks_cons (sE e _ sc X W h0 c).1 (sK es _ sc X W h2 k' c)
theorem sB {t : Tab} {N : List Str} {C : Cfg} {xi : XI} {n : Nat} (k : Bool) : ∀ (es : Es) (xs : List Expr) (pos : Pos) (sc : Scope) (X : Cx) (W : WX), chkEs t N sc es xs = true → Cxt t X xi W C sc N n → Ev X xi W (evE C (.bop k es)) (.BoolOp (if k then .And else .Or) xs pos)
  | .nil, xs, pos, sc, X, W, h, c => ⟨⟨fun pins s τ H Q I ⟨ι, σ, S, r, g, h⟩ => h.elim⟩, ⟨fun pins s τ H Q I ⟨ι, σ, S, r, g, h⟩ => h.elim⟩⟩
  | .cons e .nil, xs, pos, sc, X, W, h, c => by
    cases xs <;> unfold chkEs at h <;> try cases h
    rename_i y ys
    simp only [Bool.and_eq_true] at h
    obtain ⟨⟨h0, h1⟩, h2⟩ := h
    cases ys with
    | cons _ _ => unfold chkEs at h2; cases h2
    | nil =>
      have ih := sE e _ sc X W h0 c
      exact ⟨de_one ih.1, (dw_one ih.2).pt⟩
  | .cons e (.cons e2 es), xs, pos, sc, X, W, h, c => by
    cases xs <;> unfold chkEs at h <;> try cases h
    rename_i y ys
    simp only [Bool.and_eq_true] at h
    obtain ⟨⟨h0, h1⟩, h2⟩ := h
    cases ys with
    | nil => unfold chkEs at h2; cases h2
    | cons y2 ys =>
      have ih := sE e _ sc X W h0 c
      have iw := sW k (.cons e2 es) _ pos sc X W (by rfl) h2 c
      have ib := sB k (.cons e2 es) _ pos sc X W h2 c
      cases k with
      | true => exact ⟨de_and ih.1 ib.1, (dw_and ih.2 iw).pt⟩
      | false => exact ⟨de_or ih.1 ib.1, (dw_or ih.2 iw).pt⟩
theorem sW {t : Tab} {N : List Str} {C : Cfg} {xi : XI} {n : Nat} (k : Bool) : ∀ (es : Es) (xs : List Expr) (pos : Pos) (sc : Scope) (X : Cx) (W : WX), (es matches .cons _ _) = true → chkEs t N sc es xs = true → Cxt t X xi W C sc N n → PW X (.BoolOp (if k then .And else .Or) xs pos) (tDT X.K xi W (tstD (evE C (.bop k es))))
  | .nil, xs, pos, sc, X, W, hne, h, c => by cases hne
  | .cons e .nil, xs, pos, sc, X, W, hne, h, c => by
    cases xs <;> unfold chkEs at h <;> try cases h
    rename_i y ys
    simp only [Bool.and_eq_true] at h
    obtain ⟨⟨h0, h1⟩, h2⟩ := h
    cases ys with
    | cons _ _ => unfold chkEs at h2; cases h2
    | nil => exact dw_one (sE e _ sc X W h0 c).2
  | .cons e (.cons e2 es), xs, pos, sc, X, W, hne, h, c => by
    cases xs <;> unfold chkEs at h <;> try cases h
    rename_i y ys
    simp only [Bool.and_eq_true] at h
    obtain ⟨⟨h0, h1⟩, h2⟩ := h
    cases ys with
    | nil => unfold chkEs at h2; cases h2
    | cons y2 ys =>
      have ih := sE e _ sc X W h0 c
      have iw := sW k (.cons e2 es) _ pos sc X W (by rfl) h2 c
      cases k with
      | true => exact dw_and ih.2 iw
      | false => exact dw_or ih.2 iw
theorem sO {t : Tab} {N : List Str} {C : Cfg} {xi : XI} {n : Nat} : ∀ (es : Es) (x : Option Expr) (sc : Scope) (X : Cx) (W : WX), chkO t N sc es x = true → Cxt t X xi W C sc N n → PO X x (tDO X.K xi W (evO C es))
  | .nil, x, sc, X, W, h, c => by
    cases x <;> unfold chkO at h <;> try cases h
    exact do_none
  | .cons e es, x, sc, X, W, h, c => by
    cases x <;> unfold chkO at h <;> try cases h
    exact do_some (sE e _ sc X W h c).1
theorem sC {t : Tab} {N : List Str} {C : Cfg} {xi : XI} {n : Nat} : ∀ (es : Es) (xs : List Expr) (sc : Scope) (X : Cx) (W : WX), chkC t N sc es xs = true → Cxt t X xi W C sc N n → PTs X xs (tDT X.K xi W (evC C es))
  | .nil, xs, sc, X, W, h, c => by
    cases xs <;> unfold chkC at h <;> try cases h
    exact dts_nil
  | .cons e es, xs, sc, X, W, h, c => by
    cases xs <;> unfold chkC at h <;> try cases h
    rename_i y ys
    cases ys with
    | cons _ _ => cases h
    | nil => exact pts_one (sE e _ sc X W h c).2
theorem sI {t : Tab} {N : List Str} {C : Cfg} {xi : XI} {n : Nat} : ∀ (it : It) (te : Expr) (x : Expr) (sc : Scope) (X : Cx) (W : WX), chkI t N sc it (isTup te) x = true → Cxt t X xi W C sc N n → PI X te x (tDI X.K xi W (evI C it))
  | .val e, te, x, sc, X, W, h, c => di_val (sE e _ sc X W h c).1
  | .rng es, te, x, sc, X, W, h, c => by
    unfold chkI at h
    split at h
    · simp only [Bool.and_eq_true] at h
      obtain ⟨⟨⟨h0, h1⟩, h2⟩, h3⟩ := h
      have e := of_decide_eq_true h0
      subst e
      have hp := chkEs_plain h3
      rw [List.all_cons, Bool.and_eq_true] at hp
      exact di_rng1 (fun σ S vs S1 hv => by rw [evEs_len hv, chkEs_len h3]; rfl) (c.gl_ h1) (c.bl_ h2) (sEs es _ sc X W h3 c) hp.1
    · simp only [Bool.and_eq_true] at h
      obtain ⟨⟨⟨h0, h1⟩, h2⟩, h3⟩ := h
      have e := of_decide_eq_true h0
      subst e
      have hp := chkEs_plain h3
      rw [List.all_cons, Bool.and_eq_true, List.all_cons, Bool.and_eq_true] at hp
      exact di_rng2 (fun σ S vs S1 hv => by rw [evEs_len hv, chkEs_len h3]; rfl) (c.gl_ h1) (c.bl_ h2) (sEs es _ sc X W h3 c) hp.1 hp.2.1
    · cases h
  | .enm e, te, x, sc, X, W, h, c => by
    unfold chkI at h
    split at h
    · simp only [Bool.and_eq_true] at h
      obtain ⟨⟨⟨⟨⟨h0, h1⟩, h2⟩, h3⟩, h4⟩, h5⟩ := h
      have e1 := of_decide_eq_true h1
      subst e1
      cases te with
      | Tuple elts k p => exact di_enm (c.gl_ h2) (c.bl_ h3) (sE e _ sc X W h5 c).1 h4
      | _ => cases h0
    · cases h
  | .zip e f, te, x, sc, X, W, h, c => by
    unfold chkI at h
    split at h
    · simp only [Bool.and_eq_true] at h
      obtain ⟨⟨⟨⟨⟨⟨⟨h0, h1⟩, h2⟩, h3⟩, h4⟩, h5⟩, h6⟩, h7⟩ := h
      have e1 := of_decide_eq_true h1
      subst e1
      cases te with
      | Tuple elts k p => exact di_zip (c.gl_ h2) (c.bl_ h3) (sE e _ sc X W h6 c).1 (sE f _ sc X W h7 c).1 h4 h5
      | _ => cases h0
    · cases h
end
end Cl

/-! part Py16 -/
/-! Cl: soundness of the checker, statements; a def; the law's call. -/
namespace Cl
open PySem PySem.Spec PyProof.Rows L2
/-! ### stores that are exchanged -/
/-- is the assignment of a comprehension used up at once -/
def swB (sc : Scope) (x : Str) (p cp : Pos) (scope : Scope) : Bool := (sc.names.lookup x == some .local) && (p.line == cp.line) && !(scope.names.any fun (n, k) => n == x && (k == .local || k == .cell))
theorem blockKind_of {env : Env} (hk : env.scope.kind = .function) : env.blockKind = .function := by unfold Env.blockKind; rw [hk]; rfl
theorem swB_eq {elt : Expr} {gs : List Comprehension} {scope sc : Scope} {cp p : Pos} {x : Str} {l : Nat} {env : Env} (hs : env.scope = sc) (hk : sc.kind = .function) : swapsWith (.ListComp elt gs scope cp) (some (.Name x p)) l env = pure (swB sc x p cp scope) := by
  subst hs
  have hb := blockKind_of hk
  unfold swapsWith swB
  simp only [hb, Expr.pos]
  rfl
/-- what the stores of a, b = x, y are -/
def swp (sc : Scope) (ts vs : List Expr) : Option (Option (List Str)) :=
  if !(ts.length == 2 || ts.length == 3) || vs.length != ts.length then some none
  else if vs.any fun | .Starred .. => true | _ => false then some none
  else
    let line := (ts.head?.map (·.pos.line)).getD 0
    let names := ts.filterMap fun
      | .Name id pos => if sc.names.lookup id == some .local && pos.line == line then some id else none
      | _ => none
    if names.length != ts.length || names.eraseDups.length != names.length then some none
    else if vs.all (foldedForSure 8) then some none
    else if vs.all (constantsAlone 8) then none
    else some (some names)
theorem swp_eq {sc : Scope} {ts vs : List Expr} {k k2 : Nat} {p p2 : Pos} {env : Env} {r : Option (List Str)} (hs : env.scope = sc) (hk : sc.kind = .function) (h : swp sc ts vs = some r) : swappedStores [.Tuple ts k p] (.Tuple vs k2 p2) env = pure r := by
  subst hs
  have hb := blockKind_of hk
  have hb2 : (env.blockKind != ScopeKind.function) = false := by rw [hb]; rfl
  have kd : ∀ x, env.kindOf x = env.scope.names.lookup x := fun _ => rfl
  unfold swappedStores
  unfold swp at h
  simp only [hb2, kd, Bool.or_false] at h ⊢
  split at h
  · rename_i c
    cases h
    simp only [c, if_true]
  · rename_i c
    simp only [c, if_false]
    refine (if_neg (by decide)).trans ?_
    split at h
    · rename_i c2
      cases h
      exact if_pos c2
    · rename_i c2
      refine (if_neg c2).trans ?_
      split at h
      · rename_i c3
        cases h
        exact if_pos c3
      · rename_i c3
        refine (if_neg c3).trans ?_
        split at h
        · rename_i c4
          cases h
          exact if_pos c4
        · rename_i c4
          refine (if_neg c4).trans ?_
          split at h
          · cases h
          · rename_i c5
            cases h
            exact if_neg c5
theorem swp_none {ts : List Expr} {e : Expr} {k : Nat} {p : Pos} {env : Env} (h : isTup e = false) : swappedStores [.Tuple ts k p] e env = pure none := by
  cases e <;> first | rfl | cases h
/-! ### the checker of statements -/
def swOk (sc : Scope) (y : Str) (p : Pos) : Expr → Bool
  | .ListComp _ _ scope cp => !swB sc y p cp scope || decide (sc.names.lookup y = some .local)
  | v => notComp v
def parB (sc : Scope) (is : List Nat) (ts xs : List Expr) : Bool := match swp sc ts xs with
  | some none => true
  | some (some names) => (match is, ts, xs with
    | [i, j], [.Name x _, .Name y _], [_, _] => decide (names = [x, y]) && decide (i ≠ j) && decide (sc.names.lookup x = some .local) && decide (sc.names.lookup y = some .local)
    | [i, j, l], [.Name x _, .Name y _, .Name z _], [_, _, _] => decide (names = [x, y, z]) && decide (i ≠ j) && decide (i ≠ l) && decide (j ≠ l) && decide (sc.names.lookup x = some .local) && decide (sc.names.lookup y = some .local) && decide (sc.names.lookup z = some .local)
    | _, _, _ => false)
  | none => false
def cstB : Kd → Const → Bool
  | .non, .none => true
  | .bl b, .bool b' => decide (b = b')
  | .int i, .int i' => decide (i = i')
  | .str s, .str s' => decide (s' = SX.S s)
  | _, _ => false
mutual
def chkX (n fld : Str) : XE → Expr → Bool
  | .cst k, x => match x with | .Constant c _ _ => k.ok && cstB k c | _ => false
  | .fld, x => match x with | .Attribute (.Name y _) f _ => decide (y = n) && decide (f = fld) | _ => false
  | .tup xs, x => match x with | .Tuple es _ _ => chkXs n fld xs es && decide (xs.length ≤ 1000) | _ => false
def chkXs (n fld : Str) : List XE → List Expr → Bool
  | [], xs => match xs with | [] => true | _ => false
  | x :: xs, es => match es with | e :: es => chkX n fld x e && plainE e && chkXs n fld xs es | _ => false
end
mutual
def chkS (t : Tab) (N : List Str) (sc : Scope) : St → Stmt → Bool
  | .set i e, x => match x with | .Assign [.Name y p] v _ => storsB false N sc [i] [.Name y p] && chkE t N sc e v && swOk sc y p v | _ => false
  | .sets tg e, x => match x with | .Assign [.Tuple ts _ _] v _ => storsB false N sc tg ts && chkE t N sc e v && notComp v && !isTup v | _ => false
  | .par is es, x => match x with | .Assign [.Tuple ts _ _] (.Tuple xs _ _) _ => storsB false N sc is ts && chkEs t N sc es xs && decide (is.length ≤ 1000) && parB sc is ts xs | _ => false
  | .aug i o e, x => match x with | .AugAssign (.Name y p) op v _ => storsB false N sc [i] [.Name y p] && decide (op = opOf o) && chkE t N sc e v | _ => false
  | .setf _ _ _, _ => false
  | .augf _ _ _ _, _ => false
  | .seti o i e, x => match x with | .Assign [.Subscript ox ix _] v _ => chkE t N sc o ox && chkE t N sc i ix && chkE t N sc e v && notSlice ix | _ => false
  | .expr e, x => match x with | .Expr v _ => chkE t N sc e v && notComp v | _ => false
  | .ret e, x => match x with | .Return (some v) _ => chkE t N sc e v | _ => false
  | .retn, x => match x with | .Return none _ => true | _ => false
  | .ifs c a b, x => match x with | .If v l r _ => chkE t N sc c v && chkSs t N sc a l && chkSs t N sc b r | _ => false
  | .whl c b, x => match x with | .While v l [] _ => chkE t N sc c v && chkSs t N sc b l | _ => false
  | .forr tg tup it b, x => match x with | .For te iter body [] _ => tgB false N sc tg tup te && chkI t N sc it (isTup te) iter && notSetE iter && chkSs t N sc b body | _ => false
  | .raise c es, x => match x with
    | .Raise (some (.Call (.Name y _) (e1 :: xs) [] _)) none _ => (match t.X[c]? with | some (nm, _) => eqS y nm | none => false) && glB sc y && dbgB y && chkEs t N sc es (e1 :: xs)
    | _ => false
  | .tryx _ _, _ => false
  | .tryr b c i x, s => match s with
    | .Try body [.ExceptHandler (some (.Name y _)) (some n) [.Return (some xe) _] _] [] [] _ => (match t.X[c]? with | some (nm, fld) => eqS y nm && chkX n (Str.ofString fld) x xe | none => false) && glB sc y && dbgB y && decide (N[i]? = some n) && decide (sc.names.lookup n = some .local) && dbgB n && chkSs t N sc b body
    | _ => false
  | .pass, x => match x with | .Pass _ => true | .Expr (.Constant (.str _) _ _) _ => true | _ => false
  | .brk, x => match x with | .Break _ => true | _ => false
  | .cont, x => match x with | .Continue _ => true | _ => false
def chkSs (t : Tab) (N : List Str) (sc : Scope) : Ss → List Stmt → Bool
  | .nil, xs => match xs with | [] => true | _ => false
  | .cons s ss, xs => match xs with | y :: ys => chkS t N sc s y && chkSs t N sc ss ys | _ => false
end
structure CxtS (t : Tab) (X : Cx) (xi : XI) (W : WX) (C : Cfg) (sc : Scope) (N : List Str) (n : Nat) : Prop extends Cxt t X xi W C sc N n where
  fnT : ∀ x, X.fn x = true
  po : PassesOwn (model X.prog X.w) X.A X.env X.xe
  stk : X.stack = X.env :: X.outer
  frm : X.env.frame = some X.env.locals
section
variable {t : Tab} {X : Cx} {xi : XI} {W : WX} {C : Cfg} {sc : Scope} {N : List Str} {n : Nat}
theorem CxtS.stors (c : CxtS t X xi W C sc N n) {is : List Nat} {es : List Expr} (h : storsB false N sc is es = true) : Stors X is es := stors_of c.hs c.hN (.inr c.fnT) h
theorem CxtS.nodup (c : CxtS t X xi W C sc N n) : X.N.Nodup := by rw [c.hN]; exact c.nd
theorem stor1 {i : Nat} {x : Str} {p : Pos} (h : Stors X [i] [.Name x p]) : Stor X i x := by
  cases h with
  | cons s _ => exact s
/-- a comprehension that is stored at once -/
theorem set_lc (c : CxtS t X xi W C sc N n) {i : Nat} {y : Str} {p spos : Pos} {e : E} {el : Expr} {gs : List Comprehension} {scope : Scope} {cp : Pos} (s : Stor X i y) (h : chkE t N sc e (.ListComp el gs scope cp) = true) (hw : swOk sc y p (.ListComp el gs scope cp) = true) :
    PS X (.Assign [.Name y p] (.ListComp el gs scope cp) spos) (tSm X.K xi W fun σ S => (evE C e σ S).at σ fun d S1 => .next (σ.set i (some d)) S1) := by
  have sw := swB_eq (elt := el) (gs := gs) (scope := scope) (cp := cp) (p := p) (x := y) (l := spos.line) c.hs c.kind
  cases hb : swB sc y p cp scope with
  | false =>
    rw [hb] at sw
    exact ds_set c.nodup s (sE e _ sc X W h c.toCxt).1 sw
  | true =>
    rw [hb] at sw
    have hl : sc.names.lookup y = some .local := by
      have hw' : (!swB sc y p cp scope || decide (sc.names.lookup y = some .local)) = true := hw
      rw [hb] at hw'
      exact of_decide_eq_true (by simpa using hw')
    cases e <;> unfold chkE at h <;> try cases h
    rename_i elt tg tup it cond own
    split at h
    · simp only [Bool.and_eq_true] at h
      obtain ⟨⟨⟨⟨⟨⟨⟨h0, h1⟩, h2⟩, h3⟩, h4⟩, h5⟩, h6⟩, h7⟩ := h
      rename_i el' te iter ifs z scope' pos' heq
      cases heq
      have hz := of_decide_eq_true h0
      subst hz
      have bo := blkOk_by h1
      have key := ds_setLc (X := X) (xi := xi) (W := W) (pos := cp) (spos := spos) (py := p) (i := i) (y := y) (elt := el) (te := te) (iter := iter) (ifs := ifs) (scope := scope) (own := ownS own) (tg := tg) (tup := tup) (mi := evI C it) (mc := evC C cond) (me := evE C elt) c.calm c.nodup s.ix (by rw [c.hs]; exact hl) sw
        (sI it te iter sc X W h5 c.toCxt) (by rw [c.hN, c.hs]; exact bo)
        (fun i hi => by rw [ownS_ix]; simpa using List.all_eq_true.mp h2 i hi)
        (fun s H C' cl fp => let c2 := c.toCxt.blk s H bo.kind C' cl fp; tgOk_of c2.hs c2.hN (.inl rfl) h3)
        (fun s H C' cl fp => sC cond ifs _ _ _ h6 (c.toCxt.blk s H bo.kind C' cl fp))
        (fun s H C' cl fp => (sE elt el _ _ _ h7 (c.toCxt.blk s H bo.kind C' cl fp)).1) h4
      rw [ownS_ix] at key
      exact key
    · cases h
theorem set_any (c : CxtS t X xi W C sc N n) {i : Nat} {y : Str} {p spos : Pos} {e : E} {v : Expr} (s : Stor X i y) (h : chkE t N sc e v = true) (hw : swOk sc y p v = true) :
    PS X (.Assign [.Name y p] v spos) (tSm X.K xi W fun σ S => (evE C e σ S).at σ fun d S1 => .next (σ.set i (some d)) S1) := by
  have plain : notComp v = true → PS X (.Assign [.Name y p] v spos) (tSm X.K xi W fun σ S => (evE C e σ S).at σ fun d S1 => .next (σ.set i (some d)) S1) := fun hp =>
    ds_set c.nodup s (sE e v sc X W h c.toCxt).1 (swaps_plain hp)
  cases v with
  | ListComp el gs scope cp => exact set_lc c s h hw
  | SetComp _ _ _ _ => cases hw
  | DictComp _ _ _ _ _ => cases hw
  | _ => exact plain rfl
end
theorem kd_pe {k : Kd} {c : Const} {j : Nat} {p : Pos} (h : cstB k c = true) (Y : Cx) : PE Y (.Constant c j p) (tC k.toV) := by
  cases k with
  | non =>
    cases c <;> try cases h
    exact pe_non
  | bl b =>
    cases c <;> try cases h
    have e := of_decide_eq_true h
    subst e
    exact pe_bl
  | int i =>
    cases c <;> try cases h
    have e := of_decide_eq_true h
    subst e
    exact pe_int
  | str s =>
    cases c <;> try cases h
    have e := of_decide_eq_true h
    subst e
    exact pe_str
mutual
theorem sX {X : Cx} {i : Nat} {C a : Addr} {n fld : Str} {cls : Value} {d : Option Addr} {oe : Obj} {pn : List (Addr × Obj)} (T : XfC X.K C) (hno : PySem.W.findIn X.K (.ref C) fld = some none) (hz : Zc cls d oe) (hf : ∃ vs, oe.data = .fields vs) (hN : X.N[i]? = some n) (hv : Vis X.env.scope n) (hd : (n == ("__debug__" : Str)) = false) (hcd : (n == ("__classdict__" : Str)) = false) :
    ∀ (x : XE) (e : Expr), chkX n fld x e = true → PE (X.suite a ((a, oe) :: pn)) e (tXe X.K i C fld a cls d x)
  | .cst k, e, h => by
    unfold chkX at h
    split at h
    · obtain ⟨h0, h1⟩ := and2 h
      exact dx_cst (X := X.suite a ((a, oe) :: pn)) (kd_pe h1) h0
    · cases h
  | .fld, e, h => by
    unfold chkX at h
    split at h
    · obtain ⟨h0, h1⟩ := and2 h
      have e0 := of_decide_eq_true h0
      have e1 := of_decide_eq_true h1
      subst e0
      subst e1
      exact dx_fld T hno hz hf hN hv hd hcd
    · cases h
  | .tup xs, e, h => by
    unfold chkX at h
    split at h
    · obtain ⟨h0, h1⟩ := and2 h
      exact dx_tup (X := X.suite a ((a, oe) :: pn)) (sXs T hno hz hf hN hv hd hcd xs _ h0) (of_decide_eq_true h1)
    · cases h
theorem sXs {X : Cx} {i : Nat} {C a : Addr} {n fld : Str} {cls : Value} {d : Option Addr} {oe : Obj} {pn : List (Addr × Obj)} (T : XfC X.K C) (hno : PySem.W.findIn X.K (.ref C) fld = some none) (hz : Zc cls d oe) (hf : ∃ vs, oe.data = .fields vs) (hN : X.N[i]? = some n) (hv : Vis X.env.scope n) (hd : (n == ("__debug__" : Str)) = false) (hcd : (n == ("__classdict__" : Str)) = false) :
    ∀ (xs : List XE) (es : List Expr), chkXs n fld xs es = true → PA (X.suite a ((a, oe) :: pn)) es (tXes X.K i C fld a cls d xs)
  | [], es, h => by
    unfold chkXs at h
    split at h
    · exact dxs_nil (X := X.suite a ((a, oe) :: pn))
    · cases h
  | x :: xs, es, h => by
    unfold chkXs at h
    split at h
    · simp only [Bool.and_eq_true] at h
      obtain ⟨⟨h0, h1⟩, h2⟩ := h
      exact dxs_cons (X := X.suite a ((a, oe) :: pn)) (sX T hno hz hf hN hv hd hcd x _ h0) (sXs T hno hz hf hN hv hd hcd xs _ h2) h1
    · cases h
end
theorem CxtS.tr {t : Tab} {X : Cx} {xi : XI} {W W' : WX} {C : Cfg} {sc : Scope} {N : List Str} {n : Nat} (c : CxtS t X xi W C sc N n) {pn : List (Addr × Obj)} {xe : Value → Shared → Prop} (tk : Takes (X.tr pn xe) W') (po : PassesOwn (model X.prog X.w) X.A X.env xe) : CxtS t (X.tr pn xe) xi W' C sc N n :=
  { hs := c.hs, kind := c.kind, hN := c.hN, nd := c.nd, calm := c.calm, g := c.g, n2 := c.n2, tk := tk, fn := c.fn, gl := c.gl, bl := c.bl, xc := c.xc, xm := c.xm, fnT := c.fnT, po := po, stk := c.stk, frm := c.frm }
mutual
theorem sS {t : Tab} {N : List Str} {C : Cfg} {xi : XI} {n : Nat} {sc : Scope} : ∀ (s : St) (x : Stmt) (X : Cx) (W : WX), CxtS t X xi W C sc N n → chkS t N sc s x = true → PS X x (tSm X.K xi W (evS C s))
  | .set i e, x, X, W, c, h => by
    unfold chkS at h
    split at h
    · simp only [Bool.and_eq_true] at h
      obtain ⟨⟨h0, h1⟩, h2⟩ := h
      exact set_any c (stor1 (c.stors h0)) h1 h2
    · cases h
  | .sets tg e, x, X, W, c, h => by
    unfold chkS at h
    split at h
    · simp only [Bool.and_eq_true] at h
      obtain ⟨⟨⟨h0, h1⟩, h2⟩, h3⟩ := h
      exact ds_sets c.calm c.nodup (c.stors h0) (sE e _ sc X W h1 c.toCxt).1 (swaps_plain h2) (swp_none (by simpa using h3))
    · cases h
  | .par is es, x, X, W, c, h => by
    unfold chkS at h
    split at h
    · rename_i ts k1 p1 xs k2 p2 pos
      simp only [Bool.and_eq_true] at h
      obtain ⟨⟨⟨h0, h1⟩, h2⟩, h3⟩ := h
      have st := c.stors h0
      have ha := sEs es xs sc X W h1 c.toCxt
      unfold parB at h3
      split at h3
      · rename_i e
        exact ds_par0 c.calm c.nodup st (Nat.le_trans (of_decide_eq_true h2) (by decide)) ha (swp_eq c.hs c.kind e)
      · rename_i names e
        split at h3
        · simp only [Bool.and_eq_true] at h3
          obtain ⟨⟨⟨q0, q1⟩, q2⟩, q3⟩ := h3
          have en := of_decide_eq_true q0
          subst en
          cases st with
          | cons s1 st =>
            cases st with
            | cons s2 st =>
              exact ds_par2 c.calm c.nodup s1.ix s2.ix (of_decide_eq_true q1) (by rw [c.hs]; exact of_decide_eq_true q2) (by rw [c.hs]; exact of_decide_eq_true q3) ha (swp_eq c.hs c.kind e)
        · simp only [Bool.and_eq_true] at h3
          obtain ⟨⟨⟨⟨⟨⟨q0, q1⟩, q2⟩, q3⟩, q4⟩, q5⟩, q6⟩ := h3
          have en := of_decide_eq_true q0
          subst en
          cases st with
          | cons s1 st =>
            cases st with
            | cons s2 st =>
              cases st with
              | cons s3 st =>
                exact ds_par3 c.calm c.nodup s1.ix s2.ix s3.ix (of_decide_eq_true q1) (of_decide_eq_true q2) (of_decide_eq_true q3) (by rw [c.hs]; exact of_decide_eq_true q4) (by rw [c.hs]; exact of_decide_eq_true q5) (by rw [c.hs]; exact of_decide_eq_true q6) ha (swp_eq c.hs c.kind e)
        · cases h3
      · cases h3
    · cases h
  | .aug i o e, x, X, W, c, h => by
    unfold chkS at h
    split at h
    · simp only [Bool.and_eq_true] at h
      obtain ⟨⟨h0, h1⟩, h2⟩ := h
      have eo := of_decide_eq_true h1
      subst eo
      exact ds_aug c.nodup (stor1 (c.stors h0)) (sE e _ sc X W h2 c.toCxt).1
    · cases h
  | .setf _ _ _, x, X, W, c, h => by unfold chkS at h; cases h
  | .augf _ _ _ _, x, X, W, c, h => by unfold chkS at h; cases h
  | .seti o i e, x, X, W, c, h => by
    unfold chkS at h
    split at h
    · simp only [Bool.and_eq_true] at h
      obtain ⟨⟨⟨h0, h1⟩, h2⟩, h3⟩ := h
      exact ds_seti (sE o _ sc X W h0 c.toCxt).1 (sE i _ sc X W h1 c.toCxt).1 (sE e _ sc X W h2 c.toCxt).1 h3
    · cases h
  | .expr e, x, X, W, c, h => by
    unfold chkS at h
    split at h
    · obtain ⟨h0, h1⟩ := and2 h
      exact ds_expr (sE e _ sc X W h0 c.toCxt).1 h1
    · cases h
  | .ret e, x, X, W, c, h => by
    unfold chkS at h
    split at h
    · exact ds_ret (sE e _ sc X W h c.toCxt).1
    · cases h
  | .retn, x, X, W, c, h => by
    unfold chkS at h
    split at h
    · exact ds_retn
    · cases h
  | .ifs p a b, x, X, W, c, h => by
    unfold chkS at h
    split at h
    · simp only [Bool.and_eq_true] at h
      obtain ⟨⟨h0, h1⟩, h2⟩ := h
      exact ds_if (sE p _ sc X W h0 c.toCxt).2 (sSs a _ X W c h1) (sSs b _ X W c h2)
    · cases h
  | .whl p b, x, X, W, c, h => by
    unfold chkS at h
    split at h
    · obtain ⟨h0, h1⟩ := and2 h
      exact ds_while c.po (sE p _ sc X W h0 c.toCxt).2 (sSs b _ X W c h1)
    · cases h
  | .forr tg tup it b, x, X, W, c, h => by
    unfold chkS at h
    split at h
    · simp only [Bool.and_eq_true] at h
      obtain ⟨⟨⟨h0, h1⟩, h2⟩, h3⟩ := h
      exact ds_for c.po c.calm c.nodup (tgOk_of c.hs c.hN (.inr c.fnT) h0) (sI it _ _ sc X W h1 c.toCxt) (sSs b _ X W c h3) h2
    · cases h
  | .raise k es, x, X, W, c, h => by
    unfold chkS at h
    split at h
    · simp only [Bool.and_eq_true] at h
      obtain ⟨⟨⟨h0, h1⟩, h2⟩, h3⟩ := h
      split at h0
      · rename_i nm fld e
        have ey := of_decide_eq_true h0
        subst ey
        exact ds_raise (n := 0) c.calm c.tk (c.g.room.mono c.n2) (c.xc k nm fld e) (c.gl_ h1) (sEs es _ sc X W h3 c.toCxt) (chkEs_plain h3) (dbg1 h2).1
      · cases h0
    · cases h
  | .tryx _ _, x, X, W, c, h => by unfold chkS at h; cases h
  | .tryr b k i x, s, X, W, c, h => by
    unfold chkS at h
    split at h
    · simp only [Bool.and_eq_true] at h
      obtain ⟨⟨⟨⟨⟨⟨h0, h1⟩, h2⟩, h3⟩, h4⟩, h5⟩, h6⟩ := h
      split at h0
      · rename_i nm fld e
        obtain ⟨h0, hX⟩ := and2 h0
        have ey := of_decide_eq_true h0
        subst ey
        obtain ⟨C0, fI, fd, x1, x2, x3, x4, x5, x6, x7, x8, x9⟩ := (c.xc k nm fld e).ex
        have hN := of_decide_eq_true h3
        have hl := of_decide_eq_true h4
        exact ds_try c.stk c.frm c.nodup (by rw [c.hN]; exact hN) (by show X.env.scope.names.lookup _ = _; rw [c.hs]; exact hl) x1 ⟨c.gl_ h1, (dbg1 h2).1, .inl x2⟩ c.tk (fun c' C' ns hx => c.xm k C0 _ c' C' ns x1 hx)
          (fun W' pn xe tk po => sSs b _ _ W' (c.tr tk po) h6)
          fun a oe cls d pn hz hv => sX x8 x9 hz hv (by rw [c.hN]; exact hN) (by rw [c.hs]; exact .inl hl) (dbg1 h5).1 (dbg1 h5).2 x _ hX
      · cases h0
    · cases h
  | .pass, x, X, W, c, h => by
    unfold chkS at h
    split at h
    · exact ds_pass
    · exact ds_doc
    · cases h
  | .brk, x, X, W, c, h => by
    unfold chkS at h
    split at h
    · exact ds_brk
    · cases h
  | .cont, x, X, W, c, h => by
    unfold chkS at h
    split at h
    · exact ds_cont
    · cases h
theorem sSs {t : Tab} {N : List Str} {C : Cfg} {xi : XI} {n : Nat} {sc : Scope} : ∀ (ss : Ss) (xs : List Stmt) (X : Cx) (W : WX), CxtS t X xi W C sc N n → chkSs t N sc ss xs = true → PSs X xs (tSm X.K xi W (evSs C ss))
  | .nil, xs, X, W, c, h => by
    unfold chkSs at h
    split at h
    · exact dss_nil
    · cases h
  | .cons s .nil, xs, X, W, c, h => by
    unfold chkSs at h
    split at h
    · obtain ⟨h0, h1⟩ := and2 h
      unfold chkSs at h1
      split at h1
      · exact dss_one (sS s _ X W c h0)
      · cases h1
    · cases h
  | .cons s (.cons s2 ss), xs, X, W, c, h => by
    unfold chkSs at h
    split at h
    · obtain ⟨h0, h1⟩ := and2 h
      rename_i y ys
      cases ys with
      | nil => unfold chkSs at h1; cases h1
      | cons y2 ys => exact dss_cons (sS s _ X W c h0) (sSs (.cons s2 ss) _ X W c h1)
    · cases h
end
end Cl

/-! part Py17 -/
/-! Cl: a def of the text keeps the promise that its term tells; all defs; the law's call. -/
namespace Cl
open PySem PySem.Spec PyProof.Rows L2
section
variable {P : Program} {w : World} {K : Fr'} {mg : Str → Option Value} {base : Heap} {t : Tab} {xi : XI} {P' : Nat → Option Fn} {glo : Nat → Option D}
/-- the facts that a table tells, at a depth -/
structure TabOk (P : Program) (w : World) (K : Fr') (mg : Str → Option Value) (base : Heap) (t : Tab) (xi : XI) (C : Cfg) (n : Nat) : Prop where
  fn : ∀ f d, t.T[f]? = some d → ∃ a fd, mg d.name = some (.ref a) ∧ PySem.W.keepIn K (.ref a) = true ∧ L2.Binds K fd d.ps [] ∧ (∀ sh ∈ d.shapes, KFact K fd d.ps sh.1 sh.2.1 sh.2.2) ∧ FnG P w K mg base n a fd d.ps (spF K xi (C.call f))
  gl : ∀ g x, t.G[g]? = some x → ∃ d u v, C.glo g = some d ∧ mg (Str.ofString x) = some u ∧ RelV v u ∧ ∀ ι H, RelD K ι H d v
  bl : ∀ x ∈ t.B, mg (Str.ofString x) = none
  xc : ∀ c nm fld, t.X[c]? = some (nm, fld) → XCls P w K mg base xi c (Str.ofString nm) (Str.ofString fld)
  xm : ∀ c C ns c' C' ns', xi c = some (C, ns) → xi c' = some (C', ns') → PySem.W.exmOne K (.ref C') (.ref C) = some (decide (c' = c))
theorem spF_len {n f : Nat} {fnI : Fn} (hf : P' f = some fnI) {vs : List V} {H : Hp} {Q : VK} {E : XK} (h : spF K xi (run P' glo (n + 1) f) vs H Q E) : vs.length = fnI.np := by
  obtain ⟨ι, ds, S, r, g, h⟩ := h
  rw [← g.length]
  unfold run at h
  rw [hf] at h
  dsimp only at h
  by_cases hl : ds.length = fnI.np
  · exact hl
  · rw [if_neg hl] at h
    exact h.elim
theorem start_rel {ι : List Addr} {H : Hp} {ds : List D} {vs : List V} (g : RelDs K ι H ds vs) (k : Nat) : RelG K ι H (ds.map some ++ List.replicate k none) (vs.map some ++ List.replicate k none) := by
  refine ⟨by simp [g.length], fun i d h => ?_⟩
  by_cases hi : i < ds.length
  · rw [List.getElem?_append_left (by simpa using hi), List.getElem?_map] at h
    obtain ⟨d', e1, e2⟩ := Option.map_eq_some_iff.mp h
    cases e2
    obtain ⟨v, v1, v2⟩ := g.get e1
    refine ⟨v, ?_, v2⟩
    rw [List.getElem?_append_left (by rw [List.length_map, ← g.length]; exact hi), List.getElem?_map, v1]
    rfl
  · rw [List.getElem?_append_right (by simpa using hi)] at h
    rw [List.getElem?_replicate] at h
    split at h <;> cases h
theorem fnG_of {n f : Nat} {a : Addr} {name qual : Str} {params : Arguments} {body : List Stmt} {scope : Scope} {dV kV doc pm cdv ct oc : Value} {an od : Option Addr} {osl : Array (Option Value)} {N ps : List Str} {fnI : Fn}
    (lk : K.lookup a = some ⟨oc, od, .func (PySem.W.fnOf name qual params body scope dV kV doc pm an cdv ct), osl⟩) (hcd : PySem.W.codeIn K cdv qual = true) (Sc : FnScope N ps scope) (hf : P' f = some fnI) (h1 : fnI.np = ps.length) (h2 : fnI.ns = N.length)
    (hck : chkSs t N scope fnI.body body = true) (T : TabOk P w K mg base t xi ⟨run P' glo n, glo⟩ (n + 2)) :
    FnG P w K mg base (n + 3) a (PySem.W.fnOf name qual params body scope dV kV doc pm an cdv ct) ps (spF K xi (run P' glo (n + 1) f)) := by
  refine ⟨fun vs H Q E h => (spF_len hf h).trans h1, ?_⟩
  intro A outer s H args us vs Q E hr e0 hb r hsp
  have hl : vs.length = ps.length := (spF_len hf hsp).trans h1
  have inK : K.In s.heap := e0.mod.kin.keeps fun b o e => (e0.bs b o e).1
  have nol : s.heap.NoLimit := e0.mod.nolimit.keeps fun b o e => (e0.bs b o e).1
  have kinds : ∀ y ∈ ps.zip us, scope.names.lookup y.1 = some .local ∨ (scope.names.lookup y.1 = some .cell ∧ ((cellsFrom (s.heap.objs.size + 1) scope.names []).lookup y.1).isSome = true) := by
    rintro ⟨x, u⟩ hy
    exact (Sc.par x (List.of_mem_zip hy).1).imp id fun q => ⟨q, PySem.W.cellsFrom_some _ _ _ (.inl q)⟩
  apply codeAny_call_function hr.room.depth (inK _ _ lk) rfl Sc.co Sc.gen rfl (PySem.W.codeRec_of inK hcd)
  refine hb _ _ _ _ (wpAny_newFunctionEnv_cells Sc.kind kinds ?_)
  rintro env rfl s1 x
  refine ⟨nol.keeps x.toInCall.keep, codeAny_func ?_⟩
  have J : Inv (cxOf (L2.CX P w) P w K mg base N qual scope a cdv A outer s H E) [] (start N vs) H s1 := inv_start Sc hr.room.hd e0 hl r x
  have cx : CxtS t (cxOf (L2.CX P w) P w K mg base N qual scope a cdv A outer s H E) xi (fun cls d _ H => E cls d H) ⟨run P' glo n, glo⟩ scope N (n + 2) :=
    { hs := rfl, kind := Sc.kind, hN := rfl, nd := Sc.nd, calm := rfl, g := hr.deeper _, n2 := Nat.le_add_left 2 n, tk := takes_of rfl rfl rfl rfl, fn := T.fn, gl := T.gl, bl := T.bl, xc := T.xc, xm := T.xm, fnT := fun _ => rfl, po := passes_of rfl, stk := rfl, frm := rfl }
  obtain ⟨ι, ds, S, rs, gs, hq⟩ := hsp
  have hd : ds.length = fnI.np := by rw [gs.length, hl, h1]
  have want : tSm K xi (fun cls d _ H => E cls d H) (evSs ⟨run P' glo n, glo⟩ fnI.body) { nx := fun _ H' => Q .non H', rt := Q } (start N vs) H := by
    refine ⟨ι, ds.map some ++ List.replicate (fnI.ns - fnI.np) none, S, rs, ?_, ?_⟩
    · have z := start_rel gs (fnI.ns - fnI.np)
      unfold L2.start
      rw [h2, h1] at z
      rw [hl]
      rw [h2, h1]
      exact z
    · unfold run at hq
      rw [hf] at hq
      dsimp only at hq
      rw [if_pos hd] at hq
      revert hq
      cases evSs ⟨run P' glo n, glo⟩ fnI.body (ds.map some ++ List.replicate (fnI.ns - fnI.np) none) S with
      | next σ1 S1 => exact fun hq ι' H' τ' e' r' _ => hq ι' H' .non e' r' .non
      | ret d S1 => exact fun hq => hq
      | brk σ1 S1 => exact fun hq => hq.elim
      | cont σ1 S1 => exact fun hq => hq.elim
      | exc y σ1 S1 => exact fun hq ι' H' τ' cls dd e' r' _ q' => hq ι' H' cls dd e' r' q'
      | no => exact fun hq => hq.elim
  refine wpAny_mono ((sSs fnI.body body _ _ cx hck).run [] s1 (start N vs) H _ J want) ?_ fun e s' hs => hs
  have done : ∀ {τ' : Sv} {H' : Hp} {s' : Shared} {v : V} {u : Value}, Inv (cxOf (L2.CX P w) P w K mg base N qual scope a cdv A outer s H E) [] τ' H' s' → RelV v u → Q v H' → CE outer P w H s Q u s' :=
    fun I rv q => ⟨_, _, I.os, I.bare, I.base, I.hok, rv, q⟩
  rintro (_ | _ | _ | u) s' hs
  · obtain ⟨τ', H', I, q⟩ := hs
    exact done (v := V.non) (u := Value.none) I rfl q
  · obtain ⟨_, _, _, q⟩ := hs
    exact q.elim
  · obtain ⟨_, _, _, q⟩ := hs
    exact q.elim
  · obtain ⟨v, τ', H', I, rv, q⟩ := hs
    exact done I rv q
/-! ### all defs -/
/-- where a def of the table stands, and what its text is -/
structure DefOk (K : Fr') (mg : Str → Option Value) (t : Tab) (P' : Nat → Option Fn) (f : Nat) (d : DefT) : Prop where
  ex : ∃ (a : Addr) (name qual : Str) (params : Arguments) (body : List Stmt) (scope : Scope) (dV kV doc pm cdv ct oc : Value) (an od : Option Addr) (osl : Array (Option Value)) (N : List Str) (fnI : Fn),
    K.lookup a = some ⟨oc, od, .func (PySem.W.fnOf name qual params body scope dV kV doc pm an cdv ct), osl⟩ ∧ PySem.W.codeIn K cdv qual = true ∧ FnScope N d.ps scope ∧ P' f = some fnI ∧ fnI.np = d.ps.length ∧ fnI.ns = N.length ∧ chkSs t N scope fnI.body body = true ∧
    mg d.name = some (.ref a) ∧ PySem.W.keepIn K (.ref a) = true ∧ L2.Binds K (PySem.W.fnOf name qual params body scope dV kV doc pm an cdv ct) d.ps [] ∧ ∀ sh ∈ d.shapes, KFact K (PySem.W.fnOf name qual params body scope dV kV doc pm an cdv ct) d.ps sh.1 sh.2.1 sh.2.2
theorem tab_ok (hD : ∀ f d, t.T[f]? = some d → DefOk K mg t P' f d) (gl : ∀ g x, t.G[g]? = some x → ∃ d u v, glo g = some d ∧ mg (Str.ofString x) = some u ∧ RelV v u ∧ ∀ ι H, RelD K ι H d v) (bl : ∀ x ∈ t.B, mg (Str.ofString x) = none)
    (xc : ∀ c nm fld, t.X[c]? = some (nm, fld) → XCls P w K mg base xi c (Str.ofString nm) (Str.ofString fld)) (xm : ∀ c C ns c' C' ns', xi c = some (C, ns) → xi c' = some (C', ns') → PySem.W.exmOne K (.ref C') (.ref C) = some (decide (c' = c))) :
    ∀ n, TabOk P w K mg base t xi ⟨run P' glo n, glo⟩ (n + 2)
  | 0 => ⟨fun f d hf => by
      obtain ⟨a, name, qual, params, body, scope, dV, kV, doc, pm, cdv, ct, oc, an, od, osl, N, fnI, _, _, _, _, _, _, _, m1, m2, m3, m4⟩ := (hD f d hf).ex
      exact ⟨a, _, m1, m2, m3, m4, fun vs H Q E ⟨_, _, _, _, _, z⟩ => z.elim, fun A outer s H args us vs Q E _ _ _ _ ⟨_, _, _, _, _, z⟩ => z.elim⟩, gl, bl, xc, xm⟩
  | n + 1 => ⟨fun f d hf => by
      obtain ⟨a, name, qual, params, body, scope, dV, kV, doc, pm, cdv, ct, oc, an, od, osl, N, fnI, k1, k2, k3, k4, k5, k6, k7, m1, m2, m3, m4⟩ := (hD f d hf).ex
      exact ⟨a, _, m1, m2, m3, m4, fnG_of k1 k2 k3 k4 k5 k6 k7 (tab_ok hD gl bl xc xm n)⟩, gl, bl, xc, xm⟩
end
/-! ### the law is called -/
section
variable {P : Program} {w : World} {K : Fr'} {mg mb : Str → Option Value} {xi : XI}
/-- nothing is tracked but the script -/
theorem own1 {a : Addr} {ns : List Int} {H : Hp} (h : RelOb K [a] H a (.scr ns)) : RelS K [a] [.scr ns] H := by
  refine ⟨rfl, fun n o b h1 h2 => ?_, fun m n o q b h1 h2 _ _ om _ => ?_⟩
  · cases n with
    | zero =>
      cases h1
      cases h2
      exact h
    | succ n => simp at h1
  · cases m with
    | zero =>
      cases h1
      cases om
    | succ m => simp at h1
theorem go_law {k : Nat} {fa a : Addr} {fd : FuncData} {x : Str} {c : List D → Sto → R D} {sh : Shared} {vs : List Value} {ns : List Int} (inK : K.In sh.heap) (hns : sh.heap.Ns mainGlobals mg) (hb : sh.heap.Ns builtinsNs mb) (hbb : ∀ y : Str, y ≠ "__name__" → mb y = bootBuiltins y)
    (nol : sh.heap.NoLimit) (hg : sh.gens = #[]) (ha : sh.heap.get? a = some { cls := .type "list", data := .seq vs.toArray }) (hi : IntsAre vs ns) (hl : ns.length ≤ sizeLine) (hr : Room k callerA)
    (F : ∀ base : Heap, FnG P w K mg base k fa fd [x] (spF K xi c)) (bind : ∀ (s : Shared) (u : Value), BindsTo s fd ⟨[u], []⟩ [(x, u)]) (good : ∃ S', c [.ref 0] [.scr ns] = .ok (.bl true) S') :
    codeAny (model P w) callerA (.call (.ref fa) ⟨[.ref a], []⟩) (fun r s' => r = .ok (.ret (.bool true)) ∧ OldK sh.heap s'.heap ∧ s'.os = sh.os ∧ AllBare s'.gens) sh := by
  have rv := vals_ints hi
  obtain ⟨S', hgood⟩ := good
  -- over any abstract heap that knows the script at most
  have main : ∀ H : Hp, (∀ b, H b = none ∨ (b = a ∧ K.lookup a = none ∧ ∃ o xs, H b = some (.frz o (.lst xs)))) → RelOb K [a] H a (.scr ns) → HOk P w H sh.heap →
      codeAny (model P w) callerA (.call (.ref fa) ⟨[.ref a], []⟩) (fun r s' => r = .ok (.ret (.bool true)) ∧ OldK sh.heap s'.heap ∧ s'.os = sh.os ∧ AllBare s'.gens) sh := by
    intro H only rel hok
    have low : ∀ {b : Addr} {o : Obj}, sh.heap.get? b = some o → H b = none → (hidT sh.heap H).get? b = some o := fun e n => hidT_get e n
    have free : ∀ {b : Addr} {o : Obj}, sh.heap.get? b = some o → (∀ its m, o.data ≠ .seq its m) → H b = none := fun {b o} e d => by
      rcases only b with z | ⟨z, _, _⟩
      · exact z
      · subst z
        rw [ha] at e
        cases e
        exact absurd rfl (d _ _)
    have names : ∀ {b : Addr} {m : Str → Option Value}, sh.heap.Ns b m → (hidT sh.heap H).Ns b m := by
      rintro b m ⟨o, es, ep, e, d, r⟩
      exact ⟨o, es, ep, low e (free e fun its m z => by rw [d] at z; cases z), d, r⟩
    have kb : K.In (hidT sh.heap H) := fun b o e => low (inK b o e) (by
      rcases only b with z | ⟨z, nk, _⟩
      · exact z
      · subst z
        rw [nk] at e
        cases e)
    have md : Mod K mg (hidT sh.heap H) := by
      refine ⟨kb, names hns, ⟨mb, names hb, hbb⟩, ?_⟩
      obtain ⟨mc, h1, h2⟩ := nol
      exact ⟨mc, names h1, h2⟩
    have env0 : Env0 P w K mg (hidT sh.heap H) callerA [] sh H :=
      { frames := rfl, mod := md, bs := fun b o e => of_hidT e, bsz := Nat.le_of_eq (hidT_size _ _), funs := trivial, frf := (fun b hb => nomatch (show b ∈ ([] : List Addr) from hb)), hok := hok, bare := .of_eq hg }
    have sp : spF K xi c [.ref a] H (fun v _ => v = V.bl true) (fun _ _ _ => False) := by
      refine ⟨[a], [.ref 0], [.scr ns], own1 rel, .cons (.ref rfl) .nil, ?_⟩
      rw [hgood]
      intro ι' H' y _ _ q
      cases q
      rfl
    refine codeAny_mono ((F (hidT sh.heap H)).run callerA [] sh H ⟨[.ref a], []⟩ [.ref a] [.ref a] (fun v _ => v = V.bl true) (fun _ _ _ => False) ⟨hr, rfl⟩ env0 (bind sh (.ref a)) (.cons rfl .nil) sp) ?_
    rintro (e | fl) s' h
    · obtain ⟨_, _, _, _, _, _, _, _, _, _, _, _, z⟩ := h
      exact z.elim
    · cases fl with
      | ret u =>
        obtain ⟨v, H', os, bare, un, hok', r', q⟩ := h
        subst q
        have hu : u = Value.bool true := r'
        subst hu
        refine ⟨rfl, OldK.of_keep fun b o e => ?_, os, bare⟩
        rcases only b with z | ⟨rfl, _, ob, xs, z⟩
        · exact un.keep b o e z (fun m => by cases m) (fun m => by cases m)
        · have z2 := un.frzs _ ob _ z
          obtain ⟨e1, _⟩ := hok _ _ z
          obtain ⟨e2, _⟩ := hok' _ _ z2
          rw [e] at e1
          cases e1
          exact e2
      | _ => exact h.elim
  cases hk : K.lookup a with
  | some o =>
    have e := inK a o hk
    rw [ha] at e
    cases e
    refine main (fun _ => none) (fun _ => .inl rfl) (.inr ⟨_, vs.toArray, _, hk, rfl, rfl, rfl, by rw [List.size_toArray, hi.length]; exact hl, by simpa using rv⟩) ?_
    intro b u z
    cases z
  | none =>
    refine main (fun b => if b = a then some (.frz { cls := .type "list", data := .seq vs.toArray } (.lst (ns.map V.int))) else none) ?_ (.inl ⟨_, if_pos rfl⟩) ?_
    · intro b
      by_cases e : b = a
      · exact .inr ⟨e, hk, _, _, if_pos e⟩
      · exact .inl (if_neg e)
    · intro b u z
      dsimp only at z
      by_cases e : b = a
      · rw [if_pos e] at z
        cases z
        subst e
        exact ⟨ha, by rw [List.length_map]; exact hl, vs, _, rv, ha⟩
      · rw [if_neg e] at z
        cases z
end
/-- the head's case: the law's def by the table, and that its term says True of every script -/
theorem walk_law {l : PySem.W.OpenLaw} {n k : Nat} {q : Program} {loose : List Str} {XP : (Str → Option Value) → Heap → Prop} {YP : World → Heap → Prop} {d : DefRec} {K : Params → PySem.W.Frag} {x : Str} {c : List D → Sto → R D}
    (hn : l.most = some n) (hn2 : n ≤ sizeLine) (hdf : d.params.defaults = []) (hr : Room k callerA) (hY : ∀ (w : World) (h : Heap), YP w h → (K w.params).In h)
    (F : ∀ (w : World) (mg : Str → Option Value) (fa : Addr) (h : Heap), (K w.params).In h → h.Ns mainGlobals mg → mg d.name = some (.ref fa) →
      ∃ (xi : XI) (fd : FuncData), (∀ (s : Shared) (u : Value), BindsTo s fd ⟨[u], []⟩ [(x, u)]) ∧ ∀ base : Heap, FnG l.prog w (K w.params) mg base k fa fd [x] (spF (K w.params) xi c))
    (good : ∀ ns : List Int, ns.length ≤ n → (∀ z ∈ ns, Builtin.Int.intBits z ≤ 1048576) → ∃ S', c [.ref 0] [.scr ns] = .ok (.bl true) S') :
    PySem.W.WalkO q loose XP YP l.row.toRowW d [] (fun f vs => PySem.call f vs) := by
  refine Att.attach_callB hn hdf ?_
  intro w s₀ sh mg mb fa o pm cd doc a vs ns G Y ho hd hcd hmg hobj hints hlen hbits hg
  obtain ⟨xi, fd, hb, hF⟩ := F w mg fa _ (hY w _ Y) G.T.g hmg
  exact go_law (hY w _ Y) G.T.g G.T.b G.T.builtins G.T.nolimit hg hobj hints (Nat.le_trans hlen hn2) hr hF hb (good ns hlen hbits)
end Cl
namespace Cl
/-- no exception classes -/
def xi0 : XI := fun _ => none
end Cl

/-! part I_K04 -/
namespace K04
open Cl
/-- items_of(2) : 0=fields 1=name 2=values 3=parts 4=other 5=value 6=part -/
def s0_0 : St := (.set 2 (.comp (.var 5) [4, 5] true (.val (.var 0)) (.cons (.cmp .eq (.var 4) (.mth .lower (.var 1) .nil)) .nil) [("other", 4), ("value", 5)]))
def s0_1 : St := (.set 3 (.comp (.mth .lower (.mth .strip (.var 6) (.cons (.str [32]) .nil)) .nil) [6] false (.val (.mth .split (.mth .join (.str [44]) (.cons (.var 2) .nil)) (.cons (.str [44]) .nil))) .nil [("part", 6)]))
def s0_2 : St := (.ret (.comp (.var 6) [6] false (.val (.var 3)) (.cons (.cmp .ne (.var 6) (.str [])) .nil) [("part", 6)]))
def f0 : Fn := ⟨2, 7, (.cons s0_0 (.cons s0_1 (.cons s0_2 .nil)))⟩
/-- bag(2) : 0=script 1=at 2=cell 3=digits -/
def s1_0 : St := (.set 2 (.ite (.cmp .lt (.var 1) (.blt .len (.cons (.var 0) .nil))) (.idx (.var 0) (.var 1)) (.int 0)))
def s1_1 : St := (.set 3 (.ite (.cmp .ge (.blt .abs (.cons (.var 2) .nil)) (.bin .pow (.int 10) (.int 18))) (.blt .abs (.cons (.var 2) .nil)) (.int 0)))
def s1_2 : St := (.ret (.lst (.cons (.var 3) (.cons (.bin .mod (.bin .pow (.bin .add (.bin .add (.bin .mod (.var 2) (.int 2147483647)) (.bin .mul (.int 7121) (.var 1))) (.int 11)) (.int 3)) (.int 2147483629)) (.cons (.int 0) .nil)))))
def f1 : Fn := ⟨2, 4, (.cons s1_0 (.cons s1_1 (.cons s1_2 .nil)))⟩
/-- take(2) : 0=bag_here 1=many 2=digit -/
def s2_0 : St := (.ifs (.cmp .gt (.idx (.var 0) (.int 0)) (.int 0)) (.cons (.set 2 (.bin .mod (.idx (.var 0) (.int 0)) (.var 1))) (.cons (.seti (.var 0) (.int 0) (.bin .fdiv (.idx (.var 0) (.int 0)) (.var 1))) (.cons (.ret (.var 2)) .nil))) .nil)
def s2_1 : St := (.seti (.var 0) (.int 2) (.bin .add (.idx (.var 0) (.int 2)) (.int 1)))
def s2_2 : St := (.seti (.var 0) (.int 1) (.bin .mod (.bin .add (.bin .add (.bin .mul (.idx (.var 0) (.int 1)) (.int 48271)) (.bin .mul (.bin .mul (.int 6607) (.idx (.var 0) (.int 2))) (.idx (.var 0) (.int 2)))) (.int 5)) (.int 2147483647)))
def s2_3 : St := (.ret (.bin .mod (.bin .mod (.bin .pow (.bin .fdiv (.idx (.var 0) (.int 1)) (.int 16)) (.int 3)) (.int 2147483587)) (.var 1)))
def f2 : Fn := ⟨2, 3, (.cons s2_0 (.cons s2_1 (.cons s2_2 (.cons s2_3 .nil))))⟩
/-- pick(2) : 0=bag_here 1=menu -/
def s3_0 : St := (.ret (.idx (.var 1) (.call 2 (.cons (.var 0) (.cons (.blt .len (.cons (.var 1) .nil)) .nil)))))
def f3 : Fn := ⟨2, 2, (.cons s3_0 .nil)⟩
/-- bare(1) : 0=string -/
def b4_0 : Ss := (.cons (.set 0 (.slc (.var 0) (.cons (.int 1) .nil) .nil)) .nil)
def s4_0 : St := (.whl (.cmp .eq (.slc (.var 0) .nil (.cons (.int 1) .nil)) (.str [32])) b4_0)
def b4_1 : Ss := (.cons (.set 0 (.slc (.var 0) .nil (.cons (.neg (.int 1)) .nil))) .nil)
def s4_1 : St := (.whl (.cmp .eq (.slc (.var 0) (.cons (.neg (.int 1)) .nil) .nil) (.str [32])) b4_1)
def s4_2 : St := (.ret (.var 0))
def f4 : Fn := ⟨1, 1, (.cons s4_0 (.cons s4_1 (.cons s4_2 .nil)))⟩
/-- items(2) : 0=rows 1=label 2=found 3=other 4=value 5=part -/
def s5_0 : St := (.set 2 (.lst .nil))
def b5_0 : Ss := (.cons (.ifs (.cmp .eq (.var 3) (.mth .lower (.var 1) .nil)) (.cons (.set 2 (.bin .add (.var 2) (.comp (.mth .lower (.call 4 (.cons (.var 5) .nil)) .nil) [5] false (.val (.mth .split (.var 4) (.cons (.str [44]) .nil))) .nil [("_law_part", 5)]))) .nil) .nil) .nil)
def s5_1 : St := (.forr [3, 4] true (.val (.var 0)) b5_0)
def s5_2 : St := (.ret (.comp (.var 5) [5] false (.val (.var 2)) (.cons (.cmp .ne (.var 5) (.str [])) .nil) [("_law_part", 5)]))
def f5 : Fn := ⟨2, 6, (.cons s5_0 (.cons s5_1 (.cons s5_2 .nil)))⟩
/-- law(1) : 0=script 1=k 2=bag_here 3=rows 4=turn 5=words 6=value 7=kept 8=label 9=told 10=part -/
def b6_0 : Ss := (.cons (.set 9 (.call 0 (.cons (.blt .tuple1 (.cons (.var 3) .nil)) (.cons (.var 8) .nil)))) (.cons (.ifs (.bop false (.cons (.not (.isi (.var 9) [.list] true)) (.cons (.cmp .ne (.var 9) (.call 5 (.cons (.var 3) (.cons (.var 8) .nil)))) .nil))) (.cons (.ret (.bl false)) .nil) .nil) (.cons (.expr (.mth .append (.var 9) (.cons (.str []) .nil))) (.cons (.ifs (.cmp .ne (.callk 0 .nil (.cons (.var 8) (.cons (.blt .tuple1 (.cons (.var 3) .nil)) .nil)) ["name", "fields"] [.inl 1, .inl 0]) (.call 5 (.cons (.var 3) (.cons (.var 8) .nil)))) (.cons (.ret (.bl false)) .nil) .nil) .nil))))
def b6_1 : Ss := (.cons (.set 5 (.lst (.cons (.str [97]) (.cons (.str [66]) (.cons (.str [32]) (.cons (.str [44]) (.cons (.str [44, 32]) (.cons (.str [99, 32, 100]) (.cons (.str [99, 104, 117, 110, 107, 101, 100]) (.cons (.str []) (.cons (.str [44, 44]) (.cons (.str [34]) (.cons (.str [58]) .nil))))))))))))) (.cons (.set 6 (.call 4 (.cons (.mth .join (.str []) (.cons (.comp (.call 3 (.cons (.var 2) (.cons (.var 5) .nil))) [10] false (.rng (.cons (.call 2 (.cons (.var 2) (.cons (.int 7) .nil))) .nil)) .nil [("_law_part", 10)]) .nil)) .nil))) (.cons (.expr (.mth .append (.var 3) (.cons (.tup (.cons (.call 3 (.cons (.var 2) (.cons (.lst (.cons (.str [116, 101]) (.cons (.str [99, 111, 110, 110, 101, 99, 116, 105, 111, 110]) (.cons (.str [120]) (.cons (.str [116]) .nil))))) .nil))) (.cons (.var 6) .nil))) .nil))) .nil)))
def b6_2 : Ss := (.cons (.set 2 (.call 1 (.cons (.var 0) (.cons (.var 1) .nil)))) (.cons (.set 3 (.lst .nil)) (.cons (.forr [4] false (.rng (.cons (.call 2 (.cons (.var 2) (.cons (.int 6) .nil))) .nil)) b6_1) (.cons (.set 7 (.blt .repr (.cons (.var 3) .nil))) (.cons (.forr [8] false (.val (.tup (.cons (.str [116, 101]) (.cons (.str [84, 69]) (.cons (.str [67, 111, 110, 110, 101, 99, 116, 105, 111, 110]) (.cons (.str [120]) (.cons (.str [84]) (.cons (.str [121]) .nil)))))))) b6_0) (.cons (.ifs (.cmp .ne (.blt .repr (.cons (.var 3) .nil)) (.var 7)) (.cons (.ret (.bl false)) .nil) .nil) .nil))))))
def s6_0 : St := (.forr [1] false (.rng (.cons (.blt .max2 (.cons (.int 3) (.cons (.blt .min2 (.cons (.int 8) (.cons (.blt .len (.cons (.var 0) .nil)) .nil))) .nil))) .nil)) b6_2)
def s6_1 : St := (.ret (.cmp .eq (.call 0 (.cons (.tup (.cons (.tup (.cons (.str [116, 101]) (.cons (.str [65, 44, 32, 98]) .nil))) (.cons (.tup (.cons (.str [116, 101]) (.cons (.str [44, 99]) .nil))) .nil))) (.cons (.str [84, 69]) .nil))) (.lst (.cons (.str [97]) (.cons (.str [98]) (.cons (.str [99]) .nil))))))
def f6 : Fn := ⟨1, 11, (.cons s6_0 (.cons s6_1 .nil))⟩
def pr : Nat → Option Fn
  | 0 => some f0
  | 1 => some f1
  | 2 => some f2
  | 3 => some f3
  | 4 => some f4
  | 5 => some f5
  | 6 => some f6
  | _ => none
def cs : Nat → Option D

  | _ => none
end K04

/-! part Py18 -/
/-! Cl: rules to run a term by hand: no program in sight. -/
namespace Cl
section
variable {α β : Type}
theorem R.bind_cg {m m' : R α} {f : α → Sto → R β} (h : m = m') : R.bind m f = R.bind m' f := by rw [h]
theorem R.at_cg {m m' : R α} {σ : Sg} {f : α → Sto → RS} (h : m = m') : R.at m σ f = R.at m' σ f := by rw [h]
theorem R.opt_cg {o o' : Option α} {f : α → R β} (h : o = o') : R.opt o f = R.opt o' f := by rw [h]
theorem RS.opt_cg {o o' : Option α} {f : α → RS} (h : o = o') : RS.opt o f = RS.opt o' f := by rw [h]
theorem RS.seq_cg {m m' : RS} {f : Sg → Sto → RS} (h : m = m') : RS.seq m f = RS.seq m' f := by rw [h]
theorem R.req_cg {c c' : Prop} [i : Decidable c] [j : Decidable c'] {m : R α} (h : c = c') : R.req c m = R.req c' m := by
  subst h
  cases Subsingleton.elim i j
  rfl
end
/-- a slot, read -/
def slotR (o : Option (Option D)) (S : Sto) : R D := match o with
  | some (some d) => .ok d S
  | _ => .no
theorem slotR_ok (d : D) (S : Sto) : slotR (some (some d)) S = .ok d S := (rfl)
/-- a test's two ways -/
def ifR {α : Type} (k : Bool) (a b : R α) : R α := if k then a else b
def ifS (k : Bool) (a b : RS) : RS := if k then a else b
theorem ifR_cg {α : Type} {k k' : Bool} {a b : R α} (h : k = k') : ifR k a b = ifR k' a b := by rw [h]
theorem ifS_cg {k k' : Bool} {a b : RS} (h : k = k') : ifS k a b = ifS k' a b := by rw [h]
theorem ifR_t {α : Type} (a b : R α) : ifR true a b = a := (rfl)
theorem ifR_f {α : Type} (a b : R α) : ifR false a b = b := (rfl)
theorem ifS_t (a b : RS) : ifS true a b = a := (rfl)
theorem ifS_f (a b : RS) : ifS false a b = b := (rfl)
section
variable (C : Cfg) (σ : Sg) (S : Sto)
theorem x_non : evE C .non σ S = .ok .non S := (rfl)
theorem x_bl (b : Bool) : evE C (.bl b) σ S = .ok (.bl b) S := (rfl)
theorem x_int (i : Int) : evE C (.int i) σ S = .ok (.int i) S := (rfl)
theorem x_str (s : Tx) : evE C (.str s) σ S = .ok (.str s) S := (rfl)
theorem x_var (i : Nat) : evE C (.var i) σ S = slotR σ[i]? S := (rfl)
theorem x_glo (g : Nat) : evE C (.glo g) σ S = R.opt (C.glo g) fun d => .ok d S := (rfl)
theorem x_bin (o : Op) (a b : E) : evE C (.bin o a b) σ S = (evE C a σ S).bind fun x S1 => (evE C b σ S1).bind fun y S2 => binop o x y S2 := (rfl)
def negD (x : D) (S : Sto) : R D := match x with
  | .int i => .ok (.int (-i)) S
  | _ => .no
theorem negD_i (i : Int) (S : Sto) : negD (.int i) S = .ok (.int (-i)) S := (rfl)
theorem x_neg (a : E) : evE C (.neg a) σ S = (evE C a σ S).bind negD := (rfl)
theorem x_not (a : E) : evE C (.not a) σ S = (evE C a σ S).bind fun x S1 => R.opt (truth S1 x) fun k => .ok (.bl (!k)) S1 := (rfl)
theorem x_bop (k : Bool) (es : Es) : evE C (.bop k es) σ S = evB C k es σ S := (rfl)
theorem x_bop1 (k : Bool) (e : E) : evB C k (.cons e .nil) σ S = evE C e σ S := (rfl)
theorem x_and (e e2 : E) (es : Es) : evB C true (.cons e (.cons e2 es)) σ S = (evE C e σ S).bind fun x S1 => R.opt (truth S1 x) fun t => ifR t (evB C true (.cons e2 es) σ S1) (.ok x S1) := by
  show (evE C e σ S).bind _ = _
  congr 1
theorem x_or (e e2 : E) (es : Es) : evB C false (.cons e (.cons e2 es)) σ S = (evE C e σ S).bind fun x S1 => R.opt (truth S1 x) fun t => ifR t (.ok x S1) (evB C false (.cons e2 es) σ S1) := by
  show (evE C e σ S).bind _ = _
  congr 1
  funext x S1
  congr 1
  funext t
  cases t <;> rfl
theorem x_ite (c a b : E) : evE C (.ite c a b) σ S = (evE C c σ S).bind fun t S1 => R.opt (truth S1 t) fun k => ifR k (evE C a σ S1) (evE C b σ S1) := (rfl)
theorem x_cmp (o : Cm) (a b : E) : evE C (.cmp o a b) σ S = (evE C a σ S).bind fun x S1 => (evE C b σ S1).bind fun y S2 => R.opt (cmpop o x y S2) fun k => .ok (.bl k) S2 := (rfl)
theorem x_chain (o p : Cm) (a b c : E) : evE C (.chain o p a b c) σ S = (evE C a σ S).bind fun x S1 => (evE C b σ S1).bind fun y S2 => R.opt (cmpop o x y S2) fun k =>
      ifR k ((evE C c σ S2).bind fun z S3 => R.opt (cmpop p y z S3) fun k2 => .ok (.bl k2) S3) (.ok (.bl false) S2) := (rfl)
theorem x_tup (es : Es) : evE C (.tup es) σ S = (evEs C es σ S).bind fun vs S1 => R.req (vs.length ≤ LIM) (.ok (.tup vs) S1) := (rfl)
theorem x_lst (es : Es) : evE C (.lst es) σ S = (evEs C es σ S).bind fun vs S1 => R.req (vs.length ≤ LIM) (.ok (.ref S1.length) (S1 ++ [.lst vs])) := (rfl)
theorem x_idx (a b : E) : evE C (.idx a b) σ S = (evE C a σ S).bind fun x S1 => (evE C b σ S1).bind fun y S2 => index x y S2 := (rfl)
theorem x_slc (a : E) (lo hi : Es) : evE C (.slc a lo hi) σ S = (evE C a σ S).bind fun x S1 => (evO C lo σ S1).bind fun l S2 => (evO C hi σ S2).bind fun h S3 => slice x l h S3 := (rfl)
theorem x_call (f : Nat) (es : Es) : evE C (.call f es) σ S = (evEs C es σ S).bind fun vs S1 => C.call f vs S1 := (rfl)
theorem x_callk (f : Nat) (es ks : Es) (names : List String) (perm : List (Sum Nat Kd)) : evE C (.callk f es ks names perm) σ S = (evEs C es σ S).bind fun vs S1 => (evEs C ks σ S1).bind fun zs S2 => R.opt (perm.mapM (argOf (vs ++ zs))) fun as => C.call f as S2 := (rfl)
theorem x_blt (b : Bf) (es : Es) : evE C (.blt b es) σ S = (evEs C es σ S).bind fun vs S1 => blt b vs S1 := (rfl)
theorem x_isi (a : E) (ts : List Ty) (b : Bool) : evE C (.isi a ts b) σ S = (evE C a σ S).bind fun x S1 => R.opt (isiAny S1 x ts) fun k => .ok (.bl k) S1 := (rfl)
theorem x_mth (m : Mt) (o : E) (es : Es) : evE C (.mth m o es) σ S = (evE C o σ S).bind fun x S1 => R.req (recv m x S1 = true) ((evEs C es σ S1).bind fun vs S2 => mth m x vs S2) := (rfl)
theorem x_nil : evEs C .nil σ S = .ok [] S := (rfl)
theorem x_cons (e : E) (es : Es) : evEs C (.cons e es) σ S = (evE C e σ S).bind fun x S1 => (evEs C es σ S1).bind fun xs S2 => .ok (x :: xs) S2 := (rfl)
theorem x_o0 : evO C .nil σ S = .ok none S := (rfl)
def intO (x : D) (S : Sto) : R (Option Int) := match x with
  | .int i => .ok (some i) S
  | _ => .no
theorem intO_i (i : Int) (S : Sto) : intO (.int i) S = .ok (some i) S := (rfl)
theorem x_o1 (e : E) (es : Es) : evO C (.cons e es) σ S = (evE C e σ S).bind intO := (rfl)
theorem x_c0 : evC C .nil σ S = .ok true S := (rfl)
theorem x_c1 (e : E) (es : Es) : evC C (.cons e es) σ S = (evE C e σ S).bind fun t S1 => R.opt (truth S1 t) fun k => .ok k S1 := (rfl)
theorem x_val (e : E) : evI C (.val e) σ S = (evE C e σ S).bind fun d S1 => walk d S1 := (rfl)
def rngR (vs : List D) (S1 : Sto) : R Wk := match vs with
    | [.int j] => R.req (j < 2 ^ 62 ∧ -(2 ^ 62) ≤ j) (.ok (.rng 0 j.toNat) S1)
    | [.int i, .int j] => R.req ((-(2 ^ 62) ≤ i ∧ i < 2 ^ 62) ∧ -(2 ^ 62) ≤ j ∧ j < 2 ^ 62) (.ok (.rng i (j - i).toNat) S1)
    | _ => .no
theorem rngR_1 (j : Int) (S : Sto) : rngR [.int j] S = R.req (j < 2 ^ 62 ∧ -(2 ^ 62) ≤ j) (.ok (.rng 0 j.toNat) S) := (rfl)
theorem rngR_2 (i j : Int) (S : Sto) : rngR [.int i, .int j] S = R.req ((-(2 ^ 62) ≤ i ∧ i < 2 ^ 62) ∧ -(2 ^ 62) ≤ j ∧ j < 2 ^ 62) (.ok (.rng i (j - i).toNat) S) := (rfl)
theorem x_rng (es : Es) : evI C (.rng es) σ S = (evEs C es σ S).bind rngR := (rfl)
/-- statements -/
theorem s_set (i : Nat) (e : E) : evS C (.set i e) σ S = (evE C e σ S).at σ fun d S1 => .next (σ.set i (some d)) S1 := (rfl)
theorem s_sets (is : List Nat) (e : E) : evS C (.sets is e) σ S = (evE C e σ S).at σ fun d S1 => RS.opt (target is true d σ S1) fun σ1 => .next σ1 S1 := (rfl)
def parS (is : List Nat) (σ : Sg) (ds : List D) (S : Sto) : RS := if ds.length = is.length then .next (setAll σ is ds) S else .no
theorem s_par (is : List Nat) (es : Es) : evS C (.par is es) σ S = (evEs C es σ S).at σ fun ds S1 => parS is σ ds S1 := (rfl)
theorem parS_2 (i j : Nat) (a b : D) : parS [i, j] σ [a, b] S = .next ((σ.set i (some a)).set j (some b)) S := (rfl)
theorem parS_3 (i j k : Nat) (a b c : D) : parS [i, j, k] σ [a, b, c] S = .next (((σ.set i (some a)).set j (some b)).set k (some c)) S := (rfl)
theorem s_aug (i : Nat) (o : Op) (e : E) : evS C (.aug i o e) σ S = (slotR σ[i]? S).at σ fun x S0 => (evE C e σ S0).at σ fun y S1 => (augop o x y S1).at σ fun z S2 => .next (σ.set i (some z)) S2 := by
  show (match σ[i]? with
    | some (some x) => _
    | _ => _) = _
  unfold slotR
  split <;> rfl
theorem s_seti (o i e : E) : evS C (.seti o i e) σ S = (evE C e σ S).at σ fun v S1 => (evE C o σ S1).at σ fun x S2 => (evE C i σ S2).at σ fun y S3 => RS.opt (setItem x y v S3) fun S4 => .next σ S4 := (rfl)
theorem s_expr (e : E) : evS C (.expr e) σ S = (evE C e σ S).at σ fun _ S1 => .next σ S1 := (rfl)
theorem s_ret (e : E) : evS C (.ret e) σ S = (evE C e σ S).at σ fun d S1 => .ret d S1 := (rfl)
theorem s_retn : evS C .retn σ S = .ret .non S := (rfl)
theorem s_if (c : E) (a b : Ss) : evS C (.ifs c a b) σ S = (evE C c σ S).at σ fun t S1 => RS.opt (truth S1 t) fun k => ifS k (evSs C a σ S1) (evSs C b σ S1) := (rfl)
theorem s_while (c : E) (b : Ss) : evS C (.whl c b) σ S = whileLoop (fun σ S => (evE C c σ S).bind fun t S1 => R.opt (truth S1 t) fun k => .ok k S1) (evSs C b) FUEL σ S := (rfl)
theorem s_for (tg : List Nat) (tp : Bool) (it : It) (b : Ss) : evS C (.forr tg tp it b) σ S = (evI C it σ S).at σ fun w S1 => forLoop (fun d σ S => RS.opt (target tg tp d σ S) fun σ1 => evSs C b σ1 S) w FUEL 0 σ S1 := (rfl)
/-- a loop's test -/
def whlC (C : Cfg) (c : E) : Sg → Sto → R Bool := fun σ S => (evE C c σ S).bind fun t S1 => R.opt (truth S1 t) fun k => .ok k S1
theorem whlC_ap (c : E) : whlC C c σ S = (evE C c σ S).bind fun t S1 => R.opt (truth S1 t) fun k => .ok k S1 := (rfl)
theorem s_whl (c : E) (b : Ss) : evS C (.whl c b) σ S = whileLoop (whlC C c) (evSs C b) FUEL σ S := (rfl)
/-- a loop's turn -/
def forF (C : Cfg) (tg : List Nat) (tp : Bool) (b : Ss) : D → Sg → Sto → RS := fun d σ S => RS.opt (target tg tp d σ S) fun σ1 => evSs C b σ1 S
theorem forF_1 (i : Nat) (b : Ss) (d : D) : forF C [i] false b d σ S = evSs C b (σ.set i (some d)) S := (rfl)
theorem s_forF (tg : List Nat) (tp : Bool) (it : It) (b : Ss) : evS C (.forr tg tp it b) σ S = (evI C it σ S).at σ fun w S1 => forLoop (forF C tg tp b) w FUEL 0 σ S1 := (rfl)
/-- a comprehension's turn -/
def compF (C : Cfg) (elt : E) (tg : List Nat) (tp : Bool) (cond : Es) (own : List (String × Nat)) (σ : Sg) : D → Sto → R (Option D) := fun d S2 => R.opt (target tg tp d (wipe σ (own.map (·.2))) S2) fun σ2 =>
  (evC C cond σ2 S2).bind fun k S3 => ifR k ((evE C elt σ2 S3).bind fun y S4 => .ok (some y) S4) (.ok none S3)
theorem x_comp (elt : E) (tg : List Nat) (tp : Bool) (it : It) (cond : Es) (own : List (String × Nat)) : evE C (.comp elt tg tp it cond own) σ S = (evI C it σ S).bind fun w S1 => (compLoop (compF C elt tg tp cond own σ) w FUEL 0 [] S1).bind fun ys S2 => .ok (.ref S2.length) (S2 ++ [.lst ys]) := (rfl)
theorem compF_1 (elt : E) (i : Nat) (own : List (String × Nat)) (d : D) : compF C elt [i] false .nil own σ d S = (evE C elt ((wipe σ (own.map (·.2))).set i (some d)) S).bind fun y S4 => .ok (some y) S4 := (rfl)
theorem compF_c (elt : E) (i : Nat) (c : E) (own : List (String × Nat)) (d : D) : compF C elt [i] false (.cons c .nil) own σ d S = (evC C (.cons c .nil) ((wipe σ (own.map (·.2))).set i (some d)) S).bind fun k S3 => ifR k ((evE C elt ((wipe σ (own.map (·.2))).set i (some d)) S3).bind fun y S4 => .ok (some y) S4) (.ok none S3) := (rfl)
theorem s_pass : evS C .pass σ S = .next σ S := (rfl)
theorem s_brk : evS C .brk σ S = .brk σ S := (rfl)
theorem s_cont : evS C .cont σ S = .cont σ S := (rfl)
theorem s_nil : evSs C .nil σ S = .next σ S := (rfl)
theorem s_one (s : St) : evSs C (.cons s .nil) σ S = evS C s σ S := (rfl)
theorem s_cons (s s2 : St) (ss : Ss) : evSs C (.cons s (.cons s2 ss)) σ S = (evS C s σ S).seq fun σ1 S1 => evSs C (.cons s2 ss) σ1 S1 := (rfl)
/-- operations -/
theorem o_add (i j : Int) : binop .add (.int i) (.int j) S = .ok (.int (i + j)) S := (rfl)
theorem o_sub (i j : Int) : binop .sub (.int i) (.int j) S = .ok (.int (i - j)) S := (rfl)
theorem o_mul (i j : Int) : binop .mul (.int i) (.int j) S = R.req (i.natAbs < 2 ^ 64 ∨ j.natAbs < 2 ^ 64) (.ok (.int (i * j)) S) := (rfl)
theorem o_fdiv (i j : Int) : binop .fdiv (.int i) (.int j) S = R.req (0 < j ∧ j < 1073741824) (.ok (.int (i / j)) S) := (rfl)
theorem o_mod (i j : Int) : binop .mod (.int i) (.int j) S = R.req (0 < j) (.ok (.int (i % j)) S) := (rfl)
theorem o_pow (i j : Int) : binop .pow (.int i) (.int j) S = R.req (0 ≤ j ∧ j ≤ 1000000 ∧ i.natAbs < 2 ^ 64) (.ok (.int (i ^ j.toNat)) S) := (rfl)
theorem o_cat (s t : Tx) : binop .add (.str s) (.str t) S = R.req (s.length + t.length ≤ LIM) (.ok (.str (s ++ t)) S) := (rfl)
theorem o_catT (s t : List D) : binop .add (.tup s) (.tup t) S = R.req (s.length + t.length ≤ LIM) (.ok (.tup (s ++ t)) S) := (rfl)
theorem o_catL (m n : Nat) : binop .add (.ref m) (.ref n) S = R.opt (getL S m) fun s => R.opt (getL S n) fun t => R.req (s.length + t.length ≤ LIM) (.ok (.ref S.length) (S ++ [.lst (s ++ t)])) := (rfl)
theorem o_mulT (s : List D) (k : Int) : binop .mul (.tup s) (.int k) S = R.req (s ≠ [] ∧ 2 ≤ k ∧ k ≤ 1000 ∧ s.length ≤ 1000) (.ok (.tup (List.replicate k.toNat s).flatten) S) := (rfl)
theorem a_add (i j : Int) : augop .add (.int i) (.int j) S = .ok (.int (i + j)) S := (rfl)
theorem a_sub (i j : Int) : augop .sub (.int i) (.int j) S = .ok (.int (i - j)) S := (rfl)
theorem a_cat (s t : Tx) : augop .add (.str s) (.str t) S = R.req (s.length + t.length ≤ LIM) (.ok (.str (s ++ t)) S) := (rfl)
theorem a_catL (m n : Nat) : augop .add (.ref m) (.ref n) S = R.opt (getL S m) fun s => R.opt (getL S n) fun t => R.req (s.length + t.length ≤ LIM) (.ok (.ref m) (S.set m (.lst (s ++ t)))) := (rfl)
theorem c_lt (i j : Int) : cmpop .lt (.int i) (.int j) S = some (decide (i < j)) := (rfl)
theorem c_le (i j : Int) : cmpop .le (.int i) (.int j) S = some (decide (i ≤ j)) := (rfl)
theorem c_gt (i j : Int) : cmpop .gt (.int i) (.int j) S = some (decide (j < i)) := (rfl)
theorem c_ge (i j : Int) : cmpop .ge (.int i) (.int j) S = some (decide (j ≤ i)) := (rfl)
theorem c_eqI (i j : Int) : cmpop .eq (.int i) (.int j) S = some (decide (i = j)) := (rfl)
theorem c_neI (i j : Int) : cmpop .ne (.int i) (.int j) S = some (!decide (i = j)) := (rfl)
theorem SX_inj {s t : Tx} : SX.S s = SX.S t ↔ s = t := by
  constructor
  · intro h
    have := congrArg (fun x : PySem.Str => x.cps.toList) h
    simpa [SX.S] using this
  · rintro rfl
    rfl
theorem c_eqS (s t : Tx) : cmpop .eq (.str s) (.str t) S = some (decide (s = t)) := by
  show some (PySem.PyData.eqv (.str (SX.S s)) (.str (SX.S t))) = _
  have e : PySem.PyData.eqv (.str (SX.S s)) (.str (SX.S t)) = (SX.S s == SX.S t) := by rw [PySem.PyData.eqv]
  rw [e]
  by_cases h : s = t
  · subst h
    rw [decide_eq_true rfl, beq_self_eq_true]
  · rw [decide_eq_false h, beq_eq_false_iff_ne.mpr fun q => h (SX_inj.mp q)]
theorem c_neS (s t : Tx) : cmpop .ne (.str s) (.str t) S = some (!decide (s = t)) := by
  show (eqD S (.str s) (.str t)).map (!·) = _
  rw [show eqD S (.str s) (.str t) = some (decide (s = t)) from c_eqS S s t]
  rfl
theorem c_in (x y : D) : cmpop .isin x y S = inF S x y := (rfl)
theorem c_nin (x y : D) : cmpop .notin x y S = (inF S x y).map (!·) := (rfl)
theorem c_isN (x : D) : cmpop .is x .non S = some (isNon x) := (rfl)
theorem c_isnN (x : D) : cmpop .isnot x .non S = some (!isNon x) := (rfl)
theorem t_bl (b : Bool) : truth S (.bl b) = some b := (rfl)
theorem t_int (i : Int) : truth S (.int i) = some (i != 0) := (rfl)
theorem t_str (s : Tx) : truth S (.str s) = some (!s.isEmpty) := (rfl)
theorem t_tup (s : List D) : truth S (.tup s) = some (!s.isEmpty) := (rfl)
theorem t_non : truth S .non = some false := (rfl)
theorem t_ref (n : Nat) : truth S (.ref n) = (getQ S n).map fun xs => !xs.isEmpty := (rfl)
theorem i_str (s : Tx) (i : Int) : index (.str s) (.int i) S = R.opt (atI s i) fun c => .ok (.str [c]) S := (rfl)
theorem i_tup (s : List D) (i : Int) : index (.tup s) (.int i) S = R.opt (atI s i) fun c => .ok c S := (rfl)
theorem i_ref (m : Nat) (i : Int) : index (.ref m) (.int i) S = R.opt (getQ S m) fun xs => R.opt (atI xs i) fun d => .ok d S := (rfl)
theorem l_str (s : Tx) (lo hi : Option Int) : slice (.str s) lo hi S = .ok (.str (cut s lo hi)) S := (rfl)
theorem l_tup (s : List D) (lo hi : Option Int) : slice (.tup s) lo hi S = .ok (.tup (cut s lo hi)) S := (rfl)
theorem l_ref (m : Nat) (lo hi : Option Int) : slice (.ref m) lo hi S = R.opt (getQ S m) fun xs => .ok (.ref S.length) (S ++ [.lst (cut xs lo hi)]) := (rfl)
theorem b_lenS (s : Tx) : blt .len [.str s] S = .ok (.int s.length) S := (rfl)
theorem b_lenT (s : List D) : blt .len [.tup s] S = .ok (.int s.length) S := (rfl)
theorem b_lenR (m : Nat) : blt .len [.ref m] S = R.opt (getQ S m) fun xs => .ok (.int xs.length) S := (rfl)
theorem b_abs (i : Int) : blt .abs [.int i] S = .ok (.int (if i < 0 then -i else i)) S := (rfl)
theorem b_max (i j : Int) : blt .max2 [.int i, .int j] S = .ok (.int (if j > i then j else i)) S := (rfl)
theorem b_min (i j : Int) : blt .min2 [.int i, .int j] S = .ok (.int (if j < i then j else i)) S := (rfl)
theorem b_int (i : Int) : blt .int1 [.int i] S = .ok (.int i) S := (rfl)
theorem b_intB (i : Bool) : blt .int1 [.bl i] S = .ok (.int (if i then 1 else 0)) S := (rfl)
theorem b_repr (v : D) : blt .repr [v] S = R.opt (rd S DEEP v) fun p => R.req (p.showable = true ∧ p.shown.length ≤ LIM) (.ok (.str p.shown.cps.toList) S) := (rfl)
theorem b_listT (s : List D) : blt .list1 [.tup s] S = .ok (.ref S.length) (S ++ [.lst s]) := (rfl)
theorem b_listR (m : Nat) : blt .list1 [.ref m] S = R.opt (getQ S m) fun xs => .ok (.ref S.length) (S ++ [.lst xs]) := (rfl)
theorem b_tupT (s : List D) : blt .tuple1 [.tup s] S = .ok (.tup s) S := (rfl)
theorem b_tupR (m : Nat) : blt .tuple1 [.ref m] S = R.opt (getQ S m) fun xs => .ok (.tup xs) S := (rfl)
theorem w_tup (s : List D) : walk (.tup s) S = .ok (.fix s) S := (rfl)
theorem w_str (s : Tx) : walk (.str s) S = .ok (.fix (s.map fun c => .str [c])) S := (rfl)
theorem w_ref (m : Nat) : walk (.ref m) S = R.opt (getQ S m) fun _ => .ok (.lst m) S := (rfl)
theorem g_one (i : Nat) (d : D) : target [i] false d σ S = some (σ.set i (some d)) := (rfl)
theorem m_app (m : Nat) (v : D) : mth .append (.ref m) [v] S = R.opt (getL S m) fun xs => R.req (xs.length < LIM) (.ok .non (S.set m (.lst (xs ++ [v])))) := by
  show R.opt ((getL S m).map _) _ = _
  cases getL S m <;> rfl
theorem m_pop (m : Nat) : mth .pop (.ref m) [] S = R.opt (getL S m) fun xs => R.opt (xs[xs.length - 1]?) fun d => .ok d (S.set m (.lst xs.dropLast)) := by
  show R.opt ((getL S m).map _) _ = _
  cases getL S m <;> rfl
theorem r_str (m : Mt) (s : Tx) : recv m (.str s) S = !m.ofList := (rfl)
theorem rs_strip (s : Tx) : (recv .strip (.str s) S = true) = True := eq_true rfl
theorem rs_lower (s : Tx) : (recv .lower (.str s) S = true) = True := eq_true rfl
theorem rs_upper (s : Tx) : (recv .upper (.str s) S = true) = True := eq_true rfl
theorem rs_split (s : Tx) : (recv .split (.str s) S = true) = True := eq_true rfl
theorem rs_partition (s : Tx) : (recv .partition (.str s) S = true) = True := eq_true rfl
theorem rs_join (s : Tx) : (recv .join (.str s) S = true) = True := eq_true rfl
theorem rs_find (s : Tx) : (recv .find (.str s) S = true) = True := eq_true rfl
theorem rs_count (s : Tx) : (recv .count (.str s) S = true) = True := eq_true rfl
theorem r_ref (m : Mt) (n : Nat) : recv m (.ref n) S = (m.ofList && (getQ S n).isSome) := (rfl)
theorem f_int (m : Nat) (k : Int) (v : D) : setItem (.ref m) (.int k) v S = (getL S m).bind fun xs => (L2.ixN xs.length k).map fun j => S.set m (.lst (xs.set j v)) := by
  show (match getL S m with
    | some xs => _
    | none => _) = _
  cases getL S m <;> rfl
end
/-- a call's end -/
def retR (r : RS) : R D := match r with
  | .next _ S => .ok .non S
  | .ret d S => .ok d S
  | .exc x _ S => .exc x S
  | _ => .no
theorem retR_cg {r r' : RS} (h : r = r') : retR r = retR r' := by rw [h]
theorem retR_n (σ : Sg) (S : Sto) : retR (.next σ S) = .ok .non S := (rfl)
theorem retR_r (d : D) (S : Sto) : retR (.ret d S) = .ok d S := (rfl)
theorem retR_x (x : D) (σ : Sg) (S : Sto) : retR (.exc x σ S) = .exc x S := (rfl)
theorem run_ok {P : Nat → Option Fn} {glo : Nat → Option D} {n f : Nat} {F : Fn} {vs : List D} {S : Sto} (hf : P f = some F) (hl : vs.length = F.np) :
    run P glo (n + 1) f vs S = retR (evSs ⟨run P glo n, glo⟩ F.body (vs.map some ++ List.replicate (F.ns - F.np) none) S) := by
  show (match P f with
    | none => _
    | some F => _) = _
  rw [hf]
  dsimp only
  rw [if_pos hl]
  rfl
/-! ### the store -/
theorem getL_of {S : Sto} {n : Nat} {xs : List D} (h : S[n]? = some (.lst xs)) : getL S n = some xs := by unfold getL; rw [h]
theorem getQ_of {S : Sto} {n : Nat} {xs : List D} (h : S[n]? = some (.lst xs)) : getQ S n = some xs := by unfold getQ; rw [h]
theorem getQ_scr {S : Sto} {n : Nat} {xs : List Int} (h : S[n]? = some (.scr xs)) : getQ S n = some (xs.map .int) := by unfold getQ; rw [h]
theorem getL_new {S : Sto} {xs : List D} : getL (S ++ [.lst xs]) S.length = some xs := getL_of (by rw [List.getElem?_append_right (Nat.le_refl _)]; simp)
theorem getQ_new {S : Sto} {xs : List D} : getQ (S ++ [.lst xs]) S.length = some xs := getQ_of (by rw [List.getElem?_append_right (Nat.le_refl _)]; simp)
/-- what was there stays, but for the places that b tells -/
structure Kp (S S' : Sto) (b : List Nat) : Prop where
  le : S.length ≤ S'.length
  at_ : ∀ n, n < S.length → n ∉ b → S'[n]? = S[n]?
theorem Kp.refl (S : Sto) : Kp S S [] := ⟨Nat.le_refl _, fun _ _ _ => rfl⟩
theorem Kp.mono {S S' : Sto} {b c : List Nat} (h : Kp S S' b) (i : ∀ n, n ∈ b → n ∈ c) : Kp S S' c := ⟨h.le, fun n hn hc => h.at_ n hn fun q => hc (i n q)⟩
theorem Kp.fresh {S S' : Sto} {b c : List Nat} (h : Kp S S' b) (i : ∀ n, n ∈ b → n < S.length → n ∈ c) : Kp S S' c := ⟨h.le, fun n hn hc => h.at_ n hn fun q => hc (i n q hn)⟩
theorem Kp.trans {S S1 S2 : Sto} {b c : List Nat} (h : Kp S S1 b) (g : Kp S1 S2 c) : Kp S S2 (b ++ c) := ⟨Nat.le_trans h.le g.le, fun n hn hc => by
  rw [g.at_ n (Nat.lt_of_lt_of_le hn h.le) (fun q => hc (List.mem_append_right _ q)), h.at_ n hn fun q => hc (List.mem_append_left _ q)]⟩
theorem Kp.new (S : Sto) (l : Sto) : Kp S (S ++ l) [] := ⟨by simp, fun n hn _ => List.getElem?_append_left hn⟩
theorem Kp.set (S : Sto) (n : Nat) (o : Ob) : Kp S (S.set n o) [n] := ⟨by simp, fun m hm hc => List.getElem?_set_ne (by simpa using fun e => hc (by simp [e]))⟩
theorem Kp.get {S S' : Sto} {b : List Nat} (h : Kp S S' b) {n : Nat} {o : Ob} (e : S[n]? = some o) (hb : n ∉ b) : S'[n]? = some o := (h.at_ n (List.getElem?_eq_some_iff.mp e).1 hb).trans e
/-! ### integers by places -/
theorem atI_nat {α : Type} {xs : List α} {i : Nat} {x : α} (h : xs[i]? = some x) : atI xs (i : Int) = some x := by
  have hl := (List.getElem?_eq_some_iff.mp h).1
  unfold atI L2.atI L2.ixN
  rw [if_pos (by omega), if_pos (by omega)]
  simpa using h
theorem atI_of {α : Type} {xs : List α} {i : Int} (h0 : 0 ≤ i) (h1 : i < xs.length) : ∃ x, atI xs i = some x ∧ xs[i.toNat]? = some x := by
  have hl : i.toNat < xs.length := by omega
  refine ⟨xs[i.toNat], ?_, List.getElem?_eq_getElem hl⟩
  have := atI_nat (xs := xs) (List.getElem?_eq_getElem hl)
  rwa [Int.toNat_of_nonneg h0] at this
/-! ### loops -/
/-- a loop over a range, by an invariant; each turn goes on -/
theorem for_rng {f : D → Sg → Sto → RS} {lo : Int} {n : Nat} {σ : Sg} {S : Sto} (I : Nat → Sg → Sto → Prop) (h0 : I 0 σ S) (hn : n < FUEL)
    (step : ∀ i σ S, i < n → I i σ S → ∃ σ' S', (f (.int (lo + i)) σ S = .next σ' S' ∨ f (.int (lo + i)) σ S = .cont σ' S') ∧ I (i + 1) σ' S') : ∃ σ' S', forLoop f (.rng lo n) FUEL 0 σ S = .next σ' S' ∧ I n σ' S' := by
  have go : ∀ m k i σ S, i + m = n → n < i + k → I i σ S → ∃ σ' S', forLoop f (.rng lo n) k i σ S = .next σ' S' ∧ I n σ' S' := by
    intro m
    induction m with
    | zero =>
      intro k i σ S hm hk hI
      cases k with
      | zero => omega
      | succ k =>
        have e : i = n := by omega
        subst e
        refine ⟨σ, S, ?_, hI⟩
        unfold forLoop
        simp [Wk.at]
    | succ m ih =>
      intro k i σ S hm hk hI
      cases k with
      | zero => omega
      | succ k =>
        obtain ⟨σ1, S1, e, hI1⟩ := step i σ S (by omega) hI
        obtain ⟨σ2, S2, e2, hI2⟩ := ih k (i + 1) σ1 S1 (by omega) (by omega) hI1
        refine ⟨σ2, S2, ?_, hI2⟩
        unfold forLoop
        simp only [Wk.at, if_pos (show i < n by omega), RS.opt_some]
        rcases e with e | e <;> rw [e] <;> exact e2
  exact go n FUEL 0 σ S (by omega) (by omega) h0
/-- over fixed items -/
theorem for_fix {f : D → Sg → Sto → RS} {xs : List D} {σ : Sg} {S : Sto} (I : Nat → Sg → Sto → Prop) (h0 : I 0 σ S) (hn : xs.length < FUEL)
    (step : ∀ i x σ S, xs[i]? = some x → I i σ S → ∃ σ' S', (f x σ S = .next σ' S' ∨ f x σ S = .cont σ' S') ∧ I (i + 1) σ' S') : ∃ σ' S', forLoop f (.fix xs) FUEL 0 σ S = .next σ' S' ∧ I xs.length σ' S' := by
  have go : ∀ m k i σ S, i + m = xs.length → xs.length < i + k → I i σ S → ∃ σ' S', forLoop f (.fix xs) k i σ S = .next σ' S' ∧ I xs.length σ' S' := by
    intro m
    induction m with
    | zero =>
      intro k i σ S hm hk hI
      cases k with
      | zero => omega
      | succ k =>
        have e : i = xs.length := by omega
        subst e
        refine ⟨σ, S, ?_, hI⟩
        unfold forLoop
        simp [Wk.at]
    | succ m ih =>
      intro k i σ S hm hk hI
      cases k with
      | zero => omega
      | succ k =>
        have hl : i < xs.length := by omega
        obtain ⟨σ1, S1, e, hI1⟩ := step i xs[i] σ S (List.getElem?_eq_getElem hl) hI
        obtain ⟨σ2, S2, e2, hI2⟩ := ih k (i + 1) σ1 S1 (by omega) (by omega) hI1
        refine ⟨σ2, S2, ?_, hI2⟩
        unfold forLoop
        simp only [Wk.at, List.getElem?_eq_getElem hl, RS.opt_some]
        rcases e with e | e <;> rw [e] <;> exact e2
  exact go xs.length FUEL 0 σ S (by omega) (by omega) h0
/-- over a list of the store that stays -/
theorem for_lst {f : D → Sg → Sto → RS} {b : Nat} {xs : List D} {σ : Sg} {S : Sto} (I : Nat → Sg → Sto → Prop) (h0 : I 0 σ S) (hq : ∀ i σ S, I i σ S → getQ S b = some xs) (hn : xs.length < FUEL)
    (step : ∀ i x σ S, xs[i]? = some x → I i σ S → ∃ σ' S', (f x σ S = .next σ' S' ∨ f x σ S = .cont σ' S') ∧ I (i + 1) σ' S') : ∃ σ' S', forLoop f (.lst b) FUEL 0 σ S = .next σ' S' ∧ I xs.length σ' S' := by
  have go : ∀ m k i σ S, i + m = xs.length → xs.length < i + k → I i σ S → ∃ σ' S', forLoop f (.lst b) k i σ S = .next σ' S' ∧ I xs.length σ' S' := by
    intro m
    induction m with
    | zero =>
      intro k i σ S hm hk hI
      cases k with
      | zero => omega
      | succ k =>
        have e : i = xs.length := by omega
        subst e
        refine ⟨σ, S, ?_, hI⟩
        unfold forLoop
        simp [Wk.at, hq _ _ _ hI]
    | succ m ih =>
      intro k i σ S hm hk hI
      cases k with
      | zero => omega
      | succ k =>
        have hl : i < xs.length := by omega
        obtain ⟨σ1, S1, e, hI1⟩ := step i xs[i] σ S (List.getElem?_eq_getElem hl) hI
        obtain ⟨σ2, S2, e2, hI2⟩ := ih k (i + 1) σ1 S1 (by omega) (by omega) hI1
        refine ⟨σ2, S2, ?_, hI2⟩
        unfold forLoop
        simp only [Wk.at, hq _ _ _ hI, Option.map_some, List.getElem?_eq_getElem hl, RS.opt_some]
        rcases e with e | e <;> rw [e] <;> exact e2
  exact go xs.length FUEL 0 σ S (by omega) (by omega) h0
/-- a comprehension over a range: each turn gives an element or none -/
theorem comp_rng {f : D → Sto → R (Option D)} {lo : Int} {n : Nat} {S : Sto} (I : Nat → List D → Sto → Prop) (h0 : I 0 [] S) (hn : n < FUEL)
    (step : ∀ i acc S, i < n → acc.length ≤ i → I i acc S → ∃ o S', f (.int (lo + i)) S = .ok o S' ∧ I (i + 1) (acc ++ o.toList) S') (hL : n ≤ LIM) : ∃ ys S', compLoop f (.rng lo n) FUEL 0 [] S = .ok ys S' ∧ ys.length ≤ n ∧ I n ys S' := by
  have go : ∀ m k i acc S, i + m = n → n < i + k → acc.length ≤ i → I i acc S → ∃ ys S', compLoop f (.rng lo n) k i acc S = .ok ys S' ∧ ys.length ≤ n ∧ I n ys S' := by
    intro m
    induction m with
    | zero =>
      intro k i acc S hm hk ha hI
      cases k with
      | zero => omega
      | succ k =>
        have e : i = n := by omega
        subst e
        refine ⟨acc, S, ?_, ha, hI⟩
        unfold compLoop
        simp [Wk.at]
    | succ m ih =>
      intro k i acc S hm hk ha hI
      cases k with
      | zero => omega
      | succ k =>
        obtain ⟨o, S1, e, hI1⟩ := step i acc S (by omega) ha hI
        obtain ⟨ys, S2, e2, hl2, hI2⟩ := ih k (i + 1) (acc ++ o.toList) S1 (by omega) (by omega) (by cases o <;> simp <;> omega) hI1
        refine ⟨ys, S2, ?_, hl2, hI2⟩
        unfold compLoop
        simp only [Wk.at, if_pos (show i < n by omega), R.opt_some, e]
        cases o with
        | none => simpa using e2
        | some y =>
          dsimp only
          rw [R.req_of (by omega)]
          exact e2
  exact go n FUEL 0 [] S (by omega) (by omega) (Nat.zero_le _) h0
end Cl
namespace Cl
/-- a loop by a test: each turn a smaller measure -/
theorem while_to {c : Sg → Sto → R Bool} {f : Sg → Sto → RS} {σ : Sg} {S : Sto} (I : Nat → Sg → Sto → Prop) (Q : Sg → Sto → Prop) {m : Nat} (h0 : I m σ S) (hm : m < FUEL)
    (step : ∀ m σ S, I m σ S → (∃ S', c σ S = .ok false S' ∧ Q σ S') ∨ ∃ S0 σ' S' m', c σ S = .ok true S0 ∧ (f σ S0 = .next σ' S' ∨ f σ S0 = .cont σ' S') ∧ m' < m ∧ I m' σ' S') : ∃ σ' S', whileLoop c f FUEL σ S = .next σ' S' ∧ Q σ' S' := by
  have go : ∀ k m σ S, m < k → I m σ S → ∃ σ' S', whileLoop c f k σ S = .next σ' S' ∧ Q σ' S' := by
    intro k
    induction k with
    | zero => intro m σ S h; omega
    | succ k ih =>
      intro m σ S hk hI
      rcases step m σ S hI with ⟨S', e, q⟩ | ⟨S0, σ', S', m', e, e2, hlt, hI'⟩
      · exact ⟨σ, S', by unfold whileLoop; rw [e]; rfl, q⟩
      · obtain ⟨σ2, S2, e3, q⟩ := ih m' σ' S' (by omega) hI'
        refine ⟨σ2, S2, ?_, q⟩
        unfold whileLoop
        rw [e, R.at_ok]
        rcases e2 with e2 | e2 <;> rw [e2] <;> exact e3
  exact go FUEL m σ S hm h0
end Cl

/-! part Py19 -/
/-! Cl: the bag of a cell: what the laws draw from. -/
namespace Cl
/-- the bag of a cell: two numbers and a count -/
def bagF (m1 c1 c2 m2 : Int) : Fn := ⟨2, 4, .cons (.set 2 (.ite (.cmp .lt (.var 1) (.blt .len (.cons (.var 0) .nil))) (.idx (.var 0) (.var 1)) (.int 0)))
  (.cons (.set 3 (.ite (.cmp .ge (.blt .abs (.cons (.var 2) .nil)) (.bin .pow (.int 10) (.int 18))) (.blt .abs (.cons (.var 2) .nil)) (.int 0)))
  (.cons (.ret (.lst (.cons (.var 3) (.cons (.bin .mod (.bin .pow (.bin .add (.bin .add (.bin .mod (.var 2) (.int m1)) (.bin .mul (.int c1) (.var 1))) (.int c2)) (.int 3)) (.int m2)) (.cons (.int 0) .nil))))) .nil))⟩
def takeF (c1 c2 c3 m1 d m2 : Int) : Fn := ⟨2, 3, .cons (.ifs (.cmp .gt (.idx (.var 0) (.int 0)) (.int 0)) (.cons (.set 2 (.bin .mod (.idx (.var 0) (.int 0)) (.var 1))) (.cons (.seti (.var 0) (.int 0) (.bin .fdiv (.idx (.var 0) (.int 0)) (.var 1))) (.cons (.ret (.var 2)) .nil))) .nil)
  (.cons (.seti (.var 0) (.int 2) (.bin .add (.idx (.var 0) (.int 2)) (.int 1)))
  (.cons (.seti (.var 0) (.int 1) (.bin .mod (.bin .add (.bin .add (.bin .mul (.idx (.var 0) (.int 1)) (.int c1)) (.bin .mul (.bin .mul (.int c2) (.idx (.var 0) (.int 2))) (.idx (.var 0) (.int 2)))) (.int c3)) (.int m1)))
  (.cons (.ret (.bin .mod (.bin .mod (.bin .pow (.bin .fdiv (.idx (.var 0) (.int 1)) (.int d)) (.int 3)) (.int m2)) (.var 1))) .nil)))⟩
def pickF (t : Nat) : Fn := ⟨2, 2, .cons (.ret (.idx (.var 1) (.call t (.cons (.var 0) (.cons (.blt .len (.cons (.var 1) .nil)) .nil))))) .nil⟩
def Bag (S : Sto) (b k : Nat) : Prop := ∃ d s c : Int, S[b]? = some (.lst [.int d, .int s, .int c]) ∧ 0 ≤ d ∧ 0 ≤ s ∧ s < 2 ^ 62 ∧ 0 ≤ c ∧ c ≤ k
theorem Bag.lt {S : Sto} {b k : Nat} (h : Bag S b k) : b < S.length := by
  obtain ⟨d, s, c, e, _⟩ := h
  exact (List.getElem?_eq_some_iff.mp e).1
theorem Bag.keep {S S' : Sto} {b k : Nat} {l : List Nat} (h : Bag S b k) (kp : Kp S S' l) (hb : b ∉ l) : Bag S' b k := by
  obtain ⟨d, s, c, e, r⟩ := h
  exact ⟨d, s, c, kp.get e hb, r⟩
theorem Bag.mono {S : Sto} {b k j : Nat} (h : Bag S b k) (hj : k ≤ j) : Bag S b j := by
  obtain ⟨d, s, c, e, h1, h2, h3, h4, h5⟩ := h
  exact ⟨d, s, c, e, h1, h2, h3, h4, by omega⟩
section
variable {P : Nat → Option Fn} {glo : Nat → Option D}
theorem at3_0 (a b c : D) : atI [a, b, c] 0 = some a := rfl
theorem at3_1 (a b c : D) : atI [a, b, c] 1 = some b := rfl
theorem at3_2 (a b c : D) : atI [a, b, c] 2 = some c := rfl
theorem ix3_0 : L2.ixN 3 0 = some 0 := rfl
theorem ix3_1 : L2.ixN 3 1 = some 1 := rfl
theorem ix3_2 : L2.ixN 3 2 = some 2 := rfl
theorem mul_abs (a b : Nat) (x : Int) (h : x.natAbs = a) (hb : a < b) : x.natAbs < b := by omega
theorem bag_run {f n : Nat} {m1 c1 c2 m2 : Int} (hf : P f = some (bagF m1 c1 c2 m2)) (hm1 : 0 < m1 ∧ m1 < 2 ^ 62) (hc1 : 0 ≤ c1 ∧ c1 < 2 ^ 40) (hc2 : 0 ≤ c2 ∧ c2 < 2 ^ 62) (hm2 : 0 < m2 ∧ m2 < 2 ^ 62) {S : Sto} {ns : List Int} (h0 : S[0]? = some (.scr ns)) {i : Int} (hi : 0 ≤ i ∧ i < 2 ^ 20) :
    ∃ xs, run P glo (n + 1) f [.ref 0, .int i] S = .ok (.ref S.length) (S ++ [.lst xs]) ∧ Bag (S ++ [.lst xs]) S.length 0 := by
  have q := getQ_scr h0
  -- the cell
  have cell : ∃ x : Int, ifR (decide (i < ((ns.map D.int).length : Int))) (R.opt (atI (ns.map D.int) i) fun d => .ok d S) (.ok (.int 0) S) = .ok (.int x) S := by
    by_cases hl : i < ((ns.map D.int).length : Int)
    · obtain ⟨x, e1, e2⟩ := atI_of hi.1 hl
      rw [List.getElem?_map] at e2
      obtain ⟨y, _, rfl⟩ := Option.map_eq_some_iff.mp e2
      refine ⟨y, ?_⟩
      rw [decide_eq_true hl, ifR_t, e1, R.opt_some]
    · exact ⟨0, by rw [decide_eq_false hl, ifR_f]⟩
  obtain ⟨x, hx⟩ := cell
  have hp : (10 : Int) ^ (18 : Int).toNat = 1000000000000000000 := by decide +kernel
  have hmul : (c1 * i).natAbs < 2 ^ 62 := by
    have h1 : 0 ≤ c1 * i := Int.mul_nonneg hc1.1 hi.1
    have h2 : c1 * i ≤ 2 ^ 40 * 2 ^ 20 := Int.mul_le_mul (by omega) (by omega) hi.1 (by decide)
    have h3 : (2 : Int) ^ 40 * 2 ^ 20 = 2 ^ 60 := by decide
    omega
  have hmn : 0 ≤ c1 * i := Int.mul_nonneg hc1.1 hi.1
  generalize hy : c1 * i = y at hmul hmn
  have hxm : 0 ≤ x % m1 ∧ x % m1 < m1 := ⟨Int.emod_nonneg _ (by omega), Int.emod_lt_of_pos _ hm1.1⟩
  have hz : (x % m1 + y + c2).natAbs < 2 ^ 64 := by omega
  generalize hw : x % m1 + y + c2 = z at hz
  have ht : (3 : Int).toNat = 3 := rfl
  have hs : 0 ≤ z ^ 3 % m2 ∧ z ^ 3 % m2 < m2 := ⟨Int.emod_nonneg _ (by omega), Int.emod_lt_of_pos _ hm2.1⟩
  have fin : ∀ d : Int, 0 ≤ d → ∃ xs, (R.ok (D.ref S.length) (S ++ [Ob.lst [.int d, .int (z ^ 3 % m2), .int 0]]) : R D) = .ok (.ref S.length) (S ++ [.lst xs]) ∧ Bag (S ++ [.lst xs]) S.length 0 := fun d hd =>
    ⟨_, rfl, d, z ^ 3 % m2, 0, by simp, hd, hs.1, by omega, by omega, by omega⟩
  have habs : 0 ≤ (if x < 0 then -x else x) := by split <;> omega
  have hLIM : (3 : Nat) ≤ LIM := by decide
  have r1 : (c1.natAbs < 2 ^ 64 ∨ i.natAbs < 2 ^ 64) = True := eq_true (by omega)
  have r2 : (0 < m1) = True := eq_true hm1.1
  have r3 : (0 < m2) = True := eq_true hm2.1
  have r4 : ((0 : Int) ≤ 3 ∧ (3 : Int) ≤ 1000000 ∧ z.natAbs < 2 ^ 64) = True := eq_true (by omega)
  have r5 : ((0 : Int) ≤ 18 ∧ (18 : Int) ≤ 1000000 ∧ (10 : Int).natAbs < 2 ^ 64) = True := eq_true (by decide)
  have r6 : (3 ≤ LIM) = True := eq_true (by decide)
  rw [run_ok hf rfl]
  simp only [bagF, x_non, x_bl, x_int, x_str, x_var, x_glo, x_bin, x_neg, x_not, x_bop, x_bop1, x_and, x_or, x_ite, x_cmp, x_chain, x_tup, x_lst, x_idx, x_slc, x_call, x_callk, x_blt, x_isi, x_mth, x_nil, x_cons, x_o0, x_o1, x_c0, x_c1, x_comp, x_val, x_rng, s_set, s_sets, s_par, s_aug, s_seti, s_expr, s_ret, s_retn, s_if, s_forF, s_whl, s_pass, s_brk, s_cont, s_nil, s_one, s_cons, o_add, o_sub, o_mul, o_fdiv, o_mod, o_pow, o_cat, o_catT, o_catL, o_mulT, a_add, a_sub, a_cat, a_catL, c_lt, c_le, c_gt, c_ge, c_eqI, c_neI, c_eqS, c_neS, c_in, c_nin, c_isN, c_isnN, t_bl, t_int, t_str, t_tup, t_non, t_ref, i_str, i_tup, i_ref, l_str, l_tup, l_ref, b_lenS, b_lenT, b_lenR, b_abs, b_max, b_min, b_int, b_intB, b_repr, b_listT, b_listR, b_tupT, b_tupR, w_tup, w_str, w_ref, g_one, m_app, m_pop, rs_strip, rs_lower, rs_upper, rs_split, rs_partition, rs_join, rs_find, rs_count, f_int, retR_n, retR_r, retR_x, slotR_ok, negD_i, intO_i, rngR_1, rngR_2, parS_2, parS_3, ifR_t, ifR_f, ifS_t, ifS_f, R.bind_ok, R.bind_exc, R.at_ok, R.at_exc, R.opt_some, RS.opt_some, R.req_true, RS.seq_next, RS.seq_ret, RS.seq_brk, RS.seq_cont, RS.seq_exc, List.getElem?_cons_zero, List.getElem?_cons_succ, List.set_cons_zero, List.set_cons_succ, List.map_cons, List.map_nil, List.cons_append, List.nil_append, List.replicate, List.length_cons, List.length_nil, Option.map_some, Option.bind_some, Nat.reduceAdd, Nat.reduceSub, Nat.zero_add, eq_self, q]
  simp only [hx, x_non, x_bl, x_int, x_str, x_var, x_glo, x_bin, x_neg, x_not, x_bop, x_bop1, x_and, x_or, x_ite, x_cmp, x_chain, x_tup, x_lst, x_idx, x_slc, x_call, x_callk, x_blt, x_isi, x_mth, x_nil, x_cons, x_o0, x_o1, x_c0, x_c1, x_comp, x_val, x_rng, s_set, s_sets, s_par, s_aug, s_seti, s_expr, s_ret, s_retn, s_if, s_forF, s_whl, s_pass, s_brk, s_cont, s_nil, s_one, s_cons, o_add, o_sub, o_mul, o_fdiv, o_mod, o_pow, o_cat, o_catT, o_catL, o_mulT, a_add, a_sub, a_cat, a_catL, c_lt, c_le, c_gt, c_ge, c_eqI, c_neI, c_eqS, c_neS, c_in, c_nin, c_isN, c_isnN, t_bl, t_int, t_str, t_tup, t_non, t_ref, i_str, i_tup, i_ref, l_str, l_tup, l_ref, b_lenS, b_lenT, b_lenR, b_abs, b_max, b_min, b_int, b_intB, b_repr, b_listT, b_listR, b_tupT, b_tupR, w_tup, w_str, w_ref, g_one, m_app, m_pop, rs_strip, rs_lower, rs_upper, rs_split, rs_partition, rs_join, rs_find, rs_count, f_int, retR_n, retR_r, retR_x, slotR_ok, negD_i, intO_i, rngR_1, rngR_2, parS_2, parS_3, ifR_t, ifR_f, ifS_t, ifS_f, R.bind_ok, R.bind_exc, R.at_ok, R.at_exc, R.opt_some, RS.opt_some, R.req_true, RS.seq_next, RS.seq_ret, RS.seq_brk, RS.seq_cont, RS.seq_exc, List.getElem?_cons_zero, List.getElem?_cons_succ, List.set_cons_zero, List.set_cons_succ, List.map_cons, List.map_nil, List.cons_append, List.nil_append, List.replicate, List.length_cons, List.length_nil, Option.map_some, Option.bind_some, Nat.reduceAdd, Nat.reduceSub, Nat.zero_add, eq_self, r5, hp]
  by_cases hb : (1000000000000000000 : Int) ≤ (if x < 0 then -x else x)
  · simp only [hb, decide_true, x_non, x_bl, x_int, x_str, x_var, x_glo, x_bin, x_neg, x_not, x_bop, x_bop1, x_and, x_or, x_ite, x_cmp, x_chain, x_tup, x_lst, x_idx, x_slc, x_call, x_callk, x_blt, x_isi, x_mth, x_nil, x_cons, x_o0, x_o1, x_c0, x_c1, x_comp, x_val, x_rng, s_set, s_sets, s_par, s_aug, s_seti, s_expr, s_ret, s_retn, s_if, s_forF, s_whl, s_pass, s_brk, s_cont, s_nil, s_one, s_cons, o_add, o_sub, o_mul, o_fdiv, o_mod, o_pow, o_cat, o_catT, o_catL, o_mulT, a_add, a_sub, a_cat, a_catL, c_lt, c_le, c_gt, c_ge, c_eqI, c_neI, c_eqS, c_neS, c_in, c_nin, c_isN, c_isnN, t_bl, t_int, t_str, t_tup, t_non, t_ref, i_str, i_tup, i_ref, l_str, l_tup, l_ref, b_lenS, b_lenT, b_lenR, b_abs, b_max, b_min, b_int, b_intB, b_repr, b_listT, b_listR, b_tupT, b_tupR, w_tup, w_str, w_ref, g_one, m_app, m_pop, rs_strip, rs_lower, rs_upper, rs_split, rs_partition, rs_join, rs_find, rs_count, f_int, retR_n, retR_r, retR_x, slotR_ok, negD_i, intO_i, rngR_1, rngR_2, parS_2, parS_3, ifR_t, ifR_f, ifS_t, ifS_f, R.bind_ok, R.bind_exc, R.at_ok, R.at_exc, R.opt_some, RS.opt_some, R.req_true, RS.seq_next, RS.seq_ret, RS.seq_brk, RS.seq_cont, RS.seq_exc, List.getElem?_cons_zero, List.getElem?_cons_succ, List.set_cons_zero, List.set_cons_succ, List.map_cons, List.map_nil, List.cons_append, List.nil_append, List.replicate, List.length_cons, List.length_nil, Option.map_some, Option.bind_some, Nat.reduceAdd, Nat.reduceSub, Nat.zero_add, eq_self, r1, r2, r3, hy, hw, r4, ht, r6]
    exact fin _ habs
  · simp only [hb, decide_false, x_non, x_bl, x_int, x_str, x_var, x_glo, x_bin, x_neg, x_not, x_bop, x_bop1, x_and, x_or, x_ite, x_cmp, x_chain, x_tup, x_lst, x_idx, x_slc, x_call, x_callk, x_blt, x_isi, x_mth, x_nil, x_cons, x_o0, x_o1, x_c0, x_c1, x_comp, x_val, x_rng, s_set, s_sets, s_par, s_aug, s_seti, s_expr, s_ret, s_retn, s_if, s_forF, s_whl, s_pass, s_brk, s_cont, s_nil, s_one, s_cons, o_add, o_sub, o_mul, o_fdiv, o_mod, o_pow, o_cat, o_catT, o_catL, o_mulT, a_add, a_sub, a_cat, a_catL, c_lt, c_le, c_gt, c_ge, c_eqI, c_neI, c_eqS, c_neS, c_in, c_nin, c_isN, c_isnN, t_bl, t_int, t_str, t_tup, t_non, t_ref, i_str, i_tup, i_ref, l_str, l_tup, l_ref, b_lenS, b_lenT, b_lenR, b_abs, b_max, b_min, b_int, b_intB, b_repr, b_listT, b_listR, b_tupT, b_tupR, w_tup, w_str, w_ref, g_one, m_app, m_pop, rs_strip, rs_lower, rs_upper, rs_split, rs_partition, rs_join, rs_find, rs_count, f_int, retR_n, retR_r, retR_x, slotR_ok, negD_i, intO_i, rngR_1, rngR_2, parS_2, parS_3, ifR_t, ifR_f, ifS_t, ifS_f, R.bind_ok, R.bind_exc, R.at_ok, R.at_exc, R.opt_some, RS.opt_some, R.req_true, RS.seq_next, RS.seq_ret, RS.seq_brk, RS.seq_cont, RS.seq_exc, List.getElem?_cons_zero, List.getElem?_cons_succ, List.set_cons_zero, List.set_cons_succ, List.map_cons, List.map_nil, List.cons_append, List.nil_append, List.replicate, List.length_cons, List.length_nil, Option.map_some, Option.bind_some, Nat.reduceAdd, Nat.reduceSub, Nat.zero_add, eq_self, r1, r2, r3, hy, hw, r4, ht, r6]
    exact fin 0 (Int.le_refl 0)
theorem take_run {f n : Nat} {c1 c2 c3 m1 d m2 : Int} (hf : P f = some (takeF c1 c2 c3 m1 d m2)) (hc1 : 0 ≤ c1 ∧ c1 < 2 ^ 62) (hc2 : 0 ≤ c2 ∧ c2 < 2 ^ 62) (hc3 : 0 ≤ c3) (hm1 : 0 < m1 ∧ m1 < 2 ^ 62) (hd : 0 < d ∧ d < 1073741824) (hm2 : 0 < m2) {S : Sto} {b k : Nat} (hb : Bag S b k) (hk : k < 2 ^ 60)
    {m : Int} (hm : 0 < m ∧ m < 1073741824) : ∃ (r : Int) (xs : List D), run P glo (n + 1) f [.ref b, .int m] S = .ok (.int r) (S.set b (.lst xs)) ∧ 0 ≤ r ∧ r < m ∧ Bag (S.set b (.lst xs)) b (k + 1) := by
  have hlt := hb.lt
  obtain ⟨x, s, c, e, hx, hs, hs2, hc, hck⟩ := hb
  have q := getQ_of e
  have l := getL_of e
  have r1 : (0 < m) = True := eq_true hm.1
  have r2 : (0 < m ∧ m < 1073741824) = True := eq_true hm
  rw [run_ok hf rfl]
  simp only [takeF, x_non, x_bl, x_int, x_str, x_var, x_glo, x_bin, x_neg, x_not, x_bop, x_bop1, x_and, x_or, x_ite, x_cmp, x_chain, x_tup, x_lst, x_idx, x_slc, x_call, x_callk, x_blt, x_isi, x_mth, x_nil, x_cons, x_o0, x_o1, x_c0, x_c1, x_comp, x_val, x_rng, s_set, s_sets, s_par, s_aug, s_seti, s_expr, s_ret, s_retn, s_if, s_forF, s_whl, s_pass, s_brk, s_cont, s_nil, s_one, s_cons, o_add, o_sub, o_mul, o_fdiv, o_mod, o_pow, o_cat, o_catT, o_catL, o_mulT, a_add, a_sub, a_cat, a_catL, c_lt, c_le, c_gt, c_ge, c_eqI, c_neI, c_eqS, c_neS, c_in, c_nin, c_isN, c_isnN, t_bl, t_int, t_str, t_tup, t_non, t_ref, i_str, i_tup, i_ref, l_str, l_tup, l_ref, b_lenS, b_lenT, b_lenR, b_abs, b_max, b_min, b_int, b_intB, b_repr, b_listT, b_listR, b_tupT, b_tupR, w_tup, w_str, w_ref, g_one, m_app, m_pop, rs_strip, rs_lower, rs_upper, rs_split, rs_partition, rs_join, rs_find, rs_count, f_int, retR_n, retR_r, retR_x, slotR_ok, negD_i, intO_i, rngR_1, rngR_2, parS_2, parS_3, ifR_t, ifR_f, ifS_t, ifS_f, R.bind_ok, R.bind_exc, R.at_ok, R.at_exc, R.opt_some, RS.opt_some, R.req_true, RS.seq_next, RS.seq_ret, RS.seq_brk, RS.seq_cont, RS.seq_exc, List.getElem?_cons_zero, List.getElem?_cons_succ, List.set_cons_zero, List.set_cons_succ, List.map_cons, List.map_nil, List.cons_append, List.nil_append, List.replicate, List.length_cons, List.length_nil, Option.map_some, Option.bind_some, Nat.reduceAdd, Nat.reduceSub, Nat.zero_add, eq_self, q, at3_0]
  by_cases h0 : 0 < x
  · simp only [h0, decide_true, x_non, x_bl, x_int, x_str, x_var, x_glo, x_bin, x_neg, x_not, x_bop, x_bop1, x_and, x_or, x_ite, x_cmp, x_chain, x_tup, x_lst, x_idx, x_slc, x_call, x_callk, x_blt, x_isi, x_mth, x_nil, x_cons, x_o0, x_o1, x_c0, x_c1, x_comp, x_val, x_rng, s_set, s_sets, s_par, s_aug, s_seti, s_expr, s_ret, s_retn, s_if, s_forF, s_whl, s_pass, s_brk, s_cont, s_nil, s_one, s_cons, o_add, o_sub, o_mul, o_fdiv, o_mod, o_pow, o_cat, o_catT, o_catL, o_mulT, a_add, a_sub, a_cat, a_catL, c_lt, c_le, c_gt, c_ge, c_eqI, c_neI, c_eqS, c_neS, c_in, c_nin, c_isN, c_isnN, t_bl, t_int, t_str, t_tup, t_non, t_ref, i_str, i_tup, i_ref, l_str, l_tup, l_ref, b_lenS, b_lenT, b_lenR, b_abs, b_max, b_min, b_int, b_intB, b_repr, b_listT, b_listR, b_tupT, b_tupR, w_tup, w_str, w_ref, g_one, m_app, m_pop, rs_strip, rs_lower, rs_upper, rs_split, rs_partition, rs_join, rs_find, rs_count, f_int, retR_n, retR_r, retR_x, slotR_ok, negD_i, intO_i, rngR_1, rngR_2, parS_2, parS_3, ifR_t, ifR_f, ifS_t, ifS_f, R.bind_ok, R.bind_exc, R.at_ok, R.at_exc, R.opt_some, RS.opt_some, R.req_true, RS.seq_next, RS.seq_ret, RS.seq_brk, RS.seq_cont, RS.seq_exc, List.getElem?_cons_zero, List.getElem?_cons_succ, List.set_cons_zero, List.set_cons_succ, List.map_cons, List.map_nil, List.cons_append, List.nil_append, List.replicate, List.length_cons, List.length_nil, Option.map_some, Option.bind_some, Nat.reduceAdd, Nat.reduceSub, Nat.zero_add, eq_self, q, l, hm.1, hm.2, and_self, at3_0, ix3_0]
    refine ⟨x % m, _, rfl, Int.emod_nonneg _ (by omega), Int.emod_lt_of_pos _ hm.1, x / m, s, c, ?_, Int.ediv_nonneg hx (by omega), hs, hs2, hc, by omega⟩
    rw [List.getElem?_set_self hlt]
  · have e1 : (S.set b (.lst [.int x, .int s, .int (c + 1)]))[b]? = some (.lst [.int x, .int s, .int (c + 1)]) := List.getElem?_set_self hlt
    have q1 := getQ_of e1
    have l1 := getL_of e1
    have r3 : (s.natAbs < 2 ^ 64 ∨ c1.natAbs < 2 ^ 64) = True := eq_true (by omega)
    have r4 : (c2.natAbs < 2 ^ 64 ∨ (c + 1).natAbs < 2 ^ 64) = True := eq_true (by omega)
    have r5 : ((c2 * (c + 1)).natAbs < 2 ^ 64 ∨ (c + 1).natAbs < 2 ^ 64) = True := eq_true (by omega)
    have r6 : (0 < m1) = True := eq_true hm1.1
    generalize hw : (s * c1 + c2 * (c + 1) * (c + 1) + c3) % m1 = w
    have hw1 : 0 ≤ w ∧ w < m1 := by rw [← hw]; exact ⟨Int.emod_nonneg _ (by omega), Int.emod_lt_of_pos _ hm1.1⟩
    have e2 : ((S.set b (.lst [.int x, .int s, .int (c + 1)])).set b (.lst [.int x, .int w, .int (c + 1)]))[b]? = some (.lst [.int x, .int w, .int (c + 1)]) := List.getElem?_set_self (by simpa using hlt)
    have q2 := getQ_of e2
    have hdv : 0 ≤ w / d ∧ w / d < 2 ^ 62 := ⟨Int.ediv_nonneg hw1.1 (by omega), by
      have := Int.ediv_le_self d hw1.1
      omega⟩
    have r8 : ((0 : Int) ≤ 3 ∧ (3 : Int) ≤ 1000000 ∧ (w / d).natAbs < 2 ^ 64) = True := eq_true (by omega)
    have r9 : (0 < m2) = True := eq_true hm2
    have ht : (3 : Int).toNat = 3 := rfl
    simp only [h0, decide_false, x_non, x_bl, x_int, x_str, x_var, x_glo, x_bin, x_neg, x_not, x_bop, x_bop1, x_and, x_or, x_ite, x_cmp, x_chain, x_tup, x_lst, x_idx, x_slc, x_call, x_callk, x_blt, x_isi, x_mth, x_nil, x_cons, x_o0, x_o1, x_c0, x_c1, x_comp, x_val, x_rng, s_set, s_sets, s_par, s_aug, s_seti, s_expr, s_ret, s_retn, s_if, s_forF, s_whl, s_pass, s_brk, s_cont, s_nil, s_one, s_cons, o_add, o_sub, o_mul, o_fdiv, o_mod, o_pow, o_cat, o_catT, o_catL, o_mulT, a_add, a_sub, a_cat, a_catL, c_lt, c_le, c_gt, c_ge, c_eqI, c_neI, c_eqS, c_neS, c_in, c_nin, c_isN, c_isnN, t_bl, t_int, t_str, t_tup, t_non, t_ref, i_str, i_tup, i_ref, l_str, l_tup, l_ref, b_lenS, b_lenT, b_lenR, b_abs, b_max, b_min, b_int, b_intB, b_repr, b_listT, b_listR, b_tupT, b_tupR, w_tup, w_str, w_ref, g_one, m_app, m_pop, rs_strip, rs_lower, rs_upper, rs_split, rs_partition, rs_join, rs_find, rs_count, f_int, retR_n, retR_r, retR_x, slotR_ok, negD_i, intO_i, rngR_1, rngR_2, parS_2, parS_3, ifR_t, ifR_f, ifS_t, ifS_f, R.bind_ok, R.bind_exc, R.at_ok, R.at_exc, R.opt_some, RS.opt_some, R.req_true, RS.seq_next, RS.seq_ret, RS.seq_brk, RS.seq_cont, RS.seq_exc, List.getElem?_cons_zero, List.getElem?_cons_succ, List.set_cons_zero, List.set_cons_succ, List.map_cons, List.map_nil, List.cons_append, List.nil_append, List.replicate, List.length_cons, List.length_nil, Option.map_some, Option.bind_some, Nat.reduceAdd, Nat.reduceSub, Nat.zero_add, eq_self, q, l, at3_2, ix3_2]
    simp only [x_non, x_bl, x_int, x_str, x_var, x_glo, x_bin, x_neg, x_not, x_bop, x_bop1, x_and, x_or, x_ite, x_cmp, x_chain, x_tup, x_lst, x_idx, x_slc, x_call, x_callk, x_blt, x_isi, x_mth, x_nil, x_cons, x_o0, x_o1, x_c0, x_c1, x_comp, x_val, x_rng, s_set, s_sets, s_par, s_aug, s_seti, s_expr, s_ret, s_retn, s_if, s_forF, s_whl, s_pass, s_brk, s_cont, s_nil, s_one, s_cons, o_add, o_sub, o_mul, o_fdiv, o_mod, o_pow, o_cat, o_catT, o_catL, o_mulT, a_add, a_sub, a_cat, a_catL, c_lt, c_le, c_gt, c_ge, c_eqI, c_neI, c_eqS, c_neS, c_in, c_nin, c_isN, c_isnN, t_bl, t_int, t_str, t_tup, t_non, t_ref, i_str, i_tup, i_ref, l_str, l_tup, l_ref, b_lenS, b_lenT, b_lenR, b_abs, b_max, b_min, b_int, b_intB, b_repr, b_listT, b_listR, b_tupT, b_tupR, w_tup, w_str, w_ref, g_one, m_app, m_pop, rs_strip, rs_lower, rs_upper, rs_split, rs_partition, rs_join, rs_find, rs_count, f_int, retR_n, retR_r, retR_x, slotR_ok, negD_i, intO_i, rngR_1, rngR_2, parS_2, parS_3, ifR_t, ifR_f, ifS_t, ifS_f, R.bind_ok, R.bind_exc, R.at_ok, R.at_exc, R.opt_some, RS.opt_some, R.req_true, RS.seq_next, RS.seq_ret, RS.seq_brk, RS.seq_cont, RS.seq_exc, List.getElem?_cons_zero, List.getElem?_cons_succ, List.set_cons_zero, List.set_cons_succ, List.map_cons, List.map_nil, List.cons_append, List.nil_append, List.replicate, List.length_cons, List.length_nil, Option.map_some, Option.bind_some, Nat.reduceAdd, Nat.reduceSub, Nat.zero_add, eq_self, q1, l1, at3_1, at3_2, ix3_1, r3, r4, r5, r6, hw]
    simp only [x_non, x_bl, x_int, x_str, x_var, x_glo, x_bin, x_neg, x_not, x_bop, x_bop1, x_and, x_or, x_ite, x_cmp, x_chain, x_tup, x_lst, x_idx, x_slc, x_call, x_callk, x_blt, x_isi, x_mth, x_nil, x_cons, x_o0, x_o1, x_c0, x_c1, x_comp, x_val, x_rng, s_set, s_sets, s_par, s_aug, s_seti, s_expr, s_ret, s_retn, s_if, s_forF, s_whl, s_pass, s_brk, s_cont, s_nil, s_one, s_cons, o_add, o_sub, o_mul, o_fdiv, o_mod, o_pow, o_cat, o_catT, o_catL, o_mulT, a_add, a_sub, a_cat, a_catL, c_lt, c_le, c_gt, c_ge, c_eqI, c_neI, c_eqS, c_neS, c_in, c_nin, c_isN, c_isnN, t_bl, t_int, t_str, t_tup, t_non, t_ref, i_str, i_tup, i_ref, l_str, l_tup, l_ref, b_lenS, b_lenT, b_lenR, b_abs, b_max, b_min, b_int, b_intB, b_repr, b_listT, b_listR, b_tupT, b_tupR, w_tup, w_str, w_ref, g_one, m_app, m_pop, rs_strip, rs_lower, rs_upper, rs_split, rs_partition, rs_join, rs_find, rs_count, f_int, retR_n, retR_r, retR_x, slotR_ok, negD_i, intO_i, rngR_1, rngR_2, parS_2, parS_3, ifR_t, ifR_f, ifS_t, ifS_f, R.bind_ok, R.bind_exc, R.at_ok, R.at_exc, R.opt_some, RS.opt_some, R.req_true, RS.seq_next, RS.seq_ret, RS.seq_brk, RS.seq_cont, RS.seq_exc, List.getElem?_cons_zero, List.getElem?_cons_succ, List.set_cons_zero, List.set_cons_succ, List.map_cons, List.map_nil, List.cons_append, List.nil_append, List.replicate, List.length_cons, List.length_nil, Option.map_some, Option.bind_some, Nat.reduceAdd, Nat.reduceSub, Nat.zero_add, eq_self, q2, at3_1, hd.1, hd.2, and_self, r8, hm2, hm.1, ht]
    refine ⟨(w / d) ^ 3 % m2 % m, [.int x, .int w, .int (c + 1)], ?_, Int.emod_nonneg _ (by omega), Int.emod_lt_of_pos _ hm.1, x, w, c + 1, ?_, hx, hw1.1, by omega, by omega, by omega⟩
    · rw [List.set_set]
    · rw [List.getElem?_set_self hlt]
theorem pick_run {f t n : Nat} (hf : P f = some (pickF t)) {c1 c2 c3 m1 d m2 : Int} (ht : P t = some (takeF c1 c2 c3 m1 d m2)) (hc1 : 0 ≤ c1 ∧ c1 < 2 ^ 62) (hc2 : 0 ≤ c2 ∧ c2 < 2 ^ 62) (hc3 : 0 ≤ c3) (hm1 : 0 < m1 ∧ m1 < 2 ^ 62) (hd : 0 < d ∧ d < 1073741824) (hm2 : 0 < m2) {S : Sto} {b k g : Nat} (hb : Bag S b k) (hk : k < 2 ^ 60)
    {ys : List D} (hg : getQ S g = some ys) (hne : ys ≠ []) (hl : ys.length < 1073741824) (hbg : b ≠ g) : ∃ (y : D) (xs : List D), run P glo (n + 2) f [.ref b, .ref g] S = .ok y (S.set b (.lst xs)) ∧ y ∈ ys ∧ Bag (S.set b (.lst xs)) b (k + 1) := by
  have hpos : 0 < ys.length := List.length_pos_iff.mpr hne
  obtain ⟨r, xs, e, r0, r1, hB⟩ := take_run (glo := glo) (n := n) ht hc1 hc2 hc3 hm1 hd hm2 hb hk (m := (ys.length : Int)) (by omega)
  have hg2 : getQ (S.set b (.lst xs)) g = some ys := by
    unfold getQ at hg ⊢
    rw [List.getElem?_set_ne hbg]
    exact hg
  obtain ⟨y, a1, a2⟩ := atI_of (xs := ys) r0 r1
  refine ⟨y, xs, ?_, List.mem_of_getElem? a2, hB⟩
  rw [run_ok hf rfl]
  simp only [pickF, x_non, x_bl, x_int, x_str, x_var, x_glo, x_bin, x_neg, x_not, x_bop, x_bop1, x_and, x_or, x_ite, x_cmp, x_chain, x_tup, x_lst, x_idx, x_slc, x_call, x_callk, x_blt, x_isi, x_mth, x_nil, x_cons, x_o0, x_o1, x_c0, x_c1, x_comp, x_val, x_rng, s_set, s_sets, s_par, s_aug, s_seti, s_expr, s_ret, s_retn, s_if, s_forF, s_whl, s_pass, s_brk, s_cont, s_nil, s_one, s_cons, o_add, o_sub, o_mul, o_fdiv, o_mod, o_pow, o_cat, o_catT, o_catL, o_mulT, a_add, a_sub, a_cat, a_catL, c_lt, c_le, c_gt, c_ge, c_eqI, c_neI, c_eqS, c_neS, c_in, c_nin, c_isN, c_isnN, t_bl, t_int, t_str, t_tup, t_non, t_ref, i_str, i_tup, i_ref, l_str, l_tup, l_ref, b_lenS, b_lenT, b_lenR, b_abs, b_max, b_min, b_int, b_intB, b_repr, b_listT, b_listR, b_tupT, b_tupR, w_tup, w_str, w_ref, g_one, m_app, m_pop, rs_strip, rs_lower, rs_upper, rs_split, rs_partition, rs_join, rs_find, rs_count, f_int, retR_n, retR_r, retR_x, slotR_ok, negD_i, intO_i, rngR_1, rngR_2, parS_2, parS_3, ifR_t, ifR_f, ifS_t, ifS_f, R.bind_ok, R.bind_exc, R.at_ok, R.at_exc, R.opt_some, RS.opt_some, R.req_true, RS.seq_next, RS.seq_ret, RS.seq_brk, RS.seq_cont, RS.seq_exc, List.getElem?_cons_zero, List.getElem?_cons_succ, List.set_cons_zero, List.set_cons_succ, List.map_cons, List.map_nil, List.cons_append, List.nil_append, List.replicate, List.length_cons, List.length_nil, Option.map_some, Option.bind_some, Nat.reduceAdd, Nat.reduceSub, Nat.zero_add, eq_self, hg, e, hg2, a1]
end
end Cl

/-! part Py20 -/
/-! Cl: values without references: what is read, how long it is shown, that it equals itself. -/
namespace Cl
open PySem (PyData)
/-- no reference within, at most so deep, small numbers -/
def pu : Nat → D → Bool
  | _, .non => true
  | _, .bl _ => true
  | _, .int i => decide (i.natAbs < 1000000000000)
  | _, .str s => s.all fun c => decide (c < 4294967296)
  | n + 1, .tup xs => xs.all (pu n)
  | _, _ => false
def toP : Nat → D → PyData
  | _, .non => .none
  | _, .bl b => .bool b
  | _, .int i => .int i
  | _, .str s => .str (SX.S s)
  | n + 1, .tup xs => .tuple (xs.map (toP n))
  | _, _ => .none
/-- its size -/
def wt : Nat → D → Nat
  | _, .str s => s.length
  | n + 1, .tup xs => (xs.map fun x => wt n x + 1).sum
  | _, _ => 0
def wts (n : Nat) (xs : List D) : Nat := (xs.map fun x => wt n x + 1).sum
theorem wts_nil (n : Nat) : wts n [] = 0 := rfl
theorem wts_cons (n : Nat) (x : D) (xs : List D) : wts n (x :: xs) = wt n x + 1 + wts n xs := rfl
theorem wts_app (n : Nat) (xs ys : List D) : wts n (xs ++ ys) = wts n xs + wts n ys := by unfold wts; rw [List.map_append, List.sum_append]
theorem wts_len (n : Nat) (xs : List D) : xs.length ≤ wts n xs := by
  induction xs with
  | nil => exact Nat.zero_le _
  | cons x xs ih => rw [wts_cons, List.length_cons]; omega
theorem wt_tup (n : Nat) (xs : List D) : wt (n + 1) (.tup xs) = wts n xs := rfl
theorem pu_tup (n : Nat) (xs : List D) : pu (n + 1) (.tup xs) = xs.all (pu n) := rfl
/-- what is known of one -/
structure PuOk (n : Nat) (d : D) : Prop where
  rd : ∀ S m, n ≤ m → Cl.rd S m d = some (toP n d)
  show_ : (toP n d).showable = true
  plain : (toP n d).plain = true
  short : (toP n d).leavesShort 13 = true
  bulk : (toP n d).bulk = wt n d
theorem log2_small {i : Int} (h : i.natAbs < 1000000000000) : i.natAbs.log2 < 1920 := by
  by_cases h0 : i.natAbs = 0
  · rw [h0]; decide
  · refine (Nat.log2_lt h0).mpr (Nat.lt_trans h ?_)
    decide +kernel
mutual
theorem pu_ok : ∀ (n : Nat) (d : D), pu n d = true → PuOk n d
  | 0, d, h => by
    cases d with
    | non => exact ⟨fun S m _ => by cases m <;> rfl, rfl, rfl, rfl, rfl⟩
    | bl b => exact ⟨fun S m _ => by cases m <;> rfl, rfl, rfl, rfl, rfl⟩
    | int i =>
      have h' : i.natAbs < 1000000000000 := of_decide_eq_true h
      exact ⟨fun S m _ => by cases m <;> rfl, decide_eq_true (log2_small h'), rfl, decide_eq_true (PyData.shown_int_le h'), rfl⟩
    | str s =>
      refine ⟨fun S m _ => by cases m <;> rfl, rfl, rfl, ?_, by show (SX.S s).cps.size = s.length; simp⟩
      have h' : (s.all fun c => decide (c < 4294967296)) = true := h
      show ((SX.S s).cps.toList.all fun c => decide (c < 16 ^ 8)) = true
      simpa using h'
    | tup xs => cases h
    | ref n => cases h
    | exn c fs => cases h
  | n + 1, d, h => by
    cases d with
    | non => exact ⟨fun S m _ => by cases m <;> rfl, rfl, rfl, rfl, rfl⟩
    | bl b => exact ⟨fun S m _ => by cases m <;> rfl, rfl, rfl, rfl, rfl⟩
    | int i =>
      have h' : i.natAbs < 1000000000000 := of_decide_eq_true h
      exact ⟨fun S m _ => by cases m <;> rfl, decide_eq_true (log2_small h'), rfl, decide_eq_true (PyData.shown_int_le h'), rfl⟩
    | str s =>
      refine ⟨fun S m _ => by cases m <;> rfl, rfl, rfl, ?_, by show (SX.S s).cps.size = s.length; simp⟩
      have h' : (s.all fun c => decide (c < 4294967296)) = true := h
      show ((SX.S s).cps.toList.all fun c => decide (c < 16 ^ 8)) = true
      simpa using h'
    | tup xs =>
      obtain ⟨a, b, c, d, e⟩ := pus_ok n xs h
      refine ⟨fun S m hm => ?_, b, c, d, e⟩
      cases m with
      | zero => omega
      | succ m =>
        show (rdL (Cl.rd S m) xs).map PyData.tuple = _
        rw [a S m (by omega)]
        rfl
    | ref n => cases h
    | exn c fs => cases h
theorem pus_ok : ∀ (n : Nat) (xs : List D), xs.all (pu n) = true → (∀ S m, n ≤ m → rdL (Cl.rd S m) xs = some (xs.map (toP n))) ∧ PyData.showableAll (xs.map (toP n)) = true ∧ PyData.plainAll (xs.map (toP n)) = true ∧ PyData.leavesShortAll 13 (xs.map (toP n)) = true ∧ PyData.bulkAll (xs.map (toP n)) = wts n xs
  | n, [], _ => ⟨fun _ _ _ => rfl, rfl, rfl, rfl, rfl⟩
  | n, x :: xs, h => by
    rw [List.all_cons, Bool.and_eq_true] at h
    have ⟨a, b, c, d, e⟩ := pu_ok n x h.1
    have ⟨a2, b2, c2, d2, e2⟩ := pus_ok n xs h.2
    refine ⟨fun S m hm => ?_, ?_, ?_, ?_, ?_⟩
    · show (match Cl.rd S m x, rdL (Cl.rd S m) xs with
        | some a, some as => some (a :: as)
        | _, _ => none) = _
      rw [a S m hm, a2 S m hm]
      rfl
    · rw [List.map_cons, PyData.showableAll, b, b2]; rfl
    · rw [List.map_cons, PyData.plainAll, c, c2]; rfl
    · rw [List.map_cons, PyData.leavesShortAll, d, d2]; rfl
    · rw [List.map_cons, PyData.bulkAll, e, e2]; rfl
end
/-- a list of the store whose items are such values -/
theorem rd_list {S : Sto} {m n k : Nat} {xs : List D} (hq : getQ S m = some xs) (h : xs.all (pu n) = true) (hk : n ≤ k) : rd S (k + 1) (.ref m) = some (.list (xs.map (toP n))) := by
  show (match getQ S m with
    | some xs => (rdL (rd S k) xs).map PyData.list
    | none => none) = _
  rw [hq]
  dsimp only
  rw [(pus_ok n xs h).1 S k hk]
  rfl
theorem eq_list {S : Sto} {m m2 n : Nat} {xs : List D} (hq : getQ S m = some xs) (hq2 : getQ S m2 = some xs) (h : xs.all (pu n) = true) (hn : n ≤ 23) : eqD S (.ref m) (.ref m2) = some true := by
  unfold eqD
  rw [show DEEP = 23 + 1 from rfl, rd_list hq h hn, rd_list hq2 h hn]
  have p := (pus_ok n xs h).2.2.1
  show some (PyData.eqv (.list _) (.list _)) = _
  rw [PySem.SeqAt.eqv_refl_plain (.list (xs.map (toP n))) p]
theorem eq_nil {S : Sto} {m m2 n : Nat} {xs : List D} (hq : getQ S m = some xs) (hq2 : getQ S m2 = some []) (h : xs.all (pu n) = true) (hn : n ≤ 23) : eqD S (.ref m) (.ref m2) = some xs.isEmpty := by
  unfold eqD
  rw [show DEEP = 23 + 1 from rfl, rd_list hq h hn, rd_list (n := n) hq2 rfl hn]
  show some (PyData.eqv (.list _) (.list _)) = _
  rw [PyData.eqv]
  cases xs <;> rfl
/-- it can be shown, and how long that is -/
theorem show_list {n : Nat} {xs : List D} (h : xs.all (pu n) = true) (hw : 15 * wts n xs + 13 ≤ LIM) : (PyData.list (xs.map (toP n))).showable = true ∧ (PyData.list (xs.map (toP n))).shown.length ≤ LIM := by
  obtain ⟨_, b, c, d, e⟩ := pus_ok n xs h
  refine ⟨b, Nat.le_trans (PyData.shown_le_bulk 13 (by decide) _ d) ?_⟩
  show 15 * PyData.bulkAll (xs.map (toP n)) + 13 ≤ LIM
  rw [e]
  exact hw
end Cl
namespace Cl
open PySem (PyData)
theorem Kp.getQ {S S' : Sto} {b : List Nat} (h : Kp S S' b) {n : Nat} {xs : List D} (e : Cl.getQ S n = some xs) (hb : n ∉ b) : Cl.getQ S' n = some xs := by
  have hl : n < S.length := by
    unfold Cl.getQ at e
    cases q : S[n]? with
    | none => rw [q] at e; cases e
    | some o => exact (List.getElem?_eq_some_iff.mp q).1
  unfold Cl.getQ at e ⊢
  rw [h.at_ n hl hb]
  exact e
theorem getQ_lt {S : Sto} {n : Nat} {xs : List D} (e : Cl.getQ S n = some xs) : n < S.length := by
  unfold Cl.getQ at e
  cases q : S[n]? with
  | none => rw [q] at e; cases e
  | some o => exact (List.getElem?_eq_some_iff.mp q).1
theorem at_0 {α : Type} (x : α) (xs : List α) : atI (x :: xs) 0 = some x := atI_nat (i := 0) rfl
theorem at_1 {α : Type} (x y : α) (xs : List α) : atI (x :: y :: xs) 1 = some y := atI_nat (i := 1) rfl
theorem at_2 {α : Type} (x y z : α) (xs : List α) : atI (x :: y :: z :: xs) 2 = some z := atI_nat (i := 2) rfl
theorem at_last {α : Type} {xs : List α} {x : α} (h : xs.getLast? = some x) : atI xs (-1) = some x := by
  have hne : xs ≠ [] := fun e => by subst e; cases h
  have hl := List.length_pos_iff.mpr hne
  unfold atI L2.atI L2.ixN
  rw [if_neg (by omega), if_pos (by omega)]
  rw [List.getLast?_eq_getElem?] at h
  show xs[((-1 : Int) + (xs.length : Int)).toNat]? = some x
  rw [show ((-1 : Int) + (xs.length : Int)).toNat = xs.length - 1 by omega]
  exact h
theorem ix_last {n : Nat} (h : 0 < n) : L2.ixN n (-1) = some (n - 1) := by
  unfold L2.ixN
  rw [if_neg (by omega), if_pos (by omega)]
  congr 1
  omega
theorem rec_l {S : Sto} {n : Nat} {xs : List D} {m : Mt} (h : Cl.getQ S n = some xs) (hm : m.ofList = true) : (recv m (.ref n) S = true) = True := by
  rw [r_ref, h, hm]
  exact eq_true rfl
theorem c_ne (x y : D) (S : Sto) : cmpop .ne x y S = (eqD S x y).map (!·) := rfl
theorem c_eq (x y : D) (S : Sto) : cmpop .eq x y S = eqD S x y := rfl
end Cl
namespace Cl
theorem cut_to {α : Type} (xs : List α) (k : Nat) : cut xs none (some (k : Int)) = xs.take k := by
  unfold cut
  rw [HT.sIx_nat, HT.sIx_none, List.drop_zero, Nat.sub_zero]
  rw [List.take_eq_take_iff]
  omega
theorem cut_from {α : Type} (xs : List α) (k : Nat) : cut xs (some (k : Int)) none = xs.drop k := by
  unfold cut
  rw [HT.sIx_nat, HT.sIx_none]
  by_cases h : k ≤ xs.length
  · rw [Nat.min_eq_left h, List.take_of_length_le]
    rw [List.length_drop]
    omega
  · rw [Nat.min_eq_right (by omega), List.drop_of_length_le (by omega), List.drop_of_length_le (by omega)]
    simp
theorem cut_init {α : Type} (xs : List α) : cut xs none (some (-1)) = xs.dropLast := by
  unfold cut
  have e : HT.sIx xs.length xs.length (some (-1)) = xs.length - 1 := by
    show ((-1 : Int) + (xs.length : Int)).toNat = _
    omega
  rw [e, HT.sIx_none, List.drop_zero, Nat.sub_zero, List.dropLast_eq_take]
theorem cut_end {α : Type} (xs : List α) : cut xs (some (-1)) none = xs.drop (xs.length - 1) := by
  unfold cut
  have e : HT.sIx xs.length 0 (some (-1)) = xs.length - 1 := by
    show ((-1 : Int) + (xs.length : Int)).toNat = _
    omega
  rw [e, HT.sIx_none, List.take_of_length_le]
  rw [List.length_drop]
  omega
end Cl
namespace Cl
/-- a comprehension whose turns leave the store as it is -/
theorem comp_pure {f : D → Sto → R (Option D)} {w : Wk} {xs : List D} {S : Sto} (g : D → Option D) (hw : ∀ i, w.at i S = some xs[i]?) (hg : ∀ x ∈ xs, f x S = .ok (g x) S) (hn : xs.length < FUEL) (hl : xs.length ≤ LIM) :
    compLoop f w FUEL 0 [] S = .ok (xs.filterMap g) S := by
  have go : ∀ m k i acc, i + m = xs.length → xs.length < i + k → acc = (xs.take i).filterMap g → compLoop f w k i acc S = .ok (xs.filterMap g) S := by
    intro m
    induction m with
    | zero =>
      intro k i acc hm hk ha
      cases k with
      | zero => omega
      | succ k =>
        have e : xs[i]? = none := List.getElem?_eq_none (by omega)
        unfold compLoop
        rw [hw, e, R.opt_some, ha, List.take_of_length_le (by omega)]
    | succ m ih =>
      intro k i acc hm hk ha
      cases k with
      | zero => omega
      | succ k =>
        have hi : i < xs.length := by omega
        have e : xs[i]? = some xs[i] := List.getElem?_eq_getElem hi
        have ht : xs.take (i + 1) = xs.take i ++ [xs[i]] := by rw [List.take_add_one, e]; rfl
        have hlen : acc.length < LIM := by
          rw [ha]
          refine Nat.lt_of_le_of_lt (List.length_filterMap_le _ _) ?_
          rw [List.length_take]
          omega
        unfold compLoop
        rw [hw, e, R.opt_some]
        dsimp only
        rw [hg _ (List.getElem_mem hi)]
        cases hgx : g xs[i] with
        | none =>
          dsimp only
          exact ih k (i + 1) acc (by omega) (by omega) (by rw [ht, List.filterMap_append, ← ha]; simp [hgx])
        | some y =>
          dsimp only
          rw [R.req_of hlen]
          exact ih k (i + 1) (acc ++ [y]) (by omega) (by omega) (by rw [ht, List.filterMap_append, ← ha]; simp [hgx])
  exact go xs.length FUEL 0 [] (by omega) (by omega) rfl
theorem at_fix (xs : List D) (S : Sto) (i : Nat) : (Wk.fix xs).at i S = some xs[i]? := rfl
theorem at_lst {xs : List D} {S : Sto} {m : Nat} (h : getQ S m = some xs) (i : Nat) : (Wk.lst m).at i S = some xs[i]? := by
  show (getQ S m).map _ = _
  rw [h]
  rfl
/-- text methods -/
theorem m_strip (s t : Tx) (S : Sto) : mth .strip (.str s) [.str t] S = .ok (.str (stripS s t)) S := rfl
theorem m_lower (s : Tx) (S : Sto) : mth .lower (.str s) [] S = R.req (s.length ≤ 5592405) (.ok (.str (s.map PyProof.Rows.lo1)) S) := rfl
theorem m_split (s t : Tx) (S : Sto) : mth .split (.str s) [.str t] S = R.req (t ≠ [] ∧ s.length + 2 ≤ LIM) (.ok (.ref S.length) (S ++ [.lst ((TL.spl t 0 [] s).map .str)])) := rfl
theorem asStrs_map : ∀ vs : List Tx, asStrs (vs.map .str) = some vs
  | [] => rfl
  | v :: vs => by
    rw [List.map_cons]
    show (asStrs (vs.map .str)).map (v :: ·) = _
    rw [asStrs_map vs]
    rfl
theorem m_join {s : Tx} {m : Nat} {vs : List Tx} {S : Sto} (h : getQ S m = some (vs.map .str)) : mth .join (.str s) [.ref m] S = R.req ((vs.map List.length).sum + vs.length * s.length ≤ LIM) (.ok (.str (TL.joinL s vs)) S) := by
  show R.opt ((getQ S m).map fun xs => (s, xs)) _ = _
  rw [h]
  show R.opt (asStrs (vs.map .str)) _ = _
  rw [asStrs_map]
  rfl
end Cl
namespace Cl
theorem isi_list {S : Sto} {m : Nat} {xs : List D} (h : getQ S m = some xs) : isiAny S (.ref m) [.list] = some true := by
  unfold isiAny hasTyS
  dsimp only
  rw [h]
/-- plain texts -/
def asc (s : Tx) : Bool := s.all fun c => decide (c < 128)
theorem pu_str {n : Nat} {s : Tx} (h : asc s = true) : pu n (.str s) = true := by
  have e : pu n (.str s) = s.all fun c => decide (c < 4294967296) := by cases n <;> rfl
  rw [e, List.all_eq_true]
  intro c hc
  have := of_decide_eq_true (List.all_eq_true.mp h c hc)
  exact decide_eq_true (by omega)
theorem asc_sub {s t : Tx} (h : asc s = true) (i : ∀ c ∈ t, c ∈ s) : asc t = true := List.all_eq_true.mpr fun c hc => List.all_eq_true.mp h c (i c hc)
theorem asc_low {s : Tx} (h : asc s = true) : asc (s.map PyProof.Rows.lo1) = true := by
  refine List.all_eq_true.mpr fun c hc => ?_
  obtain ⟨d, hd, rfl⟩ := List.mem_map.mp hc
  have hl := of_decide_eq_true (List.all_eq_true.mp h d hd)
  refine decide_eq_true ?_
  have : ∀ d : Fin 128, PyProof.Rows.lo1 d.val < 128 := by decide +kernel
  exact this ⟨d, hl⟩
theorem asc_strip {s t : Tx} (h : asc s = true) : asc (stripS s t) = true := by
  refine asc_sub h fun c hc => ?_
  unfold stripS at hc
  have h1 := List.mem_reverse.mp hc
  have h2 := (List.dropWhile_suffix _).subset h1
  have h3 := List.mem_reverse.mp h2
  exact (List.dropWhile_suffix _).subset h3
end Cl

/-! part G_K04 -/
namespace K04
open Cl
/-! ### texts -/
def sp (s : Tx) : List Tx := TL.spl [44] 0 [] s
theorem spl_c (acc : Tx) (c : Nat) (r : Tx) : TL.spl [44] 0 acc (c :: r) = if c = 44 then acc :: TL.spl [44] 0 [] r else TL.spl [44] 0 (acc ++ [c]) r := by
  by_cases h : c = 44
  · subst h
    rw [if_pos rfl]
    exact TL.spl_hit (by rfl)
  · rw [if_neg h]
    refine TL.spl_miss ?_
    show TL.pre [44] (c :: r) = false
    cases hp : TL.pre [44] (c :: r) with
    | false => rfl
    | true =>
      exfalso
      simp [TL.pre] at hp
      omega
theorem spl_cat : ∀ (a acc b : Tx), TL.spl [44] 0 acc (a ++ 44 :: b) = TL.spl [44] 0 acc a ++ TL.spl [44] 0 [] b
  | [], acc, b => by
    rw [List.nil_append, spl_c, if_pos rfl, TL.spl_nil]
    rfl
  | c :: a, acc, b => by
    rw [List.cons_append, spl_c, spl_c]
    split
    · rw [spl_cat a [] b]
      rfl
    · exact spl_cat a _ b
theorem sp_join : ∀ (v : Tx) (vs : List Tx), sp (TL.joinL [44] (v :: vs)) = (v :: vs).flatMap sp
  | v, [] => by
    show sp v = [v].flatMap sp
    simp
  | v, w :: vs => by
    show sp (v ++ ([44] ++ TL.joinL [44] (w :: vs))) = _
    rw [List.flatMap_cons, ← sp_join w vs]
    exact spl_cat v [] _
/-- a part, made small and bare -/
def bare (s : Tx) : Tx := stripS s [32]
def low (s : Tx) : Tx := s.map PyProof.Rows.lo1
def items (vs : List Tx) : List Tx := ((vs.flatMap sp).map fun p => low (bare p)).filter fun p => decide (p ≠ [])
theorem items_eq (vs : List Tx) : ((sp (TL.joinL [44] vs)).map fun p => low (bare p)).filter (fun p => decide (p ≠ [])) = items vs := by
  cases vs with
  | nil => rfl
  | cons v vs => rw [sp_join]; rfl
/-! ### bare -/
def c32 (c : Nat) : Bool := ([32] : List Nat).contains c
theorem c32_iff (c : Nat) : c32 c = decide (c = 32) := by
  unfold c32
  by_cases h : c = 32
  · subst h; rfl
  · rw [decide_eq_false h]
    simp [h]
theorem bare_eq (s : Tx) : bare s = ((s.dropWhile c32).reverse.dropWhile c32).reverse := rfl
theorem bare_run {n : Nat} {S : Sto} {s : Tx} (hs : s.length ≤ 1000000) : run pr cs (n + 1) 4 [.str s] S = .ok (.str (bare s)) S := by
  obtain ⟨σ1, S1, e1, t, rfl, rfl, ht⟩ := while_to (c := whlC ⟨run pr cs n, cs⟩ (.cmp .eq (.slc (.var 0) .nil (.cons (.int 1) .nil)) (.str [32]))) (f := evSs ⟨run pr cs n, cs⟩ b4_0) (σ := [some (.str s)]) (S := S)
    (fun m σ S' => ∃ t : Tx, σ = [some (.str t)] ∧ S' = S ∧ m = t.length ∧ t.dropWhile c32 = s.dropWhile c32) (fun σ S' => ∃ t : Tx, σ = [some (.str t)] ∧ S' = S ∧ t = s.dropWhile c32) (m := s.length) ⟨s, rfl, rfl, rfl, rfl⟩ (by unfold FUEL; omega) (by
      rintro m σ S' ⟨t, rfl, rfl, rfl, ht⟩
      have c1 : cut t none (some 1) = t.take 1 := cut_to t 1
      have c2 : cut t (some 1) none = t.drop 1 := cut_from t 1
      cases t with
      | nil =>
        refine .inl ⟨S', ?_, [], rfl, rfl, ht⟩
        simp only [whlC_ap, x_non, x_bl, x_int, x_str, x_var, x_glo, x_bin, x_neg, x_not, x_bop, x_bop1, x_and, x_or, x_ite, x_cmp, x_chain, x_tup, x_lst, x_idx, x_slc, x_call, x_callk, x_blt, x_isi, x_mth, x_nil, x_cons, x_o0, x_o1, x_c0, x_c1, x_comp, x_val, x_rng, s_set, s_sets, s_par, s_aug, s_seti, s_expr, s_ret, s_retn, s_if, s_forF, s_whl, s_pass, s_brk, s_cont, s_nil, s_one, s_cons, o_add, o_sub, o_mul, o_fdiv, o_mod, o_pow, o_cat, o_catT, o_catL, o_mulT, a_add, a_sub, a_cat, a_catL, c_lt, c_le, c_gt, c_ge, c_eqI, c_neI, c_eqS, c_neS, c_in, c_nin, c_isN, c_isnN, t_bl, t_int, t_str, t_tup, t_non, t_ref, i_str, i_tup, i_ref, l_str, l_tup, l_ref, b_lenS, b_lenT, b_lenR, b_abs, b_max, b_min, b_int, b_intB, b_repr, b_listT, b_listR, b_tupT, b_tupR, w_tup, w_str, w_ref, g_one, m_app, m_pop, rs_strip, rs_lower, rs_upper, rs_split, rs_partition, rs_join, rs_find, rs_count, f_int, retR_n, retR_r, retR_x, slotR_ok, negD_i, intO_i, rngR_1, rngR_2, parS_2, parS_3, ifR_t, ifR_f, ifS_t, ifS_f, R.bind_ok, R.bind_exc, R.at_ok, R.at_exc, R.opt_some, RS.opt_some, R.req_true, RS.seq_next, RS.seq_ret, RS.seq_brk, RS.seq_cont, RS.seq_exc, List.getElem?_cons_zero, List.getElem?_cons_succ, List.set_cons_zero, List.set_cons_succ, List.map_cons, List.map_nil, List.cons_append, List.nil_append, List.replicate, List.length_cons, List.length_nil, Option.map_some, Option.bind_some, Nat.reduceAdd, Nat.reduceSub, Nat.zero_add, eq_self, c1]
        rfl
      | cons x r =>
        by_cases hx : x = 32
        · subst hx
          refine .inr ⟨S', [some (.str r)], S', r.length, ?_, .inl ?_, by simp, r, rfl, rfl, rfl, ?_⟩
          · simp only [whlC_ap, x_non, x_bl, x_int, x_str, x_var, x_glo, x_bin, x_neg, x_not, x_bop, x_bop1, x_and, x_or, x_ite, x_cmp, x_chain, x_tup, x_lst, x_idx, x_slc, x_call, x_callk, x_blt, x_isi, x_mth, x_nil, x_cons, x_o0, x_o1, x_c0, x_c1, x_comp, x_val, x_rng, s_set, s_sets, s_par, s_aug, s_seti, s_expr, s_ret, s_retn, s_if, s_forF, s_whl, s_pass, s_brk, s_cont, s_nil, s_one, s_cons, o_add, o_sub, o_mul, o_fdiv, o_mod, o_pow, o_cat, o_catT, o_catL, o_mulT, a_add, a_sub, a_cat, a_catL, c_lt, c_le, c_gt, c_ge, c_eqI, c_neI, c_eqS, c_neS, c_in, c_nin, c_isN, c_isnN, t_bl, t_int, t_str, t_tup, t_non, t_ref, i_str, i_tup, i_ref, l_str, l_tup, l_ref, b_lenS, b_lenT, b_lenR, b_abs, b_max, b_min, b_int, b_intB, b_repr, b_listT, b_listR, b_tupT, b_tupR, w_tup, w_str, w_ref, g_one, m_app, m_pop, rs_strip, rs_lower, rs_upper, rs_split, rs_partition, rs_join, rs_find, rs_count, f_int, retR_n, retR_r, retR_x, slotR_ok, negD_i, intO_i, rngR_1, rngR_2, parS_2, parS_3, ifR_t, ifR_f, ifS_t, ifS_f, R.bind_ok, R.bind_exc, R.at_ok, R.at_exc, R.opt_some, RS.opt_some, R.req_true, RS.seq_next, RS.seq_ret, RS.seq_brk, RS.seq_cont, RS.seq_exc, List.getElem?_cons_zero, List.getElem?_cons_succ, List.set_cons_zero, List.set_cons_succ, List.map_cons, List.map_nil, List.cons_append, List.nil_append, List.replicate, List.length_cons, List.length_nil, Option.map_some, Option.bind_some, Nat.reduceAdd, Nat.reduceSub, Nat.zero_add, eq_self, c1]
            rfl
          · simp only [b4_0, x_non, x_bl, x_int, x_str, x_var, x_glo, x_bin, x_neg, x_not, x_bop, x_bop1, x_and, x_or, x_ite, x_cmp, x_chain, x_tup, x_lst, x_idx, x_slc, x_call, x_callk, x_blt, x_isi, x_mth, x_nil, x_cons, x_o0, x_o1, x_c0, x_c1, x_comp, x_val, x_rng, s_set, s_sets, s_par, s_aug, s_seti, s_expr, s_ret, s_retn, s_if, s_forF, s_whl, s_pass, s_brk, s_cont, s_nil, s_one, s_cons, o_add, o_sub, o_mul, o_fdiv, o_mod, o_pow, o_cat, o_catT, o_catL, o_mulT, a_add, a_sub, a_cat, a_catL, c_lt, c_le, c_gt, c_ge, c_eqI, c_neI, c_eqS, c_neS, c_in, c_nin, c_isN, c_isnN, t_bl, t_int, t_str, t_tup, t_non, t_ref, i_str, i_tup, i_ref, l_str, l_tup, l_ref, b_lenS, b_lenT, b_lenR, b_abs, b_max, b_min, b_int, b_intB, b_repr, b_listT, b_listR, b_tupT, b_tupR, w_tup, w_str, w_ref, g_one, m_app, m_pop, rs_strip, rs_lower, rs_upper, rs_split, rs_partition, rs_join, rs_find, rs_count, f_int, retR_n, retR_r, retR_x, slotR_ok, negD_i, intO_i, rngR_1, rngR_2, parS_2, parS_3, ifR_t, ifR_f, ifS_t, ifS_f, R.bind_ok, R.bind_exc, R.at_ok, R.at_exc, R.opt_some, RS.opt_some, R.req_true, RS.seq_next, RS.seq_ret, RS.seq_brk, RS.seq_cont, RS.seq_exc, List.getElem?_cons_zero, List.getElem?_cons_succ, List.set_cons_zero, List.set_cons_succ, List.map_cons, List.map_nil, List.cons_append, List.nil_append, List.replicate, List.length_cons, List.length_nil, Option.map_some, Option.bind_some, Nat.reduceAdd, Nat.reduceSub, Nat.zero_add, eq_self, c2]
            rfl
          · rw [← ht]
            rfl
        · refine .inl ⟨S', ?_, x :: r, rfl, rfl, ?_⟩
          · simp only [whlC_ap, x_non, x_bl, x_int, x_str, x_var, x_glo, x_bin, x_neg, x_not, x_bop, x_bop1, x_and, x_or, x_ite, x_cmp, x_chain, x_tup, x_lst, x_idx, x_slc, x_call, x_callk, x_blt, x_isi, x_mth, x_nil, x_cons, x_o0, x_o1, x_c0, x_c1, x_comp, x_val, x_rng, s_set, s_sets, s_par, s_aug, s_seti, s_expr, s_ret, s_retn, s_if, s_forF, s_whl, s_pass, s_brk, s_cont, s_nil, s_one, s_cons, o_add, o_sub, o_mul, o_fdiv, o_mod, o_pow, o_cat, o_catT, o_catL, o_mulT, a_add, a_sub, a_cat, a_catL, c_lt, c_le, c_gt, c_ge, c_eqI, c_neI, c_eqS, c_neS, c_in, c_nin, c_isN, c_isnN, t_bl, t_int, t_str, t_tup, t_non, t_ref, i_str, i_tup, i_ref, l_str, l_tup, l_ref, b_lenS, b_lenT, b_lenR, b_abs, b_max, b_min, b_int, b_intB, b_repr, b_listT, b_listR, b_tupT, b_tupR, w_tup, w_str, w_ref, g_one, m_app, m_pop, rs_strip, rs_lower, rs_upper, rs_split, rs_partition, rs_join, rs_find, rs_count, f_int, retR_n, retR_r, retR_x, slotR_ok, negD_i, intO_i, rngR_1, rngR_2, parS_2, parS_3, ifR_t, ifR_f, ifS_t, ifS_f, R.bind_ok, R.bind_exc, R.at_ok, R.at_exc, R.opt_some, RS.opt_some, R.req_true, RS.seq_next, RS.seq_ret, RS.seq_brk, RS.seq_cont, RS.seq_exc, List.getElem?_cons_zero, List.getElem?_cons_succ, List.set_cons_zero, List.set_cons_succ, List.map_cons, List.map_nil, List.cons_append, List.nil_append, List.replicate, List.length_cons, List.length_nil, Option.map_some, Option.bind_some, Nat.reduceAdd, Nat.reduceSub, Nat.zero_add, eq_self, c1]
            have : ¬ (List.take 1 (x :: r) = [32]) := by simp [hx]
            rw [decide_eq_false this]
          · rw [← ht, List.dropWhile_cons, c32_iff, decide_eq_false hx]
            rfl)
  obtain ⟨σ2, S2, e2, u, rfl, rfl, hu⟩ := while_to (c := whlC ⟨run pr cs n, cs⟩ (.cmp .eq (.slc (.var 0) (.cons (.neg (.int 1)) .nil) .nil) (.str [32]))) (f := evSs ⟨run pr cs n, cs⟩ b4_1) (σ := [some (.str t)]) (S := S1)
    (fun m σ S' => ∃ u : Tx, σ = [some (.str u)] ∧ S' = S1 ∧ m = u.length ∧ u.reverse.dropWhile c32 = t.reverse.dropWhile c32) (fun σ S' => ∃ u : Tx, σ = [some (.str u)] ∧ S' = S1 ∧ u.reverse = t.reverse.dropWhile c32) (m := t.length) ⟨t, rfl, rfl, rfl, rfl⟩ (by
      have : t.length ≤ s.length := by rw [ht]; exact (List.dropWhile_suffix _).length_le
      unfold FUEL; omega) (by
      rintro m σ S' ⟨u, rfl, rfl, rfl, hu⟩
      have c1 : cut u (some (-1)) none = u.drop (u.length - 1) := cut_end u
      have c2 : cut u none (some (-1)) = u.dropLast := cut_init u
      have ng : -(1 : Int) = -1 := rfl
      rcases List.eq_nil_or_concat u with rfl | ⟨r, x, rfl⟩
      · refine .inl ⟨S', ?_, [], rfl, rfl, hu⟩
        simp only [whlC_ap, x_non, x_bl, x_int, x_str, x_var, x_glo, x_bin, x_neg, x_not, x_bop, x_bop1, x_and, x_or, x_ite, x_cmp, x_chain, x_tup, x_lst, x_idx, x_slc, x_call, x_callk, x_blt, x_isi, x_mth, x_nil, x_cons, x_o0, x_o1, x_c0, x_c1, x_comp, x_val, x_rng, s_set, s_sets, s_par, s_aug, s_seti, s_expr, s_ret, s_retn, s_if, s_forF, s_whl, s_pass, s_brk, s_cont, s_nil, s_one, s_cons, o_add, o_sub, o_mul, o_fdiv, o_mod, o_pow, o_cat, o_catT, o_catL, o_mulT, a_add, a_sub, a_cat, a_catL, c_lt, c_le, c_gt, c_ge, c_eqI, c_neI, c_eqS, c_neS, c_in, c_nin, c_isN, c_isnN, t_bl, t_int, t_str, t_tup, t_non, t_ref, i_str, i_tup, i_ref, l_str, l_tup, l_ref, b_lenS, b_lenT, b_lenR, b_abs, b_max, b_min, b_int, b_intB, b_repr, b_listT, b_listR, b_tupT, b_tupR, w_tup, w_str, w_ref, g_one, m_app, m_pop, rs_strip, rs_lower, rs_upper, rs_split, rs_partition, rs_join, rs_find, rs_count, f_int, retR_n, retR_r, retR_x, slotR_ok, negD_i, intO_i, rngR_1, rngR_2, parS_2, parS_3, ifR_t, ifR_f, ifS_t, ifS_f, R.bind_ok, R.bind_exc, R.at_ok, R.at_exc, R.opt_some, RS.opt_some, R.req_true, RS.seq_next, RS.seq_ret, RS.seq_brk, RS.seq_cont, RS.seq_exc, List.getElem?_cons_zero, List.getElem?_cons_succ, List.set_cons_zero, List.set_cons_succ, List.map_cons, List.map_nil, List.cons_append, List.nil_append, List.replicate, List.length_cons, List.length_nil, Option.map_some, Option.bind_some, Nat.reduceAdd, Nat.reduceSub, Nat.zero_add, eq_self, ng, c1]
        rfl
      · have d1 : (r.concat x).drop ((r.concat x).length - 1) = [x] := by simp
        have d2 : (r.concat x).dropLast = r := by simp
        have d3 : (r.concat x).reverse = x :: r.reverse := by simp
        by_cases hx : x = 32
        · subst hx
          refine .inr ⟨S', [some (.str r)], S', r.length, ?_, .inl ?_, by simp, r, rfl, rfl, rfl, ?_⟩
          · simp only [whlC_ap, x_non, x_bl, x_int, x_str, x_var, x_glo, x_bin, x_neg, x_not, x_bop, x_bop1, x_and, x_or, x_ite, x_cmp, x_chain, x_tup, x_lst, x_idx, x_slc, x_call, x_callk, x_blt, x_isi, x_mth, x_nil, x_cons, x_o0, x_o1, x_c0, x_c1, x_comp, x_val, x_rng, s_set, s_sets, s_par, s_aug, s_seti, s_expr, s_ret, s_retn, s_if, s_forF, s_whl, s_pass, s_brk, s_cont, s_nil, s_one, s_cons, o_add, o_sub, o_mul, o_fdiv, o_mod, o_pow, o_cat, o_catT, o_catL, o_mulT, a_add, a_sub, a_cat, a_catL, c_lt, c_le, c_gt, c_ge, c_eqI, c_neI, c_eqS, c_neS, c_in, c_nin, c_isN, c_isnN, t_bl, t_int, t_str, t_tup, t_non, t_ref, i_str, i_tup, i_ref, l_str, l_tup, l_ref, b_lenS, b_lenT, b_lenR, b_abs, b_max, b_min, b_int, b_intB, b_repr, b_listT, b_listR, b_tupT, b_tupR, w_tup, w_str, w_ref, g_one, m_app, m_pop, rs_strip, rs_lower, rs_upper, rs_split, rs_partition, rs_join, rs_find, rs_count, f_int, retR_n, retR_r, retR_x, slotR_ok, negD_i, intO_i, rngR_1, rngR_2, parS_2, parS_3, ifR_t, ifR_f, ifS_t, ifS_f, R.bind_ok, R.bind_exc, R.at_ok, R.at_exc, R.opt_some, RS.opt_some, R.req_true, RS.seq_next, RS.seq_ret, RS.seq_brk, RS.seq_cont, RS.seq_exc, List.getElem?_cons_zero, List.getElem?_cons_succ, List.set_cons_zero, List.set_cons_succ, List.map_cons, List.map_nil, List.cons_append, List.nil_append, List.replicate, List.length_cons, List.length_nil, Option.map_some, Option.bind_some, Nat.reduceAdd, Nat.reduceSub, Nat.zero_add, eq_self, ng, c1, d1]
            rfl
          · simp only [b4_1, x_non, x_bl, x_int, x_str, x_var, x_glo, x_bin, x_neg, x_not, x_bop, x_bop1, x_and, x_or, x_ite, x_cmp, x_chain, x_tup, x_lst, x_idx, x_slc, x_call, x_callk, x_blt, x_isi, x_mth, x_nil, x_cons, x_o0, x_o1, x_c0, x_c1, x_comp, x_val, x_rng, s_set, s_sets, s_par, s_aug, s_seti, s_expr, s_ret, s_retn, s_if, s_forF, s_whl, s_pass, s_brk, s_cont, s_nil, s_one, s_cons, o_add, o_sub, o_mul, o_fdiv, o_mod, o_pow, o_cat, o_catT, o_catL, o_mulT, a_add, a_sub, a_cat, a_catL, c_lt, c_le, c_gt, c_ge, c_eqI, c_neI, c_eqS, c_neS, c_in, c_nin, c_isN, c_isnN, t_bl, t_int, t_str, t_tup, t_non, t_ref, i_str, i_tup, i_ref, l_str, l_tup, l_ref, b_lenS, b_lenT, b_lenR, b_abs, b_max, b_min, b_int, b_intB, b_repr, b_listT, b_listR, b_tupT, b_tupR, w_tup, w_str, w_ref, g_one, m_app, m_pop, rs_strip, rs_lower, rs_upper, rs_split, rs_partition, rs_join, rs_find, rs_count, f_int, retR_n, retR_r, retR_x, slotR_ok, negD_i, intO_i, rngR_1, rngR_2, parS_2, parS_3, ifR_t, ifR_f, ifS_t, ifS_f, R.bind_ok, R.bind_exc, R.at_ok, R.at_exc, R.opt_some, RS.opt_some, R.req_true, RS.seq_next, RS.seq_ret, RS.seq_brk, RS.seq_cont, RS.seq_exc, List.getElem?_cons_zero, List.getElem?_cons_succ, List.set_cons_zero, List.set_cons_succ, List.map_cons, List.map_nil, List.cons_append, List.nil_append, List.replicate, List.length_cons, List.length_nil, Option.map_some, Option.bind_some, Nat.reduceAdd, Nat.reduceSub, Nat.zero_add, eq_self, ng, c2, d2]
          · rw [← hu, d3]
            rfl
        · refine .inl ⟨S', ?_, r.concat x, rfl, rfl, ?_⟩
          · simp only [whlC_ap, x_non, x_bl, x_int, x_str, x_var, x_glo, x_bin, x_neg, x_not, x_bop, x_bop1, x_and, x_or, x_ite, x_cmp, x_chain, x_tup, x_lst, x_idx, x_slc, x_call, x_callk, x_blt, x_isi, x_mth, x_nil, x_cons, x_o0, x_o1, x_c0, x_c1, x_comp, x_val, x_rng, s_set, s_sets, s_par, s_aug, s_seti, s_expr, s_ret, s_retn, s_if, s_forF, s_whl, s_pass, s_brk, s_cont, s_nil, s_one, s_cons, o_add, o_sub, o_mul, o_fdiv, o_mod, o_pow, o_cat, o_catT, o_catL, o_mulT, a_add, a_sub, a_cat, a_catL, c_lt, c_le, c_gt, c_ge, c_eqI, c_neI, c_eqS, c_neS, c_in, c_nin, c_isN, c_isnN, t_bl, t_int, t_str, t_tup, t_non, t_ref, i_str, i_tup, i_ref, l_str, l_tup, l_ref, b_lenS, b_lenT, b_lenR, b_abs, b_max, b_min, b_int, b_intB, b_repr, b_listT, b_listR, b_tupT, b_tupR, w_tup, w_str, w_ref, g_one, m_app, m_pop, rs_strip, rs_lower, rs_upper, rs_split, rs_partition, rs_join, rs_find, rs_count, f_int, retR_n, retR_r, retR_x, slotR_ok, negD_i, intO_i, rngR_1, rngR_2, parS_2, parS_3, ifR_t, ifR_f, ifS_t, ifS_f, R.bind_ok, R.bind_exc, R.at_ok, R.at_exc, R.opt_some, RS.opt_some, R.req_true, RS.seq_next, RS.seq_ret, RS.seq_brk, RS.seq_cont, RS.seq_exc, List.getElem?_cons_zero, List.getElem?_cons_succ, List.set_cons_zero, List.set_cons_succ, List.map_cons, List.map_nil, List.cons_append, List.nil_append, List.replicate, List.length_cons, List.length_nil, Option.map_some, Option.bind_some, Nat.reduceAdd, Nat.reduceSub, Nat.zero_add, eq_self, ng, c1, d1]
            have : ¬ ([x] = [32]) := by simp [hx]
            rw [decide_eq_false this]
          · rw [← hu, d3, List.dropWhile_cons, c32_iff, decide_eq_false hx]
            rfl)
  rw [run_ok (F := f4) rfl rfl]
  simp only [f4, s4_0, s4_1, s4_2, x_non, x_bl, x_int, x_str, x_var, x_glo, x_bin, x_neg, x_not, x_bop, x_bop1, x_and, x_or, x_ite, x_cmp, x_chain, x_tup, x_lst, x_idx, x_slc, x_call, x_callk, x_blt, x_isi, x_mth, x_nil, x_cons, x_o0, x_o1, x_c0, x_c1, x_comp, x_val, x_rng, s_set, s_sets, s_par, s_aug, s_seti, s_expr, s_ret, s_retn, s_if, s_forF, s_whl, s_pass, s_brk, s_cont, s_nil, s_one, s_cons, o_add, o_sub, o_mul, o_fdiv, o_mod, o_pow, o_cat, o_catT, o_catL, o_mulT, a_add, a_sub, a_cat, a_catL, c_lt, c_le, c_gt, c_ge, c_eqI, c_neI, c_eqS, c_neS, c_in, c_nin, c_isN, c_isnN, t_bl, t_int, t_str, t_tup, t_non, t_ref, i_str, i_tup, i_ref, l_str, l_tup, l_ref, b_lenS, b_lenT, b_lenR, b_abs, b_max, b_min, b_int, b_intB, b_repr, b_listT, b_listR, b_tupT, b_tupR, w_tup, w_str, w_ref, g_one, m_app, m_pop, rs_strip, rs_lower, rs_upper, rs_split, rs_partition, rs_join, rs_find, rs_count, f_int, retR_n, retR_r, retR_x, slotR_ok, negD_i, intO_i, rngR_1, rngR_2, parS_2, parS_3, ifR_t, ifR_f, ifS_t, ifS_f, R.bind_ok, R.bind_exc, R.at_ok, R.at_exc, R.opt_some, RS.opt_some, R.req_true, RS.seq_next, RS.seq_ret, RS.seq_brk, RS.seq_cont, RS.seq_exc, List.getElem?_cons_zero, List.getElem?_cons_succ, List.set_cons_zero, List.set_cons_succ, List.map_cons, List.map_nil, List.cons_append, List.nil_append, List.replicate, List.length_cons, List.length_nil, Option.map_some, Option.bind_some, Nat.reduceAdd, Nat.reduceSub, Nat.zero_add, eq_self, e1, e2]
  rw [bare_eq, ← ht, ← hu, List.reverse_reverse]
end K04

/-! part G2_K04 -/
namespace K04
open Cl
/-- rows: a label and a value -/
def row (p : Tx × Tx) : D := .tup [.str p.1, .str p.2]
def vals (rows : List (Tx × Tx)) (l : Tx) : List Tx := (rows.filter fun p => decide (p.1 = l)).map (·.2)
/-- small enough -/
def small (rows : List (Tx × Tx)) : Prop := rows.length ≤ 100 ∧ ∀ p ∈ rows, p.1.length ≤ 1000 ∧ p.2.length ≤ 1000
theorem stripS_le (s t : Tx) : (stripS s t).length ≤ s.length := by
  unfold stripS
  rw [List.length_reverse]
  refine Nat.le_trans (List.dropWhile_suffix _).length_le ?_
  rw [List.length_reverse]
  exact (List.dropWhile_suffix _).length_le
theorem spl_sum : ∀ (s acc : Tx), ∀ p ∈ TL.spl [44] 0 acc s, p.length ≤ acc.length + s.length
  | [], acc, p, h => by
    rw [TL.spl_nil] at h
    have : p = acc := by simpa using h
    subst this
    omega
  | c :: s, acc, p, h => by
    rw [spl_c] at h
    split at h
    · rcases List.mem_cons.mp h with q | q
      · subst q; simp
      · have := spl_sum s [] p q
        simp at this ⊢
        omega
    · have := spl_sum s (acc ++ [c]) p h
      simp at this ⊢
      omega
theorem spl_count : ∀ (s acc : Tx), (TL.spl [44] 0 acc s).length ≤ s.length + 1
  | [], acc => by rw [TL.spl_nil]; simp
  | c :: s, acc => by
    rw [spl_c]
    split
    · have := spl_count s []
      simp
      omega
    · have := spl_count s (acc ++ [c])
      simp
      omega
theorem join_len : ∀ vs : List Tx, (TL.joinL [44] vs).length ≤ (vs.map List.length).sum + vs.length
  | [] => by simp [TL.joinL]
  | [v] => by simp [TL.joinL]
  | v :: w :: vs => by
    have := join_len (w :: vs)
    simp [TL.joinL] at this ⊢
    omega
theorem sum_le : ∀ {vs : List Tx}, (∀ v ∈ vs, v.length ≤ 1000) → (vs.map List.length).sum ≤ 1000 * vs.length
  | [], _ => by simp
  | v :: vs, h => by
    have a := sum_le (vs := vs) fun w hw => h w (List.mem_cons_of_mem _ hw)
    have b := h v List.mem_cons_self
    simp at a ⊢
    omega
def selF (l : Tx) : D → Option D
  | .tup [.str a, .str b] => if a = l then some (.str b) else none
  | _ => none
def mapF : D → Option D
  | .str p => some (.str (low (bare p)))
  | _ => none
def neF : D → Option D
  | .str p => if p = [] then none else some (.str p)
  | _ => none
theorem sel_map (l : Tx) : ∀ rows : List (Tx × Tx), (rows.map row).filterMap (selF l) = (vals rows l).map .str
  | [] => rfl
  | p :: rows => by
    have ih := sel_map l rows
    unfold vals at ih ⊢
    by_cases h : p.1 = l
    · simp [row, selF, h, ih]
    · simp [row, selF, h, ih]
theorem map_map (ps : List Tx) : (ps.map D.str).filterMap mapF = (ps.map fun p => low (bare p)).map .str := by
  induction ps with
  | nil => rfl
  | cons p ps ih => simp [mapF, ih]
theorem ne_map (ps : List Tx) : (ps.map D.str).filterMap neF = (ps.filter fun p => decide (p ≠ [])).map .str := by
  induction ps with
  | nil => rfl
  | cons p ps ih =>
    by_cases h : p = []
    · simp [neF, h, ih]
    · simp [neF, h, ih]
theorem vals_small {rows : List (Tx × Tx)} {l : Tx} (hr : small rows) : (vals rows l).length ≤ 100 ∧ ∀ v ∈ vals rows l, v.length ≤ 1000 := by
  refine ⟨?_, fun v hv => ?_⟩
  · unfold vals
    rw [List.length_map]
    exact Nat.le_trans (List.length_filter_le _ _) hr.1
  · unfold vals at hv
    obtain ⟨p, hp, rfl⟩ := List.mem_map.mp hv
    exact (hr.2 p (List.mem_filter.mp hp).1).2
/-- items_of, run -/
theorem items_run {n : Nat} {S : Sto} {rows : List (Tx × Tx)} {nm : Tx} (hr : small rows) (hn : nm.length ≤ 1000) :
    ∃ r S', run pr cs (n + 1) 0 [.tup (rows.map row), .str nm] S = .ok (.ref r) S' ∧ S.length ≤ r ∧ Kp S S' [] ∧ S'[r]? = some (.lst ((items (vals rows (low nm))).map .str)) := by
  have hL : LIM = 16777216 := rfl
  have hF : FUEL = 67108864 := by decide
  obtain ⟨v1, v2⟩ := vals_small (l := low nm) hr
  have e1 := comp_pure (f := compF ⟨run pr cs n, cs⟩ (.var 5) [4, 5] true (.cons (.cmp .eq (.var 4) (.mth .lower (.var 1) .nil)) .nil) [("other", 4), ("value", 5)] [some (.tup (rows.map row)), some (.str nm), none, none, none, none, none]) (w := .fix (rows.map row)) (xs := rows.map row) (S := S) (selF (low nm)) (at_fix _ S) (by
      intro x hx
      obtain ⟨p, hp, rfl⟩ := List.mem_map.mp hx
      have hl : (nm.length ≤ 5592405) = True := eq_true (by omega)
      have tg : ∀ σ S, target [4, 5] true (row p) σ S = some ((σ.set 4 (some (.str p.1))).set 5 (some (.str p.2))) := fun _ _ => rfl
      unfold compF
      rw [tg]
      simp only [x_non, x_bl, x_int, x_str, x_var, x_glo, x_bin, x_neg, x_not, x_bop, x_bop1, x_and, x_or, x_ite, x_cmp, x_chain, x_tup, x_lst, x_idx, x_slc, x_call, x_callk, x_blt, x_isi, x_mth, x_nil, x_cons, x_o0, x_o1, x_c0, x_c1, x_comp, x_val, x_rng, s_set, s_sets, s_par, s_aug, s_seti, s_expr, s_ret, s_retn, s_if, s_forF, s_whl, s_pass, s_brk, s_cont, s_nil, s_one, s_cons, o_add, o_sub, o_mul, o_fdiv, o_mod, o_pow, o_cat, o_catT, o_catL, o_mulT, a_add, a_sub, a_cat, a_catL, c_lt, c_le, c_gt, c_ge, c_eqI, c_neI, c_eqS, c_neS, c_in, c_nin, c_isN, c_isnN, t_bl, t_int, t_str, t_tup, t_non, t_ref, i_str, i_tup, i_ref, l_str, l_tup, l_ref, b_lenS, b_lenT, b_lenR, b_abs, b_max, b_min, b_int, b_intB, b_repr, b_listT, b_listR, b_tupT, b_tupR, w_tup, w_str, w_ref, g_one, m_app, m_pop, rs_strip, rs_lower, rs_upper, rs_split, rs_partition, rs_join, rs_find, rs_count, f_int, retR_n, retR_r, retR_x, slotR_ok, negD_i, intO_i, rngR_1, rngR_2, parS_2, parS_3, ifR_t, ifR_f, ifS_t, ifS_f, R.bind_ok, R.bind_exc, R.at_ok, R.at_exc, R.opt_some, RS.opt_some, R.req_true, RS.seq_next, RS.seq_ret, RS.seq_brk, RS.seq_cont, RS.seq_exc, List.getElem?_cons_zero, List.getElem?_cons_succ, List.set_cons_zero, List.set_cons_succ, List.map_cons, List.map_nil, List.cons_append, List.nil_append, List.replicate, List.length_cons, List.length_nil, Option.map_some, Option.bind_some, Nat.reduceAdd, Nat.reduceSub, Nat.zero_add, eq_self, wipe, m_lower, hl]
      by_cases h : p.1 = low nm
      · have h' : p.1 = List.map PyProof.Rows.lo1 nm := h
        simp only [h', decide_true, x_non, x_bl, x_int, x_str, x_var, x_glo, x_bin, x_neg, x_not, x_bop, x_bop1, x_and, x_or, x_ite, x_cmp, x_chain, x_tup, x_lst, x_idx, x_slc, x_call, x_callk, x_blt, x_isi, x_mth, x_nil, x_cons, x_o0, x_o1, x_c0, x_c1, x_comp, x_val, x_rng, s_set, s_sets, s_par, s_aug, s_seti, s_expr, s_ret, s_retn, s_if, s_forF, s_whl, s_pass, s_brk, s_cont, s_nil, s_one, s_cons, o_add, o_sub, o_mul, o_fdiv, o_mod, o_pow, o_cat, o_catT, o_catL, o_mulT, a_add, a_sub, a_cat, a_catL, c_lt, c_le, c_gt, c_ge, c_eqI, c_neI, c_eqS, c_neS, c_in, c_nin, c_isN, c_isnN, t_bl, t_int, t_str, t_tup, t_non, t_ref, i_str, i_tup, i_ref, l_str, l_tup, l_ref, b_lenS, b_lenT, b_lenR, b_abs, b_max, b_min, b_int, b_intB, b_repr, b_listT, b_listR, b_tupT, b_tupR, w_tup, w_str, w_ref, g_one, m_app, m_pop, rs_strip, rs_lower, rs_upper, rs_split, rs_partition, rs_join, rs_find, rs_count, f_int, retR_n, retR_r, retR_x, slotR_ok, negD_i, intO_i, rngR_1, rngR_2, parS_2, parS_3, ifR_t, ifR_f, ifS_t, ifS_f, R.bind_ok, R.bind_exc, R.at_ok, R.at_exc, R.opt_some, RS.opt_some, R.req_true, RS.seq_next, RS.seq_ret, RS.seq_brk, RS.seq_cont, RS.seq_exc, List.getElem?_cons_zero, List.getElem?_cons_succ, List.set_cons_zero, List.set_cons_succ, List.map_cons, List.map_nil, List.cons_append, List.nil_append, List.replicate, List.length_cons, List.length_nil, Option.map_some, Option.bind_some, Nat.reduceAdd, Nat.reduceSub, Nat.zero_add, eq_self, selF, row, low, if_true]
      · have h' : ¬ p.1 = List.map PyProof.Rows.lo1 nm := h
        simp only [h', decide_false, x_non, x_bl, x_int, x_str, x_var, x_glo, x_bin, x_neg, x_not, x_bop, x_bop1, x_and, x_or, x_ite, x_cmp, x_chain, x_tup, x_lst, x_idx, x_slc, x_call, x_callk, x_blt, x_isi, x_mth, x_nil, x_cons, x_o0, x_o1, x_c0, x_c1, x_comp, x_val, x_rng, s_set, s_sets, s_par, s_aug, s_seti, s_expr, s_ret, s_retn, s_if, s_forF, s_whl, s_pass, s_brk, s_cont, s_nil, s_one, s_cons, o_add, o_sub, o_mul, o_fdiv, o_mod, o_pow, o_cat, o_catT, o_catL, o_mulT, a_add, a_sub, a_cat, a_catL, c_lt, c_le, c_gt, c_ge, c_eqI, c_neI, c_eqS, c_neS, c_in, c_nin, c_isN, c_isnN, t_bl, t_int, t_str, t_tup, t_non, t_ref, i_str, i_tup, i_ref, l_str, l_tup, l_ref, b_lenS, b_lenT, b_lenR, b_abs, b_max, b_min, b_int, b_intB, b_repr, b_listT, b_listR, b_tupT, b_tupR, w_tup, w_str, w_ref, g_one, m_app, m_pop, rs_strip, rs_lower, rs_upper, rs_split, rs_partition, rs_join, rs_find, rs_count, f_int, retR_n, retR_r, retR_x, slotR_ok, negD_i, intO_i, rngR_1, rngR_2, parS_2, parS_3, ifR_t, ifR_f, ifS_t, ifS_f, R.bind_ok, R.bind_exc, R.at_ok, R.at_exc, R.opt_some, RS.opt_some, R.req_true, RS.seq_next, RS.seq_ret, RS.seq_brk, RS.seq_cont, RS.seq_exc, List.getElem?_cons_zero, List.getElem?_cons_succ, List.set_cons_zero, List.set_cons_succ, List.map_cons, List.map_nil, List.cons_append, List.nil_append, List.replicate, List.length_cons, List.length_nil, Option.map_some, Option.bind_some, Nat.reduceAdd, Nat.reduceSub, Nat.zero_add, eq_self, selF, row, low, if_false]) (by rw [List.length_map]; have := hr.1; omega) (by rw [List.length_map]; have := hr.1; omega)
  rw [sel_map] at e1
  have hj : (TL.joinL [44] (vals rows (low nm))).length ≤ 101000 := by
    have a := join_len (vals rows (low nm))
    have b := sum_le v2
    omega
  have hc := spl_count (TL.joinL [44] (vals rows (low nm))) []
  have hs := spl_sum (TL.joinL [44] (vals rows (low nm))) []
  rw [run_ok (F := f0) rfl rfl]
  simp only [f0, s0_0, s0_1, s0_2, x_non, x_bl, x_int, x_str, x_var, x_glo, x_bin, x_neg, x_not, x_bop, x_bop1, x_and, x_or, x_ite, x_cmp, x_chain, x_tup, x_lst, x_idx, x_slc, x_call, x_callk, x_blt, x_isi, x_mth, x_nil, x_cons, x_o0, x_o1, x_c0, x_c1, x_comp, x_val, x_rng, s_set, s_sets, s_par, s_aug, s_seti, s_expr, s_ret, s_retn, s_if, s_forF, s_whl, s_pass, s_brk, s_cont, s_nil, s_one, s_cons, o_add, o_sub, o_mul, o_fdiv, o_mod, o_pow, o_cat, o_catT, o_catL, o_mulT, a_add, a_sub, a_cat, a_catL, c_lt, c_le, c_gt, c_ge, c_eqI, c_neI, c_eqS, c_neS, c_in, c_nin, c_isN, c_isnN, t_bl, t_int, t_str, t_tup, t_non, t_ref, i_str, i_tup, i_ref, l_str, l_tup, l_ref, b_lenS, b_lenT, b_lenR, b_abs, b_max, b_min, b_int, b_intB, b_repr, b_listT, b_listR, b_tupT, b_tupR, w_tup, w_str, w_ref, g_one, m_app, m_pop, rs_strip, rs_lower, rs_upper, rs_split, rs_partition, rs_join, rs_find, rs_count, f_int, retR_n, retR_r, retR_x, slotR_ok, negD_i, intO_i, rngR_1, rngR_2, parS_2, parS_3, ifR_t, ifR_f, ifS_t, ifS_f, R.bind_ok, R.bind_exc, R.at_ok, R.at_exc, R.opt_some, RS.opt_some, R.req_true, RS.seq_next, RS.seq_ret, RS.seq_brk, RS.seq_cont, RS.seq_exc, List.getElem?_cons_zero, List.getElem?_cons_succ, List.set_cons_zero, List.set_cons_succ, List.map_cons, List.map_nil, List.cons_append, List.nil_append, List.replicate, List.length_cons, List.length_nil, Option.map_some, Option.bind_some, Nat.reduceAdd, Nat.reduceSub, Nat.zero_add, eq_self, e1]
  generalize hvs : vals rows (low nm) = vs at *
  have k1 := Kp.new S [Ob.lst (vs.map .str)]
  have q1 : getQ (S ++ [Ob.lst (vs.map .str)]) S.length = some (vs.map .str) := getQ_new
  generalize hS1 : S ++ [Ob.lst (vs.map .str)] = S1 at *
  have r1 : ((vs.map List.length).sum + vs.length * [44].length ≤ LIM) = True := eq_true (by
    have b := sum_le v2
    simp
    omega)
  have jn := m_join (s := [44]) q1

  rw [jn]
  rw [R.req_of (of_eq_true r1)]
  simp only [R.bind_ok, x_non, x_bl, x_int, x_str, x_var, x_glo, x_bin, x_neg, x_not, x_bop, x_bop1, x_and, x_or, x_ite, x_cmp, x_chain, x_tup, x_lst, x_idx, x_slc, x_call, x_callk, x_blt, x_isi, x_mth, x_nil, x_cons, x_o0, x_o1, x_c0, x_c1, x_comp, x_val, x_rng, s_set, s_sets, s_par, s_aug, s_seti, s_expr, s_ret, s_retn, s_if, s_forF, s_whl, s_pass, s_brk, s_cont, s_nil, s_one, s_cons, o_add, o_sub, o_mul, o_fdiv, o_mod, o_pow, o_cat, o_catT, o_catL, o_mulT, a_add, a_sub, a_cat, a_catL, c_lt, c_le, c_gt, c_ge, c_eqI, c_neI, c_eqS, c_neS, c_in, c_nin, c_isN, c_isnN, t_bl, t_int, t_str, t_tup, t_non, t_ref, i_str, i_tup, i_ref, l_str, l_tup, l_ref, b_lenS, b_lenT, b_lenR, b_abs, b_max, b_min, b_int, b_intB, b_repr, b_listT, b_listR, b_tupT, b_tupR, w_tup, w_str, w_ref, g_one, m_app, m_pop, rs_strip, rs_lower, rs_upper, rs_split, rs_partition, rs_join, rs_find, rs_count, f_int, retR_n, retR_r, retR_x, slotR_ok, negD_i, intO_i, rngR_1, rngR_2, parS_2, parS_3, ifR_t, ifR_f, ifS_t, ifS_f, R.bind_ok, R.bind_exc, R.at_ok, R.at_exc, R.opt_some, RS.opt_some, R.req_true, RS.seq_next, RS.seq_ret, RS.seq_brk, RS.seq_cont, RS.seq_exc, List.getElem?_cons_zero, List.getElem?_cons_succ, List.set_cons_zero, List.set_cons_succ, List.map_cons, List.map_nil, List.cons_append, List.nil_append, List.replicate, List.length_cons, List.length_nil, Option.map_some, Option.bind_some, Nat.reduceAdd, Nat.reduceSub, Nat.zero_add, eq_self]
  generalize hJ : TL.joinL [44] vs = J at *
  have r2 : (([44] : Tx) ≠ [] ∧ J.length + 2 ≤ LIM) = True := eq_true ⟨by simp, by omega⟩
  have k2 := Kp.new S1 [Ob.lst ((TL.spl [44] 0 [] J).map .str)]
  have q2 : getQ (S1 ++ [Ob.lst ((TL.spl [44] 0 [] J).map .str)]) S1.length = some ((TL.spl [44] 0 [] J).map .str) := getQ_new
  simp only [m_split]
  rw [R.req_of (of_eq_true r2)]
  generalize hS2 : S1 ++ [Ob.lst ((TL.spl [44] 0 [] J).map .str)] = S2 at *
  simp only [x_non, x_bl, x_int, x_str, x_var, x_glo, x_bin, x_neg, x_not, x_bop, x_bop1, x_and, x_or, x_ite, x_cmp, x_chain, x_tup, x_lst, x_idx, x_slc, x_call, x_callk, x_blt, x_isi, x_mth, x_nil, x_cons, x_o0, x_o1, x_c0, x_c1, x_comp, x_val, x_rng, s_set, s_sets, s_par, s_aug, s_seti, s_expr, s_ret, s_retn, s_if, s_forF, s_whl, s_pass, s_brk, s_cont, s_nil, s_one, s_cons, o_add, o_sub, o_mul, o_fdiv, o_mod, o_pow, o_cat, o_catT, o_catL, o_mulT, a_add, a_sub, a_cat, a_catL, c_lt, c_le, c_gt, c_ge, c_eqI, c_neI, c_eqS, c_neS, c_in, c_nin, c_isN, c_isnN, t_bl, t_int, t_str, t_tup, t_non, t_ref, i_str, i_tup, i_ref, l_str, l_tup, l_ref, b_lenS, b_lenT, b_lenR, b_abs, b_max, b_min, b_int, b_intB, b_repr, b_listT, b_listR, b_tupT, b_tupR, w_tup, w_str, w_ref, g_one, m_app, m_pop, rs_strip, rs_lower, rs_upper, rs_split, rs_partition, rs_join, rs_find, rs_count, f_int, retR_n, retR_r, retR_x, slotR_ok, negD_i, intO_i, rngR_1, rngR_2, parS_2, parS_3, ifR_t, ifR_f, ifS_t, ifS_f, R.bind_ok, R.bind_exc, R.at_ok, R.at_exc, R.opt_some, RS.opt_some, R.req_true, RS.seq_next, RS.seq_ret, RS.seq_brk, RS.seq_cont, RS.seq_exc, List.getElem?_cons_zero, List.getElem?_cons_succ, List.set_cons_zero, List.set_cons_succ, List.map_cons, List.map_nil, List.cons_append, List.nil_append, List.replicate, List.length_cons, List.length_nil, Option.map_some, Option.bind_some, Nat.reduceAdd, Nat.reduceSub, Nat.zero_add, eq_self, q2]
  have e2 := comp_pure (f := compF ⟨run pr cs n, cs⟩ (.mth .lower (.mth .strip (.var 6) (.cons (.str [32]) .nil)) .nil) [6] false .nil [("part", 6)] [some (.tup (rows.map row)), some (.str nm), some (.ref S.length), none, none, none, none]) (w := .lst S1.length) (xs := (TL.spl [44] 0 [] J).map .str) (S := S2) mapF (at_lst q2) (by
      intro x hx
      obtain ⟨p, hp, rfl⟩ := List.mem_map.mp hx
      have hpl := hs p hp
      have hl : ((stripS p [32]).length ≤ 5592405) = True := eq_true (by
        have := stripS_le p [32]
        simp at hpl
        omega)
      rw [compF_1]
      simp only [x_non, x_bl, x_int, x_str, x_var, x_glo, x_bin, x_neg, x_not, x_bop, x_bop1, x_and, x_or, x_ite, x_cmp, x_chain, x_tup, x_lst, x_idx, x_slc, x_call, x_callk, x_blt, x_isi, x_mth, x_nil, x_cons, x_o0, x_o1, x_c0, x_c1, x_comp, x_val, x_rng, s_set, s_sets, s_par, s_aug, s_seti, s_expr, s_ret, s_retn, s_if, s_forF, s_whl, s_pass, s_brk, s_cont, s_nil, s_one, s_cons, o_add, o_sub, o_mul, o_fdiv, o_mod, o_pow, o_cat, o_catT, o_catL, o_mulT, a_add, a_sub, a_cat, a_catL, c_lt, c_le, c_gt, c_ge, c_eqI, c_neI, c_eqS, c_neS, c_in, c_nin, c_isN, c_isnN, t_bl, t_int, t_str, t_tup, t_non, t_ref, i_str, i_tup, i_ref, l_str, l_tup, l_ref, b_lenS, b_lenT, b_lenR, b_abs, b_max, b_min, b_int, b_intB, b_repr, b_listT, b_listR, b_tupT, b_tupR, w_tup, w_str, w_ref, g_one, m_app, m_pop, rs_strip, rs_lower, rs_upper, rs_split, rs_partition, rs_join, rs_find, rs_count, f_int, retR_n, retR_r, retR_x, slotR_ok, negD_i, intO_i, rngR_1, rngR_2, parS_2, parS_3, ifR_t, ifR_f, ifS_t, ifS_f, R.bind_ok, R.bind_exc, R.at_ok, R.at_exc, R.opt_some, RS.opt_some, R.req_true, RS.seq_next, RS.seq_ret, RS.seq_brk, RS.seq_cont, RS.seq_exc, List.getElem?_cons_zero, List.getElem?_cons_succ, List.set_cons_zero, List.set_cons_succ, List.map_cons, List.map_nil, List.cons_append, List.nil_append, List.replicate, List.length_cons, List.length_nil, Option.map_some, Option.bind_some, Nat.reduceAdd, Nat.reduceSub, Nat.zero_add, eq_self, wipe, m_strip, m_lower, hl]
      rfl) (by rw [List.length_map]; omega) (by rw [List.length_map]; omega)
  rw [map_map] at e2
  simp only [e2, x_non, x_bl, x_int, x_str, x_var, x_glo, x_bin, x_neg, x_not, x_bop, x_bop1, x_and, x_or, x_ite, x_cmp, x_chain, x_tup, x_lst, x_idx, x_slc, x_call, x_callk, x_blt, x_isi, x_mth, x_nil, x_cons, x_o0, x_o1, x_c0, x_c1, x_comp, x_val, x_rng, s_set, s_sets, s_par, s_aug, s_seti, s_expr, s_ret, s_retn, s_if, s_forF, s_whl, s_pass, s_brk, s_cont, s_nil, s_one, s_cons, o_add, o_sub, o_mul, o_fdiv, o_mod, o_pow, o_cat, o_catT, o_catL, o_mulT, a_add, a_sub, a_cat, a_catL, c_lt, c_le, c_gt, c_ge, c_eqI, c_neI, c_eqS, c_neS, c_in, c_nin, c_isN, c_isnN, t_bl, t_int, t_str, t_tup, t_non, t_ref, i_str, i_tup, i_ref, l_str, l_tup, l_ref, b_lenS, b_lenT, b_lenR, b_abs, b_max, b_min, b_int, b_intB, b_repr, b_listT, b_listR, b_tupT, b_tupR, w_tup, w_str, w_ref, g_one, m_app, m_pop, rs_strip, rs_lower, rs_upper, rs_split, rs_partition, rs_join, rs_find, rs_count, f_int, retR_n, retR_r, retR_x, slotR_ok, negD_i, intO_i, rngR_1, rngR_2, parS_2, parS_3, ifR_t, ifR_f, ifS_t, ifS_f, R.bind_ok, R.bind_exc, R.at_ok, R.at_exc, R.opt_some, RS.opt_some, R.req_true, RS.seq_next, RS.seq_ret, RS.seq_brk, RS.seq_cont, RS.seq_exc, List.getElem?_cons_zero, List.getElem?_cons_succ, List.set_cons_zero, List.set_cons_succ, List.map_cons, List.map_nil, List.cons_append, List.nil_append, List.replicate, List.length_cons, List.length_nil, Option.map_some, Option.bind_some, Nat.reduceAdd, Nat.reduceSub, Nat.zero_add, eq_self]
  have k3 := Kp.new S2 [Ob.lst (((TL.spl [44] 0 [] J).map fun p => low (bare p)).map .str)]
  have q3 : getQ (S2 ++ [Ob.lst (((TL.spl [44] 0 [] J).map fun p => low (bare p)).map .str)]) S2.length = some (((TL.spl [44] 0 [] J).map fun p => low (bare p)).map .str) := getQ_new
  generalize hS3 : S2 ++ [Ob.lst (((TL.spl [44] 0 [] J).map fun p => low (bare p)).map .str)] = S3 at *
  simp only [x_non, x_bl, x_int, x_str, x_var, x_glo, x_bin, x_neg, x_not, x_bop, x_bop1, x_and, x_or, x_ite, x_cmp, x_chain, x_tup, x_lst, x_idx, x_slc, x_call, x_callk, x_blt, x_isi, x_mth, x_nil, x_cons, x_o0, x_o1, x_c0, x_c1, x_comp, x_val, x_rng, s_set, s_sets, s_par, s_aug, s_seti, s_expr, s_ret, s_retn, s_if, s_forF, s_whl, s_pass, s_brk, s_cont, s_nil, s_one, s_cons, o_add, o_sub, o_mul, o_fdiv, o_mod, o_pow, o_cat, o_catT, o_catL, o_mulT, a_add, a_sub, a_cat, a_catL, c_lt, c_le, c_gt, c_ge, c_eqI, c_neI, c_eqS, c_neS, c_in, c_nin, c_isN, c_isnN, t_bl, t_int, t_str, t_tup, t_non, t_ref, i_str, i_tup, i_ref, l_str, l_tup, l_ref, b_lenS, b_lenT, b_lenR, b_abs, b_max, b_min, b_int, b_intB, b_repr, b_listT, b_listR, b_tupT, b_tupR, w_tup, w_str, w_ref, g_one, m_app, m_pop, rs_strip, rs_lower, rs_upper, rs_split, rs_partition, rs_join, rs_find, rs_count, f_int, retR_n, retR_r, retR_x, slotR_ok, negD_i, intO_i, rngR_1, rngR_2, parS_2, parS_3, ifR_t, ifR_f, ifS_t, ifS_f, R.bind_ok, R.bind_exc, R.at_ok, R.at_exc, R.opt_some, RS.opt_some, R.req_true, RS.seq_next, RS.seq_ret, RS.seq_brk, RS.seq_cont, RS.seq_exc, List.getElem?_cons_zero, List.getElem?_cons_succ, List.set_cons_zero, List.set_cons_succ, List.map_cons, List.map_nil, List.cons_append, List.nil_append, List.replicate, List.length_cons, List.length_nil, Option.map_some, Option.bind_some, Nat.reduceAdd, Nat.reduceSub, Nat.zero_add, eq_self, q3]
  have e3 := comp_pure (f := compF ⟨run pr cs n, cs⟩ (.var 6) [6] false (.cons (.cmp .ne (.var 6) (.str [])) .nil) [("part", 6)] [some (.tup (rows.map row)), some (.str nm), some (.ref S.length), some (.ref S2.length), none, none, none]) (w := .lst S2.length) (xs := ((TL.spl [44] 0 [] J).map fun p => low (bare p)).map .str) (S := S3) neF (at_lst q3) (by
      intro x hx
      obtain ⟨p, hp, rfl⟩ := List.mem_map.mp hx
      rw [compF_c]
      simp only [x_non, x_bl, x_int, x_str, x_var, x_glo, x_bin, x_neg, x_not, x_bop, x_bop1, x_and, x_or, x_ite, x_cmp, x_chain, x_tup, x_lst, x_idx, x_slc, x_call, x_callk, x_blt, x_isi, x_mth, x_nil, x_cons, x_o0, x_o1, x_c0, x_c1, x_comp, x_val, x_rng, s_set, s_sets, s_par, s_aug, s_seti, s_expr, s_ret, s_retn, s_if, s_forF, s_whl, s_pass, s_brk, s_cont, s_nil, s_one, s_cons, o_add, o_sub, o_mul, o_fdiv, o_mod, o_pow, o_cat, o_catT, o_catL, o_mulT, a_add, a_sub, a_cat, a_catL, c_lt, c_le, c_gt, c_ge, c_eqI, c_neI, c_eqS, c_neS, c_in, c_nin, c_isN, c_isnN, t_bl, t_int, t_str, t_tup, t_non, t_ref, i_str, i_tup, i_ref, l_str, l_tup, l_ref, b_lenS, b_lenT, b_lenR, b_abs, b_max, b_min, b_int, b_intB, b_repr, b_listT, b_listR, b_tupT, b_tupR, w_tup, w_str, w_ref, g_one, m_app, m_pop, rs_strip, rs_lower, rs_upper, rs_split, rs_partition, rs_join, rs_find, rs_count, f_int, retR_n, retR_r, retR_x, slotR_ok, negD_i, intO_i, rngR_1, rngR_2, parS_2, parS_3, ifR_t, ifR_f, ifS_t, ifS_f, R.bind_ok, R.bind_exc, R.at_ok, R.at_exc, R.opt_some, RS.opt_some, R.req_true, RS.seq_next, RS.seq_ret, RS.seq_brk, RS.seq_cont, RS.seq_exc, List.getElem?_cons_zero, List.getElem?_cons_succ, List.set_cons_zero, List.set_cons_succ, List.map_cons, List.map_nil, List.cons_append, List.nil_append, List.replicate, List.length_cons, List.length_nil, Option.map_some, Option.bind_some, Nat.reduceAdd, Nat.reduceSub, Nat.zero_add, eq_self, wipe]
      by_cases h : p = []
      · simp only [h, decide_true, Bool.not_true, x_non, x_bl, x_int, x_str, x_var, x_glo, x_bin, x_neg, x_not, x_bop, x_bop1, x_and, x_or, x_ite, x_cmp, x_chain, x_tup, x_lst, x_idx, x_slc, x_call, x_callk, x_blt, x_isi, x_mth, x_nil, x_cons, x_o0, x_o1, x_c0, x_c1, x_comp, x_val, x_rng, s_set, s_sets, s_par, s_aug, s_seti, s_expr, s_ret, s_retn, s_if, s_forF, s_whl, s_pass, s_brk, s_cont, s_nil, s_one, s_cons, o_add, o_sub, o_mul, o_fdiv, o_mod, o_pow, o_cat, o_catT, o_catL, o_mulT, a_add, a_sub, a_cat, a_catL, c_lt, c_le, c_gt, c_ge, c_eqI, c_neI, c_eqS, c_neS, c_in, c_nin, c_isN, c_isnN, t_bl, t_int, t_str, t_tup, t_non, t_ref, i_str, i_tup, i_ref, l_str, l_tup, l_ref, b_lenS, b_lenT, b_lenR, b_abs, b_max, b_min, b_int, b_intB, b_repr, b_listT, b_listR, b_tupT, b_tupR, w_tup, w_str, w_ref, g_one, m_app, m_pop, rs_strip, rs_lower, rs_upper, rs_split, rs_partition, rs_join, rs_find, rs_count, f_int, retR_n, retR_r, retR_x, slotR_ok, negD_i, intO_i, rngR_1, rngR_2, parS_2, parS_3, ifR_t, ifR_f, ifS_t, ifS_f, R.bind_ok, R.bind_exc, R.at_ok, R.at_exc, R.opt_some, RS.opt_some, R.req_true, RS.seq_next, RS.seq_ret, RS.seq_brk, RS.seq_cont, RS.seq_exc, List.getElem?_cons_zero, List.getElem?_cons_succ, List.set_cons_zero, List.set_cons_succ, List.map_cons, List.map_nil, List.cons_append, List.nil_append, List.replicate, List.length_cons, List.length_nil, Option.map_some, Option.bind_some, Nat.reduceAdd, Nat.reduceSub, Nat.zero_add, eq_self, neF, if_true]
      · simp only [h, decide_false, Bool.not_false, x_non, x_bl, x_int, x_str, x_var, x_glo, x_bin, x_neg, x_not, x_bop, x_bop1, x_and, x_or, x_ite, x_cmp, x_chain, x_tup, x_lst, x_idx, x_slc, x_call, x_callk, x_blt, x_isi, x_mth, x_nil, x_cons, x_o0, x_o1, x_c0, x_c1, x_comp, x_val, x_rng, s_set, s_sets, s_par, s_aug, s_seti, s_expr, s_ret, s_retn, s_if, s_forF, s_whl, s_pass, s_brk, s_cont, s_nil, s_one, s_cons, o_add, o_sub, o_mul, o_fdiv, o_mod, o_pow, o_cat, o_catT, o_catL, o_mulT, a_add, a_sub, a_cat, a_catL, c_lt, c_le, c_gt, c_ge, c_eqI, c_neI, c_eqS, c_neS, c_in, c_nin, c_isN, c_isnN, t_bl, t_int, t_str, t_tup, t_non, t_ref, i_str, i_tup, i_ref, l_str, l_tup, l_ref, b_lenS, b_lenT, b_lenR, b_abs, b_max, b_min, b_int, b_intB, b_repr, b_listT, b_listR, b_tupT, b_tupR, w_tup, w_str, w_ref, g_one, m_app, m_pop, rs_strip, rs_lower, rs_upper, rs_split, rs_partition, rs_join, rs_find, rs_count, f_int, retR_n, retR_r, retR_x, slotR_ok, negD_i, intO_i, rngR_1, rngR_2, parS_2, parS_3, ifR_t, ifR_f, ifS_t, ifS_f, R.bind_ok, R.bind_exc, R.at_ok, R.at_exc, R.opt_some, RS.opt_some, R.req_true, RS.seq_next, RS.seq_ret, RS.seq_brk, RS.seq_cont, RS.seq_exc, List.getElem?_cons_zero, List.getElem?_cons_succ, List.set_cons_zero, List.set_cons_succ, List.map_cons, List.map_nil, List.cons_append, List.nil_append, List.replicate, List.length_cons, List.length_nil, Option.map_some, Option.bind_some, Nat.reduceAdd, Nat.reduceSub, Nat.zero_add, eq_self, neF, if_false]) (by rw [List.length_map, List.length_map]; omega) (by rw [List.length_map, List.length_map]; omega)
  rw [ne_map] at e3
  simp only [e3, x_non, x_bl, x_int, x_str, x_var, x_glo, x_bin, x_neg, x_not, x_bop, x_bop1, x_and, x_or, x_ite, x_cmp, x_chain, x_tup, x_lst, x_idx, x_slc, x_call, x_callk, x_blt, x_isi, x_mth, x_nil, x_cons, x_o0, x_o1, x_c0, x_c1, x_comp, x_val, x_rng, s_set, s_sets, s_par, s_aug, s_seti, s_expr, s_ret, s_retn, s_if, s_forF, s_whl, s_pass, s_brk, s_cont, s_nil, s_one, s_cons, o_add, o_sub, o_mul, o_fdiv, o_mod, o_pow, o_cat, o_catT, o_catL, o_mulT, a_add, a_sub, a_cat, a_catL, c_lt, c_le, c_gt, c_ge, c_eqI, c_neI, c_eqS, c_neS, c_in, c_nin, c_isN, c_isnN, t_bl, t_int, t_str, t_tup, t_non, t_ref, i_str, i_tup, i_ref, l_str, l_tup, l_ref, b_lenS, b_lenT, b_lenR, b_abs, b_max, b_min, b_int, b_intB, b_repr, b_listT, b_listR, b_tupT, b_tupR, w_tup, w_str, w_ref, g_one, m_app, m_pop, rs_strip, rs_lower, rs_upper, rs_split, rs_partition, rs_join, rs_find, rs_count, f_int, retR_n, retR_r, retR_x, slotR_ok, negD_i, intO_i, rngR_1, rngR_2, parS_2, parS_3, ifR_t, ifR_f, ifS_t, ifS_f, R.bind_ok, R.bind_exc, R.at_ok, R.at_exc, R.opt_some, RS.opt_some, R.req_true, RS.seq_next, RS.seq_ret, RS.seq_brk, RS.seq_cont, RS.seq_exc, List.getElem?_cons_zero, List.getElem?_cons_succ, List.set_cons_zero, List.set_cons_succ, List.map_cons, List.map_nil, List.cons_append, List.nil_append, List.replicate, List.length_cons, List.length_nil, Option.map_some, Option.bind_some, Nat.reduceAdd, Nat.reduceSub, Nat.zero_add, eq_self]
  have hit : ((TL.spl [44] 0 [] J).map fun p => low (bare p)).filter (fun p => decide (p ≠ [])) = items vs := by
    rw [← hJ]
    exact items_eq vs
  rw [hit]
  refine ⟨S3.length, _, rfl, ?_, ((((k1.trans k2).trans k3).trans (Kp.new S3 _))).mono (by simp), ?_⟩
  · exact Nat.le_trans (Nat.le_trans k1.le k2.le) k3.le
  · rw [List.getElem?_append_right (Nat.le_refl _)]
    simp
end K04

/-! part G3_K04 -/
namespace K04
open Cl
def found (rows : List (Tx × Tx)) (l : Tx) : List Tx := ((vals rows l).flatMap sp).map fun p => low (bare p)
theorem vals_snoc (rows : List (Tx × Tx)) (p : Tx × Tx) (l : Tx) : vals (rows ++ [p]) l = if p.1 = l then vals rows l ++ [p.2] else vals rows l := by
  unfold vals
  rw [List.filter_append, List.map_append]
  by_cases h : p.1 = l
  · simp [h]
  · simp [h]
theorem found_hit {rows : List (Tx × Tx)} {p : Tx × Tx} {l : Tx} (h : p.1 = l) : found (rows ++ [p]) l = found rows l ++ (sp p.2).map fun q => low (bare q) := by
  unfold found
  rw [vals_snoc, if_pos h, List.flatMap_append, List.map_append]
  simp
theorem found_miss {rows : List (Tx × Tx)} {p : Tx × Tx} {l : Tx} (h : p.1 ≠ l) : found (rows ++ [p]) l = found rows l := by
  unfold found
  rw [vals_snoc, if_neg h]
theorem found_len : ∀ {vs : List Tx}, (∀ v ∈ vs, v.length ≤ 1000) → (vs.flatMap sp).length ≤ 1001 * vs.length
  | [], _ => by simp
  | v :: vs, h => by
    have a := found_len (vs := vs) fun w hw => h w (List.mem_cons_of_mem _ hw)
    have b := h v List.mem_cons_self
    have c := spl_count v []
    rw [List.flatMap_cons, List.length_append, List.length_cons]
    have d : (sp v).length ≤ 1001 := Nat.le_trans c (by omega)
    omega
/-- a turn of the law's own items -/
theorem turn_5 {n g fr : Nat} {S : Sto} {nm : Tx} {p : Tx × Tx} {fs : List Tx} {y3 y4 y5 : Option D} (hn : nm.length ≤ 1000) (hp : p.2.length ≤ 1000) (hf : S[fr]? = some (.lst (fs.map .str))) (hl : fs.length ≤ 200000) :
    ∃ fr' S' z3 z4, forF ⟨run pr cs (n + 1), cs⟩ [3, 4] true b5_0 (row p) [some (.ref g), some (.str nm), some (.ref fr), y3, y4, y5] S = .next [some (.ref g), some (.str nm), some (.ref fr'), z3, z4, y5] S' ∧ Kp S S' [] ∧
      S'[fr']? = some (.lst ((if p.1 = low nm then fs ++ (sp p.2).map fun q => low (bare q) else fs).map .str)) := by
  have hL : LIM = 16777216 := rfl
  have hF : FUEL = 67108864 := by decide
  have tg : ∀ σ S, target [3, 4] true (row p) σ S = some ((σ.set 3 (some (.str p.1))).set 4 (some (.str p.2))) := fun _ _ => rfl
  have hl1 : (nm.length ≤ 5592405) = True := eq_true (by omega)
  unfold forF
  rw [tg]
  simp only [b5_0, x_non, x_bl, x_int, x_str, x_var, x_glo, x_bin, x_neg, x_not, x_bop, x_bop1, x_and, x_or, x_ite, x_cmp, x_chain, x_tup, x_lst, x_idx, x_slc, x_call, x_callk, x_blt, x_isi, x_mth, x_nil, x_cons, x_o0, x_o1, x_c0, x_c1, x_comp, x_val, x_rng, s_set, s_sets, s_par, s_aug, s_seti, s_expr, s_ret, s_retn, s_if, s_forF, s_whl, s_pass, s_brk, s_cont, s_nil, s_one, s_cons, o_add, o_sub, o_mul, o_fdiv, o_mod, o_pow, o_cat, o_catT, o_catL, o_mulT, a_add, a_sub, a_cat, a_catL, c_lt, c_le, c_gt, c_ge, c_eqI, c_neI, c_eqS, c_neS, c_in, c_nin, c_isN, c_isnN, t_bl, t_int, t_str, t_tup, t_non, t_ref, i_str, i_tup, i_ref, l_str, l_tup, l_ref, b_lenS, b_lenT, b_lenR, b_abs, b_max, b_min, b_int, b_intB, b_repr, b_listT, b_listR, b_tupT, b_tupR, w_tup, w_str, w_ref, g_one, m_app, m_pop, rs_strip, rs_lower, rs_upper, rs_split, rs_partition, rs_join, rs_find, rs_count, f_int, retR_n, retR_r, retR_x, slotR_ok, negD_i, intO_i, rngR_1, rngR_2, parS_2, parS_3, ifR_t, ifR_f, ifS_t, ifS_f, R.bind_ok, R.bind_exc, R.at_ok, R.at_exc, R.opt_some, RS.opt_some, R.req_true, RS.seq_next, RS.seq_ret, RS.seq_brk, RS.seq_cont, RS.seq_exc, List.getElem?_cons_zero, List.getElem?_cons_succ, List.set_cons_zero, List.set_cons_succ, List.map_cons, List.map_nil, List.cons_append, List.nil_append, List.replicate, List.length_cons, List.length_nil, Option.map_some, Option.bind_some, Nat.reduceAdd, Nat.reduceSub, Nat.zero_add, eq_self, m_lower, hl1]
  by_cases h : p.1 = low nm
  · have h' : p.1 = List.map PyProof.Rows.lo1 nm := h
    have r2 : (([44] : Tx) ≠ [] ∧ p.2.length + 2 ≤ LIM) := ⟨by simp, by omega⟩
    have hc := spl_count p.2 []
    have hs := spl_sum p.2 []
    have k1 := Kp.new S [Ob.lst ((sp p.2).map .str)]
    have q1 : getQ (S ++ [Ob.lst ((sp p.2).map .str)]) S.length = some ((sp p.2).map .str) := getQ_new
    have e2 := comp_pure (f := compF ⟨run pr cs (n + 1), cs⟩ (.mth .lower (.call 4 (.cons (.var 5) .nil)) .nil) [5] false .nil [("_law_part", 5)] [some (.ref g), some (.str nm), some (.ref fr), some (.str p.1), some (.str p.2), y5]) (w := .lst S.length) (xs := (sp p.2).map .str) (S := S ++ [Ob.lst ((sp p.2).map .str)]) mapF (at_lst q1) (by
        intro x hx
        obtain ⟨q, hq, rfl⟩ := List.mem_map.mp hx
        have hpl := hs q hq
        have hql : q.length ≤ 1000 := by simp at hpl; omega
        have hl : ((bare q).length ≤ 5592405) = True := eq_true (by
          have := stripS_le q [32]
          unfold bare
          omega)
        have er := bare_run (n := n) (S := S ++ [Ob.lst ((sp p.2).map .str)]) (s := q) (by omega)
        rw [compF_1]
        simp only [x_non, x_bl, x_int, x_str, x_var, x_glo, x_bin, x_neg, x_not, x_bop, x_bop1, x_and, x_or, x_ite, x_cmp, x_chain, x_tup, x_lst, x_idx, x_slc, x_call, x_callk, x_blt, x_isi, x_mth, x_nil, x_cons, x_o0, x_o1, x_c0, x_c1, x_comp, x_val, x_rng, s_set, s_sets, s_par, s_aug, s_seti, s_expr, s_ret, s_retn, s_if, s_forF, s_whl, s_pass, s_brk, s_cont, s_nil, s_one, s_cons, o_add, o_sub, o_mul, o_fdiv, o_mod, o_pow, o_cat, o_catT, o_catL, o_mulT, a_add, a_sub, a_cat, a_catL, c_lt, c_le, c_gt, c_ge, c_eqI, c_neI, c_eqS, c_neS, c_in, c_nin, c_isN, c_isnN, t_bl, t_int, t_str, t_tup, t_non, t_ref, i_str, i_tup, i_ref, l_str, l_tup, l_ref, b_lenS, b_lenT, b_lenR, b_abs, b_max, b_min, b_int, b_intB, b_repr, b_listT, b_listR, b_tupT, b_tupR, w_tup, w_str, w_ref, g_one, m_app, m_pop, rs_strip, rs_lower, rs_upper, rs_split, rs_partition, rs_join, rs_find, rs_count, f_int, retR_n, retR_r, retR_x, slotR_ok, negD_i, intO_i, rngR_1, rngR_2, parS_2, parS_3, ifR_t, ifR_f, ifS_t, ifS_f, R.bind_ok, R.bind_exc, R.at_ok, R.at_exc, R.opt_some, RS.opt_some, R.req_true, RS.seq_next, RS.seq_ret, RS.seq_brk, RS.seq_cont, RS.seq_exc, List.getElem?_cons_zero, List.getElem?_cons_succ, List.set_cons_zero, List.set_cons_succ, List.map_cons, List.map_nil, List.cons_append, List.nil_append, List.replicate, List.length_cons, List.length_nil, Option.map_some, Option.bind_some, Nat.reduceAdd, Nat.reduceSub, Nat.zero_add, eq_self, wipe, er, m_lower, hl]
        rfl) (by rw [List.length_map]; unfold sp; omega) (by rw [List.length_map]; unfold sp; omega)
    rw [map_map] at e2
    have d1 : ((sp p.2).map fun q => low (bare q)).length ≤ 1001 := by rw [List.length_map]; unfold sp; omega
    simp only [← h', decide_true, x_non, x_bl, x_int, x_str, x_var, x_glo, x_bin, x_neg, x_not, x_bop, x_bop1, x_and, x_or, x_ite, x_cmp, x_chain, x_tup, x_lst, x_idx, x_slc, x_call, x_callk, x_blt, x_isi, x_mth, x_nil, x_cons, x_o0, x_o1, x_c0, x_c1, x_comp, x_val, x_rng, s_set, s_sets, s_par, s_aug, s_seti, s_expr, s_ret, s_retn, s_if, s_forF, s_whl, s_pass, s_brk, s_cont, s_nil, s_one, s_cons, o_add, o_sub, o_mul, o_fdiv, o_mod, o_pow, o_cat, o_catT, o_catL, o_mulT, a_add, a_sub, a_cat, a_catL, c_lt, c_le, c_gt, c_ge, c_eqI, c_neI, c_eqS, c_neS, c_in, c_nin, c_isN, c_isnN, t_bl, t_int, t_str, t_tup, t_non, t_ref, i_str, i_tup, i_ref, l_str, l_tup, l_ref, b_lenS, b_lenT, b_lenR, b_abs, b_max, b_min, b_int, b_intB, b_repr, b_listT, b_listR, b_tupT, b_tupR, w_tup, w_str, w_ref, g_one, m_app, m_pop, rs_strip, rs_lower, rs_upper, rs_split, rs_partition, rs_join, rs_find, rs_count, f_int, retR_n, retR_r, retR_x, slotR_ok, negD_i, intO_i, rngR_1, rngR_2, parS_2, parS_3, ifR_t, ifR_f, ifS_t, ifS_f, R.bind_ok, R.bind_exc, R.at_ok, R.at_exc, R.opt_some, RS.opt_some, R.req_true, RS.seq_next, RS.seq_ret, RS.seq_brk, RS.seq_cont, RS.seq_exc, List.getElem?_cons_zero, List.getElem?_cons_succ, List.set_cons_zero, List.set_cons_succ, List.map_cons, List.map_nil, List.cons_append, List.nil_append, List.replicate, List.length_cons, List.length_nil, Option.map_some, Option.bind_some, Nat.reduceAdd, Nat.reduceSub, Nat.zero_add, eq_self, m_split]
    rw [R.req_of r2]
    show ∃ fr' S' z3 z4, _
    generalize hparts : ((sp p.2).map fun q => low (bare q)) = parts at e2 d1 ⊢
    generalize hS1 : S ++ [Ob.lst ((sp p.2).map .str)] = S1 at e2 k1 q1
    have hS1' : S ++ [Ob.lst ((TL.spl [44] 0 [] p.2).map .str)] = S1 := hS1
    simp only [hS1', x_non, x_bl, x_int, x_str, x_var, x_glo, x_bin, x_neg, x_not, x_bop, x_bop1, x_and, x_or, x_ite, x_cmp, x_chain, x_tup, x_lst, x_idx, x_slc, x_call, x_callk, x_blt, x_isi, x_mth, x_nil, x_cons, x_o0, x_o1, x_c0, x_c1, x_comp, x_val, x_rng, s_set, s_sets, s_par, s_aug, s_seti, s_expr, s_ret, s_retn, s_if, s_forF, s_whl, s_pass, s_brk, s_cont, s_nil, s_one, s_cons, o_add, o_sub, o_mul, o_fdiv, o_mod, o_pow, o_cat, o_catT, o_catL, o_mulT, a_add, a_sub, a_cat, a_catL, c_lt, c_le, c_gt, c_ge, c_eqI, c_neI, c_eqS, c_neS, c_in, c_nin, c_isN, c_isnN, t_bl, t_int, t_str, t_tup, t_non, t_ref, i_str, i_tup, i_ref, l_str, l_tup, l_ref, b_lenS, b_lenT, b_lenR, b_abs, b_max, b_min, b_int, b_intB, b_repr, b_listT, b_listR, b_tupT, b_tupR, w_tup, w_str, w_ref, g_one, m_app, m_pop, rs_strip, rs_lower, rs_upper, rs_split, rs_partition, rs_join, rs_find, rs_count, f_int, retR_n, retR_r, retR_x, slotR_ok, negD_i, intO_i, rngR_1, rngR_2, parS_2, parS_3, ifR_t, ifR_f, ifS_t, ifS_f, R.bind_ok, R.bind_exc, R.at_ok, R.at_exc, R.opt_some, RS.opt_some, R.req_true, RS.seq_next, RS.seq_ret, RS.seq_brk, RS.seq_cont, RS.seq_exc, List.getElem?_cons_zero, List.getElem?_cons_succ, List.set_cons_zero, List.set_cons_succ, List.map_cons, List.map_nil, List.cons_append, List.nil_append, List.replicate, List.length_cons, List.length_nil, Option.map_some, Option.bind_some, Nat.reduceAdd, Nat.reduceSub, Nat.zero_add, eq_self, q1, e2]
    have k2 := Kp.new S1 [Ob.lst (parts.map .str)]
    have l1 := getL_of (k2.get (k1.get hf (by simp)) (by simp))
    have l2 : getL (S1 ++ [Ob.lst (parts.map .str)]) S1.length = some (parts.map .str) := getL_new
    have r3 : (fs.map D.str).length + (parts.map D.str).length ≤ LIM := by rw [List.length_map, List.length_map]; omega
    simp only [l1, l2, x_non, x_bl, x_int, x_str, x_var, x_glo, x_bin, x_neg, x_not, x_bop, x_bop1, x_and, x_or, x_ite, x_cmp, x_chain, x_tup, x_lst, x_idx, x_slc, x_call, x_callk, x_blt, x_isi, x_mth, x_nil, x_cons, x_o0, x_o1, x_c0, x_c1, x_comp, x_val, x_rng, s_set, s_sets, s_par, s_aug, s_seti, s_expr, s_ret, s_retn, s_if, s_forF, s_whl, s_pass, s_brk, s_cont, s_nil, s_one, s_cons, o_add, o_sub, o_mul, o_fdiv, o_mod, o_pow, o_cat, o_catT, o_catL, o_mulT, a_add, a_sub, a_cat, a_catL, c_lt, c_le, c_gt, c_ge, c_eqI, c_neI, c_eqS, c_neS, c_in, c_nin, c_isN, c_isnN, t_bl, t_int, t_str, t_tup, t_non, t_ref, i_str, i_tup, i_ref, l_str, l_tup, l_ref, b_lenS, b_lenT, b_lenR, b_abs, b_max, b_min, b_int, b_intB, b_repr, b_listT, b_listR, b_tupT, b_tupR, w_tup, w_str, w_ref, g_one, m_app, m_pop, rs_strip, rs_lower, rs_upper, rs_split, rs_partition, rs_join, rs_find, rs_count, f_int, retR_n, retR_r, retR_x, slotR_ok, negD_i, intO_i, rngR_1, rngR_2, parS_2, parS_3, ifR_t, ifR_f, ifS_t, ifS_f, R.bind_ok, R.bind_exc, R.at_ok, R.at_exc, R.opt_some, RS.opt_some, R.req_true, RS.seq_next, RS.seq_ret, RS.seq_brk, RS.seq_cont, RS.seq_exc, List.getElem?_cons_zero, List.getElem?_cons_succ, List.set_cons_zero, List.set_cons_succ, List.map_cons, List.map_nil, List.cons_append, List.nil_append, List.replicate, List.length_cons, List.length_nil, Option.map_some, Option.bind_some, Nat.reduceAdd, Nat.reduceSub, Nat.zero_add, eq_self]
    rw [R.req_of r3]
    simp only [x_non, x_bl, x_int, x_str, x_var, x_glo, x_bin, x_neg, x_not, x_bop, x_bop1, x_and, x_or, x_ite, x_cmp, x_chain, x_tup, x_lst, x_idx, x_slc, x_call, x_callk, x_blt, x_isi, x_mth, x_nil, x_cons, x_o0, x_o1, x_c0, x_c1, x_comp, x_val, x_rng, s_set, s_sets, s_par, s_aug, s_seti, s_expr, s_ret, s_retn, s_if, s_forF, s_whl, s_pass, s_brk, s_cont, s_nil, s_one, s_cons, o_add, o_sub, o_mul, o_fdiv, o_mod, o_pow, o_cat, o_catT, o_catL, o_mulT, a_add, a_sub, a_cat, a_catL, c_lt, c_le, c_gt, c_ge, c_eqI, c_neI, c_eqS, c_neS, c_in, c_nin, c_isN, c_isnN, t_bl, t_int, t_str, t_tup, t_non, t_ref, i_str, i_tup, i_ref, l_str, l_tup, l_ref, b_lenS, b_lenT, b_lenR, b_abs, b_max, b_min, b_int, b_intB, b_repr, b_listT, b_listR, b_tupT, b_tupR, w_tup, w_str, w_ref, g_one, m_app, m_pop, rs_strip, rs_lower, rs_upper, rs_split, rs_partition, rs_join, rs_find, rs_count, f_int, retR_n, retR_r, retR_x, slotR_ok, negD_i, intO_i, rngR_1, rngR_2, parS_2, parS_3, ifR_t, ifR_f, ifS_t, ifS_f, R.bind_ok, R.bind_exc, R.at_ok, R.at_exc, R.opt_some, RS.opt_some, R.req_true, RS.seq_next, RS.seq_ret, RS.seq_brk, RS.seq_cont, RS.seq_exc, List.getElem?_cons_zero, List.getElem?_cons_succ, List.set_cons_zero, List.set_cons_succ, List.map_cons, List.map_nil, List.cons_append, List.nil_append, List.replicate, List.length_cons, List.length_nil, Option.map_some, Option.bind_some, Nat.reduceAdd, Nat.reduceSub, Nat.zero_add, eq_self]
    have k3 := Kp.new (S1 ++ [Ob.lst (parts.map .str)]) [Ob.lst (fs.map .str ++ parts.map .str)]
    refine ⟨_, _, _, _, rfl, ((k1.trans k2).trans k3).mono (by simp), ?_⟩
    rw [List.getElem?_append_right (Nat.le_refl _), if_pos h]
    simp
  · have h' : ¬ p.1 = List.map PyProof.Rows.lo1 nm := h
    simp only [h', decide_false, x_non, x_bl, x_int, x_str, x_var, x_glo, x_bin, x_neg, x_not, x_bop, x_bop1, x_and, x_or, x_ite, x_cmp, x_chain, x_tup, x_lst, x_idx, x_slc, x_call, x_callk, x_blt, x_isi, x_mth, x_nil, x_cons, x_o0, x_o1, x_c0, x_c1, x_comp, x_val, x_rng, s_set, s_sets, s_par, s_aug, s_seti, s_expr, s_ret, s_retn, s_if, s_forF, s_whl, s_pass, s_brk, s_cont, s_nil, s_one, s_cons, o_add, o_sub, o_mul, o_fdiv, o_mod, o_pow, o_cat, o_catT, o_catL, o_mulT, a_add, a_sub, a_cat, a_catL, c_lt, c_le, c_gt, c_ge, c_eqI, c_neI, c_eqS, c_neS, c_in, c_nin, c_isN, c_isnN, t_bl, t_int, t_str, t_tup, t_non, t_ref, i_str, i_tup, i_ref, l_str, l_tup, l_ref, b_lenS, b_lenT, b_lenR, b_abs, b_max, b_min, b_int, b_intB, b_repr, b_listT, b_listR, b_tupT, b_tupR, w_tup, w_str, w_ref, g_one, m_app, m_pop, rs_strip, rs_lower, rs_upper, rs_split, rs_partition, rs_join, rs_find, rs_count, f_int, retR_n, retR_r, retR_x, slotR_ok, negD_i, intO_i, rngR_1, rngR_2, parS_2, parS_3, ifR_t, ifR_f, ifS_t, ifS_f, R.bind_ok, R.bind_exc, R.at_ok, R.at_exc, R.opt_some, RS.opt_some, R.req_true, RS.seq_next, RS.seq_ret, RS.seq_brk, RS.seq_cont, RS.seq_exc, List.getElem?_cons_zero, List.getElem?_cons_succ, List.set_cons_zero, List.set_cons_succ, List.map_cons, List.map_nil, List.cons_append, List.nil_append, List.replicate, List.length_cons, List.length_nil, Option.map_some, Option.bind_some, Nat.reduceAdd, Nat.reduceSub, Nat.zero_add, eq_self]
    exact ⟨_, _, _, _, rfl, Kp.refl S, by rw [if_neg h]; exact hf⟩
/-- the law's own items, run: over a list of rows -/
theorem own_run {n g : Nat} {S : Sto} {rows : List (Tx × Tx)} {nm : Tx} (hq : getQ S g = some (rows.map row)) (hr : small rows) (hn : nm.length ≤ 1000) :
    ∃ r S', run pr cs (n + 2) 5 [.ref g, .str nm] S = .ok (.ref r) S' ∧ S.length ≤ r ∧ Kp S S' [] ∧ S'[r]? = some (.lst ((items (vals rows (low nm))).map .str)) := by
  have hL : LIM = 16777216 := rfl
  have hF : FUEL = 67108864 := by decide
  have k0 := Kp.new S [Ob.lst []]
  have f0' : (S ++ [Ob.lst []])[S.length]? = some (.lst ((found [] (low nm)).map .str)) := by
    rw [List.getElem?_append_right (Nat.le_refl _)]
    simp [found, vals]
  have r0 : (0 ≤ LIM) := Nat.zero_le _
  have bound : ∀ i, (found (rows.take i) (low nm)).length ≤ 200000 := fun i => by
    have hs : small (rows.take i) := ⟨by rw [List.length_take]; have := hr.1; omega, fun p hp => hr.2 p (List.mem_of_mem_take hp)⟩
    obtain ⟨v1, v2⟩ := vals_small (l := low nm) hs
    have := found_len v2
    unfold found
    rw [List.length_map]
    omega
  obtain ⟨σ', S1, e1, fr, y3, y4, e2, k1, h1⟩ := for_lst (f := forF ⟨run pr cs (n + 1), cs⟩ [3, 4] true b5_0) (b := g) (xs := rows.map row) (σ := [some (.ref g), some (.str nm), some (.ref S.length), none, none, none]) (S := S ++ [Ob.lst []])
    (fun i σ S1 => ∃ fr y3 y4, σ = [some (.ref g), some (.str nm), some (.ref fr), y3, y4, none] ∧ Kp S S1 [] ∧ S1[fr]? = some (.lst ((found (rows.take i) (low nm)).map .str)))
    ⟨S.length, none, none, rfl, k0, f0'⟩ (fun i σ S1 ⟨_, _, _, _, kp, _⟩ => kp.getQ hq (by simp)) (by rw [List.length_map]; have := hr.1; omega) (by
      rintro i x σ S1 hx ⟨fr, y3, y4, rfl, kp, hf⟩
      rw [List.getElem?_map] at hx
      obtain ⟨p, hp, rfl⟩ := Option.map_eq_some_iff.mp hx
      have hps := hr.2 p (List.mem_of_getElem? hp)
      obtain ⟨fr', S2, z3, z4, b1, b2, b3⟩ := turn_5 (n := n) (g := g) (y3 := y3) (y4 := y4) (y5 := none) hn hps.2 hf (bound i)
      have ht : rows.take (i + 1) = rows.take i ++ [p] := by rw [List.take_add_one, hp]; rfl
      have kk := (kp.trans b2).mono (c := []) (by simp)
      refine ⟨_, S2, .inl b1, fr', z3, z4, rfl, kk, ?_⟩
      · rw [b3, ht]
        by_cases h : p.1 = low nm
        · rw [if_pos h, found_hit h]
        · rw [if_neg h, found_miss h])
  rw [List.length_map, List.take_length] at h1
  have hb := bound rows.length
  rw [List.take_length] at hb
  have q1 := getQ_of h1
  have e3 := comp_pure (f := compF ⟨run pr cs (n + 1), cs⟩ (.var 5) [5] false (.cons (.cmp .ne (.var 5) (.str [])) .nil) [("_law_part", 5)] [some (.ref g), some (.str nm), some (.ref fr), y3, y4, none]) (w := .lst fr) (xs := (found rows (low nm)).map .str) (S := S1) neF (at_lst q1) (by
      intro x hx
      obtain ⟨p, hp, rfl⟩ := List.mem_map.mp hx
      rw [compF_c]
      simp only [x_non, x_bl, x_int, x_str, x_var, x_glo, x_bin, x_neg, x_not, x_bop, x_bop1, x_and, x_or, x_ite, x_cmp, x_chain, x_tup, x_lst, x_idx, x_slc, x_call, x_callk, x_blt, x_isi, x_mth, x_nil, x_cons, x_o0, x_o1, x_c0, x_c1, x_comp, x_val, x_rng, s_set, s_sets, s_par, s_aug, s_seti, s_expr, s_ret, s_retn, s_if, s_forF, s_whl, s_pass, s_brk, s_cont, s_nil, s_one, s_cons, o_add, o_sub, o_mul, o_fdiv, o_mod, o_pow, o_cat, o_catT, o_catL, o_mulT, a_add, a_sub, a_cat, a_catL, c_lt, c_le, c_gt, c_ge, c_eqI, c_neI, c_eqS, c_neS, c_in, c_nin, c_isN, c_isnN, t_bl, t_int, t_str, t_tup, t_non, t_ref, i_str, i_tup, i_ref, l_str, l_tup, l_ref, b_lenS, b_lenT, b_lenR, b_abs, b_max, b_min, b_int, b_intB, b_repr, b_listT, b_listR, b_tupT, b_tupR, w_tup, w_str, w_ref, g_one, m_app, m_pop, rs_strip, rs_lower, rs_upper, rs_split, rs_partition, rs_join, rs_find, rs_count, f_int, retR_n, retR_r, retR_x, slotR_ok, negD_i, intO_i, rngR_1, rngR_2, parS_2, parS_3, ifR_t, ifR_f, ifS_t, ifS_f, R.bind_ok, R.bind_exc, R.at_ok, R.at_exc, R.opt_some, RS.opt_some, R.req_true, RS.seq_next, RS.seq_ret, RS.seq_brk, RS.seq_cont, RS.seq_exc, List.getElem?_cons_zero, List.getElem?_cons_succ, List.set_cons_zero, List.set_cons_succ, List.map_cons, List.map_nil, List.cons_append, List.nil_append, List.replicate, List.length_cons, List.length_nil, Option.map_some, Option.bind_some, Nat.reduceAdd, Nat.reduceSub, Nat.zero_add, eq_self, wipe]
      by_cases h : p = []
      · simp only [h, decide_true, Bool.not_true, x_non, x_bl, x_int, x_str, x_var, x_glo, x_bin, x_neg, x_not, x_bop, x_bop1, x_and, x_or, x_ite, x_cmp, x_chain, x_tup, x_lst, x_idx, x_slc, x_call, x_callk, x_blt, x_isi, x_mth, x_nil, x_cons, x_o0, x_o1, x_c0, x_c1, x_comp, x_val, x_rng, s_set, s_sets, s_par, s_aug, s_seti, s_expr, s_ret, s_retn, s_if, s_forF, s_whl, s_pass, s_brk, s_cont, s_nil, s_one, s_cons, o_add, o_sub, o_mul, o_fdiv, o_mod, o_pow, o_cat, o_catT, o_catL, o_mulT, a_add, a_sub, a_cat, a_catL, c_lt, c_le, c_gt, c_ge, c_eqI, c_neI, c_eqS, c_neS, c_in, c_nin, c_isN, c_isnN, t_bl, t_int, t_str, t_tup, t_non, t_ref, i_str, i_tup, i_ref, l_str, l_tup, l_ref, b_lenS, b_lenT, b_lenR, b_abs, b_max, b_min, b_int, b_intB, b_repr, b_listT, b_listR, b_tupT, b_tupR, w_tup, w_str, w_ref, g_one, m_app, m_pop, rs_strip, rs_lower, rs_upper, rs_split, rs_partition, rs_join, rs_find, rs_count, f_int, retR_n, retR_r, retR_x, slotR_ok, negD_i, intO_i, rngR_1, rngR_2, parS_2, parS_3, ifR_t, ifR_f, ifS_t, ifS_f, R.bind_ok, R.bind_exc, R.at_ok, R.at_exc, R.opt_some, RS.opt_some, R.req_true, RS.seq_next, RS.seq_ret, RS.seq_brk, RS.seq_cont, RS.seq_exc, List.getElem?_cons_zero, List.getElem?_cons_succ, List.set_cons_zero, List.set_cons_succ, List.map_cons, List.map_nil, List.cons_append, List.nil_append, List.replicate, List.length_cons, List.length_nil, Option.map_some, Option.bind_some, Nat.reduceAdd, Nat.reduceSub, Nat.zero_add, eq_self, neF, if_true]
      · simp only [h, decide_false, Bool.not_false, x_non, x_bl, x_int, x_str, x_var, x_glo, x_bin, x_neg, x_not, x_bop, x_bop1, x_and, x_or, x_ite, x_cmp, x_chain, x_tup, x_lst, x_idx, x_slc, x_call, x_callk, x_blt, x_isi, x_mth, x_nil, x_cons, x_o0, x_o1, x_c0, x_c1, x_comp, x_val, x_rng, s_set, s_sets, s_par, s_aug, s_seti, s_expr, s_ret, s_retn, s_if, s_forF, s_whl, s_pass, s_brk, s_cont, s_nil, s_one, s_cons, o_add, o_sub, o_mul, o_fdiv, o_mod, o_pow, o_cat, o_catT, o_catL, o_mulT, a_add, a_sub, a_cat, a_catL, c_lt, c_le, c_gt, c_ge, c_eqI, c_neI, c_eqS, c_neS, c_in, c_nin, c_isN, c_isnN, t_bl, t_int, t_str, t_tup, t_non, t_ref, i_str, i_tup, i_ref, l_str, l_tup, l_ref, b_lenS, b_lenT, b_lenR, b_abs, b_max, b_min, b_int, b_intB, b_repr, b_listT, b_listR, b_tupT, b_tupR, w_tup, w_str, w_ref, g_one, m_app, m_pop, rs_strip, rs_lower, rs_upper, rs_split, rs_partition, rs_join, rs_find, rs_count, f_int, retR_n, retR_r, retR_x, slotR_ok, negD_i, intO_i, rngR_1, rngR_2, parS_2, parS_3, ifR_t, ifR_f, ifS_t, ifS_f, R.bind_ok, R.bind_exc, R.at_ok, R.at_exc, R.opt_some, RS.opt_some, R.req_true, RS.seq_next, RS.seq_ret, RS.seq_brk, RS.seq_cont, RS.seq_exc, List.getElem?_cons_zero, List.getElem?_cons_succ, List.set_cons_zero, List.set_cons_succ, List.map_cons, List.map_nil, List.cons_append, List.nil_append, List.replicate, List.length_cons, List.length_nil, Option.map_some, Option.bind_some, Nat.reduceAdd, Nat.reduceSub, Nat.zero_add, eq_self, neF, if_false]) (by rw [List.length_map]; omega) (by rw [List.length_map]; omega)
  rw [ne_map] at e3
  have qg := k0.getQ hq (by simp)
  rw [run_ok (F := f5) rfl rfl]
  simp only [f5, s5_0, s5_1, s5_2, x_non, x_bl, x_int, x_str, x_var, x_glo, x_bin, x_neg, x_not, x_bop, x_bop1, x_and, x_or, x_ite, x_cmp, x_chain, x_tup, x_lst, x_idx, x_slc, x_call, x_callk, x_blt, x_isi, x_mth, x_nil, x_cons, x_o0, x_o1, x_c0, x_c1, x_comp, x_val, x_rng, s_set, s_sets, s_par, s_aug, s_seti, s_expr, s_ret, s_retn, s_if, s_forF, s_whl, s_pass, s_brk, s_cont, s_nil, s_one, s_cons, o_add, o_sub, o_mul, o_fdiv, o_mod, o_pow, o_cat, o_catT, o_catL, o_mulT, a_add, a_sub, a_cat, a_catL, c_lt, c_le, c_gt, c_ge, c_eqI, c_neI, c_eqS, c_neS, c_in, c_nin, c_isN, c_isnN, t_bl, t_int, t_str, t_tup, t_non, t_ref, i_str, i_tup, i_ref, l_str, l_tup, l_ref, b_lenS, b_lenT, b_lenR, b_abs, b_max, b_min, b_int, b_intB, b_repr, b_listT, b_listR, b_tupT, b_tupR, w_tup, w_str, w_ref, g_one, m_app, m_pop, rs_strip, rs_lower, rs_upper, rs_split, rs_partition, rs_join, rs_find, rs_count, f_int, retR_n, retR_r, retR_x, slotR_ok, negD_i, intO_i, rngR_1, rngR_2, parS_2, parS_3, ifR_t, ifR_f, ifS_t, ifS_f, R.bind_ok, R.bind_exc, R.at_ok, R.at_exc, R.opt_some, RS.opt_some, R.req_true, RS.seq_next, RS.seq_ret, RS.seq_brk, RS.seq_cont, RS.seq_exc, List.getElem?_cons_zero, List.getElem?_cons_succ, List.set_cons_zero, List.set_cons_succ, List.map_cons, List.map_nil, List.cons_append, List.nil_append, List.replicate, List.length_cons, List.length_nil, Option.map_some, Option.bind_some, Nat.reduceAdd, Nat.reduceSub, Nat.zero_add, eq_self]
  rw [R.req_of r0]
  simp only [x_non, x_bl, x_int, x_str, x_var, x_glo, x_bin, x_neg, x_not, x_bop, x_bop1, x_and, x_or, x_ite, x_cmp, x_chain, x_tup, x_lst, x_idx, x_slc, x_call, x_callk, x_blt, x_isi, x_mth, x_nil, x_cons, x_o0, x_o1, x_c0, x_c1, x_comp, x_val, x_rng, s_set, s_sets, s_par, s_aug, s_seti, s_expr, s_ret, s_retn, s_if, s_forF, s_whl, s_pass, s_brk, s_cont, s_nil, s_one, s_cons, o_add, o_sub, o_mul, o_fdiv, o_mod, o_pow, o_cat, o_catT, o_catL, o_mulT, a_add, a_sub, a_cat, a_catL, c_lt, c_le, c_gt, c_ge, c_eqI, c_neI, c_eqS, c_neS, c_in, c_nin, c_isN, c_isnN, t_bl, t_int, t_str, t_tup, t_non, t_ref, i_str, i_tup, i_ref, l_str, l_tup, l_ref, b_lenS, b_lenT, b_lenR, b_abs, b_max, b_min, b_int, b_intB, b_repr, b_listT, b_listR, b_tupT, b_tupR, w_tup, w_str, w_ref, g_one, m_app, m_pop, rs_strip, rs_lower, rs_upper, rs_split, rs_partition, rs_join, rs_find, rs_count, f_int, retR_n, retR_r, retR_x, slotR_ok, negD_i, intO_i, rngR_1, rngR_2, parS_2, parS_3, ifR_t, ifR_f, ifS_t, ifS_f, R.bind_ok, R.bind_exc, R.at_ok, R.at_exc, R.opt_some, RS.opt_some, R.req_true, RS.seq_next, RS.seq_ret, RS.seq_brk, RS.seq_cont, RS.seq_exc, List.getElem?_cons_zero, List.getElem?_cons_succ, List.set_cons_zero, List.set_cons_succ, List.map_cons, List.map_nil, List.cons_append, List.nil_append, List.replicate, List.length_cons, List.length_nil, Option.map_some, Option.bind_some, Nat.reduceAdd, Nat.reduceSub, Nat.zero_add, eq_self, qg, e1, e2, q1, e3]
  refine ⟨S1.length, _, rfl, k1.le, (k1.trans (Kp.new S1 _)).mono (by simp), ?_⟩
  rw [List.getElem?_append_right (Nat.le_refl _)]
  simp only [Nat.sub_self]
  rfl
end K04

/-! part G4_K04 -/
namespace K04
open Cl
theorem spl_mem : ∀ (s acc : Tx), ∀ p ∈ TL.spl [44] 0 acc s, ∀ c ∈ p, c ∈ acc ∨ c ∈ s
  | [], acc, p, h, c, hc => by
    rw [TL.spl_nil] at h
    have e : p = acc := by simpa using h
    subst e
    exact .inl hc
  | x :: s, acc, p, h, c, hc => by
    rw [spl_c] at h
    split at h
    · rcases List.mem_cons.mp h with q | q
      · subst q; exact .inl hc
      · rcases spl_mem s [] p q c hc with z | z
        · cases z
        · exact .inr (List.mem_cons_of_mem _ z)
    · rcases spl_mem s (acc ++ [x]) p h c hc with z | z
      · rcases List.mem_append.mp z with z | z
        · exact .inl z
        · have e : c = x := by simpa using z
          subst e
          exact .inr List.mem_cons_self
      · exact .inr (List.mem_cons_of_mem _ z)
def ascR (rows : List (Tx × Tx)) : Prop := ∀ p ∈ rows, asc p.1 = true ∧ asc p.2 = true
theorem items_pu {rows : List (Tx × Tx)} {l : Tx} (h : ascR rows) : ((items (vals rows l)).map D.str).all (pu 10) = true := by
  refine List.all_eq_true.mpr fun d hd => ?_
  obtain ⟨t, ht, rfl⟩ := List.mem_map.mp hd
  refine pu_str ?_
  unfold items at ht
  obtain ⟨q, hq, rfl⟩ := List.mem_map.mp (List.mem_filter.mp ht).1
  obtain ⟨v, hv, hqv⟩ := List.mem_flatMap.mp hq
  unfold vals at hv
  obtain ⟨p, hp, rfl⟩ := List.mem_map.mp hv
  have ha := (h p (List.mem_filter.mp hp).1).2
  refine asc_low (asc_strip (asc_sub ha fun c hc => ?_))
  rcases spl_mem p.2 [] q hqv c hc with z | z
  · cases z
  · exact z
theorem items_len {rows : List (Tx × Tx)} {l : Tx} (hr : small rows) : (items (vals rows l)).length ≤ 200000 := by
  obtain ⟨v1, v2⟩ := vals_small (l := l) hr
  have := found_len v2
  unfold items
  refine Nat.le_trans (List.length_filter_le _ _) ?_
  rw [List.length_map]
  omega
theorem perm2 (x y : D) : [Sum.inl 1, Sum.inl 0].mapM (argOf [x, y]) = some [y, x] := rfl
/-- a turn over the labels -/
theorem turn_60 {n g : Nat} {S : Sto} {rows : List (Tx × Tx)} {lb : Tx} {y0 y1 y2 y4 y5 y6 y7 y8 y9 y10 : Option D} (hq : S[g]? = some (.lst (rows.map row))) (hr : small rows) (ha : ascR rows) (hl : lb.length ≤ 1000) :
    ∃ z8 z9 S', forF ⟨run pr cs (n + 2), cs⟩ [8] false b6_0 (.str lb) [y0, y1, y2, some (.ref g), y4, y5, y6, y7, y8, y9, y10] S = .next [y0, y1, y2, some (.ref g), y4, y5, y6, y7, z8, z9, y10] S' ∧ Kp S S' [] := by
  have hL : LIM = 16777216 := rfl
  have q0 := getQ_of hq
  obtain ⟨r1, S1, e1, l1, k1, d1⟩ := items_run (n := n + 1) (S := S) hr hl
  have hp := items_pu (l := low lb) ha
  have il := items_len (l := low lb) hr
  have q1 := k1.getQ q0 (by simp)
  obtain ⟨r2, S2, e2, l2, k2, d2⟩ := own_run (n := n) q1 hr hl
  have c2 : cmpop .ne (.ref r1) (.ref r2) S2 = some false := by
    rw [c_ne, eq_list (getQ_of (k2.get d1 (by simp))) (getQ_of d2) hp (by decide)]; rfl
  have i1 := isi_list (getQ_of d1)
  have t2 := k2.get d1 (by simp)
  have lt := getL_of t2
  have rt := rec_l (m := .append) (getQ_of t2) rfl
  have hl2 : ((items (vals rows (low lb))).map D.str).length < LIM := by rw [List.length_map]; omega
  have k3 := Kp.set S2 r1 (.lst ((items (vals rows (low lb))).map D.str ++ [.str []]))
  have hg := (List.getElem?_eq_some_iff.mp hq).1
  have q2 := k2.getQ q1 (by simp)
  have q3 := k3.getQ q2 (by simp; omega)
  generalize hS3 : S2.set r1 (.lst ((items (vals rows (low lb))).map D.str ++ [.str []])) = S3 at k3 q3
  obtain ⟨r4, S4, e4, l4, k4, d4⟩ := items_run (n := n + 1) (S := S3) hr hl
  have q4 := k4.getQ q3 (by simp)
  obtain ⟨r5, S5, e5, l5, k5, d5⟩ := own_run (n := n) q4 hr hl
  have c5 : cmpop .ne (.ref r4) (.ref r5) S5 = some false := by
    rw [c_ne, eq_list (getQ_of (k5.get d4 (by simp))) (getQ_of d5) hp (by decide)]; rfl
  rw [forF_1]
  simp only [b6_0, x_non, x_bl, x_int, x_str, x_var, x_glo, x_bin, x_neg, x_not, x_bop, x_bop1, x_and, x_or, x_ite, x_cmp, x_chain, x_tup, x_lst, x_idx, x_slc, x_call, x_callk, x_blt, x_isi, x_mth, x_nil, x_cons, x_o0, x_o1, x_c0, x_c1, x_comp, x_val, x_rng, s_set, s_sets, s_par, s_aug, s_seti, s_expr, s_ret, s_retn, s_if, s_forF, s_whl, s_pass, s_brk, s_cont, s_nil, s_one, s_cons, o_add, o_sub, o_mul, o_fdiv, o_mod, o_pow, o_cat, o_catT, o_catL, o_mulT, a_add, a_sub, a_cat, a_catL, c_lt, c_le, c_gt, c_ge, c_eqI, c_neI, c_eqS, c_neS, c_in, c_nin, c_isN, c_isnN, t_bl, t_int, t_str, t_tup, t_non, t_ref, i_str, i_tup, i_ref, l_str, l_tup, l_ref, b_lenS, b_lenT, b_lenR, b_abs, b_max, b_min, b_int, b_intB, b_repr, b_listT, b_listR, b_tupT, b_tupR, w_tup, w_str, w_ref, g_one, m_app, m_pop, rs_strip, rs_lower, rs_upper, rs_split, rs_partition, rs_join, rs_find, rs_count, f_int, retR_n, retR_r, retR_x, slotR_ok, negD_i, intO_i, rngR_1, rngR_2, parS_2, parS_3, ifR_t, ifR_f, ifS_t, ifS_f, R.bind_ok, R.bind_exc, R.at_ok, R.at_exc, R.opt_some, RS.opt_some, R.req_true, RS.seq_next, RS.seq_ret, RS.seq_brk, RS.seq_cont, RS.seq_exc, List.getElem?_cons_zero, List.getElem?_cons_succ, List.set_cons_zero, List.set_cons_succ, List.map_cons, List.map_nil, List.cons_append, List.nil_append, List.replicate, List.length_cons, List.length_nil, Option.map_some, Option.bind_some, Nat.reduceAdd, Nat.reduceSub, Nat.zero_add, eq_self, q0, e1, i1, Bool.not_true]
  simp only [x_non, x_bl, x_int, x_str, x_var, x_glo, x_bin, x_neg, x_not, x_bop, x_bop1, x_and, x_or, x_ite, x_cmp, x_chain, x_tup, x_lst, x_idx, x_slc, x_call, x_callk, x_blt, x_isi, x_mth, x_nil, x_cons, x_o0, x_o1, x_c0, x_c1, x_comp, x_val, x_rng, s_set, s_sets, s_par, s_aug, s_seti, s_expr, s_ret, s_retn, s_if, s_forF, s_whl, s_pass, s_brk, s_cont, s_nil, s_one, s_cons, o_add, o_sub, o_mul, o_fdiv, o_mod, o_pow, o_cat, o_catT, o_catL, o_mulT, a_add, a_sub, a_cat, a_catL, c_lt, c_le, c_gt, c_ge, c_eqI, c_neI, c_eqS, c_neS, c_in, c_nin, c_isN, c_isnN, t_bl, t_int, t_str, t_tup, t_non, t_ref, i_str, i_tup, i_ref, l_str, l_tup, l_ref, b_lenS, b_lenT, b_lenR, b_abs, b_max, b_min, b_int, b_intB, b_repr, b_listT, b_listR, b_tupT, b_tupR, w_tup, w_str, w_ref, g_one, m_app, m_pop, rs_strip, rs_lower, rs_upper, rs_split, rs_partition, rs_join, rs_find, rs_count, f_int, retR_n, retR_r, retR_x, slotR_ok, negD_i, intO_i, rngR_1, rngR_2, parS_2, parS_3, ifR_t, ifR_f, ifS_t, ifS_f, R.bind_ok, R.bind_exc, R.at_ok, R.at_exc, R.opt_some, RS.opt_some, R.req_true, RS.seq_next, RS.seq_ret, RS.seq_brk, RS.seq_cont, RS.seq_exc, List.getElem?_cons_zero, List.getElem?_cons_succ, List.set_cons_zero, List.set_cons_succ, List.map_cons, List.map_nil, List.cons_append, List.nil_append, List.replicate, List.length_cons, List.length_nil, Option.map_some, Option.bind_some, Nat.reduceAdd, Nat.reduceSub, Nat.zero_add, eq_self, e2, c2]
  simp only [x_non, x_bl, x_int, x_str, x_var, x_glo, x_bin, x_neg, x_not, x_bop, x_bop1, x_and, x_or, x_ite, x_cmp, x_chain, x_tup, x_lst, x_idx, x_slc, x_call, x_callk, x_blt, x_isi, x_mth, x_nil, x_cons, x_o0, x_o1, x_c0, x_c1, x_comp, x_val, x_rng, s_set, s_sets, s_par, s_aug, s_seti, s_expr, s_ret, s_retn, s_if, s_forF, s_whl, s_pass, s_brk, s_cont, s_nil, s_one, s_cons, o_add, o_sub, o_mul, o_fdiv, o_mod, o_pow, o_cat, o_catT, o_catL, o_mulT, a_add, a_sub, a_cat, a_catL, c_lt, c_le, c_gt, c_ge, c_eqI, c_neI, c_eqS, c_neS, c_in, c_nin, c_isN, c_isnN, t_bl, t_int, t_str, t_tup, t_non, t_ref, i_str, i_tup, i_ref, l_str, l_tup, l_ref, b_lenS, b_lenT, b_lenR, b_abs, b_max, b_min, b_int, b_intB, b_repr, b_listT, b_listR, b_tupT, b_tupR, w_tup, w_str, w_ref, g_one, m_app, m_pop, rs_strip, rs_lower, rs_upper, rs_split, rs_partition, rs_join, rs_find, rs_count, f_int, retR_n, retR_r, retR_x, slotR_ok, negD_i, intO_i, rngR_1, rngR_2, parS_2, parS_3, ifR_t, ifR_f, ifS_t, ifS_f, R.bind_ok, R.bind_exc, R.at_ok, R.at_exc, R.opt_some, RS.opt_some, R.req_true, RS.seq_next, RS.seq_ret, RS.seq_brk, RS.seq_cont, RS.seq_exc, List.getElem?_cons_zero, List.getElem?_cons_succ, List.set_cons_zero, List.set_cons_succ, List.map_cons, List.map_nil, List.cons_append, List.nil_append, List.replicate, List.length_cons, List.length_nil, Option.map_some, Option.bind_some, Nat.reduceAdd, Nat.reduceSub, Nat.zero_add, eq_self, rt, lt]
  rw [R.req_of hl2]
  simp only [x_non, x_bl, x_int, x_str, x_var, x_glo, x_bin, x_neg, x_not, x_bop, x_bop1, x_and, x_or, x_ite, x_cmp, x_chain, x_tup, x_lst, x_idx, x_slc, x_call, x_callk, x_blt, x_isi, x_mth, x_nil, x_cons, x_o0, x_o1, x_c0, x_c1, x_comp, x_val, x_rng, s_set, s_sets, s_par, s_aug, s_seti, s_expr, s_ret, s_retn, s_if, s_forF, s_whl, s_pass, s_brk, s_cont, s_nil, s_one, s_cons, o_add, o_sub, o_mul, o_fdiv, o_mod, o_pow, o_cat, o_catT, o_catL, o_mulT, a_add, a_sub, a_cat, a_catL, c_lt, c_le, c_gt, c_ge, c_eqI, c_neI, c_eqS, c_neS, c_in, c_nin, c_isN, c_isnN, t_bl, t_int, t_str, t_tup, t_non, t_ref, i_str, i_tup, i_ref, l_str, l_tup, l_ref, b_lenS, b_lenT, b_lenR, b_abs, b_max, b_min, b_int, b_intB, b_repr, b_listT, b_listR, b_tupT, b_tupR, w_tup, w_str, w_ref, g_one, m_app, m_pop, rs_strip, rs_lower, rs_upper, rs_split, rs_partition, rs_join, rs_find, rs_count, f_int, retR_n, retR_r, retR_x, slotR_ok, negD_i, intO_i, rngR_1, rngR_2, parS_2, parS_3, ifR_t, ifR_f, ifS_t, ifS_f, R.bind_ok, R.bind_exc, R.at_ok, R.at_exc, R.opt_some, RS.opt_some, R.req_true, RS.seq_next, RS.seq_ret, RS.seq_brk, RS.seq_cont, RS.seq_exc, List.getElem?_cons_zero, List.getElem?_cons_succ, List.set_cons_zero, List.set_cons_succ, List.map_cons, List.map_nil, List.cons_append, List.nil_append, List.replicate, List.length_cons, List.length_nil, Option.map_some, Option.bind_some, Nat.reduceAdd, Nat.reduceSub, Nat.zero_add, eq_self, hS3, q3, perm2, e4, e5, c5]
  refine ⟨_, _, _, rfl, ((((k1.trans k2).trans k3).trans k4).trans k5).fresh fun m hm hlt => ?_⟩
  have e : m = r1 := by simpa using hm
  omega
end K04

/-! part G5_K04 -/
namespace K04
open Cl
def words : List Tx := [[97], [66], [32], [44], [44, 32], [99, 32, 100], [99, 104, 117, 110, 107, 101, 100], [], [44, 44], [34], [58]]
def labels : List Tx := [[116, 101], [99, 111, 110, 110, 101, 99, 116, 105, 111, 110], [120], [116]]
theorem words_ok : words.all (fun t => asc t && decide (t.length ≤ 7)) = true := by decide +kernel
theorem labels_ok : labels.all (fun t => asc t && decide (t.length ≤ 10)) = true := by decide +kernel
theorem join0 : ∀ ts : List Tx, TL.joinL [] ts = ts.flatten
  | [] => rfl
  | [t] => by simp [TL.joinL]
  | t :: u :: ts => by
    show t ++ ([] ++ TL.joinL [] (u :: ts)) = _
    rw [join0 (u :: ts)]
    rfl
theorem join_ok : ∀ {ts : List Tx}, (∀ t ∈ ts, t ∈ words) → asc ts.flatten = true ∧ ts.flatten.length ≤ 7 * ts.length ∧ (ts.map List.length).sum ≤ 7 * ts.length
  | [], _ => ⟨rfl, by simp, by simp⟩
  | t :: ts, h => by
    obtain ⟨a, b, c⟩ := join_ok (ts := ts) fun u hu => h u (List.mem_cons_of_mem _ hu)
    have w := List.all_eq_true.mp words_ok t (h t List.mem_cons_self)
    rw [Bool.and_eq_true] at w
    have wl := of_decide_eq_true w.2
    refine ⟨?_, ?_, ?_⟩
    · unfold asc at a ⊢
      rw [List.flatten_cons, List.all_append, a]
      have w1 := w.1
      unfold asc at w1
      rw [w1]; rfl
    · rw [List.flatten_cons, List.length_append, List.length_cons]; omega
    · rw [List.map_cons, List.sum_cons, List.length_cons]; omega
theorem take_k {n b k : Nat} {S : Sto} {m : Int} (hb : Bag S b k) (hk : k < 1000000) (hm : 0 < m ∧ m < 1073741824) : ∃ (r : Int) (xs : List D), run pr cs (n + 1) 2 [.ref b, .int m] S = .ok (.int r) (S.set b (.lst xs)) ∧ 0 ≤ r ∧ r < m ∧ Bag (S.set b (.lst xs)) b (k + 1) :=
  take_run (c1 := 48271) (c2 := 6607) (c3 := 5) (m1 := 2147483647) (d := 16) (m2 := 2147483587) rfl (by decide) (by decide) (by decide) (by decide) (by decide) (by decide) hb (by omega) hm
theorem pick_k {n b k g : Nat} {S : Sto} {ts : List Tx} (hb : Bag S b k) (hk : k < 1000000) (hm : getQ S g = some (ts.map .str)) (hne : ts ≠ []) (hl : ts.length < 1000) (h3 : b ≠ g) :
    ∃ (t : Tx) (xs : List D), run pr cs (n + 2) 3 [.ref b, .ref g] S = .ok (.str t) (S.set b (.lst xs)) ∧ t ∈ ts ∧ Bag (S.set b (.lst xs)) b (k + 1) := by
  obtain ⟨y, xs, e, hy, hB⟩ := pick_run (P := pr) (glo := cs) (n := n) (f := 3) (t := 2) (c1 := 48271) (c2 := 6607) (c3 := 5) (m1 := 2147483647) (d := 16) (m2 := 2147483587) rfl rfl (by decide) (by decide) (by decide) (by decide) (by decide) (by decide) hb (by omega) hm (by simpa using hne) (by rw [List.length_map]; omega) h3
  obtain ⟨t, ht, rfl⟩ := List.mem_map.mp hy
  exact ⟨t, xs, e, ht, hB⟩
end K04

/-! part G6_K04 -/
namespace K04
open Cl
theorem get_set {S : Sto} {b m : Nat} {o : Ob} {xs : List D} (h : getQ S m = some xs) (hb : b ≠ m) : getQ (S.set b o) m = some xs := by
  unfold getQ at h ⊢
  rw [List.getElem?_set_ne hb]
  exact h
/-- a turn that makes a row -/
theorem turn_61 {n b k g : Nat} {S : Sto} {d : D} {rows : List (Tx × Tx)} {y0 y1 y4 y5 y6 y7 y8 y9 y10 : Option D} (hb : Bag S b k) (hk : k < 1000) (hq : S[g]? = some (.lst (rows.map row))) (hbg : b ≠ g) (hl : rows.length ≤ 50) :
    ∃ (p : Tx × Tx) (z5 z6 : Option D) (S' : Sto), forF ⟨run pr cs (n + 3), cs⟩ [4] false b6_1 d [y0, y1, some (.ref b), some (.ref g), y4, y5, y6, y7, y8, y9, y10] S = .next [y0, y1, some (.ref b), some (.ref g), some d, z5, z6, y7, y8, y9, y10] S' ∧
      (asc p.1 = true ∧ asc p.2 = true ∧ p.1.length ≤ 1000 ∧ p.2.length ≤ 1000) ∧ Kp S S' [b, g] ∧ Bag S' b (k + 10) ∧ S'[g]? = some (.lst ((rows ++ [p]).map row)) := by
  have hL : LIM = 16777216 := rfl
  have hF : FUEL = 67108864 := by decide
  have hbl := hb.lt
  have hgl := (List.getElem?_eq_some_iff.mp hq).1
  have lim : ∀ j : Nat, j ≤ 40 → (j ≤ LIM) = True := fun j hj => eq_true (by omega)
  have l11 := lim 11 (by decide)
  have l4 := lim 4 (by decide)
  have l2 := lim 2 (by decide)
  -- the words
  have k1 := Kp.new S [Ob.lst (words.map .str)]
  have qw : getQ (S ++ [Ob.lst (words.map .str)]) S.length = some (words.map .str) := getQ_new
  have hb1 := hb.keep k1 (by simp)
  have hq1 := k1.get hq (by simp)
  generalize hS1 : S ++ [Ob.lst (words.map .str)] = S1 at k1 qw hb1 hq1
  generalize hW : S.length = w at qw
  have hbw : b ≠ w := by omega
  obtain ⟨r, t1, e1, r0, r1, hb2⟩ := take_k (n := n + 2) (m := 7) hb1 (by omega) (by decide)
  have qw2 := get_set (o := .lst t1) qw hbw
  have k2 := Kp.set S1 b (.lst t1)
  generalize hS2 : S1.set b (.lst t1) = S2 at e1 hb2 qw2 k2
  have hr : (r < 2 ^ 62 ∧ -(2 ^ 62) ≤ r) := by omega
  obtain ⟨ys, S3, e3, hl3, ⟨ts, rfl, hts, k3, qw3, hb3⟩⟩ := comp_rng (f := compF ⟨run pr cs (n + 3), cs⟩ (.call 3 (.cons (.var 2) (.cons (.var 5) .nil))) [10] false .nil [("_law_part", 10)] [y0, y1, some (.ref b), some (.ref g), some d, some (.ref w), y6, y7, y8, y9, y10]) (lo := 0) (n := r.toNat) (S := S2)
    (fun i acc S' => ∃ ts : List Tx, acc = ts.map .str ∧ (∀ t ∈ ts, t ∈ words) ∧ Kp S2 S' [b] ∧ getQ S' w = some (words.map .str) ∧ Bag S' b (k + 1 + i)) ⟨[], rfl, (fun t ht => by simp at ht), (Kp.refl S2).mono (by simp), qw2, hb2⟩ (by omega) (by
      rintro i acc S' hi _ ⟨ts, rfl, hts, kp, qw', hb'⟩
      obtain ⟨t, x, e, ht, hB⟩ := pick_k (n := n + 1) hb' (by omega) qw' (by decide) (by decide) hbw
      refine ⟨some (.str t), _, ?_, ts ++ [t], by simp, ?_, (kp.trans (Kp.set S' b (.lst x))).mono (by simp), get_set qw' hbw, hB⟩
      · rw [compF_1]
        simp only [x_non, x_bl, x_int, x_str, x_var, x_glo, x_bin, x_neg, x_not, x_bop, x_bop1, x_and, x_or, x_ite, x_cmp, x_chain, x_tup, x_lst, x_idx, x_slc, x_call, x_callk, x_blt, x_isi, x_mth, x_nil, x_cons, x_o0, x_o1, x_c0, x_c1, x_comp, x_val, x_rng, s_set, s_sets, s_par, s_aug, s_seti, s_expr, s_ret, s_retn, s_if, s_forF, s_whl, s_pass, s_brk, s_cont, s_nil, s_one, s_cons, o_add, o_sub, o_mul, o_fdiv, o_mod, o_pow, o_cat, o_catT, o_catL, o_mulT, a_add, a_sub, a_cat, a_catL, c_lt, c_le, c_gt, c_ge, c_eqI, c_neI, c_eqS, c_neS, c_in, c_nin, c_isN, c_isnN, t_bl, t_int, t_str, t_tup, t_non, t_ref, i_str, i_tup, i_ref, l_str, l_tup, l_ref, b_lenS, b_lenT, b_lenR, b_abs, b_max, b_min, b_int, b_intB, b_repr, b_listT, b_listR, b_tupT, b_tupR, w_tup, w_str, w_ref, g_one, m_app, m_pop, rs_strip, rs_lower, rs_upper, rs_split, rs_partition, rs_join, rs_find, rs_count, f_int, retR_n, retR_r, retR_x, slotR_ok, negD_i, intO_i, rngR_1, rngR_2, parS_2, parS_3, ifR_t, ifR_f, ifS_t, ifS_f, R.bind_ok, R.bind_exc, R.at_ok, R.at_exc, R.opt_some, RS.opt_some, R.req_true, RS.seq_next, RS.seq_ret, RS.seq_brk, RS.seq_cont, RS.seq_exc, List.getElem?_cons_zero, List.getElem?_cons_succ, List.set_cons_zero, List.set_cons_succ, List.map_cons, List.map_nil, List.cons_append, List.nil_append, List.replicate, List.length_cons, List.length_nil, Option.map_some, Option.bind_some, Nat.reduceAdd, Nat.reduceSub, Nat.zero_add, eq_self, wipe, e]
      · intro u hu
        rcases List.mem_append.mp hu with q | q
        · exact hts u q
        · have : u = t := by simpa using q
          rw [this]; exact ht) (by omega)
  rw [List.length_map] at hl3
  obtain ⟨j1, j2, j3⟩ := join_ok hts
  have hts7 : ts.length ≤ 7 := by omega
  have k4 := Kp.new S3 [Ob.lst (ts.map .str)]
  have q4 : getQ (S3 ++ [Ob.lst (ts.map .str)]) S3.length = some (ts.map .str) := getQ_new
  have hb4 := hb3.keep k4 (by simp)
  have jn := m_join (s := []) q4
  rw [join0] at jn
  have jr : (ts.map List.length).sum + ts.length * ([] : Tx).length ≤ LIM := by simp; omega
  rw [R.req_of jr] at jn
  generalize hS4 : S3 ++ [Ob.lst (ts.map .str)] = S4 at k4 q4 hb4 jn
  generalize ts.flatten = J at j1 j2 jn
  have eb := bare_run (n := n + 2) (S := S4) (s := J) (by omega)
  -- the label
  have k5 := Kp.new S4 [Ob.lst (labels.map .str)]
  have q5 : getQ (S4 ++ [Ob.lst (labels.map .str)]) S4.length = some (labels.map .str) := getQ_new
  have hb5 := hb4.keep k5 (by simp)
  have hbl4 := hb4.lt
  generalize hS5 : S4 ++ [Ob.lst (labels.map .str)] = S5 at k5 q5 hb5
  obtain ⟨lb, x, e6, hlb, hb6⟩ := pick_k (n := n + 1) hb5 (by omega) q5 (by decide) (by decide) (by omega)
  have k6 := Kp.set S5 b (.lst x)
  have hq3 := k3.get (k2.get hq1 (by simp; omega)) (by simp; omega)
  have hq6 := k6.get (k5.get (k4.get hq3 (by simp)) (by simp)) (by simp; omega)
  generalize hS6 : S5.set b (.lst x) = S6 at e6 hb6 k6 hq6
  have lg := getL_of hq6
  have rg := rec_l (m := .append) (getQ_of hq6) rfl
  have hlr : (rows.map row).length < LIM := by rw [List.length_map]; omega
  have k7 := Kp.set S6 g (.lst (rows.map row ++ [.tup [.str lb, .str (bare J)]]))
  have w := List.all_eq_true.mp labels_ok lb hlb
  rw [Bool.and_eq_true] at w
  have wl := of_decide_eq_true w.2
  have bl := stripS_le J [32]
  rw [forF_1]
  simp only [b6_1, x_non, x_bl, x_int, x_str, x_var, x_glo, x_bin, x_neg, x_not, x_bop, x_bop1, x_and, x_or, x_ite, x_cmp, x_chain, x_tup, x_lst, x_idx, x_slc, x_call, x_callk, x_blt, x_isi, x_mth, x_nil, x_cons, x_o0, x_o1, x_c0, x_c1, x_comp, x_val, x_rng, s_set, s_sets, s_par, s_aug, s_seti, s_expr, s_ret, s_retn, s_if, s_forF, s_whl, s_pass, s_brk, s_cont, s_nil, s_one, s_cons, o_add, o_sub, o_mul, o_fdiv, o_mod, o_pow, o_cat, o_catT, o_catL, o_mulT, a_add, a_sub, a_cat, a_catL, c_lt, c_le, c_gt, c_ge, c_eqI, c_neI, c_eqS, c_neS, c_in, c_nin, c_isN, c_isnN, t_bl, t_int, t_str, t_tup, t_non, t_ref, i_str, i_tup, i_ref, l_str, l_tup, l_ref, b_lenS, b_lenT, b_lenR, b_abs, b_max, b_min, b_int, b_intB, b_repr, b_listT, b_listR, b_tupT, b_tupR, w_tup, w_str, w_ref, g_one, m_app, m_pop, rs_strip, rs_lower, rs_upper, rs_split, rs_partition, rs_join, rs_find, rs_count, f_int, retR_n, retR_r, retR_x, slotR_ok, negD_i, intO_i, rngR_1, rngR_2, parS_2, parS_3, ifR_t, ifR_f, ifS_t, ifS_f, R.bind_ok, R.bind_exc, R.at_ok, R.at_exc, R.opt_some, RS.opt_some, R.req_true, RS.seq_next, RS.seq_ret, RS.seq_brk, RS.seq_cont, RS.seq_exc, List.getElem?_cons_zero, List.getElem?_cons_succ, List.set_cons_zero, List.set_cons_succ, List.map_cons, List.map_nil, List.cons_append, List.nil_append, List.replicate, List.length_cons, List.length_nil, Option.map_some, Option.bind_some, Nat.reduceAdd, Nat.reduceSub, Nat.zero_add, eq_self, l11]
  have hS1' : S ++ [Ob.lst [.str [97], .str [66], .str [32], .str [44], .str [44, 32], .str [99, 32, 100], .str [99, 104, 117, 110, 107, 101, 100], .str [], .str [44, 44], .str [34], .str [58]]] = S1 := hS1
  simp only [hS1', hW, x_non, x_bl, x_int, x_str, x_var, x_glo, x_bin, x_neg, x_not, x_bop, x_bop1, x_and, x_or, x_ite, x_cmp, x_chain, x_tup, x_lst, x_idx, x_slc, x_call, x_callk, x_blt, x_isi, x_mth, x_nil, x_cons, x_o0, x_o1, x_c0, x_c1, x_comp, x_val, x_rng, s_set, s_sets, s_par, s_aug, s_seti, s_expr, s_ret, s_retn, s_if, s_forF, s_whl, s_pass, s_brk, s_cont, s_nil, s_one, s_cons, o_add, o_sub, o_mul, o_fdiv, o_mod, o_pow, o_cat, o_catT, o_catL, o_mulT, a_add, a_sub, a_cat, a_catL, c_lt, c_le, c_gt, c_ge, c_eqI, c_neI, c_eqS, c_neS, c_in, c_nin, c_isN, c_isnN, t_bl, t_int, t_str, t_tup, t_non, t_ref, i_str, i_tup, i_ref, l_str, l_tup, l_ref, b_lenS, b_lenT, b_lenR, b_abs, b_max, b_min, b_int, b_intB, b_repr, b_listT, b_listR, b_tupT, b_tupR, w_tup, w_str, w_ref, g_one, m_app, m_pop, rs_strip, rs_lower, rs_upper, rs_split, rs_partition, rs_join, rs_find, rs_count, f_int, retR_n, retR_r, retR_x, slotR_ok, negD_i, intO_i, rngR_1, rngR_2, parS_2, parS_3, ifR_t, ifR_f, ifS_t, ifS_f, R.bind_ok, R.bind_exc, R.at_ok, R.at_exc, R.opt_some, RS.opt_some, R.req_true, RS.seq_next, RS.seq_ret, RS.seq_brk, RS.seq_cont, RS.seq_exc, List.getElem?_cons_zero, List.getElem?_cons_succ, List.set_cons_zero, List.set_cons_succ, List.map_cons, List.map_nil, List.cons_append, List.nil_append, List.replicate, List.length_cons, List.length_nil, Option.map_some, Option.bind_some, Nat.reduceAdd, Nat.reduceSub, Nat.zero_add, eq_self, e1]
  rw [R.req_of hr]
  simp only [x_non, x_bl, x_int, x_str, x_var, x_glo, x_bin, x_neg, x_not, x_bop, x_bop1, x_and, x_or, x_ite, x_cmp, x_chain, x_tup, x_lst, x_idx, x_slc, x_call, x_callk, x_blt, x_isi, x_mth, x_nil, x_cons, x_o0, x_o1, x_c0, x_c1, x_comp, x_val, x_rng, s_set, s_sets, s_par, s_aug, s_seti, s_expr, s_ret, s_retn, s_if, s_forF, s_whl, s_pass, s_brk, s_cont, s_nil, s_one, s_cons, o_add, o_sub, o_mul, o_fdiv, o_mod, o_pow, o_cat, o_catT, o_catL, o_mulT, a_add, a_sub, a_cat, a_catL, c_lt, c_le, c_gt, c_ge, c_eqI, c_neI, c_eqS, c_neS, c_in, c_nin, c_isN, c_isnN, t_bl, t_int, t_str, t_tup, t_non, t_ref, i_str, i_tup, i_ref, l_str, l_tup, l_ref, b_lenS, b_lenT, b_lenR, b_abs, b_max, b_min, b_int, b_intB, b_repr, b_listT, b_listR, b_tupT, b_tupR, w_tup, w_str, w_ref, g_one, m_app, m_pop, rs_strip, rs_lower, rs_upper, rs_split, rs_partition, rs_join, rs_find, rs_count, f_int, retR_n, retR_r, retR_x, slotR_ok, negD_i, intO_i, rngR_1, rngR_2, parS_2, parS_3, ifR_t, ifR_f, ifS_t, ifS_f, R.bind_ok, R.bind_exc, R.at_ok, R.at_exc, R.opt_some, RS.opt_some, R.req_true, RS.seq_next, RS.seq_ret, RS.seq_brk, RS.seq_cont, RS.seq_exc, List.getElem?_cons_zero, List.getElem?_cons_succ, List.set_cons_zero, List.set_cons_succ, List.map_cons, List.map_nil, List.cons_append, List.nil_append, List.replicate, List.length_cons, List.length_nil, Option.map_some, Option.bind_some, Nat.reduceAdd, Nat.reduceSub, Nat.zero_add, eq_self, e3, hS4, jn, eb, l4]
  have hS5' : S4 ++ [Ob.lst [.str [116, 101], .str [99, 111, 110, 110, 101, 99, 116, 105, 111, 110], .str [120], .str [116]]] = S5 := hS5
  have rg4 := rec_l (m := .append) (getQ_of (k4.get hq3 (by simp))) rfl
  simp only [rg4, hS5', x_non, x_bl, x_int, x_str, x_var, x_glo, x_bin, x_neg, x_not, x_bop, x_bop1, x_and, x_or, x_ite, x_cmp, x_chain, x_tup, x_lst, x_idx, x_slc, x_call, x_callk, x_blt, x_isi, x_mth, x_nil, x_cons, x_o0, x_o1, x_c0, x_c1, x_comp, x_val, x_rng, s_set, s_sets, s_par, s_aug, s_seti, s_expr, s_ret, s_retn, s_if, s_forF, s_whl, s_pass, s_brk, s_cont, s_nil, s_one, s_cons, o_add, o_sub, o_mul, o_fdiv, o_mod, o_pow, o_cat, o_catT, o_catL, o_mulT, a_add, a_sub, a_cat, a_catL, c_lt, c_le, c_gt, c_ge, c_eqI, c_neI, c_eqS, c_neS, c_in, c_nin, c_isN, c_isnN, t_bl, t_int, t_str, t_tup, t_non, t_ref, i_str, i_tup, i_ref, l_str, l_tup, l_ref, b_lenS, b_lenT, b_lenR, b_abs, b_max, b_min, b_int, b_intB, b_repr, b_listT, b_listR, b_tupT, b_tupR, w_tup, w_str, w_ref, g_one, m_app, m_pop, rs_strip, rs_lower, rs_upper, rs_split, rs_partition, rs_join, rs_find, rs_count, f_int, retR_n, retR_r, retR_x, slotR_ok, negD_i, intO_i, rngR_1, rngR_2, parS_2, parS_3, ifR_t, ifR_f, ifS_t, ifS_f, R.bind_ok, R.bind_exc, R.at_ok, R.at_exc, R.opt_some, RS.opt_some, R.req_true, RS.seq_next, RS.seq_ret, RS.seq_brk, RS.seq_cont, RS.seq_exc, List.getElem?_cons_zero, List.getElem?_cons_succ, List.set_cons_zero, List.set_cons_succ, List.map_cons, List.map_nil, List.cons_append, List.nil_append, List.replicate, List.length_cons, List.length_nil, Option.map_some, Option.bind_some, Nat.reduceAdd, Nat.reduceSub, Nat.zero_add, eq_self, e6, l2, lg]
  rw [R.req_of hlr]
  simp only [x_non, x_bl, x_int, x_str, x_var, x_glo, x_bin, x_neg, x_not, x_bop, x_bop1, x_and, x_or, x_ite, x_cmp, x_chain, x_tup, x_lst, x_idx, x_slc, x_call, x_callk, x_blt, x_isi, x_mth, x_nil, x_cons, x_o0, x_o1, x_c0, x_c1, x_comp, x_val, x_rng, s_set, s_sets, s_par, s_aug, s_seti, s_expr, s_ret, s_retn, s_if, s_forF, s_whl, s_pass, s_brk, s_cont, s_nil, s_one, s_cons, o_add, o_sub, o_mul, o_fdiv, o_mod, o_pow, o_cat, o_catT, o_catL, o_mulT, a_add, a_sub, a_cat, a_catL, c_lt, c_le, c_gt, c_ge, c_eqI, c_neI, c_eqS, c_neS, c_in, c_nin, c_isN, c_isnN, t_bl, t_int, t_str, t_tup, t_non, t_ref, i_str, i_tup, i_ref, l_str, l_tup, l_ref, b_lenS, b_lenT, b_lenR, b_abs, b_max, b_min, b_int, b_intB, b_repr, b_listT, b_listR, b_tupT, b_tupR, w_tup, w_str, w_ref, g_one, m_app, m_pop, rs_strip, rs_lower, rs_upper, rs_split, rs_partition, rs_join, rs_find, rs_count, f_int, retR_n, retR_r, retR_x, slotR_ok, negD_i, intO_i, rngR_1, rngR_2, parS_2, parS_3, ifR_t, ifR_f, ifS_t, ifS_f, R.bind_ok, R.bind_exc, R.at_ok, R.at_exc, R.opt_some, RS.opt_some, R.req_true, RS.seq_next, RS.seq_ret, RS.seq_brk, RS.seq_cont, RS.seq_exc, List.getElem?_cons_zero, List.getElem?_cons_succ, List.set_cons_zero, List.set_cons_succ, List.map_cons, List.map_nil, List.cons_append, List.nil_append, List.replicate, List.length_cons, List.length_nil, Option.map_some, Option.bind_some, Nat.reduceAdd, Nat.reduceSub, Nat.zero_add, eq_self]
  refine ⟨(lb, bare J), _, _, _, rfl, ⟨w.1, asc_strip j1, by show lb.length ≤ 1000; omega, by show (bare J).length ≤ 1000; unfold bare; omega⟩, ((((((k1.trans k2).trans k3).trans k4).trans k5).trans k6).trans k7).mono (by simp), (hb6.keep k7 (by simp; omega)).mono (by omega), ?_⟩
  have hg6 := (List.getElem?_eq_some_iff.mp hq6).1
  rw [List.getElem?_set_self hg6]
  simp [row]
end K04

/-! part G7_K04 -/
namespace K04
open Cl
theorem rows_pu {rows : List (Tx × Tx)} (h : ascR rows) : (rows.map row).all (pu 10) = true := by
  refine List.all_eq_true.mpr fun d hd => ?_
  obtain ⟨p, hp, rfl⟩ := List.mem_map.mp hd
  show pu (9 + 1) (.tup [.str p.1, .str p.2]) = true
  rw [pu_tup, List.all_cons, List.all_cons, pu_str (h p hp).1, pu_str (h p hp).2]
  rfl
theorem rows_wt : ∀ {rows : List (Tx × Tx)}, (∀ p ∈ rows, p.1.length ≤ 1000 ∧ p.2.length ≤ 1000) → wts 10 (rows.map row) ≤ 2003 * rows.length
  | [], _ => by simp [wts]
  | p :: rows, h => by
    have a := rows_wt (rows := rows) fun q hq => h q (List.mem_cons_of_mem _ hq)
    have b := h p List.mem_cons_self
    rw [List.map_cons, wts_cons, List.length_cons]
    have e : wt 10 (row p) = p.1.length + 1 + (p.2.length + 1 + 0) := rfl
    omega
/-- a cell -/
theorem turn_62 {n i : Nat} {S : Sto} {ns : List Int} {y1 y2 y3 y4 y5 y6 y7 y8 y9 y10 : Option D} (h0 : S[0]? = some (.scr ns)) (hi : i < 100) :
    ∃ z1 z2 z3 z4 z5 z6 z7 z8 z9 S', forF ⟨run pr cs (n + 3), cs⟩ [1] false b6_2 (.int (0 + (i : Int))) [some (.ref 0), y1, y2, y3, y4, y5, y6, y7, y8, y9, y10] S = .next [some (.ref 0), z1, z2, z3, z4, z5, z6, z7, z8, z9, y10] S' ∧ Kp S S' [] := by
  have hL : LIM = 16777216 := rfl
  have hF : FUEL = 67108864 := by decide
  obtain ⟨xs, e1, hb⟩ := bag_run (P := pr) (glo := cs) (n := n + 2) (f := 1) (m1 := 2147483647) (c1 := 7121) (c2 := 11) (m2 := 2147483629) rfl (by decide) (by decide) (by decide) (by decide) h0 (i := 0 + (i : Int)) (by omega)
  have k1 := Kp.new S [Ob.lst xs]
  generalize hS : S ++ [Ob.lst xs] = S1 at e1 hb k1
  generalize hb0 : S.length = b at e1 hb
  have k2 := Kp.new S1 [Ob.lst []]
  have hb2 := hb.keep k2 (by simp)
  have hbl := hb.lt
  have hq2 : (S1 ++ [Ob.lst []])[S1.length]? = some (.lst (([] : List (Tx × Tx)).map row)) := by rw [List.getElem?_append_right (Nat.le_refl _)]; simp
  generalize hS2 : S1 ++ [Ob.lst []] = S2 at k2 hb2 hq2
  generalize hg : S1.length = g at hq2 hbl
  obtain ⟨r, t1, e3, r0, r1, hb3⟩ := take_k (n := n + 2) (m := 6) hb2 (by omega) (by decide)
  have k3 := Kp.set S2 b (.lst t1)
  have hq3 := k3.get hq2 (by simp; omega)
  generalize hS3 : S2.set b (.lst t1) = S3 at e3 hb3 k3 hq3
  have hr : (r < 2 ^ 62 ∧ -(2 ^ 62) ≤ r) := by omega
  obtain ⟨σ4, S4, e4, ⟨rows, z4, z5, z6, rfl, hlen, has, hsm, k4, hb4, hq4⟩⟩ := for_rng (f := forF ⟨run pr cs (n + 3), cs⟩ [4] false b6_1) (lo := 0) (n := r.toNat) (σ := [some (.ref 0), some (.int (0 + (i : Int))), some (.ref b), some (.ref g), y4, y5, y6, y7, y8, y9, y10]) (S := S3)
    (fun j σ S' => ∃ (rows : List (Tx × Tx)) (z4 z5 z6 : Option D), σ = [some (.ref 0), some (.int (0 + (i : Int))), some (.ref b), some (.ref g), z4, z5, z6, y7, y8, y9, y10] ∧ rows.length = j ∧ ascR rows ∧ (∀ p ∈ rows, p.1.length ≤ 1000 ∧ p.2.length ≤ 1000) ∧ Kp S3 S' [b, g] ∧ Bag S' b (1 + 10 * j) ∧ S'[g]? = some (.lst (rows.map row)))
    ⟨[], y4, y5, y6, rfl, rfl, (fun p hp => by cases hp), (fun p hp => by cases hp), (Kp.refl S3).mono (by simp), hb3, hq3⟩ (by omega) (by
      rintro j σ S' hj ⟨rows, z4, z5, z6, rfl, hlen, has, hsm, kp, hB, hq⟩
      obtain ⟨p, w5, w6, S5, e, ⟨a1, a2, a3, a4⟩, kk, hB2, hq5⟩ := turn_61 (n := n) (d := .int (0 + (j : Int))) (y0 := some (.ref 0)) (y1 := some (.int (0 + (i : Int)))) (y4 := z4) (y5 := z5) (y6 := z6) (y7 := y7) (y8 := y8) (y9 := y9) (y10 := y10) hB (by omega) hq (by omega) (by omega)
      refine ⟨_, S5, .inl e, rows ++ [p], _, w5, w6, rfl, by simp [hlen], fun q hq => ?_, fun q hq => ?_, (kp.trans kk).mono (by simp), hB2.mono (by omega), hq5⟩
      · rcases List.mem_append.mp hq with z | z
        · exact has q z
        · have : q = p := by simpa using z
          rw [this]; exact ⟨a1, a2⟩
      · rcases List.mem_append.mp hq with z | z
        · exact hsm q z
        · have : q = p := by simpa using z
          rw [this]; exact ⟨a3, a4⟩)
  have hrow : small rows := ⟨by omega, hsm⟩
  have rp := rows_pu has
  have rw_ := rows_wt hsm
  have sh := show_list rp (by omega)
  have rd4 : rd S4 DEEP (.ref g) = _ := rd_list (k := 23) (getQ_of hq4) rp (by decide)
  have lim6 : (6 ≤ LIM) := by omega
  obtain ⟨σ5, S5, e5, ⟨z8, z9, rfl, k5⟩⟩ := for_fix (f := forF ⟨run pr cs (n + 3), cs⟩ [8] false b6_0) (xs := [.str [116, 101], .str [84, 69], .str [67, 111, 110, 110, 101, 99, 116, 105, 111, 110], .str [120], .str [84], .str [121]]) (σ := [some (.ref 0), some (.int (0 + (i : Int))), some (.ref b), some (.ref g), z4, z5, z6, some (.str (PySem.PyData.list ((rows.map row).map (toP 10))).shown.cps.toList), y8, y9, y10]) (S := S4)
    (fun j σ S' => ∃ z8 z9 : Option D, σ = [some (.ref 0), some (.int (0 + (i : Int))), some (.ref b), some (.ref g), z4, z5, z6, some (.str (PySem.PyData.list ((rows.map row).map (toP 10))).shown.cps.toList), z8, z9, y10] ∧ Kp S4 S' [])
    ⟨y8, y9, rfl, Kp.refl S4⟩ (by simp; omega) (by
      rintro j x σ S' hx ⟨z8, z9, rfl, kp⟩
      have hm := List.mem_of_getElem? hx
      have ht : ∃ t : Tx, x = .str t ∧ t.length ≤ 1000 := by
        simp only [List.mem_cons, List.not_mem_nil, or_false] at hm
        rcases hm with h | h | h | h | h | h <;> exact ⟨_, h, by decide⟩
      obtain ⟨t, rfl, htl⟩ := ht
      obtain ⟨w8, w9, S5, e, kk⟩ := turn_60 (n := n + 1) (kp.get hq4 (by simp)) hrow has htl (y0 := some (.ref 0)) (y1 := some (.int (0 + (i : Int)))) (y2 := some (.ref b)) (y4 := z4) (y5 := z5) (y6 := z6) (y7 := some (.str (PySem.PyData.list ((rows.map row).map (toP 10))).shown.cps.toList)) (y8 := z8) (y9 := z9) (y10 := y10)
      exact ⟨_, S5, .inl e, w8, w9, rfl, (kp.trans kk).mono (by simp)⟩)
  have rd5 : rd S5 DEEP (.ref g) = _ := rd_list (k := 23) (getQ_of (k5.get hq4 (by simp))) rp (by decide)
  rw [forF_1]
  simp only [b6_2, x_non, x_bl, x_int, x_str, x_var, x_glo, x_bin, x_neg, x_not, x_bop, x_bop1, x_and, x_or, x_ite, x_cmp, x_chain, x_tup, x_lst, x_idx, x_slc, x_call, x_callk, x_blt, x_isi, x_mth, x_nil, x_cons, x_o0, x_o1, x_c0, x_c1, x_comp, x_val, x_rng, s_set, s_sets, s_par, s_aug, s_seti, s_expr, s_ret, s_retn, s_if, s_forF, s_whl, s_pass, s_brk, s_cont, s_nil, s_one, s_cons, o_add, o_sub, o_mul, o_fdiv, o_mod, o_pow, o_cat, o_catT, o_catL, o_mulT, a_add, a_sub, a_cat, a_catL, c_lt, c_le, c_gt, c_ge, c_eqI, c_neI, c_eqS, c_neS, c_in, c_nin, c_isN, c_isnN, t_bl, t_int, t_str, t_tup, t_non, t_ref, i_str, i_tup, i_ref, l_str, l_tup, l_ref, b_lenS, b_lenT, b_lenR, b_abs, b_max, b_min, b_int, b_intB, b_repr, b_listT, b_listR, b_tupT, b_tupR, w_tup, w_str, w_ref, g_one, m_app, m_pop, rs_strip, rs_lower, rs_upper, rs_split, rs_partition, rs_join, rs_find, rs_count, f_int, retR_n, retR_r, retR_x, slotR_ok, negD_i, intO_i, rngR_1, rngR_2, parS_2, parS_3, ifR_t, ifR_f, ifS_t, ifS_f, R.bind_ok, R.bind_exc, R.at_ok, R.at_exc, R.opt_some, RS.opt_some, R.req_true, RS.seq_next, RS.seq_ret, RS.seq_brk, RS.seq_cont, RS.seq_exc, List.getElem?_cons_zero, List.getElem?_cons_succ, List.set_cons_zero, List.set_cons_succ, List.map_cons, List.map_nil, List.cons_append, List.nil_append, List.replicate, List.length_cons, List.length_nil, Option.map_some, Option.bind_some, Nat.reduceAdd, Nat.reduceSub, Nat.zero_add, eq_self, e1, hS]
  rw [R.req_of (Nat.zero_le _)]
  simp only [x_non, x_bl, x_int, x_str, x_var, x_glo, x_bin, x_neg, x_not, x_bop, x_bop1, x_and, x_or, x_ite, x_cmp, x_chain, x_tup, x_lst, x_idx, x_slc, x_call, x_callk, x_blt, x_isi, x_mth, x_nil, x_cons, x_o0, x_o1, x_c0, x_c1, x_comp, x_val, x_rng, s_set, s_sets, s_par, s_aug, s_seti, s_expr, s_ret, s_retn, s_if, s_forF, s_whl, s_pass, s_brk, s_cont, s_nil, s_one, s_cons, o_add, o_sub, o_mul, o_fdiv, o_mod, o_pow, o_cat, o_catT, o_catL, o_mulT, a_add, a_sub, a_cat, a_catL, c_lt, c_le, c_gt, c_ge, c_eqI, c_neI, c_eqS, c_neS, c_in, c_nin, c_isN, c_isnN, t_bl, t_int, t_str, t_tup, t_non, t_ref, i_str, i_tup, i_ref, l_str, l_tup, l_ref, b_lenS, b_lenT, b_lenR, b_abs, b_max, b_min, b_int, b_intB, b_repr, b_listT, b_listR, b_tupT, b_tupR, w_tup, w_str, w_ref, g_one, m_app, m_pop, rs_strip, rs_lower, rs_upper, rs_split, rs_partition, rs_join, rs_find, rs_count, f_int, retR_n, retR_r, retR_x, slotR_ok, negD_i, intO_i, rngR_1, rngR_2, parS_2, parS_3, ifR_t, ifR_f, ifS_t, ifS_f, R.bind_ok, R.bind_exc, R.at_ok, R.at_exc, R.opt_some, RS.opt_some, R.req_true, RS.seq_next, RS.seq_ret, RS.seq_brk, RS.seq_cont, RS.seq_exc, List.getElem?_cons_zero, List.getElem?_cons_succ, List.set_cons_zero, List.set_cons_succ, List.map_cons, List.map_nil, List.cons_append, List.nil_append, List.replicate, List.length_cons, List.length_nil, Option.map_some, Option.bind_some, Nat.reduceAdd, Nat.reduceSub, Nat.zero_add, eq_self, hg, hS2, e3, hS3]
  rw [R.req_of hr]
  simp only [x_non, x_bl, x_int, x_str, x_var, x_glo, x_bin, x_neg, x_not, x_bop, x_bop1, x_and, x_or, x_ite, x_cmp, x_chain, x_tup, x_lst, x_idx, x_slc, x_call, x_callk, x_blt, x_isi, x_mth, x_nil, x_cons, x_o0, x_o1, x_c0, x_c1, x_comp, x_val, x_rng, s_set, s_sets, s_par, s_aug, s_seti, s_expr, s_ret, s_retn, s_if, s_forF, s_whl, s_pass, s_brk, s_cont, s_nil, s_one, s_cons, o_add, o_sub, o_mul, o_fdiv, o_mod, o_pow, o_cat, o_catT, o_catL, o_mulT, a_add, a_sub, a_cat, a_catL, c_lt, c_le, c_gt, c_ge, c_eqI, c_neI, c_eqS, c_neS, c_in, c_nin, c_isN, c_isnN, t_bl, t_int, t_str, t_tup, t_non, t_ref, i_str, i_tup, i_ref, l_str, l_tup, l_ref, b_lenS, b_lenT, b_lenR, b_abs, b_max, b_min, b_int, b_intB, b_repr, b_listT, b_listR, b_tupT, b_tupR, w_tup, w_str, w_ref, g_one, m_app, m_pop, rs_strip, rs_lower, rs_upper, rs_split, rs_partition, rs_join, rs_find, rs_count, f_int, retR_n, retR_r, retR_x, slotR_ok, negD_i, intO_i, rngR_1, rngR_2, parS_2, parS_3, ifR_t, ifR_f, ifS_t, ifS_f, R.bind_ok, R.bind_exc, R.at_ok, R.at_exc, R.opt_some, RS.opt_some, R.req_true, RS.seq_next, RS.seq_ret, RS.seq_brk, RS.seq_cont, RS.seq_exc, List.getElem?_cons_zero, List.getElem?_cons_succ, List.set_cons_zero, List.set_cons_succ, List.map_cons, List.map_nil, List.cons_append, List.nil_append, List.replicate, List.length_cons, List.length_nil, Option.map_some, Option.bind_some, Nat.reduceAdd, Nat.reduceSub, Nat.zero_add, eq_self, e4, rd4, sh, and_self]
  simp only [lim6, x_non, x_bl, x_int, x_str, x_var, x_glo, x_bin, x_neg, x_not, x_bop, x_bop1, x_and, x_or, x_ite, x_cmp, x_chain, x_tup, x_lst, x_idx, x_slc, x_call, x_callk, x_blt, x_isi, x_mth, x_nil, x_cons, x_o0, x_o1, x_c0, x_c1, x_comp, x_val, x_rng, s_set, s_sets, s_par, s_aug, s_seti, s_expr, s_ret, s_retn, s_if, s_forF, s_whl, s_pass, s_brk, s_cont, s_nil, s_one, s_cons, o_add, o_sub, o_mul, o_fdiv, o_mod, o_pow, o_cat, o_catT, o_catL, o_mulT, a_add, a_sub, a_cat, a_catL, c_lt, c_le, c_gt, c_ge, c_eqI, c_neI, c_eqS, c_neS, c_in, c_nin, c_isN, c_isnN, t_bl, t_int, t_str, t_tup, t_non, t_ref, i_str, i_tup, i_ref, l_str, l_tup, l_ref, b_lenS, b_lenT, b_lenR, b_abs, b_max, b_min, b_int, b_intB, b_repr, b_listT, b_listR, b_tupT, b_tupR, w_tup, w_str, w_ref, g_one, m_app, m_pop, rs_strip, rs_lower, rs_upper, rs_split, rs_partition, rs_join, rs_find, rs_count, f_int, retR_n, retR_r, retR_x, slotR_ok, negD_i, intO_i, rngR_1, rngR_2, parS_2, parS_3, ifR_t, ifR_f, ifS_t, ifS_f, R.bind_ok, R.bind_exc, R.at_ok, R.at_exc, R.opt_some, RS.opt_some, R.req_true, RS.seq_next, RS.seq_ret, RS.seq_brk, RS.seq_cont, RS.seq_exc, List.getElem?_cons_zero, List.getElem?_cons_succ, List.set_cons_zero, List.set_cons_succ, List.map_cons, List.map_nil, List.cons_append, List.nil_append, List.replicate, List.length_cons, List.length_nil, Option.map_some, Option.bind_some, Nat.reduceAdd, Nat.reduceSub, Nat.zero_add, eq_self, e5, rd5, sh, and_self, decide_true, Bool.not_true]
  refine ⟨_, _, _, _, _, _, _, _, _, _, rfl, ((((k1.trans k2).trans k3).trans k4).trans k5).fresh fun m hm hlt => ?_⟩
  have hm' : m = b ∨ m = g := by
    simp only [List.nil_append, List.append_nil, List.cons_append, List.mem_cons, List.not_mem_nil, or_false] at hm
    rcases hm with h | h | h
    · exact .inl h
    · exact .inl h
    · exact .inr h
  omega
end K04

/-! part G8_K04 -/
namespace K04
open Cl
def fixed : List (Tx × Tx) := [([116, 101], [65, 44, 32, 98]), ([116, 101], [44, 99])]
theorem fixed_items : items (vals fixed (low [84, 69])) = [[97], [98], [99]] := by decide +kernel
theorem good (ns : List Int) (h : ns.length ≤ 63) : ∃ S', run pr cs 8 6 [.ref 0] [.scr ns] = .ok (.bl true) S' := by
  have hL : LIM = 16777216 := rfl
  have hF : FUEL = 67108864 := by decide
  obtain ⟨N, hN1, hN2⟩ : ∃ N : Nat, N < 100 ∧ (if (if ((ns.map D.int).length : Int) < 8 then ((ns.map D.int).length : Int) else 8) > 3 then (if ((ns.map D.int).length : Int) < 8 then ((ns.map D.int).length : Int) else 8) else 3) = (N : Int) := by
    rw [List.length_map]
    refine ⟨(if (if (ns.length : Int) < 8 then (ns.length : Int) else 8) > 3 then (if (ns.length : Int) < 8 then (ns.length : Int) else 8) else 3).toNat, ?_, ?_⟩
    · split <;> split <;> omega
    · split <;> split <;> omega
  have l2 : (2 ≤ LIM) = True := eq_true (by omega)
  have l3 : (3 ≤ LIM) = True := eq_true (by omega)
  have q0 : getQ [Ob.scr ns] 0 = some (ns.map .int) := getQ_scr rfl
  have hr : ((N : Int) < 2 ^ 62 ∧ -(2 ^ 62) ≤ (N : Int)) := by omega
  have hn : ((N : Int)).toNat = N := Int.toNat_natCast N
  obtain ⟨σ', S2, e2, ⟨z1, z2, z3, z4, z5, z6, z7, z8, z9, rfl, kp⟩⟩ := for_rng (f := forF ⟨run pr cs 7, cs⟩ [1] false b6_2) (lo := 0) (n := N) (σ := [some (.ref 0), none, none, none, none, none, none, none, none, none, none]) (S := [Ob.scr ns])
    (fun j σ S' => ∃ z1 z2 z3 z4 z5 z6 z7 z8 z9, σ = [some (.ref 0), z1, z2, z3, z4, z5, z6, z7, z8, z9, none] ∧ Kp [Ob.scr ns] S' [])
    ⟨_, _, _, _, _, _, _, _, _, rfl, Kp.refl _⟩ (by omega) (by
      rintro j σ S' hj ⟨z1, z2, z3, z4, z5, z6, z7, z8, z9, rfl, kp⟩
      obtain ⟨w1, w2, w3, w4, w5, w6, w7, w8, w9, S2, e, kk⟩ := turn_62 (n := 4) (i := j) (y1 := z1) (y2 := z2) (y3 := z3) (y4 := z4) (y5 := z5) (y6 := z6) (y7 := z7) (y8 := z8) (y9 := z9) (y10 := none) (kp.get (show [Ob.scr ns][0]? = some (.scr ns) from rfl) (by simp)) (by omega)
      exact ⟨_, S2, .inl e, w1, w2, w3, w4, w5, w6, w7, w8, w9, rfl, (kp.trans kk).mono (by simp)⟩)
  obtain ⟨r, S3, e3, _, k3, d3⟩ := items_run (n := 6) (S := S2) (rows := fixed) (nm := [84, 69]) ⟨by decide, by decide⟩ (by decide)
  rw [fixed_items] at d3
  have k4 := Kp.new S3 [Ob.lst [.str [97], .str [98], .str [99]]]
  have c4 : cmpop .eq (.ref r) (.ref S3.length) (S3 ++ [Ob.lst [.str [97], .str [98], .str [99]]]) = some true := by
    rw [c_eq]
    exact eq_list (n := 1) (xs := [.str [97], .str [98], .str [99]]) (getQ_of (k4.get d3 (by simp))) getQ_new (by decide) (by decide)
  have e3' : run pr cs 7 0 [.tup [.tup [.str [116, 101], .str [65, 44, 32, 98]], .tup [.str [116, 101], .str [44, 99]]], .str [84, 69]] S2 = .ok (.ref r) S3 := e3
  rw [run_ok (F := f6) rfl rfl]
  simp only [f6, s6_0, s6_1, x_non, x_bl, x_int, x_str, x_var, x_glo, x_bin, x_neg, x_not, x_bop, x_bop1, x_and, x_or, x_ite, x_cmp, x_chain, x_tup, x_lst, x_idx, x_slc, x_call, x_callk, x_blt, x_isi, x_mth, x_nil, x_cons, x_o0, x_o1, x_c0, x_c1, x_comp, x_val, x_rng, s_set, s_sets, s_par, s_aug, s_seti, s_expr, s_ret, s_retn, s_if, s_forF, s_whl, s_pass, s_brk, s_cont, s_nil, s_one, s_cons, o_add, o_sub, o_mul, o_fdiv, o_mod, o_pow, o_cat, o_catT, o_catL, o_mulT, a_add, a_sub, a_cat, a_catL, c_lt, c_le, c_gt, c_ge, c_eqI, c_neI, c_eqS, c_neS, c_in, c_nin, c_isN, c_isnN, t_bl, t_int, t_str, t_tup, t_non, t_ref, i_str, i_tup, i_ref, l_str, l_tup, l_ref, b_lenS, b_lenT, b_lenR, b_abs, b_max, b_min, b_int, b_intB, b_repr, b_listT, b_listR, b_tupT, b_tupR, w_tup, w_str, w_ref, g_one, m_app, m_pop, rs_strip, rs_lower, rs_upper, rs_split, rs_partition, rs_join, rs_find, rs_count, f_int, retR_n, retR_r, retR_x, slotR_ok, negD_i, intO_i, rngR_1, rngR_2, parS_2, parS_3, ifR_t, ifR_f, ifS_t, ifS_f, R.bind_ok, R.bind_exc, R.at_ok, R.at_exc, R.opt_some, RS.opt_some, R.req_true, RS.seq_next, RS.seq_ret, RS.seq_brk, RS.seq_cont, RS.seq_exc, List.getElem?_cons_zero, List.getElem?_cons_succ, List.set_cons_zero, List.set_cons_succ, List.map_cons, List.map_nil, List.cons_append, List.nil_append, List.replicate, List.length_cons, List.length_nil, Option.map_some, Option.bind_some, Nat.reduceAdd, Nat.reduceSub, Nat.zero_add, eq_self, q0, hN2]
  rw [R.req_of hr]
  simp only [hn, x_non, x_bl, x_int, x_str, x_var, x_glo, x_bin, x_neg, x_not, x_bop, x_bop1, x_and, x_or, x_ite, x_cmp, x_chain, x_tup, x_lst, x_idx, x_slc, x_call, x_callk, x_blt, x_isi, x_mth, x_nil, x_cons, x_o0, x_o1, x_c0, x_c1, x_comp, x_val, x_rng, s_set, s_sets, s_par, s_aug, s_seti, s_expr, s_ret, s_retn, s_if, s_forF, s_whl, s_pass, s_brk, s_cont, s_nil, s_one, s_cons, o_add, o_sub, o_mul, o_fdiv, o_mod, o_pow, o_cat, o_catT, o_catL, o_mulT, a_add, a_sub, a_cat, a_catL, c_lt, c_le, c_gt, c_ge, c_eqI, c_neI, c_eqS, c_neS, c_in, c_nin, c_isN, c_isnN, t_bl, t_int, t_str, t_tup, t_non, t_ref, i_str, i_tup, i_ref, l_str, l_tup, l_ref, b_lenS, b_lenT, b_lenR, b_abs, b_max, b_min, b_int, b_intB, b_repr, b_listT, b_listR, b_tupT, b_tupR, w_tup, w_str, w_ref, g_one, m_app, m_pop, rs_strip, rs_lower, rs_upper, rs_split, rs_partition, rs_join, rs_find, rs_count, f_int, retR_n, retR_r, retR_x, slotR_ok, negD_i, intO_i, rngR_1, rngR_2, parS_2, parS_3, ifR_t, ifR_f, ifS_t, ifS_f, R.bind_ok, R.bind_exc, R.at_ok, R.at_exc, R.opt_some, RS.opt_some, R.req_true, RS.seq_next, RS.seq_ret, RS.seq_brk, RS.seq_cont, RS.seq_exc, List.getElem?_cons_zero, List.getElem?_cons_succ, List.set_cons_zero, List.set_cons_succ, List.map_cons, List.map_nil, List.cons_append, List.nil_append, List.replicate, List.length_cons, List.length_nil, Option.map_some, Option.bind_some, Nat.reduceAdd, Nat.reduceSub, Nat.zero_add, eq_self, e2, l2, e3', l3, c4]
  exact ⟨_, rfl⟩
end K04

/-! part H_K04 -/
namespace K04
open Cl
open PySem PySem.Spec PyProof.Rows L2
def topS (i : Nat) : Stmt := PySem.Challenge.pw_chunkletters_k04_items_told.main.body.getD i (.Pass ⟨0, 0, 0, 0⟩)
def n0 : List Str := [Str.ofString "fields", Str.ofString "name", Str.ofString "values", Str.ofString "parts", Str.ofString "other", Str.ofString "value", Str.ofString "part"]
def t0 : DefT := ⟨Str.ofString "items_of", [Str.ofString "fields", Str.ofString "name"], [(0, ["name", "fields"], [.inl 1, .inl 0])]⟩
def n1 : List Str := [Str.ofString "_law_script", Str.ofString "_law_at", Str.ofString "_law_cell", Str.ofString "_law_digits"]
def t1 : DefT := ⟨Str.ofString "_law_bag", [Str.ofString "_law_script", Str.ofString "_law_at"], []⟩
def n2 : List Str := [Str.ofString "_law_bag_here", Str.ofString "_law_many", Str.ofString "_law_digit"]
def t2 : DefT := ⟨Str.ofString "_law_take", [Str.ofString "_law_bag_here", Str.ofString "_law_many"], []⟩
def n3 : List Str := [Str.ofString "_law_bag_here", Str.ofString "_law_menu"]
def t3 : DefT := ⟨Str.ofString "_law_pick", [Str.ofString "_law_bag_here", Str.ofString "_law_menu"], []⟩
def n4 : List Str := [Str.ofString "_law_string"]
def t4 : DefT := ⟨Str.ofString "_law_bare", [Str.ofString "_law_string"], []⟩
def n5 : List Str := [Str.ofString "_law_rows", Str.ofString "_law_label", Str.ofString "_law_found", Str.ofString "_law_other", Str.ofString "_law_value", Str.ofString "_law_part"]
def t5 : DefT := ⟨Str.ofString "_law_items", [Str.ofString "_law_rows", Str.ofString "_law_label"], []⟩
def n6 : List Str := [Str.ofString "_law_script", Str.ofString "_law_k", Str.ofString "_law_bag_here", Str.ofString "_law_rows", Str.ofString "_law_turn", Str.ofString "_law_words", Str.ofString "_law_value", Str.ofString "_law_kept", Str.ofString "_law_label", Str.ofString "_law_told", Str.ofString "_law_part"]
def t6 : DefT := ⟨Str.ofString "law", [Str.ofString "_law_script"], []⟩
def tab : Tab := ⟨[t0, t1, t2, t3, t4, t5, t6], [], ["abs", "isinstance", "len", "list", "max", "min", "range", "repr", "tuple"], []⟩
theorem ck0 : chkSs tab n0 (L2.defScope (topS 1)) f0.body (L2.defBody (topS 1)) = true := by decide +kernel
theorem fs0 : FnScope n0 t0.ps (L2.defScope (topS 1)) := ⟨rfl, rfl, rfl, by decide +kernel, rfl, by decide +kernel, by decide +kernel⟩
theorem ck1 : chkSs tab n1 (L2.defScope (topS 3)) f1.body (L2.defBody (topS 3)) = true := by decide +kernel
theorem fs1 : FnScope n1 t1.ps (L2.defScope (topS 3)) := ⟨rfl, rfl, rfl, by decide +kernel, rfl, by decide +kernel, by decide +kernel⟩
theorem ck2 : chkSs tab n2 (L2.defScope (topS 4)) f2.body (L2.defBody (topS 4)) = true := by decide +kernel
theorem fs2 : FnScope n2 t2.ps (L2.defScope (topS 4)) := ⟨rfl, rfl, rfl, by decide +kernel, rfl, by decide +kernel, by decide +kernel⟩
theorem ck3 : chkSs tab n3 (L2.defScope (topS 5)) f3.body (L2.defBody (topS 5)) = true := by decide +kernel
theorem fs3 : FnScope n3 t3.ps (L2.defScope (topS 5)) := ⟨rfl, rfl, rfl, by decide +kernel, rfl, by decide +kernel, by decide +kernel⟩
theorem ck4 : chkSs tab n4 (L2.defScope (topS 6)) f4.body (L2.defBody (topS 6)) = true := by decide +kernel
theorem fs4 : FnScope n4 t4.ps (L2.defScope (topS 6)) := ⟨rfl, rfl, rfl, by decide +kernel, rfl, by decide +kernel, by decide +kernel⟩
theorem ck5 : chkSs tab n5 (L2.defScope (topS 7)) f5.body (L2.defBody (topS 7)) = true := by decide +kernel
theorem fs5 : FnScope n5 t5.ps (L2.defScope (topS 7)) := ⟨rfl, rfl, rfl, by decide +kernel, rfl, by decide +kernel, by decide +kernel⟩
theorem ck6 : chkSs tab n6 (L2.defScope (topS 8)) f6.body (L2.defBody (topS 8)) = true := by decide +kernel
theorem fs6 : FnScope n6 t6.ps (L2.defScope (topS 8)) := ⟨rfl, rfl, rfl, by decide +kernel, rfl, by decide +kernel, by decide +kernel⟩
theorem ok0 {K : Fr'} {mg : Str → Option Value} {h : Heap} {a : Addr} {od an : Option Addr} {sl : Array (Option Value)} {oc kV dc pm cd ct : Value} (X : K.In h) (G : h.Ns mainGlobals mg) (n : PySem.W.nsIn K mainGlobals (Str.ofString "items_of") = some (some (.ref a)))
    (l : K.lookup a = some ⟨oc, od, .func (PySem.W.fnOf (Str.ofString "items_of") (Str.ofString "items_of") (L2.defArgs (topS 1)) (L2.defBody (topS 1)) (L2.defScope (topS 1)) .none kV dc pm an cd ct), sl⟩) (c : PySem.W.codeIn K cd (Str.ofString "items_of") = true) (k : PySem.W.keepIn K (.ref a) = true) : DefOk K mg tab pr 0 t0 :=
  ⟨a, _, _, _, _, _, _, kV, dc, pm, cd, ct, oc, an, od, sl, n0, f0, l, c, fs0, rfl, rfl, rfl, ck0, PySem.W.mg_of X G n, k, (L2.fun_mk (st := topS 1) l c k).binds (ps := t0.ps) (fun _ _ _ _ _ _ us hl => match us, hl with | [_, _], _ => rfl), fun sh hs => by
    simp only [t0, List.mem_cons, List.mem_nil_iff, or_false, List.not_mem_nil] at hs
    subst hs
    exact fun s us ws _ h1 h2 => match us, ws, h1, h2 with | [], [w0, w1], _, _ => ⟨[w1, w0], (.pos rfl (.pos rfl .nil)), .of_eq rfl⟩⟩
theorem ok1 {K : Fr'} {mg : Str → Option Value} {h : Heap} {a : Addr} {od an : Option Addr} {sl : Array (Option Value)} {oc kV dc pm cd ct : Value} (X : K.In h) (G : h.Ns mainGlobals mg) (n : PySem.W.nsIn K mainGlobals (Str.ofString "_law_bag") = some (some (.ref a)))
    (l : K.lookup a = some ⟨oc, od, .func (PySem.W.fnOf (Str.ofString "_law_bag") (Str.ofString "_law_bag") (L2.defArgs (topS 3)) (L2.defBody (topS 3)) (L2.defScope (topS 3)) .none kV dc pm an cd ct), sl⟩) (c : PySem.W.codeIn K cd (Str.ofString "_law_bag") = true) (k : PySem.W.keepIn K (.ref a) = true) : DefOk K mg tab pr 1 t1 :=
  ⟨a, _, _, _, _, _, _, kV, dc, pm, cd, ct, oc, an, od, sl, n1, f1, l, c, fs1, rfl, rfl, rfl, ck1, PySem.W.mg_of X G n, k, (L2.fun_mk (st := topS 3) l c k).binds (ps := t1.ps) (fun _ _ _ _ _ _ us hl => match us, hl with | [_, _], _ => rfl), fun sh hs => nomatch hs⟩
theorem ok2 {K : Fr'} {mg : Str → Option Value} {h : Heap} {a : Addr} {od an : Option Addr} {sl : Array (Option Value)} {oc kV dc pm cd ct : Value} (X : K.In h) (G : h.Ns mainGlobals mg) (n : PySem.W.nsIn K mainGlobals (Str.ofString "_law_take") = some (some (.ref a)))
    (l : K.lookup a = some ⟨oc, od, .func (PySem.W.fnOf (Str.ofString "_law_take") (Str.ofString "_law_take") (L2.defArgs (topS 4)) (L2.defBody (topS 4)) (L2.defScope (topS 4)) .none kV dc pm an cd ct), sl⟩) (c : PySem.W.codeIn K cd (Str.ofString "_law_take") = true) (k : PySem.W.keepIn K (.ref a) = true) : DefOk K mg tab pr 2 t2 :=
  ⟨a, _, _, _, _, _, _, kV, dc, pm, cd, ct, oc, an, od, sl, n2, f2, l, c, fs2, rfl, rfl, rfl, ck2, PySem.W.mg_of X G n, k, (L2.fun_mk (st := topS 4) l c k).binds (ps := t2.ps) (fun _ _ _ _ _ _ us hl => match us, hl with | [_, _], _ => rfl), fun sh hs => nomatch hs⟩
theorem ok3 {K : Fr'} {mg : Str → Option Value} {h : Heap} {a : Addr} {od an : Option Addr} {sl : Array (Option Value)} {oc kV dc pm cd ct : Value} (X : K.In h) (G : h.Ns mainGlobals mg) (n : PySem.W.nsIn K mainGlobals (Str.ofString "_law_pick") = some (some (.ref a)))
    (l : K.lookup a = some ⟨oc, od, .func (PySem.W.fnOf (Str.ofString "_law_pick") (Str.ofString "_law_pick") (L2.defArgs (topS 5)) (L2.defBody (topS 5)) (L2.defScope (topS 5)) .none kV dc pm an cd ct), sl⟩) (c : PySem.W.codeIn K cd (Str.ofString "_law_pick") = true) (k : PySem.W.keepIn K (.ref a) = true) : DefOk K mg tab pr 3 t3 :=
  ⟨a, _, _, _, _, _, _, kV, dc, pm, cd, ct, oc, an, od, sl, n3, f3, l, c, fs3, rfl, rfl, rfl, ck3, PySem.W.mg_of X G n, k, (L2.fun_mk (st := topS 5) l c k).binds (ps := t3.ps) (fun _ _ _ _ _ _ us hl => match us, hl with | [_, _], _ => rfl), fun sh hs => nomatch hs⟩
theorem ok4 {K : Fr'} {mg : Str → Option Value} {h : Heap} {a : Addr} {od an : Option Addr} {sl : Array (Option Value)} {oc kV dc pm cd ct : Value} (X : K.In h) (G : h.Ns mainGlobals mg) (n : PySem.W.nsIn K mainGlobals (Str.ofString "_law_bare") = some (some (.ref a)))
    (l : K.lookup a = some ⟨oc, od, .func (PySem.W.fnOf (Str.ofString "_law_bare") (Str.ofString "_law_bare") (L2.defArgs (topS 6)) (L2.defBody (topS 6)) (L2.defScope (topS 6)) .none kV dc pm an cd ct), sl⟩) (c : PySem.W.codeIn K cd (Str.ofString "_law_bare") = true) (k : PySem.W.keepIn K (.ref a) = true) : DefOk K mg tab pr 4 t4 :=
  ⟨a, _, _, _, _, _, _, kV, dc, pm, cd, ct, oc, an, od, sl, n4, f4, l, c, fs4, rfl, rfl, rfl, ck4, PySem.W.mg_of X G n, k, (L2.fun_mk (st := topS 6) l c k).binds (ps := t4.ps) (fun _ _ _ _ _ _ us hl => match us, hl with | [_], _ => rfl), fun sh hs => nomatch hs⟩
theorem ok5 {K : Fr'} {mg : Str → Option Value} {h : Heap} {a : Addr} {od an : Option Addr} {sl : Array (Option Value)} {oc kV dc pm cd ct : Value} (X : K.In h) (G : h.Ns mainGlobals mg) (n : PySem.W.nsIn K mainGlobals (Str.ofString "_law_items") = some (some (.ref a)))
    (l : K.lookup a = some ⟨oc, od, .func (PySem.W.fnOf (Str.ofString "_law_items") (Str.ofString "_law_items") (L2.defArgs (topS 7)) (L2.defBody (topS 7)) (L2.defScope (topS 7)) .none kV dc pm an cd ct), sl⟩) (c : PySem.W.codeIn K cd (Str.ofString "_law_items") = true) (k : PySem.W.keepIn K (.ref a) = true) : DefOk K mg tab pr 5 t5 :=
  ⟨a, _, _, _, _, _, _, kV, dc, pm, cd, ct, oc, an, od, sl, n5, f5, l, c, fs5, rfl, rfl, rfl, ck5, PySem.W.mg_of X G n, k, (L2.fun_mk (st := topS 7) l c k).binds (ps := t5.ps) (fun _ _ _ _ _ _ us hl => match us, hl with | [_, _], _ => rfl), fun sh hs => nomatch hs⟩
theorem ok6 {K : Fr'} {mg : Str → Option Value} {h : Heap} {a : Addr} {od an : Option Addr} {sl : Array (Option Value)} {oc kV dc pm cd ct : Value} (X : K.In h) (G : h.Ns mainGlobals mg) (n : PySem.W.nsIn K mainGlobals (Str.ofString "law") = some (some (.ref a)))
    (l : K.lookup a = some ⟨oc, od, .func (PySem.W.fnOf (Str.ofString "law") (Str.ofString "law") (L2.defArgs (topS 8)) (L2.defBody (topS 8)) (L2.defScope (topS 8)) .none kV dc pm an cd ct), sl⟩) (c : PySem.W.codeIn K cd (Str.ofString "law") = true) (k : PySem.W.keepIn K (.ref a) = true) : DefOk K mg tab pr 6 t6 :=
  ⟨a, _, _, _, _, _, _, kV, dc, pm, cd, ct, oc, an, od, sl, n6, f6, l, c, fs6, rfl, rfl, rfl, ck6, PySem.W.mg_of X G n, k, (L2.fun_mk (st := topS 8) l c k).binds (ps := t6.ps) (fun _ _ _ _ _ _ us hl => match us, hl with | [_], _ => rfl), fun sh hs => nomatch hs⟩
theorem all_ok {K : Fr'} {mg : Str → Option Value} {h : Heap} {fa : Addr} {l : PySem.W.OpenLaw} {w : World} (X : K.In h) (G : h.Ns mainGlobals mg) (hfa : mg (Str.ofString "law") = some (.ref fa))
    {od0 an0 : Option Addr} {sl0 : Array (Option Value)} {oc0 kV0 dc0 pm0 cd0 ct0 : Value} {a0 : Addr} (n0 : PySem.W.nsIn K mainGlobals (Str.ofString "items_of") = some (some (.ref a0)))
    (l0 : K.lookup a0 = some ⟨oc0, od0, .func (PySem.W.fnOf (Str.ofString "items_of") (Str.ofString "items_of") (L2.defArgs (topS 1)) (L2.defBody (topS 1)) (L2.defScope (topS 1)) .none kV0 dc0 pm0 an0 cd0 ct0), sl0⟩) (c0 : PySem.W.codeIn K cd0 (Str.ofString "items_of") = true) (k0 : PySem.W.keepIn K (.ref a0) = true)
    {od1 an1 : Option Addr} {sl1 : Array (Option Value)} {oc1 kV1 dc1 pm1 cd1 ct1 : Value} {a1 : Addr} (n1 : PySem.W.nsIn K mainGlobals (Str.ofString "_law_bag") = some (some (.ref a1)))
    (l1 : K.lookup a1 = some ⟨oc1, od1, .func (PySem.W.fnOf (Str.ofString "_law_bag") (Str.ofString "_law_bag") (L2.defArgs (topS 3)) (L2.defBody (topS 3)) (L2.defScope (topS 3)) .none kV1 dc1 pm1 an1 cd1 ct1), sl1⟩) (c1 : PySem.W.codeIn K cd1 (Str.ofString "_law_bag") = true) (k1 : PySem.W.keepIn K (.ref a1) = true)
    {od2 an2 : Option Addr} {sl2 : Array (Option Value)} {oc2 kV2 dc2 pm2 cd2 ct2 : Value} {a2 : Addr} (n2 : PySem.W.nsIn K mainGlobals (Str.ofString "_law_take") = some (some (.ref a2)))
    (l2 : K.lookup a2 = some ⟨oc2, od2, .func (PySem.W.fnOf (Str.ofString "_law_take") (Str.ofString "_law_take") (L2.defArgs (topS 4)) (L2.defBody (topS 4)) (L2.defScope (topS 4)) .none kV2 dc2 pm2 an2 cd2 ct2), sl2⟩) (c2 : PySem.W.codeIn K cd2 (Str.ofString "_law_take") = true) (k2 : PySem.W.keepIn K (.ref a2) = true)
    {od3 an3 : Option Addr} {sl3 : Array (Option Value)} {oc3 kV3 dc3 pm3 cd3 ct3 : Value} {a3 : Addr} (n3 : PySem.W.nsIn K mainGlobals (Str.ofString "_law_pick") = some (some (.ref a3)))
    (l3 : K.lookup a3 = some ⟨oc3, od3, .func (PySem.W.fnOf (Str.ofString "_law_pick") (Str.ofString "_law_pick") (L2.defArgs (topS 5)) (L2.defBody (topS 5)) (L2.defScope (topS 5)) .none kV3 dc3 pm3 an3 cd3 ct3), sl3⟩) (c3 : PySem.W.codeIn K cd3 (Str.ofString "_law_pick") = true) (k3 : PySem.W.keepIn K (.ref a3) = true)
    {od4 an4 : Option Addr} {sl4 : Array (Option Value)} {oc4 kV4 dc4 pm4 cd4 ct4 : Value} {a4 : Addr} (n4 : PySem.W.nsIn K mainGlobals (Str.ofString "_law_bare") = some (some (.ref a4)))
    (l4 : K.lookup a4 = some ⟨oc4, od4, .func (PySem.W.fnOf (Str.ofString "_law_bare") (Str.ofString "_law_bare") (L2.defArgs (topS 6)) (L2.defBody (topS 6)) (L2.defScope (topS 6)) .none kV4 dc4 pm4 an4 cd4 ct4), sl4⟩) (c4 : PySem.W.codeIn K cd4 (Str.ofString "_law_bare") = true) (k4 : PySem.W.keepIn K (.ref a4) = true)
    {od5 an5 : Option Addr} {sl5 : Array (Option Value)} {oc5 kV5 dc5 pm5 cd5 ct5 : Value} {a5 : Addr} (n5 : PySem.W.nsIn K mainGlobals (Str.ofString "_law_items") = some (some (.ref a5)))
    (l5 : K.lookup a5 = some ⟨oc5, od5, .func (PySem.W.fnOf (Str.ofString "_law_items") (Str.ofString "_law_items") (L2.defArgs (topS 7)) (L2.defBody (topS 7)) (L2.defScope (topS 7)) .none kV5 dc5 pm5 an5 cd5 ct5), sl5⟩) (c5 : PySem.W.codeIn K cd5 (Str.ofString "_law_items") = true) (k5 : PySem.W.keepIn K (.ref a5) = true)
    {od6 an6 : Option Addr} {sl6 : Array (Option Value)} {oc6 kV6 dc6 pm6 cd6 ct6 : Value} {a6 : Addr} (n6 : PySem.W.nsIn K mainGlobals (Str.ofString "law") = some (some (.ref a6)))
    (l6 : K.lookup a6 = some ⟨oc6, od6, .func (PySem.W.fnOf (Str.ofString "law") (Str.ofString "law") (L2.defArgs (topS 8)) (L2.defBody (topS 8)) (L2.defScope (topS 8)) .none kV6 dc6 pm6 an6 cd6 ct6), sl6⟩) (c6 : PySem.W.codeIn K cd6 (Str.ofString "law") = true) (k6 : PySem.W.keepIn K (.ref a6) = true)
    (b0 : PySem.W.nsIn K mainGlobals (Str.ofString "abs") = some none) (b1 : PySem.W.nsIn K mainGlobals (Str.ofString "isinstance") = some none) (b2 : PySem.W.nsIn K mainGlobals (Str.ofString "len") = some none) (b3 : PySem.W.nsIn K mainGlobals (Str.ofString "list") = some none) (b4 : PySem.W.nsIn K mainGlobals (Str.ofString "max") = some none) (b5 : PySem.W.nsIn K mainGlobals (Str.ofString "min") = some none) (b6 : PySem.W.nsIn K mainGlobals (Str.ofString "range") = some none) (b7 : PySem.W.nsIn K mainGlobals (Str.ofString "repr") = some none) (b8 : PySem.W.nsIn K mainGlobals (Str.ofString "tuple") = some none) :
    ∃ (xi : XI) (fd : FuncData), (∀ (s : Shared) (u : Value), BindsTo s fd ⟨[u], []⟩ [(Str.ofString "_law_script", u)]) ∧ ∀ base : Heap, FnG l.prog w K mg base 10 fa fd [Str.ofString "_law_script"] (spF K xi (run pr cs 8 6)) := by
  have e := hfa.symm.trans (PySem.W.mg_of X G n6)
  cases e
  have T : ∀ f d, tab.T[f]? = some d → DefOk K mg tab pr f d := by
    intro f d hd
    rcases f with _ | f
    · cases hd
      exact ok0 X G n0 l0 c0 k0
    rcases f with _ | f
    · cases hd
      exact ok1 X G n1 l1 c1 k1
    rcases f with _ | f
    · cases hd
      exact ok2 X G n2 l2 c2 k2
    rcases f with _ | f
    · cases hd
      exact ok3 X G n3 l3 c3 k3
    rcases f with _ | f
    · cases hd
      exact ok4 X G n4 l4 c4 k4
    rcases f with _ | f
    · cases hd
      exact ok5 X G n5 l5 c5 k5
    rcases f with _ | f
    · cases hd
      exact ok6 X G n6 l6 c6 k6
    · cases hd
  have L : ∀ g x, tab.G[g]? = some x → ∃ d u v, cs g = some d ∧ mg (Str.ofString x) = some u ∧ RelV v u ∧ ∀ ι H, RelD K ι H d v := by
    intro g x hx
    cases hx
  have B : ∀ x ∈ tab.B, mg (Str.ofString x) = none := by
    intro x hx
    simp only [tab, List.mem_cons, List.mem_nil_iff, or_false, List.not_mem_nil] at hx
    rcases hx with rfl | rfl | rfl | rfl | rfl | rfl | rfl | rfl | rfl
    · exact PySem.W.mg_none_of X G b0
    · exact PySem.W.mg_none_of X G b1
    · exact PySem.W.mg_none_of X G b2
    · exact PySem.W.mg_none_of X G b3
    · exact PySem.W.mg_none_of X G b4
    · exact PySem.W.mg_none_of X G b5
    · exact PySem.W.mg_none_of X G b6
    · exact PySem.W.mg_none_of X G b7
    · exact PySem.W.mg_none_of X G b8
  have XI0 : ∃ xi : XI, xi = fun c => (([] : List (Option (Addr × List Str)))[c]?).getD none := ⟨_, rfl⟩
  obtain ⟨xi, hxi⟩ := XI0
  have XC : ∀ (base : Heap) c nm fld, tab.X[c]? = some (nm, fld) → XCls l.prog w K mg base xi c (Str.ofString nm) (Str.ofString fld) := by
    intro base c nm fld hc
    cases hc
  have XM : ∀ c C ns c' C' ns', xi c = some (C, ns) → xi c' = some (C', ns') → PySem.W.exmOne K (.ref C') (.ref C) = some (decide (c' = c)) := by
    intro c C ns c' C' ns' h1 h2
    rw [hxi] at h1 h2
    cases h1
  refine ⟨xi, PySem.W.fnOf (Str.ofString "law") (Str.ofString "law") (L2.defArgs (topS 8)) (L2.defBody (topS 8)) (L2.defScope (topS 8)) .none kV6 dc6 pm6 an6 cd6 ct6, fun s u => .of_eq (by rfl), fun base => ?_⟩
  exact fnG_of l6 c6 fs6 (P' := pr) (f := 6) rfl rfl rfl ck6 (tab_ok (P := l.prog) (w := w) (base := base) (xi := xi) T L B (XC base) XM 7)
end K04

open PySem PySem.W PyProof.Rows
set_option maxHeartbeats 0 in
theorem PySem.Challenge.cw_chunkletters_k04_items_told_holds : PySem.Challenge.rw_chunkletters_k04_items_told.Holds := by
  w_on; o_law; k_head; (case hw => w_witness2)
  k_fill
  refine Cl.walk_law (l := PySem.Challenge.rw_chunkletters_k04_items_told) (n := 63) (k := 10) (x := Str.ofString "_law_script") (c := Cl.run K04.pr K04.cs 8 6) rfl (by decide) rfl ⟨rfl, by decide, by decide⟩ (fun w h Y => PySem.W.kIn_of Y) ?F (fun ns h hb => K04.good ns h)
  case F =>
    intro w mg fa h KX G hmg
    refine' K04.all_ok KX G hmg ?hn0 ?hl0 ?hc0 ?hk0 ?hn1 ?hl1 ?hc1 ?hk1 ?hn2 ?hl2 ?hc2 ?hk2 ?hn3 ?hl3 ?hc3 ?hk3 ?hn4 ?hl4 ?hc4 ?hk4 ?hn5 ?hl5 ?hc5 ?hk5 ?hn6 ?hl6 ?hc6 ?hk6 ?hb0 ?hb1 ?hb2 ?hb3 ?hb4 ?hb5 ?hb6 ?hb7 ?hb8
    (case hn0 => k_is); (case hl0 => k_is); (case hc0 => k_is); (case hk0 => k_is); (case hn1 => k_is); (case hl1 => k_is); (case hc1 => k_is); (case hk1 => k_is); (case hn2 => k_is); (case hl2 => k_is); (case hc2 => k_is); (case hk2 => k_is); (case hn3 => k_is); (case hl3 => k_is); (case hc3 => k_is); (case hk3 => k_is); (case hn4 => k_is); (case hl4 => k_is); (case hc4 => k_is); (case hk4 => k_is); (case hn5 => k_is); (case hl5 => k_is); (case hc5 => k_is); (case hk5 => k_is); (case hn6 => k_is); (case hl6 => k_is); (case hc6 => k_is); (case hk6 => k_is); (case hb0 => k_is); (case hb1 => k_is); (case hb2 => k_is); (case hb3 => k_is); (case hb4 => k_is); (case hb5 => k_is); (case hb6 => k_is); (case hb7 => k_is); (case hb8 => k_is)
