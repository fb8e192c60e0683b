import PyProof.Rows.All
import Wide.All
import OpenK.AllK
import Wide.FinOn
import HandS.ForMost
import HandS.IntHex
import HandS.Text
import HandS.Codes
import HandS.Deep
import HandS.Exc
import HandS.ExcOwn
import HandS.TryOnly
import HandS.Flow
import HandS.Style
import HandS.StrMore
import HandS.IsInst
import HandS.TupAny
import HandS.TupMul
import PyProof.ReprRoads
import HandS.Replace
import HandS.More
import HandS.Iter
import HandS.Comp
import KE.GoesMore
import HandS.ExcInit
import HandS.ExcField
import HandS.FStr
import HandS.Ends
import HandS.EndBits
import PyProof.ReprBulk
import KE.DataEq
import PyProof.StrLawsFirst
import PyProof.StrLawsIn
import PySem.Challenge.RW_chunkletters_k10_sizes_read
set_option Elab.async false
set_option linter.all false
set_option maxRecDepth 100000
/-! part Py1 -/
/-! Cl: values, a store, a small language and its evaluator, in plain Lean. -/
namespace Cl
open PySem (PyData Str)

abbrev Tx := List Nat
def LIM : Nat := 16777216
/-- a text of codes from a Lean string -/
def tx (s : String) : Tx := s.toList.map Char.toNat

inductive D where
  | non | bl (b : Bool) | int (i : Int) | str (s : Tx) | tup (xs : List D) | ref (n : Nat) | exn (c : Nat) (fs : List D)
  deriving Inhabited

inductive Ob where
  | lst (xs : List D) | scr (ns : List Int) | ins (c : Nat) (fs : List (String × D)) | dct (kvs : List (D × D))
  deriving Inhabited

abbrev Sto := List Ob
abbrev Sg := List (Option D)

inductive R (α : Type) where
  | ok (a : α) (S : Sto)
  | exc (x : D) (S : Sto)
  | no

@[inline] def R.bind {α β : Type} (m : R α) (f : α → Sto → R β) : R β := match m with
  | .ok a S => f a S
  | .exc x S => .exc x S
  | .no => .no
@[simp] theorem R.bind_ok {α β : Type} (a : α) (S : Sto) (f : α → Sto → R β) : R.bind (.ok a S) f = f a S := (rfl)
@[simp] theorem R.bind_exc {α β : Type} (x : D) (S : Sto) (f : α → Sto → R β) : R.bind (.exc x S : R α) f = .exc x S := (rfl)
@[simp] theorem R.bind_no {α β : Type} (f : α → Sto → R β) : R.bind (.no : R α) f = .no := (rfl)
/-- an Option, or stuck -/
@[inline] def R.opt {α β : Type} (o : Option α) (f : α → R β) : R β := match o with
  | some a => f a
  | none => .no
@[simp] theorem R.opt_some {α β : Type} (a : α) (f : α → R β) : R.opt (some a) f = f a := (rfl)
@[simp] theorem R.opt_none {α β : Type} (f : α → R β) : R.opt (none : Option α) f = .no := (rfl)
theorem R.bind_assoc {α β γ : Type} (m : R α) (f : α → Sto → R β) (g : β → Sto → R γ) : (m.bind f).bind g = m.bind fun a S => (f a S).bind g := by cases m <;> rfl
theorem R.opt_bind {α β γ : Type} (o : Option α) (f : α → R β) (g : β → Sto → R γ) : (R.opt o f).bind g = R.opt o fun a => (f a).bind g := by cases o <;> rfl
/-- a condition, or stuck -/
@[inline] def R.req {β : Type} (c : Prop) [Decidable c] (m : R β) : R β := if c then m else .no
theorem R.req_of {β : Type} {c : Prop} [Decidable c] (h : c) (m : R β) : R.req c m = m := if_pos h
@[simp] theorem R.req_true {β : Type} (m : R β) : R.req True m = m := if_pos trivial

/-! ### data read out of the store -/
/-- a list of the store that may change; one that is read (the script, too) -/
def getL (S : Sto) (n : Nat) : Option (List D) := match S[n]? with
  | some (.lst xs) => some xs
  | _ => none
def getQ (S : Sto) (n : Nat) : Option (List D) := match S[n]? with
  | some (.lst xs) => some xs
  | some (.scr ns) => some (ns.map .int)
  | _ => none
def rdL (f : D → Option PyData) : List D → Option (List PyData)
  | [] => some []
  | x :: xs => match f x, rdL f xs with
    | some a, some as => some (a :: as)
    | _, _ => none
def rd (S : Sto) : Nat → D → Option PyData
  | _, .non => some .none
  | _, .bl b => some (.bool b)
  | _, .int i => some (.int i)
  | _, .str s => some (.str (SX.S s))
  | 0, .tup _ => none
  | n + 1, .tup xs => (rdL (rd S n) xs).map .tuple
  | 0, .ref _ => none
  | n + 1, .ref m => match getQ S m with
    | some xs => (rdL (rd S n) xs).map .list
    | none => none
  | _, .exn _ _ => none
/-- the depth that is read -/
def DEEP : Nat := 24
def eqD (S : Sto) (a b : D) : Option Bool := match rd S DEEP a, rd S DEEP b with
  | some x, some y => some (PyData.eqv x y)
  | _, _ => none
def truth (S : Sto) : D → Option Bool
  | .non => some false
  | .bl b => some b
  | .int i => some (i != 0)
  | .str s => some (!s.isEmpty)
  | .tup xs => some (!xs.isEmpty)
  | .ref n => (getQ S n).map fun xs => !xs.isEmpty
  | .exn _ _ => none

/-! ### the language -/
inductive Op where | add | sub | mul | fdiv | mod | pow
  deriving DecidableEq
inductive Cm where | eq | ne | lt | le | gt | ge | isin | notin | is | isnot
  deriving DecidableEq
/-- built-in functions, by the number of arguments -/
inductive Bf where | len | abs | max2 | min2 | int1 | int2 | str1 | bool1 | repr | list1 | tuple1 | all1 | any1 | sum1 | dict1 | sorted1 | max1 | min1
  deriving DecidableEq
/-- methods of built-in types -/
inductive Mt where
  | strip | lower | upper | split | partition | join | find | count | index
  | append | pop | popAt | insert | extend | reverse | clear
  deriving DecidableEq
/-- what isinstance asks: built-in types, exception classes, own classes -/
inductive Ty where | int | bool | str | list | tuple | base (s : String) | exc (c : Nat) | own (c : Nat)
  deriving DecidableEq

/-- constants: a default's value -/
inductive Kd where | non | bl (b : Bool) | int (i : Int) | str (s : Tx)
  deriving DecidableEq
def Kd.toD : Kd → D
  | .non => .non
  | .bl b => .bl b
  | .int i => .int i
  | .str s => .str s
def argOf (vs : List D) : Sum Nat Kd → Option D
  | .inl i => vs[i]?
  | .inr k => some k.toD
mutual
inductive E where
  | non | bl (b : Bool) | int (i : Int) | str (s : Tx)
  | var (i : Nat) | glo (g : Nat)
  | bin (o : Op) (a b : E) | neg (a : E) | not (a : E)
  | bop (isAnd : Bool) (es : Es)
  | ite (c a b : E)
  | cmp (o : Cm) (a b : E) | chain (o p : Cm) (a b c : E)
  | tup (es : Es) | lst (es : Es)
  | idx (a b : E) | slc (a : E) (lo hi : Es)
  | fld (a : E) (f : String)
  | call (f : Nat) (es : Es)
  | callk (f : Nat) (es ks : Es) (names : List String) (perm : List (Sum Nat Kd))
  | blt (b : Bf) (es : Es)
  | isi (a : E) (ts : List Ty) (single : Bool)
  | mth (m : Mt) (o : E) (es : Es)
  | new (c : Nat) (es ks : Es) (names : List String) (perm : List (Sum Nat Kd))
  | mcall (a : E) (m : String) (es ks : Es) (names : List String) (perm : List (Sum Nat Kd))
  | fmt (es : Es) | cat (tup : Bool) (es : Es) (st : List Bool)
  | comp (elt : E) (tg : List Nat) (tup : Bool) (it : It) (cond : Es) (own : List (String × Nat))
inductive Es where | nil | cons (e : E) (es : Es)
inductive It where | val (e : E) | rng (es : Es) | enm (e : E) | zip (a b : E)
end

/-- what an except suite gives back: constants, the exception's field, tuples -/
inductive XE where | cst (k : Kd) | fld | tup (xs : List XE)
mutual
inductive St where
  | set (i : Nat) (e : E)
  | sets (is : List Nat) (e : E)
  | par (is : List Nat) (es : Es)
  | aug (i : Nat) (o : Op) (e : E)
  | setf (o : E) (f : String) (e : E)
  | augf (o : E) (f : String) (op : Op) (e : E)
  | seti (o i e : E)
  | expr (e : E)
  | ret (e : E) | retn
  | ifs (c : E) (a b : Ss)
  | whl (c : E) (fg : List Nat) (b : Ss)
  | forr (tg : List Nat) (tup : Bool) (it : It) (fg : List Nat) (b : Ss)
  | raise (c : Nat) (es : Es)
  | tryx (b : Ss) (hs : Hs)
  | tryr (b : Ss) (c i : Nat) (x : XE)
  | pass | brk | cont
inductive Ss where | nil | cons (s : St) (ss : Ss)
inductive Hs where | nil | cons (cs : List Nat) (slot : Option Nat) (b : Ss) (hs : Hs)
end

/-! ### operations by values -/
def ins1 (S : Sto) (o : Ob) : R D := .ok (.ref S.length) (S ++ [o])
def binop (o : Op) (a b : D) (S : Sto) : R D := match o, a, b with
  | .add, .int i, .int j => .ok (.int (i + j)) S
  | .add, .str s, .str t => R.req (s.length + t.length ≤ LIM) (.ok (.str (s ++ t)) S)
  | .add, .tup s, .tup t => R.req (s.length + t.length ≤ LIM) (.ok (.tup (s ++ t)) S)
  | .add, .ref m, .ref n => R.opt (getL S m) fun s => R.opt (getL S n) fun t => R.req (s.length + t.length ≤ LIM) (ins1 S (.lst (s ++ t)))
  | .sub, .int i, .int j => .ok (.int (i - j)) S
  | .mul, .int i, .int j => R.req (i.natAbs < 2 ^ 64 ∨ j.natAbs < 2 ^ 64) (.ok (.int (i * j)) S)
  | .mul, .tup s, .int k => R.req (s ≠ [] ∧ 2 ≤ k ∧ k ≤ 1000 ∧ s.length ≤ 1000) (.ok (.tup (List.replicate k.toNat s).flatten) S)
  | .mul, .ref m, .int k => R.opt (getL S m) fun s => R.req (0 ≤ k ∧ k ≤ 100000 ∧ s.length * k.toNat ≤ LIM) (ins1 S (.lst (List.replicate k.toNat s).flatten))
  | .fdiv, .int i, .int j => R.req (0 < j ∧ j < 1073741824) (.ok (.int (i / j)) S)
  | .mod, .int i, .int j => R.req (0 < j) (.ok (.int (i % j)) S)
  | .pow, .int i, .int j => R.req (0 ≤ j ∧ j ≤ 1000000 ∧ i.natAbs < 2 ^ 64) (.ok (.int (i ^ j.toNat)) S)
  | _, _, _ => .no

/-- is y within x, as a text -/
def subTx (x y : Tx) : Bool := !(PySem.Builtin.Str.occurrences (SX.S x) (SX.S y) 0 (SX.S x).length 1).isEmpty
def memD (S : Sto) (x : D) (ys : D) : Option Bool := match rd S DEEP x, rd S (DEEP + 1) ys with
  | some d, some (.list ds) => some (ds.any fun z => PyData.eqv z d)
  | _, _ => none
/-- flat values: compared by ==, kept in tuples -/
def flat : D → Bool
  | .non => true | .bl _ => true | .int _ => true | .str _ => true | _ => false
def eqF : D → D → Bool
  | .non, .non => true
  | .bl a, .bl b => a == b
  | .bl a, .int b => (if a then 1 else 0) == b
  | .int a, .bl b => a == (if b then 1 else 0)
  | .int a, .int b => a == b
  | .str a, .str b => a == b
  | _, _ => false
def inF (S : Sto) (x y : D) : Option Bool := match x, y with
  | .str s, .str t => some (subTx t s)
  | x, .tup ys => if flat x && ys.all flat then some (ys.any fun y => eqF y x) else none
  | x, .ref m => match getQ S m with
    | some ys => if flat x && ys.all flat then some (ys.any fun y => eqF y x) else none
    | none => none
  | _, _ => none
def isNon : D → Bool | .non => true | _ => false
def cmpop (o : Cm) (a b : D) (S : Sto) : Option Bool := match o with
  | .eq => eqD S a b
  | .ne => (eqD S a b).map (!·)
  | .lt => match a, b with | .int i, .int j => some (decide (i < j)) | _, _ => none
  | .le => match a, b with | .int i, .int j => some (decide (i ≤ j)) | _, _ => none
  | .gt => match a, b with | .int i, .int j => some (decide (j < i)) | _, _ => none
  | .ge => match a, b with | .int i, .int j => some (decide (j ≤ i)) | _, _ => none
  | .isin => inF S a b
  | .notin => (inF S a b).map (!·)
  | .is => match b with | .non => some (isNon a) | .bl y => (match a with | .bl x => some (decide (x = y)) | _ => none) | _ => none
  | .isnot => match b with | .non => some (!isNon a) | .bl y => (match a with | .bl x => some (!decide (x = y)) | _ => none) | _ => none

def atI {α : Type} (xs : List α) (i : Int) : Option α := L2.atI xs i
def index (a b : D) (S : Sto) : R D := match a, b with
  | .str s, .int i => R.opt (atI s i) fun c => .ok (.str [c]) S
  | .tup xs, .int i => R.opt (atI xs i) fun d => .ok d S
  | .ref m, .int i => R.opt (getQ S m) fun xs => R.opt (atI xs i) fun d => .ok d S
  | _, _ => .no
/-- xs[lo:hi] -/
def cut {α : Type} (xs : List α) (lo hi : Option Int) : List α := (xs.drop (HT.sIx xs.length 0 lo)).take (HT.sIx xs.length xs.length hi - HT.sIx xs.length 0 lo)
def slice (a : D) (lo hi : Option Int) (S : Sto) : R D := match a with
  | .str s => .ok (.str (cut s lo hi)) S
  | .tup xs => .ok (.tup (cut xs lo hi)) S
  | .ref m => R.opt (getQ S m) fun xs => ins1 S (.lst (cut xs lo hi))
  | _ => .no

def asInts : List D → Option (List Int)
  | [] => some []
  | .int i :: r => (asInts r).map (i :: ·)
  | _ => none
def asStrs : List D → Option (List Tx)
  | [] => some []
  | .str i :: r => (asStrs r).map (i :: ·)
  | _ => none
def asBls : List D → Option (List Bool)
  | [] => some []
  | .bl i :: r => (asBls r).map (i :: ·)
  | _ => none
/-- a sign of base 16 -/
def hexB (c : Nat) : Bool := (decide (48 ≤ c) && decide (c ≤ 57)) || (decide (97 ≤ c) && decide (c ≤ 102)) || (decide (65 ≤ c) && decide (c ≤ 70))
/-- built-in functions -/
def blt (b : Bf) (vs : List D) (S : Sto) : R D := match b, vs with
  | .len, [.str s] => .ok (.int s.length) S
  | .len, [.tup xs] => .ok (.int xs.length) S
  | .len, [.ref m] => R.opt (getQ S m) fun xs => .ok (.int xs.length) S
  | .abs, [.int i] => .ok (.int (if i < 0 then -i else i)) S
  | .max2, [.int i, .int j] => .ok (.int (if j > i then j else i)) S
  | .min2, [.int i, .int j] => .ok (.int (if j < i then j else i)) S
  | .int1, [.int i] => .ok (.int i) S
  | .int1, [.bl k] => .ok (.int (if k then 1 else 0)) S
  | .int1, [.str s] => R.opt (PySem.intText? (SX.S s)) fun n => R.req (s.length ≤ 640) (.ok (.int n) S)
  | .int2, [.str s, .int i] => R.req (i = 16 ∧ s ≠ [] ∧ s.length ≤ 640 ∧ s.all hexB = true) (.ok (.int (L2.Hx.hexNum s : Nat)) S)
  | .repr, [v] => R.opt (rd S DEEP v) fun p => R.req (p.showable = true ∧ p.shown.length ≤ LIM) (.ok (.str p.shown.cps.toList) S)
  | .list1, [.tup xs] => ins1 S (.lst xs)
  | .list1, [.ref m] => R.opt (getQ S m) fun xs => ins1 S (.lst xs)
  | .tuple1, [.tup xs] => .ok (.tup xs) S
  | .tuple1, [.ref m] => R.opt (getQ S m) fun xs => .ok (.tup xs) S
  | .all1, [.ref m] => R.opt (getQ S m) fun xs => R.opt (asBls xs) fun bs => .ok (.bl (bs.all id)) S
  | .any1, [.ref m] => R.opt (getQ S m) fun xs => R.opt (asBls xs) fun bs => .ok (.bl (bs.any id)) S
  | _, _ => .no
/-- has a value the type -/
def hasTy : D → Ty → Option Bool
  | .non, .int | .non, .bool | .non, .str | .non, .list | .non, .tuple => some false
  | .bl _, .int | .bl _, .bool => some true
  | .bl _, .str | .bl _, .list | .bl _, .tuple => some false
  | .int _, .int => some true
  | .int _, .bool | .int _, .str | .int _, .list | .int _, .tuple => some false
  | .str _, .str => some true
  | .str _, .int | .str _, .bool | .str _, .list | .str _, .tuple => some false
  | .tup _, .tuple => some true
  | .tup _, .int | .tup _, .bool | .tup _, .list | .tup _, .str => some false
  | .non, .own _ | .bl _, .own _ | .int _, .own _ | .str _, .own _ | .tup _, .own _ => some false
  | _, _ => none
def hasTyS (S : Sto) (v : D) (t : Ty) : Option Bool := match v with
  | .ref m => (match S[m]?, t with
    | some (.lst _), .list | some (.scr _), .list => some true
    | some (.lst _), .int | some (.lst _), .bool | some (.lst _), .str | some (.lst _), .tuple | some (.lst _), .own _ => some false
    | some (.scr _), .int | some (.scr _), .bool | some (.scr _), .str | some (.scr _), .tuple | some (.scr _), .own _ => some false
    | some (.ins c _), .own c' => some (decide (c = c'))
    | some (.ins _ _), .int | some (.ins _ _), .bool | some (.ins _ _), .str | some (.ins _ _), .tuple | some (.ins _ _), .list => some false
    | _, _ => none)
  | v => hasTy v t
def isiAny (S : Sto) (v : D) : List Ty → Option Bool
  | [] => some false
  | t :: ts => match hasTyS S v t with
    | some true => some true
    | some false => isiAny S v ts
    | none => none

def asciiAll (s : Tx) : Bool := s.all (· < 128)
/-- strip(" ") of a text -/
def stripS (s : Tx) (cs : Tx) : Tx := ((s.dropWhile (cs.contains ·)).reverse.dropWhile (cs.contains ·)).reverse
/-- is it a method of the lists (of the texts, if not) -/
def Mt.ofList : Mt → Bool
  | .append | .pop | .popAt | .insert | .extend | .reverse | .clear => true
  | _ => false
/-- has the receiver the type -/
def recv (m : Mt) (x : D) (S : Sto) : Bool := match x with
  | .str _ => !m.ofList
  | .ref n => m.ofList && (getQ S n).isSome
  | _ => false
/-- a text alone; a text and one text; a list and one argument -/
def str0 (o : D) (vs : List D) : Option Tx := match o, vs with
  | .str s, [] => some s
  | _, _ => none
def str1 (o : D) (vs : List D) : Option (Tx × Tx) := match o, vs with
  | .str s, [.str t] => some (s, t)
  | _, _ => none
def strL (o : D) (vs : List D) (S : Sto) : Option (Tx × List D) := match o, vs with
  | .str s, [.tup xs] => some (s, xs)
  | .str s, [.ref m] => (getQ S m).map fun xs => (s, xs)
  | _, _ => none
def lst0 (o : D) (vs : List D) (S : Sto) : Option (Nat × List D) := match o, vs with
  | .ref m, [] => (getL S m).map fun xs => (m, xs)
  | _, _ => none
def lst1 (o : D) (vs : List D) (S : Sto) : Option (Nat × List D × D) := match o, vs with
  | .ref m, [v] => (getL S m).map fun xs => (m, xs, v)
  | _, _ => none
def mth (m : Mt) (o : D) (vs : List D) (S : Sto) : R D := match m with
  | .strip => R.opt (str1 o vs) fun p => .ok (.str (stripS p.1 p.2)) S
  | .lower => R.opt (str0 o vs) fun s => R.req (s.length ≤ 5592405) (.ok (.str (s.map PyProof.Rows.lo1)) S)
  | .upper => R.opt (str0 o vs) fun s => R.req (s.length ≤ 5592405) (.ok (.str (s.map PyProof.Rows.up1)) S)
  | .split => R.opt (str1 o vs) fun p => R.req (p.2 ≠ [] ∧ p.1.length + 2 ≤ LIM) (ins1 S (.lst ((TL.spl p.2 0 [] p.1).map .str)))
  | .partition => R.opt (str1 o vs) fun p => R.req (p.2 ≠ []) (.ok (match TL.par p.2 [] p.1 with
      | some (a, b) => .tup [.str a, .str p.2, .str b]
      | none => .tup [.str p.1, .str [], .str []]) S)
  | .join => R.opt (strL o vs S) fun p => R.opt (asStrs p.2) fun ts => R.req ((ts.map List.length).sum + ts.length * p.1.length ≤ LIM) (.ok (.str (TL.joinL p.1 ts)) S)
  | .find => R.opt (str1 o vs) fun p => .ok (.int (PySem.Txt.find (SX.S p.1) (SX.S p.2))) S
  | .count => R.opt (str1 o vs) fun p => .ok (.int (PySem.Txt.count (SX.S p.1) (SX.S p.2))) S
  | .index => R.opt (str1 o vs) fun p => R.opt (PySem.Builtin.Str.occurrences (SX.S p.1) (SX.S p.2) 0 (SX.S p.1).length 1).head? fun i => .ok (.int (i : Nat)) S
  | .append => R.opt (lst1 o vs S) fun p => R.req (p.2.1.length < LIM) (.ok .non (S.set p.1 (.lst (p.2.1 ++ [p.2.2]))))
  | .pop => R.opt (lst0 o vs S) fun p => R.opt (p.2[p.2.length - 1]?) fun d => .ok d (S.set p.1 (.lst p.2.dropLast))
  | _ => .no

/-! ### walks -/
inductive Wk where
  | lst (m : Nat) | fix (xs : List D) | rng (lo : Int) (n : Nat) | enm (m : Nat) | zip (m n : Nat)
/-- at turn i: stuck | the end | an item -/
def Wk.at (w : Wk) (i : Nat) (S : Sto) : Option (Option D) := match w with
  | .lst m => (getQ S m).map fun xs => xs[i]?
  | .fix xs => some xs[i]?
  | .rng lo n => some (if i < n then some (.int (lo + i)) else none)
  | .enm m => (getQ S m).map fun xs => xs[i]?.map fun x => .tup [.int i, x]
  | .zip m n => match getQ S m, getQ S n with
    | some xs, some ys => some (match xs[i]?, ys[i]? with
      | some x, some y => some (.tup [x, y])
      | _, _ => none)
    | _, _ => none
def enumD (i : Nat) : List D → List D
  | [] => []
  | x :: xs => .tup [.int i, x] :: enumD (i + 1) xs
def walk (d : D) (S : Sto) : R Wk := match d with
  | .tup xs => .ok (.fix xs) S
  | .str s => .ok (.fix (s.map fun c => .str [c])) S
  | .ref m => R.opt (getQ S m) fun _ => .ok (.lst m) S
  | _ => .no

def setAll (σ : Sg) : List Nat → List D → Sg
  | i :: is, d :: ds => setAll (σ.set i (some d)) is ds
  | _, _ => σ
/-- a target: one name, or a tuple of names -/
def target (tg : List Nat) (tup : Bool) (d : D) (σ : Sg) (S : Sto) : Option Sg := match tup with
  | false => match tg with
    | [i] => some (σ.set i (some d))
    | _ => none
  | true => match d with
    | .tup ds => if ds.length = tg.length then some (setAll σ tg ds) else none
    | .ref m => (match getQ S m with
      | some ds => if ds.length = tg.length then some (setAll σ tg ds) else none
      | none => none)
    | _ => none
def wipe (σ : Sg) : List Nat → Sg
  | [] => σ
  | v :: vs => (wipe σ vs).set v none

def FUEL : Nat := 2 ^ 26

/-- the turns of a comprehension: f gives the element, or nothing -/
def compLoop (f : D → Sto → R (Option D)) (w : Wk) : Nat → Nat → List D → Sto → R (List D)
  | 0, _, _, _ => .no
  | n + 1, i, acc, S => R.opt (w.at i S) fun
    | none => .ok acc S
    | some d => match f d S with
      | .ok none S1 => compLoop f w n (i + 1) acc S1
      | .ok (some y) S1 => R.req (acc.length < LIM) (compLoop f w n (i + 1) (acc ++ [y]) S1)
      | .exc _ _ => .no
      | .no => .no

/-- module constants; methods and properties of own classes; fields of exception classes -/
structure Glo where
  c : Nat → Option D
  meth : Nat → String → Option Nat := fun _ _ => none
  prop : Nat → String → Option Nat := fun _ _ => none
  exf : Nat → String → Option Nat := fun _ _ => none
structure Cfg where
  call : Nat → List D → Sto → R D
  g : Glo
def insCls (S : Sto) : D → Option Nat
  | .ref n => match S[n]? with
    | some (.ins c _) => some c
    | _ => none
  | _ => none
def fldGet (C : Cfg) (x : D) (f : String) (S : Sto) : R D := match x with
  | .ref n => match S[n]? with
    | some (.ins c fs) => (match C.g.prop c f with
      | some p => C.call p [.ref n] S
      | none => R.opt (fs.lookup f) fun d => .ok d S)
    | _ => .no
  | .exn c fs => R.opt (C.g.exf c f) fun i => R.opt fs[i]? fun d => .ok d S
  | _ => .no
def toB (m : R D) (n : Bool) : R Bool := m.bind fun r S => match r with
  | .bl b => .ok (b != n) S
  | _ => .no
def binopD (C : Cfg) (o : Op) (x y : D) (S : Sto) : R D := match insCls S x with
  | some c => (match o with
    | .add => R.opt (C.g.meth c "__add__") fun f => C.call f [x, y] S
    | _ => .no)
  | none => binop o x y S
def cmpD (C : Cfg) (o : Cm) (x y : D) (S : Sto) : R Bool := match o with
  | .eq => (match insCls S x with
    | some c => R.opt (C.g.meth c "__eq__") fun f => toB (C.call f [x, y] S) false
    | none => R.opt (cmpop .eq x y S) fun k => .ok k S)
  | .ne => (match insCls S x with
    | some c => R.opt (C.g.meth c "__eq__") fun f => toB (C.call f [x, y] S) true
    | none => R.opt (cmpop .ne x y S) fun k => .ok k S)
  | .isin => (match insCls S y with
    | some c => R.opt (C.g.meth c "__contains__") fun f => toB (C.call f [y, x] S) false
    | none => R.opt (cmpop .isin x y S) fun k => .ok k S)
  | .notin => (match insCls S y with
    | some c => R.opt (C.g.meth c "__contains__") fun f => toB (C.call f [y, x] S) true
    | none => R.opt (cmpop .notin x y S) fun k => .ok k S)
  | o => R.opt (cmpop o x y S) fun k => .ok k S
def indexD (C : Cfg) (x y : D) (S : Sto) : R D := match insCls S x with
  | some c => R.opt (C.g.meth c "__getitem__") fun f => C.call f [x, y] S
  | none => index x y S
def bltDun : Bf → Option String
  | .len => some "__len__"
  | .repr => some "__repr__"
  | _ => none
def bltD (C : Cfg) (b : Bf) (vs : List D) (S : Sto) : R D := match vs with
  | [x] => (match insCls S x with
    | some c => R.opt (bltDun b) fun m => R.opt (C.g.meth c m) fun f => C.call f [x] S
    | none => blt b [x] S)
  | vs => blt b vs S
def newD (C : Cfg) (c : Nat) (vs : List D) (S : Sto) : R D := R.opt (C.g.meth c "__init__") fun f =>
  (C.call f (.ref S.length :: vs) (S ++ [.ins c []])).bind fun r S1 => match r with
    | .non => .ok (.ref S.length) S1
    | _ => .no
def catAll (S : Sto) : List Bool → List D → Option (List D)
  | [], [] => some []
  | true :: st, .tup xs :: ds => (catAll S st ds).map (xs ++ ·)
  | true :: st, .ref m :: ds => match getQ S m with
    | some xs => (catAll S st ds).map (xs ++ ·)
    | none => none
  | false :: st, d :: ds => (catAll S st ds).map (d :: ·)
  | _, _ => none
def putF (f : String) (v : D) : List (String × D) → List (String × D)
  | [] => [(f, v)]
  | (g, w) :: r => if g = f then (g, v) :: r else (g, w) :: putF f v r
def setField (C : Cfg) (x : D) (f : String) (v : D) (S : Sto) : Option Sto := match x with
  | .ref n => match S[n]? with
    | some (.ins c fs) => (match C.g.prop c f with
      | some _ => none
      | none => some (S.set n (.ins c (putF f v fs))))
    | _ => none
  | _ => none

mutual
def evE (C : Cfg) : E → Sg → Sto → R D
  | .non, _, S => .ok .non S
  | .bl b, _, S => .ok (.bl b) S
  | .int i, _, S => .ok (.int i) S
  | .str s, _, S => .ok (.str s) S
  | .var i, σ, S => match σ[i]? with
    | some (some d) => .ok d S
    | _ => .no
  | .glo g, _, S => R.opt (C.g.c g) fun d => .ok d S
  | .bin o a b, σ, S => (evE C a σ S).bind fun x S1 => (evE C b σ S1).bind fun y S2 => binopD C o x y S2
  | .neg a, σ, S => (evE C a σ S).bind fun x S1 => match x with
    | .int i => .ok (.int (-i)) S1
    | _ => .no
  | .not a, σ, S => (evE C a σ S).bind fun x S1 => R.opt (truth S1 x) fun k => .ok (.bl (!k)) S1
  | .bop k es, σ, S => evB C k es σ S
  | .ite c a b, σ, S => (evE C c σ S).bind fun t S1 => R.opt (truth S1 t) fun k => if k then evE C a σ S1 else evE C b σ S1
  | .cmp o a b, σ, S => (evE C a σ S).bind fun x S1 => (evE C b σ S1).bind fun y S2 => (cmpD C o x y S2).bind fun k S3 => .ok (.bl k) S3
  | .chain o p a b c, σ, S => (evE C a σ S).bind fun x S1 => (evE C b σ S1).bind fun y S2 => (cmpD C o x y S2).bind fun k S3 =>
      if k then (evE C c σ S3).bind fun z S4 => (cmpD C p y z S4).bind fun k2 S5 => .ok (.bl k2) S5 else .ok (.bl false) S3
  | .tup es, σ, S => (evEs C es σ S).bind fun vs S1 => R.req (vs.length ≤ LIM) (.ok (.tup vs) S1)
  | .lst es, σ, S => (evEs C es σ S).bind fun vs S1 => R.req (vs.length ≤ LIM) (ins1 S1 (.lst vs))
  | .idx a b, σ, S => (evE C a σ S).bind fun x S1 => (evE C b σ S1).bind fun y S2 => indexD C x y S2
  | .slc a lo hi, σ, S => (evE C a σ S).bind fun x S1 => (evO C lo σ S1).bind fun l S2 => (evO C hi σ S2).bind fun h S3 => slice x l h S3
  | .fld a f, σ, S => (evE C a σ S).bind fun x S1 => fldGet C x f S1
  | .new c es ks names perm, σ, S => (evEs C es σ S).bind fun vs S1 => (evEs C ks σ S1).bind fun zs S2 =>
      R.opt (perm.mapM (argOf (vs ++ zs))) fun as => newD C c as S2
  | .mcall a m es ks names perm, σ, S => (evE C a σ S).bind fun x S1 => R.opt (insCls S1 x) fun c => R.opt (C.g.meth c m) fun f => (evEs C es σ S1).bind fun vs S2 => (evEs C ks σ S2).bind fun zs S3 =>
      R.opt (perm.mapM (argOf (vs ++ zs))) fun as => C.call f (x :: as) S3
  | .fmt es, σ, S => (evEs C es σ S).bind fun vs S1 => R.opt (asStrs vs) fun ts => R.req (ts.flatten.length ≤ LIM) (.ok (.str ts.flatten) S1)
  | .cat tp es st, σ, S => (evEs C es σ S).bind fun vs S1 => R.opt (catAll S1 st vs) fun xs => R.req (xs.length ≤ LIM) (if tp then .ok (.tup xs) S1 else ins1 S1 (.lst xs))
  | .call f es, σ, S => (evEs C es σ S).bind fun vs S1 => C.call f vs S1
  | .callk f es ks names perm, σ, S => (evEs C es σ S).bind fun vs S1 => (evEs C ks σ S1).bind fun zs S2 =>
      R.opt (perm.mapM (argOf (vs ++ zs))) fun as => C.call f as S2
  | .blt b es, σ, S => (evEs C es σ S).bind fun vs S1 => bltD C b vs S1
  | .isi a ts _, σ, S => (evE C a σ S).bind fun x S1 => R.opt (isiAny S1 x ts) fun k => .ok (.bl k) S1
  | .mth m o es, σ, S => (evE C o σ S).bind fun x S1 => R.req (recv m x S1 = true) ((evEs C es σ S1).bind fun vs S2 => mth m x vs S2)
  | .comp elt tg tp it cond own, σ, S => (evI C it σ S).bind fun w S1 =>
      (compLoop (fun d S2 => R.opt (target tg tp d (wipe σ (own.map (·.2))) S2) fun σ2 =>
        (evC C cond σ2 S2).bind fun k S3 => if k then (evE C elt σ2 S3).bind fun y S4 => .ok (some y) S4 else .ok none S3) w FUEL 0 [] S1).bind fun ys S2 => ins1 S2 (.lst ys)
def evEs (C : Cfg) : Es → Sg → Sto → R (List D)
  | .nil, _, S => .ok [] S
  | .cons e es, σ, S => (evE C e σ S).bind fun x S1 => (evEs C es σ S1).bind fun xs S2 => .ok (x :: xs) S2
/-- an optional part of a slice -/
def evO (C : Cfg) : Es → Sg → Sto → R (Option Int)
  | .nil, _, S => .ok none S
  | .cons e _, σ, S => (evE C e σ S).bind fun x S1 => match x with
    | .int i => .ok (some i) S1
    | _ => .no
/-- the tests of a comprehension -/
def evC (C : Cfg) : Es → Sg → Sto → R Bool
  | .nil, _, S => .ok true S
  | .cons e _, σ, S => (evE C e σ S).bind fun t S1 => R.opt (truth S1 t) fun k => .ok k S1
/-- and (true), or (false), as values -/
def evB (C : Cfg) (k : Bool) : Es → Sg → Sto → R D
  | .nil, _, _ => .no
  | .cons e .nil, σ, S => evE C e σ S
  | .cons e (.cons e2 es), σ, S => (evE C e σ S).bind fun x S1 => R.opt (truth S1 x) fun t => if t = k then evB C k (.cons e2 es) σ S1 else .ok x S1
def evI (C : Cfg) : It → Sg → Sto → R Wk
  | .val e, σ, S => (evE C e σ S).bind fun d S1 => walk d S1
  | .rng es, σ, S => (evEs C es σ S).bind fun vs S1 => match vs with
    | [.int j] => R.req (j < 2 ^ 62 ∧ -(2 ^ 62) ≤ j) (.ok (.rng 0 j.toNat) S1)
    | [.int i, .int j] => R.req ((-(2 ^ 62) ≤ i ∧ i < 2 ^ 62) ∧ -(2 ^ 62) ≤ j ∧ j < 2 ^ 62) (.ok (.rng i (j - i).toNat) S1)
    | _ => .no
  | .enm e, σ, S => (evE C e σ S).bind fun d S1 => match d with
    | .ref m => R.opt (getQ S1 m) fun _ => .ok (.enm m) S1
    | .tup xs => .ok (.fix (enumD 0 xs)) S1
    | .str s => .ok (.fix (enumD 0 (s.map fun c => .str [c]))) S1
    | _ => .no
  | .zip a b, σ, S => (evE C a σ S).bind fun x S1 => (evE C b σ S1).bind fun y S2 => match x, y with
    | .ref m, .ref n => R.opt (getQ S2 m) fun _ => R.opt (getQ S2 n) fun _ => .ok (.zip m n) S2
    | _, _ => .no
end

/-! ### statements -/
inductive RS where
  | next (σ : Sg) (S : Sto) | ret (d : D) (S : Sto) | brk (σ : Sg) (S : Sto) | cont (σ : Sg) (S : Sto)
  | exc (x : D) (σ : Sg) (S : Sto) | no
/-- an expression's end within a statement at σ -/
@[inline] def R.at {α : Type} (m : R α) (σ : Sg) (f : α → Sto → RS) : RS := match m with
  | .ok a S => f a S
  | .exc x S => .exc x σ S
  | .no => .no
@[simp] theorem R.at_ok {α : Type} (a : α) (S : Sto) (σ : Sg) (f : α → Sto → RS) : R.at (.ok a S) σ f = f a S := (rfl)
@[simp] theorem R.at_exc {α : Type} (x : D) (S : Sto) (σ : Sg) (f : α → Sto → RS) : R.at (.exc x S : R α) σ f = .exc x σ S := (rfl)
@[simp] theorem R.at_no {α : Type} (σ : Sg) (f : α → Sto → RS) : R.at (.no : R α) σ f = .no := (rfl)
@[inline] def RS.opt {α : Type} (o : Option α) (f : α → RS) : RS := match o with
  | some a => f a
  | none => .no
@[simp] theorem RS.opt_some {α : Type} (a : α) (f : α → RS) : RS.opt (some a) f = f a := (rfl)
@[simp] theorem RS.opt_none {α : Type} (f : α → RS) : RS.opt (none : Option α) f = .no := (rfl)
/-- what follows -/
@[inline] def RS.seq (m : RS) (f : Sg → Sto → RS) : RS := match m with
  | .next σ S => f σ S
  | r => r
@[simp] theorem RS.seq_next (σ : Sg) (S : Sto) (f : Sg → Sto → RS) : RS.seq (.next σ S) f = f σ S := (rfl)
@[simp] theorem RS.seq_ret (d : D) (S : Sto) (f : Sg → Sto → RS) : RS.seq (.ret d S) f = .ret d S := (rfl)
@[simp] theorem RS.seq_brk (σ : Sg) (S : Sto) (f : Sg → Sto → RS) : RS.seq (.brk σ S) f = .brk σ S := (rfl)
@[simp] theorem RS.seq_cont (σ : Sg) (S : Sto) (f : Sg → Sto → RS) : RS.seq (.cont σ S) f = .cont σ S := (rfl)
@[simp] theorem RS.seq_exc (x : D) (σ : Sg) (S : Sto) (f : Sg → Sto → RS) : RS.seq (.exc x σ S) f = .exc x σ S := (rfl)
@[simp] theorem RS.seq_no (f : Sg → Sto → RS) : RS.seq .no f = .no := (rfl)

/-- what an exception's field may be: it is shown in its text -/
def exOk : List D → Bool
  | [.int i] => decide (i.natAbs < 1000000000000)
  | [.str s] => decide (s.length ≤ 1000000)
  | _ => false
def raiseR (c : Nat) (vs : List D) (σ : Sg) (S : Sto) : RS := if exOk vs then .exc (.exn c vs) σ S else .no
def augop (o : Op) (a b : D) (S : Sto) : R D := match o, a, b with
  | .add, .ref m, .ref n => R.opt (getL S m) fun s => R.opt (getL S n) fun t => R.req (s.length + t.length ≤ LIM) (.ok (.ref m) (S.set m (.lst (s ++ t))))
  | .add, .int i, .int j => .ok (.int (i + j)) S
  | .add, .str s, .str t => R.req (s.length + t.length ≤ LIM) (.ok (.str (s ++ t)) S)
  | .sub, .int i, .int j => .ok (.int (i - j)) S
  | _, _, _ => .no
/-- o[i] = v -/
def setItem (o i v : D) (S : Sto) : Option Sto := match o, i with
  | .ref m, .int k => match getL S m with
    | some xs => (L2.ixN xs.length k).map fun j => S.set m (.lst (xs.set j v))
    | none => none
  | _, _ => none

def forLoop (f : D → Sg → Sto → RS) (w : Wk) : Nat → Nat → Sg → Sto → RS
  | 0, _, _, _ => .no
  | n + 1, i, σ, S => RS.opt (w.at i S) fun
    | none => .next σ S
    | some d => match f d σ S with
      | .next σ1 S1 => forLoop f w n (i + 1) σ1 S1
      | .cont σ1 S1 => forLoop f w n (i + 1) σ1 S1
      | .brk σ1 S1 => .next σ1 S1
      | r => r
def whileLoop (c : Sg → Sto → R Bool) (f : Sg → Sto → RS) : Nat → Sg → Sto → RS
  | 0, _, _ => .no
  | n + 1, σ, S => (c σ S).at σ fun k S0 => match k with
    | false => .next σ S0
    | true => match f σ S0 with
      | .next σ1 S1 => whileLoop c f n σ1 S1
      | .cont σ1 S1 => whileLoop c f n σ1 S1
      | .brk σ1 S1 => .next σ1 S1
      | r => r
/-- the class that an exception has -/
def exCls : D → Option Nat
  | .exn c _ => some c
  | _ => none
/-- behind a suite: its name goes, nothing is raised out of it -/
def leaveSuite (slot : Option Nat) : RS → RS
  | .next σ S => .next (match slot with | some i => σ.set i none | none => σ) S
  | .brk σ S => .brk (match slot with | some i => σ.set i none | none => σ) S
  | .cont σ S => .cont (match slot with | some i => σ.set i none | none => σ) S
  | .ret d S => .ret d S
  | .exc _ _ _ => .no
  | .no => .no

mutual
def evX : XE → List D → Option D
  | .cst k, _ => some k.toD
  | .fld, fs => match fs with
    | [d] => some d
    | _ => none
  | .tup xs, fs => (evXs xs fs).map .tup
def evXs : List XE → List D → Option (List D)
  | [], _ => some []
  | x :: xs, fs => match evX x fs, evXs xs fs with
    | some d, some ds => some (d :: ds)
    | _, _ => none
end
/-- behind a try: body, except the c-th class as the i-th name: return x -/
def catchR (c i : Nat) (x : XE) : RS → RS
  | .exc e σ S => match e with
    | .exn c' fs => if c' = c then (if i < σ.length then RS.opt (evX x fs) fun d => .ret d S else .no) else .exc (.exn c' fs) σ S
    | _ => .no
  | r => r
mutual
def evS (C : Cfg) : St → Sg → Sto → RS
  | .set i e, σ, S => (evE C e σ S).at σ fun d S1 => .next (σ.set i (some d)) S1
  | .sets is e, σ, S => (evE C e σ S).at σ fun d S1 => RS.opt (target is true d σ S1) fun σ1 => .next σ1 S1
  | .par is es, σ, S => (evEs C es σ S).at σ fun ds S1 => if ds.length = is.length then .next (setAll σ is ds) S1 else .no
  | .aug i o e, σ, S => match σ[i]? with
    | some (some x) => (evE C e σ S).at σ fun y S1 => (augop o x y S1).at σ fun z S2 => .next (σ.set i (some z)) S2
    | _ => .no
  | .setf o f e, σ, S => (evE C e σ S).at σ fun v S1 => (evE C o σ S1).at σ fun x S2 => RS.opt (setField C x f v S2) fun S3 => .next σ S3
  | .augf o f op e, σ, S => (evE C o σ S).at σ fun x S1 => (fldGet C x f S1).at σ fun y S2 => (evE C e σ S2).at σ fun z S3 => (augop op y z S3).at σ fun w S4 => RS.opt (setField C x f w S4) fun S5 => .next σ S5
  | .seti o i e, σ, S => (evE C e σ S).at σ fun v S1 => (evE C o σ S1).at σ fun x S2 => (evE C i σ S2).at σ fun y S3 => RS.opt (setItem x y v S3) fun S4 => .next σ S4
  | .expr e, σ, S => (evE C e σ S).at σ fun _ S1 => .next σ S1
  | .ret e, σ, S => (evE C e σ S).at σ fun d S1 => .ret d S1
  | .retn, _, S => .ret .non S
  | .ifs c a b, σ, S => (evE C c σ S).at σ fun t S1 => RS.opt (truth S1 t) fun k => if k then evSs C a σ S1 else evSs C b σ S1
  | .whl c _ b, σ, S => whileLoop (fun σ S => (evE C c σ S).bind fun t S1 => R.opt (truth S1 t) fun k => .ok k S1) (evSs C b) FUEL σ S
  | .forr tg tp it _ b, σ, S => (evI C it σ S).at σ fun w S1 => forLoop (fun d σ S => RS.opt (target tg tp d σ S) fun σ1 => evSs C b σ1 S) w FUEL 0 σ S1
  | .raise c es, σ, S => (evEs C es σ S).at σ fun vs S1 => raiseR c vs σ S1
  | .tryx b hs, σ, S => match evSs C b σ S with
    | .exc x σ1 S1 => RS.opt (exCls x) fun c => evH C c x hs σ1 S1
    | r => r
  | .tryr b c i x, σ, S => catchR c i x (evSs C b σ S)
  | .pass, σ, S => .next σ S
  | .brk, σ, S => .brk σ S
  | .cont, σ, S => .cont σ S
def evSs (C : Cfg) : Ss → Sg → Sto → RS
  | .nil, σ, S => .next σ S
  | .cons s .nil, σ, S => evS C s σ S
  | .cons s (.cons s2 ss), σ, S => (evS C s σ S).seq fun σ1 S1 => evSs C (.cons s2 ss) σ1 S1
def evH (C : Cfg) (c : Nat) (x : D) : Hs → Sg → Sto → RS
  | .nil, σ, S => .exc x σ S
  | .cons cs slot b hs, σ, S => if cs.contains c then leaveSuite slot (evSs C b (match slot with | some i => σ.set i (some x) | none => σ) S) else evH C c x hs σ S
end

/-- a def: its parameters, its slots, its body -/
structure Fn where
  np : Nat
  ns : Nat
  body : Ss
/-- a call, by the depth that is left -/
def run (P : Nat → Option Fn) (glo : Glo) : Nat → Nat → List D → Sto → R D
  | 0, _, _, _ => .no
  | n + 1, f, vs, S => match P f with
    | none => .no
    | some F => if vs.length = F.np then match evSs ⟨run P glo n, glo⟩ F.body (vs.map some ++ List.replicate (F.ns - F.np) none) S with
        | .next _ S1 => .ok .non S1
        | .ret d S1 => .ok d S1
        | .exc x _ S1 => .exc x S1
        | _ => .no
      else .no
end Cl

/-! part Py2 -/
/-! Cl: how the values and the store of Py1 lie in the layer's heap. -/
namespace Cl
open PySem PySem.Spec PyProof.Rows L2
abbrev Fr' := PySem.W.Frag
abbrev Sv := List (Option V)

theorem LIM_eq : LIM = sizeLine := by rw [sizeLine_eq]; rfl

section
variable (K : Fr')
mutual
inductive RelD (ι : List Addr) (H : Hp) : D → V → Prop
  | non : RelD ι H .non .non
  | bl (b : Bool) : RelD ι H (.bl b) (.bl b)
  | int (i : Int) : RelD ι H (.int i) (.int i)
  | str {s : Tx} : s.length ≤ LIM → asciiAll s = true → RelD ι H (.str s) (.str (SX.S s))
  | tup {a : Addr} {vs : List V} {ds : List D} : SqT K H a vs → RelDs ι H ds vs → RelD ι H (.tup ds) (.ref a)
  | ref {n : Nat} {a : Addr} : ι[n]? = some a → RelD ι H (.ref n) (.ref a)
inductive RelDs (ι : List Addr) (H : Hp) : List D → List V → Prop
  | nil : RelDs ι H [] []
  | cons {d : D} {v : V} {ds : List D} {vs : List V} : RelD ι H d v → RelDs ι H ds vs → RelDs ι H (d :: ds) (v :: vs)
end
/-- an object of the store at its address -/
def RelOb (ι : List Addr) (H : Hp) (a : Addr) : Ob → Prop
  | .lst xs => ∃ vs, H a = some (.lst vs) ∧ RelDs K ι H xs vs
  | .scr ns => (∃ o, H a = some (.frz o (.lst (ns.map V.int)))) ∨
      ∃ (o : Obj) (its : Array Value) (n : Nat), K.lookup a = some o ∧ o.cls = .type "list" ∧ o.dict = none ∧ o.data = .seq its n ∧ its.size ≤ sizeLine ∧ Vals (ns.map V.int) its.toList
  | .ins _ _ => False
  | .dct _ => False
def Ob.mut : Ob → Bool
  | .scr _ => false
  | _ => true
structure RelS (ι : List Addr) (S : Sto) (H : Hp) : Prop where
  len : ι.length = S.length
  ob : ∀ (n : Nat) (o : Ob) (a : Addr), S[n]? = some o → ι[n]? = some a → RelOb K ι H a o
  inj : ∀ (m n : Nat) (o p : Ob) (a : Addr), S[m]? = some o → S[n]? = some p → ι[m]? = some a → ι[n]? = some a → o.mut = true → p.mut = true → m = n
/-- the slots -/
structure RelG (ι : List Addr) (H : Hp) (σ : Sg) (τ : Sv) : Prop where
  len : σ.length = τ.length
  at_ : ∀ (i : Nat) (d : D), σ[i]? = some (some d) → ∃ v, τ[i]? = some (some v) ∧ RelD K ι H d v
end
/-- an object of the store that may change stands at a -/
def Own (ι : List Addr) (S : Sto) (a : Addr) : Prop := ∃ (n : Nat) (o : Ob), ι[n]? = some a ∧ S[n]? = some o ∧ o.mut = true
/-- later: more objects; what the store does not own stands -/
structure Ext (ι : List Addr) (S : Sto) (H : Hp) (ι' : List Addr) (S' : Sto) (H' : Hp) : Prop where
  pre : ∃ l, ι' = ι ++ l
  keep : ∀ a o, H a = some o → ¬ Own ι S a → H' a = some o ∧ ¬ Own ι' S' a
theorem Ext.refl {ι : List Addr} {S : Sto} {H : Hp} : Ext ι S H ι S H := ⟨⟨[], (List.append_nil _).symm⟩, fun _ _ h n => ⟨h, n⟩⟩
theorem Ext.trans {ι ι1 ι2 : List Addr} {S S1 S2 : Sto} {H H1 H2 : Hp} (a : Ext ι S H ι1 S1 H1) (b : Ext ι1 S1 H1 ι2 S2 H2) : Ext ι S H ι2 S2 H2 := by
  obtain ⟨l, e⟩ := a.pre
  obtain ⟨l2, e2⟩ := b.pre
  refine ⟨⟨l ++ l2, by rw [e2, e, List.append_assoc]⟩, fun c o h n => ?_⟩
  obtain ⟨h1, n1⟩ := a.keep c o h n
  exact b.keep c o h1 n1
theorem Ext.get {ι ι' : List Addr} {S S' : Sto} {H H' : Hp} (e : Ext ι S H ι' S' H') {n : Nat} {a : Addr} (h : ι[n]? = some a) : ι'[n]? = some a := by
  obtain ⟨l, rfl⟩ := e.pre
  obtain ⟨hn, _⟩ := List.getElem?_eq_some_iff.mp h
  rw [List.getElem?_append_left hn]
  exact h
section
variable {K : Fr'} {ι ι' : List Addr} {H H' : Hp} {S S' : Sto}
theorem RelS.own (r : RelS K ι S H) {a : Addr} (h : Own ι S a) : ∃ vs, H a = some (.lst vs) := by
  obtain ⟨n, o, h1, h2, hm⟩ := h
  have h3 := r.ob n o a h2 h1
  cases o with
  | lst xs =>
    obtain ⟨vs, e, _⟩ := h3
    exact ⟨vs, e⟩
  | scr ns => cases hm
  | ins _ _ => exact h3.elim
  | dct _ => exact h3.elim
theorem RelS.free (r : RelS K ι S H) {a : Addr} (h : H a = none) : ¬ Own ι S a := fun q => by
  obtain ⟨vs, e⟩ := r.own q
  rw [h] at e; cases e
theorem Ext.tup (r : RelS K ι S H) (e : Ext ι S H ι' S' H') {a : Addr} {vs : List V} (h : SqT K H a vs) : SqT K H' a vs := by
  have out : ∀ u, H a = some u → (u = .tup vs ∨ ∃ o, u = .frz o (.tup vs)) → H' a = some u := fun u hu hk => by
    refine (e.keep a u hu fun hm => ?_).1
    obtain ⟨ws, z⟩ := r.own hm
    rw [hu] at z; cases z; rcases hk with k | ⟨o, k⟩ <;> cases k
  rcases h with (h | ⟨o, h⟩) | h
  · exact .inl (.inl (out _ h (.inl rfl)))
  · exact .inl (.inr ⟨o, out _ h (.inr ⟨o, rfl⟩)⟩)
  · exact .inr h
theorem RelOb.scr_mono {a : Addr} {ns : List Int} (r : RelS K ι S H) (e : Ext ι S H ι' S' H') (h : RelOb K ι H a (.scr ns)) : RelOb K ι' H' a (.scr ns) := by
  rcases h with ⟨o, h⟩ | h
  · refine .inl ⟨o, (e.keep a _ h fun hm => ?_).1⟩
    obtain ⟨ws, z⟩ := r.own hm
    rw [h] at z; cases z
  · exact .inr h
theorem RelOb.scr_sq {a : Addr} {ns : List Int} (h : RelOb K ι H a (.scr ns)) : SqL K H a (ns.map V.int) := by
  rcases h with ⟨o, h⟩ | h
  · exact .inl (.inr ⟨o, h⟩)
  · exact .inr h
mutual
theorem RelD.mono (r : RelS K ι S H) (e : Ext ι S H ι' S' H') : ∀ {d : D} {v : V}, RelD K ι H d v → RelD K ι' H' d v
  | _, _, .non => .non
  | _, _, .bl b => .bl b
  | _, _, .int i => .int i
  | _, _, .str h h2 => .str h h2
  | _, _, .tup h hs => .tup (e.tup r h) (RelDs.mono r e hs)
  | _, _, .ref h => .ref (e.get h)
theorem RelDs.mono (r : RelS K ι S H) (e : Ext ι S H ι' S' H') : ∀ {ds : List D} {vs : List V}, RelDs K ι H ds vs → RelDs K ι' H' ds vs
  | _, _, .nil => .nil
  | _, _, .cons h hs => .cons (RelD.mono r e h) (RelDs.mono r e hs)
end
theorem RelG.mono {σ : Sg} {τ : Sv} (r : RelS K ι S H) (e : Ext ι S H ι' S' H') (g : RelG K ι H σ τ) : RelG K ι' H' σ τ :=
  ⟨g.len, fun i d h => let ⟨v, h1, h2⟩ := g.at_ i d h; ⟨v, h1, h2.mono r e⟩⟩
theorem RelG.set {σ : Sg} {τ : Sv} {d : D} {v : V} (g : RelG K ι H σ τ) (i : Nat) (h : RelD K ι H d v) : RelG K ι H (σ.set i (some d)) (τ.set i (some v)) := by
  refine ⟨by rw [List.length_set, List.length_set, g.len], fun j e he => ?_⟩
  by_cases hj : i = j
  · subst hj
    by_cases hl : i < σ.length
    · rw [List.getElem?_set_self hl] at he
      cases he
      exact ⟨v, List.getElem?_set_self (by rw [← g.len]; exact hl), h⟩
    · rw [List.getElem?_eq_none (by rw [List.length_set]; omega)] at he
      cases he
  · rw [List.getElem?_set_ne hj] at he
    obtain ⟨w, h1, h2⟩ := g.at_ j e he
    exact ⟨w, by rw [List.getElem?_set_ne hj]; exact h1, h2⟩
theorem RelG.unset {σ : Sg} {τ : Sv} (g : RelG K ι H σ τ) (i : Nat) : RelG K ι H (σ.set i none) (τ.set i none) := by
  refine ⟨by rw [List.length_set, List.length_set, g.len], fun j e he => ?_⟩
  by_cases hj : i = j
  · subst hj
    by_cases hl : i < σ.length
    · rw [List.getElem?_set_self hl] at he
      cases he
    · rw [List.getElem?_eq_none (by rw [List.length_set]; omega)] at he
      cases he
  · rw [List.getElem?_set_ne hj] at he
    obtain ⟨w, h1, h2⟩ := g.at_ j e he
    exact ⟨w, by rw [List.getElem?_set_ne hj]; exact h1, h2⟩
theorem RelG.wipe {σ : Sg} {τ : Sv} (g : RelG K ι H σ τ) : ∀ vs : List Nat, RelG K ι H (Cl.wipe σ vs) (L2.wipe τ vs)
  | [] => g
  | v :: vs => (RelG.wipe g vs).unset v
theorem RelDs.length : ∀ {ds : List D} {vs : List V}, RelDs K ι H ds vs → ds.length = vs.length
  | _, _, .nil => rfl
  | _, _, .cons _ h => by simp [RelDs.length h]
theorem RelDs.get : ∀ {ds : List D} {vs : List V} {i : Nat} {d : D}, RelDs K ι H ds vs → ds[i]? = some d → ∃ v, vs[i]? = some v ∧ RelD K ι H d v
  | _, _, _, _, .nil, e => by simp at e
  | _, _, 0, _, .cons h _, e => by simp at e; subst e; exact ⟨_, rfl, h⟩
  | _, _, i + 1, _, .cons _ t, e => by
    obtain ⟨v, h1, h2⟩ := RelDs.get (i := i) t (by simpa using e)
    exact ⟨v, by simpa using h1, h2⟩
theorem RelDs.append : ∀ {ds es : List D} {vs us : List V}, RelDs K ι H ds vs → RelDs K ι H es us → RelDs K ι H (ds ++ es) (vs ++ us)
  | _, _, _, _, .nil, h => h
  | _, _, _, _, .cons a t, h => .cons a (RelDs.append t h)
theorem RelDs.drop : ∀ {ds : List D} {vs : List V} (n : Nat), RelDs K ι H ds vs → RelDs K ι H (ds.drop n) (vs.drop n)
  | _, _, 0, h => h
  | _, _, _ + 1, .nil => .nil
  | _, _, n + 1, .cons _ t => RelDs.drop n t
theorem RelDs.take : ∀ {ds : List D} {vs : List V} (n : Nat), RelDs K ι H ds vs → RelDs K ι H (ds.take n) (vs.take n)
  | _, _, 0, _ => .nil
  | _, _, _ + 1, .nil => .nil
  | _, _, n + 1, .cons a t => .cons a (RelDs.take n t)
theorem RelDs.set {d : D} {v : V} (h : RelD K ι H d v) : ∀ {ds : List D} {vs : List V} (i : Nat), RelDs K ι H ds vs → RelDs K ι H (ds.set i d) (vs.set i v)
  | _, _, _, .nil => .nil
  | _, _, 0, .cons _ t => .cons h t
  | _, _, i + 1, .cons a t => .cons a (RelDs.set h i t)
theorem RelDs.rep {ds : List D} {vs : List V} (h : RelDs K ι H ds vs) : ∀ k : Nat, RelDs K ι H (List.replicate k ds).flatten (List.replicate k vs).flatten
  | 0 => .nil
  | k + 1 => by
    rw [List.replicate_succ, List.replicate_succ, List.flatten_cons, List.flatten_cons]
    exact h.append (RelDs.rep h k)
theorem RelDs.dropLast {ds : List D} {vs : List V} (h : RelDs K ι H ds vs) : RelDs K ι H ds.dropLast vs.dropLast := by
  rw [List.dropLast_eq_take, List.dropLast_eq_take, h.length]
  exact h.take _

/-! ### new objects, writes -/
theorem Ext.put (r : RelS K ι S H) {p : Addr} {o : HO} (hp : H p = none) : Ext ι S H ι S (upd H p o) :=
  ⟨⟨[], (List.append_nil _).symm⟩, fun a u h n => ⟨by rw [upd_ne (ne_of_none h hp)]; exact h, n⟩⟩
theorem own_new {p a : Addr} {o : Ob} (hl : ι.length = S.length) (h : Own (ι ++ [p]) (S ++ [o]) a) : Own ι S a ∨ a = p := by
  obtain ⟨n, q, h1, h2, hm⟩ := h
  by_cases hn : n < ι.length
  · rw [List.getElem?_append_left hn] at h1
    rw [List.getElem?_append_left (by omega)] at h2
    exact .inl ⟨n, q, h1, h2, hm⟩
  · rw [List.getElem?_append_right (by omega)] at h1
    have : n - ι.length = 0 := by
      have := (List.getElem?_eq_some_iff.mp h1).1
      simp at this
      omega
    rw [this] at h1
    simp at h1
    exact .inr h1.symm
theorem Ext.new (r : RelS K ι S H) {p : Addr} {o : HO} (ob : Ob) (hp : H p = none) : Ext ι S H (ι ++ [p]) (S ++ [ob]) (upd H p o) :=
  ⟨⟨[p], rfl⟩, fun a u h n => ⟨by rw [upd_ne (ne_of_none h hp)]; exact h, fun q => by
    rcases own_new r.len q with q | q
    · exact n q
    · exact ne_of_none h hp q⟩⟩
theorem own_set {a : Addr} {n : Nat} {o o' : Ob} (h0 : S[n]? = some o) (hm : o.mut = true) (hm' : o'.mut = true) : Own ι (S.set n o') a ↔ Own ι S a := by
  have hl : n < S.length := (List.getElem?_eq_some_iff.mp h0).1
  constructor
  · rintro ⟨k, q, h1, h2, h3⟩
    by_cases hk : n = k
    · subst hk
      exact ⟨n, o, h1, h0, hm⟩
    · rw [List.getElem?_set_ne hk] at h2
      exact ⟨k, q, h1, h2, h3⟩
  · rintro ⟨k, q, h1, h2, h3⟩
    by_cases hk : n = k
    · subst hk
      exact ⟨n, o', h1, List.getElem?_set_self hl, hm'⟩
    · exact ⟨k, q, h1, by rw [List.getElem?_set_ne hk]; exact h2, h3⟩
theorem Ext.write {n : Nat} {p : Addr} {ob ob' : Ob} {o : HO} (hi : ι[n]? = some p) (h0 : S[n]? = some ob) (hm : ob.mut = true) (hm' : ob'.mut = true) : Ext ι S H ι (S.set n ob') (upd H p o) :=
  ⟨⟨[], (List.append_nil _).symm⟩, fun a u h q => ⟨by rw [upd_ne (fun z => q (by rw [z]; exact ⟨n, ob, hi, h0, hm⟩))]; exact h, fun z => q ((own_set h0 hm hm').mp z)⟩⟩
/-- objects that stand carry over -/
theorem RelOb.mono (r : RelS K ι S H) (e : Ext ι S H ι' S' H') {a : Addr} {o : Ob} (h : RelOb K ι H a o) (ha : o.mut = true → H' a = H a) : RelOb K ι' H' a o := by
  cases o with
  | lst xs =>
    obtain ⟨vs, h1, h2⟩ := h
    exact ⟨vs, (ha rfl).trans h1, h2.mono r e⟩
  | scr ns => exact RelOb.scr_mono r e h
  | ins _ _ => exact h.elim
  | dct _ => exact h.elim
/-- a thing that is no object of the store -/
theorem RelS.put (r : RelS K ι S H) {p : Addr} {o : HO} (hp : H p = none) : RelS K ι S (upd H p o) :=
  ⟨r.len, fun n ob a h1 h2 => (r.ob n ob a h1 h2).mono r (Ext.put r hp) fun hm => by
    obtain ⟨vs, e⟩ := r.own ⟨n, ob, h2, h1, hm⟩
    exact upd_ne (ne_of_none e hp), r.inj⟩
/-- a new list -/
theorem RelS.new (r : RelS K ι S H) {p : Addr} {xs : List D} {vs : List V} (hp : H p = none) (hx : RelDs K ι H xs vs) : RelS K (ι ++ [p]) (S ++ [.lst xs]) (upd H p (.lst vs)) := by
  have e := Ext.new r (o := .lst vs) (.lst xs) hp
  refine ⟨by simp [r.len], fun n ob a h1 h2 => ?_, fun m n o q a hm hn im in_ om qm => ?_⟩
  · by_cases hn : n < ι.length
    · rw [List.getElem?_append_left hn] at h2
      rw [List.getElem?_append_left (by rw [← r.len]; exact hn)] at h1
      refine (r.ob n ob a h1 h2).mono r e fun hm => ?_
      obtain ⟨ws, e⟩ := r.own ⟨n, ob, h2, h1, hm⟩
      exact upd_ne (ne_of_none e hp)
    · rw [List.getElem?_append_right (by omega)] at h2
      rw [List.getElem?_append_right (by rw [← r.len]; omega)] at h1
      have z : n - ι.length = 0 := by
        have := (List.getElem?_eq_some_iff.mp h2).1
        simp at this
        omega
      rw [z] at h2
      rw [← r.len, z] at h1
      simp at h1 h2
      subst h1
      subst h2
      exact ⟨vs, upd_same, hx.mono r e⟩
  · have side : ∀ {k : Nat} {o : Ob} {a : Addr}, (S ++ [Ob.lst xs])[k]? = some o → (ι ++ [p])[k]? = some a → o.mut = true → (k < ι.length ∧ S[k]? = some o ∧ ι[k]? = some a ∧ a ≠ p) ∨ (k = ι.length ∧ a = p) := by
      intro k o a h1 h2 h3
      by_cases hk : k < ι.length
      · rw [List.getElem?_append_left hk] at h2
        rw [List.getElem?_append_left (by rw [← r.len]; exact hk)] at h1
        refine .inl ⟨hk, h1, h2, ?_⟩
        obtain ⟨ws, e⟩ := r.own ⟨k, o, h2, h1, h3⟩
        exact ne_of_none e hp
      · rw [List.getElem?_append_right (by omega)] at h2
        have z : k - ι.length = 0 := by
          have := (List.getElem?_eq_some_iff.mp h2).1
          simp at this
          omega
        rw [z] at h2
        simp at h2
        exact .inr ⟨by omega, h2.symm⟩
    rcases side hm im om with ⟨l1, s1, i1, n1⟩ | ⟨l1, a1⟩
    · rcases side hn in_ qm with ⟨l2, s2, i2, n2⟩ | ⟨l2, a2⟩
      · exact r.inj m n o q a s1 s2 i1 i2 om qm
      · exact absurd a2 n1
    · rcases side hn in_ qm with ⟨l2, s2, i2, n2⟩ | ⟨l2, a2⟩
      · exact absurd a1 n2
      · omega
/-- a list is written -/
theorem RelS.write (r : RelS K ι S H) {n : Nat} {p : Addr} {ob : Ob} {xs : List D} {vs : List V} (hi : ι[n]? = some p) (h0 : S[n]? = some ob) (hm : ob.mut = true) (hx : RelDs K ι H xs vs) : RelS K ι (S.set n (.lst xs)) (upd H p (.lst vs)) := by
  have e : Ext ι S H ι (S.set n (.lst xs)) (upd H p (.lst vs)) := Ext.write hi h0 hm rfl
  have hl : n < S.length := (List.getElem?_eq_some_iff.mp h0).1
  refine ⟨by rw [List.length_set]; exact r.len, fun k o a h1 h2 => ?_, fun i j o q a h1 h2 h3 h4 om qm => ?_⟩
  · by_cases hk : n = k
    · subst hk
      rw [List.getElem?_set_self hl] at h1
      cases h1
      rw [hi] at h2
      cases h2
      exact ⟨vs, upd_same, hx.mono r e⟩
    · rw [List.getElem?_set_ne hk] at h1
      refine (r.ob k o a h1 h2).mono r e fun om => upd_ne fun z => ?_
      subst z
      exact hk (r.inj n k ob o a h0 h1 hi h2 hm om)
  · have back : ∀ {k : Nat} {o : Ob}, (S.set n (.lst xs))[k]? = some o → o.mut = true → ∃ o', S[k]? = some o' ∧ o'.mut = true := by
      intro k o h om
      by_cases hk : n = k
      · subst hk
        exact ⟨ob, h0, hm⟩
      · rw [List.getElem?_set_ne hk] at h
        exact ⟨o, h, om⟩
    obtain ⟨o1, e1, m1⟩ := back h1 om
    obtain ⟨o2, e2, m2⟩ := back h2 qm
    exact r.inj i j o1 o2 a e1 e2 h3 h4 m1 m2
/-- a list of the store, read -/
theorem RelS.lst (r : RelS K ι S H) {n : Nat} {a : Addr} {xs : List D} (hi : ι[n]? = some a) (h0 : S[n]? = some (.lst xs)) : ∃ vs, H a = some (.lst vs) ∧ RelDs K ι H xs vs := r.ob n _ a h0 hi
theorem RelS.addr (r : RelS K ι S H) {n : Nat} {o : Ob} (h : S[n]? = some o) : ∃ a, ι[n]? = some a := by
  have hl : n < ι.length := by rw [r.len]; exact (List.getElem?_eq_some_iff.mp h).1
  exact ⟨ι[n], List.getElem?_eq_getElem hl⟩
end
end Cl
namespace Cl
open PySem PySem.Spec PyProof.Rows L2
section
variable {K : Fr'} {ι : List Addr} {H : Hp} {S : Sto}
theorem getL_some {n : Nat} {xs : List D} (h : getL S n = some xs) : S[n]? = some (.lst xs) := by
  unfold getL at h
  split at h
  · rename_i ys e
    rw [e, Option.some.inj h]
  · cases h
/-- a list of the store that may change -/
theorem RelS.getL (r : RelS K ι S H) {n : Nat} {a : Addr} {xs : List D} (hi : ι[n]? = some a) (h : Cl.getL S n = some xs) : S[n]? = some (.lst xs) ∧ ∃ vs, H a = some (.lst vs) ∧ RelDs K ι H xs vs :=
  ⟨getL_some h, r.lst hi (getL_some h)⟩
theorem RelDs.ints : ∀ ns : List Int, RelDs K ι H (ns.map .int) (ns.map V.int)
  | [] => .nil
  | n :: ns => .cons (.int n) (RelDs.ints ns)
/-- one that is read -/
theorem RelS.getQ (r : RelS K ι S H) {n : Nat} {a : Addr} {xs : List D} (hi : ι[n]? = some a) (h : Cl.getQ S n = some xs) : ∃ vs, SqL K H a vs ∧ RelDs K ι H xs vs := by
  unfold Cl.getQ at h
  split at h
  · rename_i ys e
    cases h
    obtain ⟨vs, h1, h2⟩ := r.lst hi e
    exact ⟨vs, SqL.of h1, h2⟩
  · rename_i ns e
    cases h
    exact ⟨_, RelOb.scr_sq (r.ob n _ a e hi), RelDs.ints ns⟩
  · cases h
end
end Cl

/-! part Py3 -/
/-! Cl: judgements by the evaluator; expressions without calls. -/
namespace Cl
open PySem PySem.Spec PyProof.Rows L2

/-- exception classes: the class's address, its fields -/
abbrev XI := Nat → Option (Addr × List Str)
def RelX (K : Fr') (xi : XI) (ι : List Addr) (S : Sto) (H : Hp) (x : D) (cls : Value) (dd : Option Addr) : Prop :=
  ∃ c fs C names, x = .exn c fs ∧ xi c = some (C, names) ∧ cls = .ref C ∧
    ((names = [] ∧ fs = [] ∧ dd = none) ∨ ∃ d vs, dd = some d ∧ fs.length = names.length ∧ H d = some (.xd (names.zip vs)) ∧ RelDs K ι H fs vs)

section
variable {K : Fr'} {xi : XI} {α β γ δ : Type}
def PostR (K : Fr') (xi : XI) (rel : List Addr → Hp → α → β → Prop) (E : XK) (ι : List Addr) (S : Sto) (H : Hp) (Q : β → Hp → Prop) : R α → Prop
  | .ok a S' => ∀ ι' H' y, Ext ι S H ι' S' H' → RelS K ι' S' H' → rel ι' H' a y → Q y H'
  | .exc x S' => ∀ ι' H' cls dd, Ext ι S H ι' S' H' → RelS K ι' S' H' → RelX K xi ι' S' H' x cls dd → E cls dd H'
  | .no => False
variable {rel : List Addr → Hp → α → β → Prop} {rel2 : List Addr → Hp → γ → δ → Prop} {E : XK} {ι ι1 : List Addr} {S S1 : Sto} {H H1 : Hp} {Q Q' : β → Hp → Prop}
theorem PostR.mono (e : Ext ι S H ι1 S1 H1) {m : R α} (h : PostR K xi rel E ι S H Q m) : PostR K xi rel E ι1 S1 H1 Q m := by
  cases m with
  | ok a S' => exact fun ι' H' y e' r' q => h ι' H' y (e.trans e') r' q
  | exc x S' => exact fun ι' H' cls dd e' r' q => h ι' H' cls dd (e.trans e') r' q
  | no => exact h
theorem PostR.imp {m : R α} (h : PostR K xi rel E ι S H Q m) (hq : ∀ y H', Q y H' → Q' y H') : PostR K xi rel E ι S H Q' m := by
  cases m with
  | ok a S' => exact fun ι' H' y e' r' q => hq _ _ (h ι' H' y e' r' q)
  | exc x S' => exact h
  | no => exact h
/-- what holds between two steps -/
theorem PostR.bind {Q : δ → Hp → Prop} {m : R α} {f : α → Sto → R γ} (h : PostR K xi rel2 E ι S H Q (m.bind f)) :
    PostR K xi rel E ι S H (fun y H1 => ∃ ι1 a S1, Ext ι S H ι1 S1 H1 ∧ RelS K ι1 S1 H1 ∧ rel ι1 H1 a y ∧ PostR K xi rel2 E ι1 S1 H1 Q (f a S1)) m := by
  cases m with
  | ok a S' => exact fun ι' H' y e r q => ⟨ι', a, S', e, r, q, h.mono e⟩
  | exc x S' => exact h
  | no => exact h
theorem PostR.opt {o : Option γ} {f : γ → R α} (h : PostR K xi rel E ι S H Q (R.opt o f)) : ∃ a, o = some a ∧ PostR K xi rel E ι S H Q (f a) := by
  cases o with
  | none => exact h.elim
  | some a => exact ⟨a, rfl, h⟩
theorem PostR.req {c : Prop} [Decidable c] {m : R α} (h : PostR K xi rel E ι S H Q (R.req c m)) : c ∧ PostR K xi rel E ι S H Q m := by
  by_cases hc : c
  · rw [R.req_of hc] at h
    exact ⟨hc, h⟩
  · unfold R.req at h
    rw [if_neg hc] at h
    exact h.elim
/-- the end -/
theorem PostR.now {a : α} {y : β} (h : PostR K xi rel E ι S H Q (.ok a S)) (r : RelS K ι S H) (q : rel ι H a y) : Q y H := h ι H y .refl r q
theorem PostR.to {a : α} {y : β} (h : PostR K xi rel E ι S H Q (.ok a S1)) (e : Ext ι S H ι1 S1 H1) (r : RelS K ι1 S1 H1) (q : rel ι1 H1 a y) : Q y H1 := h ι1 H1 y e r q
end

/-! ### readings by the evaluator -/
section
variable (K : Fr') (xi : XI) (W : WX)
def tD (m : Sg → Sto → R D) : TE := fun τ H Q => ∃ ι σ S, RelS K ι S H ∧ RelG K ι H σ τ ∧ PostR K xi (RelD K) (fun c d H' => W c d τ H') ι S H Q (m σ S)
def tDs (m : Sg → Sto → R (List D)) : TA := fun τ H Q => ∃ ι σ S, RelS K ι S H ∧ RelG K ι H σ τ ∧ PostR K xi (RelDs K) (fun c d H' => W c d τ H') ι S H Q (m σ S)
def relB : List Addr → Hp → Bool → Bool → Prop := fun _ _ a b => a = b
def tDT (m : Sg → Sto → R Bool) : TT := fun τ H Q => ∃ ι σ S, RelS K ι S H ∧ RelG K ι H σ τ ∧ PostR K xi relB (fun c d H' => W c d τ H') ι S H Q (m σ S)
def relO : List Addr → Hp → Option Int → Option Int → Prop := fun _ _ a b => a = b
def tDO (m : Sg → Sto → R (Option Int)) : TO := fun τ H Q => ∃ ι σ S, RelS K ι S H ∧ RelG K ι H σ τ ∧ PostR K xi relO (fun c d H' => W c d τ H') ι S H Q (m σ S)
end
theorem _root_.L2.PE.mono {X : Cx} {e : Expr} {t t' : TE} (h : PE X e t) (i : ∀ σ H Q, t' σ H Q → t σ H Q) : PE X e t' := ⟨fun pins s σ H Q I q => h.run pins s σ H Q I (i σ H Q q)⟩
theorem _root_.L2.PT.mono {X : Cx} {e : Expr} {t t' : TT} (h : PT X e t) (i : ∀ σ H Q, t' σ H Q → t σ H Q) : PT X e t' := ⟨fun pins s σ H Q I q => h.run pins s σ H Q I (i σ H Q q)⟩
theorem _root_.L2.PW.mono {X : Cx} {e : Expr} {t t' : TT} (h : PW X e t) (i : ∀ σ H Q, t' σ H Q → t σ H Q) : PW X e t' := ⟨fun wh pins s σ H Q I q => h.run wh pins s σ H Q I (i σ H Q q)⟩
theorem _root_.L2.PA.mono {X : Cx} {e : List Expr} {t t' : TA} (h : PA X e t) (i : ∀ σ H Q, t' σ H Q → t σ H Q) : PA X e t' := ⟨fun p pins s σ H Q I q => h.run p pins s σ H Q I (i σ H Q q)⟩
theorem _root_.L2.PO.mono {X : Cx} {e : Option Expr} {t t' : TO} (h : PO X e t) (i : ∀ σ H Q, t' σ H Q → t σ H Q) : PO X e t' := ⟨fun pins s σ H Q I q => h.run pins s σ H Q I (i σ H Q q)⟩
theorem _root_.L2.PS.mono {X : Cx} {e : Stmt} {t t' : TS} (h : PS X e t) (i : ∀ D σ H, t' D σ H → t D σ H) : PS X e t' := ⟨fun pins s σ H D I q => h.run pins s σ H D I (i D σ H q)⟩
theorem _root_.L2.PSs.mono {X : Cx} {e : List Stmt} {t t' : TS} (h : PSs X e t) (i : ∀ D σ H, t' D σ H → t D σ H) : PSs X e t' := ⟨fun pins s σ H D I q => h.run pins s σ H D I (i D σ H q)⟩

section
variable {X : Cx} {xi : XI} {W : WX} {a b : Expr} {ma mb : Sg → Sto → R D} {pos : Pos}
/-- two in a row -/

theorem de_non {j} : PE X (.Constant .none j pos) (tD X.K xi W fun _ S => .ok .non S) := pe_non.mono fun _ _ _ ⟨_, _, _, r, _, h⟩ => h.now r .non
theorem de_bl {b j} : PE X (.Constant (.bool b) j pos) (tD X.K xi W fun _ S => .ok (.bl b) S) := pe_bl.mono fun _ _ _ ⟨_, _, _, r, _, h⟩ => h.now r (.bl b)
theorem de_int {i : Int} {j} : PE X (.Constant (.int i) j pos) (tD X.K xi W fun _ S => .ok (.int i) S) := pe_int.mono fun _ _ _ ⟨_, _, _, r, _, h⟩ => h.now r (.int i)
theorem de_str {x : Str} {s : Tx} {j} (hx : x = SX.S s) (hl : s.length ≤ LIM) (ha : asciiAll s = true) : PE X (.Constant (.str x) j pos) (tD X.K xi W fun _ S => .ok (.str s) S) := pe_str.mono fun _ _ _ ⟨_, _, _, r, _, h⟩ => by
  subst hx
  exact h.now r (.str hl ha)
theorem de_var {i : Nat} {x : Str} (hN : X.N[i]? = some x) (hv : Vis X.env.scope x) (hd : (x == ("__debug__" : Str)) = false) (hcd : (x == ("__classdict__" : Str)) = false) :
    PE X (.Name x pos) (tD X.K xi W fun σ S => match σ[i]? with | some (some d) => .ok d S | _ => .no) := (pe_var hN hv hd hcd).mono fun τ H Q ⟨ι, σ, S, r, g, h⟩ => by
  dsimp only at h
  cases e : σ[i]? with
  | none => rw [e] at h; exact h.elim
  | some o =>
    cases o with
    | none => rw [e] at h; exact h.elim
    | some d =>
      rw [e] at h
      obtain ⟨v, h1, h2⟩ := g.at_ i d e
      exact ⟨v, h1, h.now r h2⟩
/-- a value-level operator, by the evaluator's -/
def rD2 (K : Fr') (xi : XI) (f : D → D → Sto → R D) : R2 := fun x y H Q => ∃ ι S d e E, RelS K ι S H ∧ RelD K ι H d x ∧ RelD K ι H e y ∧ PostR K xi (RelD K) E ι S H Q (f d e S)
theorem imp_op2 {f : D → D → Sto → R D} {τ : Sv} {H : Hp} {Q : VK} (h : tD X.K xi W (fun σ S => (ma σ S).bind fun x S1 => (mb σ S1).bind fun y S2 => f x y S2) τ H Q) : tOp (rD2 X.K xi f) (tD X.K xi W ma) (tD X.K xi W mb) τ H Q := by
  obtain ⟨ι, σ, S, r, g, h⟩ := h
  refine ⟨ι, σ, S, r, g, (PostR.bind h).imp ?_⟩
  rintro x H1 ⟨ι1, d, S1, e1, r1, q1, h1⟩
  have g1 := g.mono r e1
  refine ⟨ι1, σ, S1, r1, g1, (PostR.bind h1).imp ?_⟩
  rintro y H2 ⟨ι2, e, S2, e2, r2, q2, h2⟩
  exact ⟨ι2, S2, d, e, _, r2, q1.mono r1 e2, q2, h2⟩
theorem cls_rel {ι : List Addr} {S : Sto} {H : Hp} {d : D} {x : V} (r : RelS X.K ι S H) (q : RelD X.K ι H d x) : insCls S d = none := by
  cases q with
  | ref h =>
    rename_i n a
    unfold insCls
    dsimp only
    cases e : S[n]? with
    | none => rfl
    | some o =>
      cases o with
      | ins c fs => exact (r.ob n _ a e h).elim
      | _ => rfl
  | _ => rfl
theorem binopD_eq {ι : List Addr} {S : Sto} {H : Hp} {d e : D} {x : V} {C : Cfg} {o : Op} (r : RelS X.K ι S H) (q : RelD X.K ι H d x) : binopD C o d e S = binop o d e S := by
  unfold binopD
  rw [cls_rel r q]
theorem indexD_eq {ι : List Addr} {S : Sto} {H : Hp} {d e : D} {x : V} {C : Cfg} (r : RelS X.K ι S H) (q : RelD X.K ι H d x) : indexD C d e S = index d e S := by
  unfold indexD
  rw [cls_rel r q]
theorem cmpD_eq {ι : List Addr} {S : Sto} {H : Hp} {d e : D} {x y : V} {C : Cfg} {o : Cm} (r : RelS X.K ι S H) (q : RelD X.K ι H d x) (q2 : RelD X.K ι H e y) : cmpD C o d e S = R.opt (cmpop o d e S) fun k => .ok k S := by
  unfold cmpD
  rw [cls_rel r q, cls_rel r q2]
  cases o <;> rfl
theorem bltD_eq {ι : List Addr} {S : Sto} {H : Hp} {ds : List D} {xs : List V} {C : Cfg} {b : Bf} (r : RelS X.K ι S H) (q : RelDs X.K ι H ds xs) : bltD C b ds S = blt b ds S := by
  cases q with
  | nil => rfl
  | cons q qs =>
    cases qs with
    | nil =>
      unfold bltD
      dsimp only
      rw [cls_rel r q]
    | cons _ _ => rfl
theorem imp_op2D {f g : D → D → Sto → R D} {τ : Sv} {H : Hp} {Q : VK} (hfg : ∀ {ι S H d e} {x y : V}, RelS X.K ι S H → RelD X.K ι H d x → RelD X.K ι H e y → f d e S = g d e S) (h : tD X.K xi W (fun σ S => (ma σ S).bind fun x S1 => (mb σ S1).bind fun y S2 => f x y S2) τ H Q) : tOp (rD2 X.K xi g) (tD X.K xi W ma) (tD X.K xi W mb) τ H Q := by
  obtain ⟨ι, σ, S, r, g, h⟩ := h
  refine ⟨ι, σ, S, r, g, (PostR.bind h).imp ?_⟩
  rintro x H1 ⟨ι1, d, S1, e1, r1, q1, h1⟩
  have g1 := g.mono r e1
  refine ⟨ι1, σ, S1, r1, g1, (PostR.bind h1).imp ?_⟩
  rintro y H2 ⟨ι2, e, S2, e2, r2, q2, h2⟩
  have q1' := q1.mono r1 e2
  rw [hfg r2 q1' q2] at h2
  exact ⟨ι2, S2, d, e, _, r2, q1', q2, h2⟩
theorem de_bin {C : Cfg} {o : Op} {op : Operator} (ho : OpR X (binaryOp op) (rD2 X.K xi (binop o))) (ha : PE X a (tD X.K xi W ma)) (hb : PE X b (tD X.K xi W mb)) :
    PE X (.BinOp a op b pos) (tD X.K xi W fun σ S => (ma σ S).bind fun x S1 => (mb σ S1).bind fun y S2 => binopD C o x y S2) := (pe_op ho ha hb).mono fun _ _ _ h => imp_op2D (fun r q _ => binopD_eq r q) h
end
end Cl

/-! part Py4 -/
/-! Cl: operations by values are sound. -/
namespace Cl
open PySem PySem.Spec PyProof.Rows L2
section
variable {X : Cx} {xi : XI}
theorem ascii_append {s t : Tx} (a : asciiAll s = true) (b : asciiAll t = true) : asciiAll (s ++ t) = true := by
  unfold asciiAll at *
  rw [List.all_append, a, b]; rfl
theorem ascii_mem {s : Tx} (a : asciiAll s = true) : ∀ c ∈ s, c < 128 := by
  intro c hc
  have := List.all_eq_true.mp a c hc
  simpa using this
theorem ascii_of {s : Tx} (h : ∀ c ∈ s, c < 128) : asciiAll s = true := List.all_eq_true.mpr fun c hc => by simpa using h c hc
theorem ascii_sub {s t : Tx} (a : asciiAll s = true) (h : ∀ c ∈ t, c ∈ s) : asciiAll t = true := ascii_of fun c hc => ascii_mem a c (h c hc)

theorem PostR.newT {K : Fr'} {E : XK} {ι : List Addr} {S : Sto} {H : Hp} {Q : VK} {ds : List D} {vs : List V} {p : Addr} (h : PostR K xi (RelD K) E ι S H Q (.ok (.tup ds) S)) (r : RelS K ι S H) (g : RelDs K ι H ds vs) (hp : H p = none) :
    Q (.ref p) (upd H p (.tup vs)) := by
  have e := Ext.put (o := .tup vs) r hp
  exact h.to e (r.put hp) (.tup (.inl (.inl upd_same)) (g.mono r e))
theorem PostR.newL {K : Fr'} {E : XK} {ι : List Addr} {S : Sto} {H : Hp} {Q : VK} {ds : List D} {vs : List V} {p : Addr} (h : PostR K xi (RelD K) E ι S H Q (ins1 S (.lst ds))) (r : RelS K ι S H) (g : RelDs K ι H ds vs) (hp : H p = none) :
    Q (.ref p) (upd H p (.lst vs)) := by
  refine PostR.to (show PostR K xi (RelD K) E ι S H Q (.ok (.ref S.length) (S ++ [.lst ds])) from h) (Ext.new r _ hp) (r.new hp g) (.ref ?_)
  rw [← r.len, List.getElem?_append_right (Nat.le_refl _)]
  simp
theorem RelDs.nil_iff {K : Fr'} {ι : List Addr} {H : Hp} {ds : List D} {vs : List V} (g : RelDs K ι H ds vs) : ds = [] ↔ vs = [] := by
  cases g <;> simp

/-! ### operators -/
theorem opr_add : OpR X (binaryOp .Add) (rD2 X.K xi (binop .add)) := by
  rintro pins s τ H x y v u Q I rx ry ⟨ι, S, d, e, E, r, qd, qe, h⟩
  cases qd with
  | int i =>
    cases qe with
    | int j => exact op_add pins s τ H _ _ v u Q I rx ry ⟨i, j, rfl, rfl, h.now r (.int _)⟩
    | _ => exact False.elim h
  | str h1 h2 =>
    rename_i s1
    cases qe with
    | str h3 h4 =>
      rename_i s2
      obtain ⟨hl, h⟩ := PostR.req (show PostR X.K xi (RelD X.K) E ι S H Q (R.req (s1.length + s2.length ≤ LIM) (.ok (.str (s1 ++ s2)) S)) from h)
      refine op_add_str pins s τ H _ _ v u Q I rx ry ⟨_, _, rfl, rfl, by rw [SX.S_len, SX.S_len, ← LIM_eq]; exact hl, ?_⟩
      rw [SX.S_cat]
      exact h.now r (.str (by rw [List.length_append]; exact hl) (ascii_append h2 h4))
    | _ => exact False.elim h
  | tup h1 h2 =>
    rename_i a vs ds
    cases qe with
    | tup h3 h4 =>
      rename_i b us es
      obtain ⟨hl, h⟩ := PostR.req (show PostR X.K xi (RelD X.K) E ι S H Q (R.req (ds.length + es.length ≤ LIM) (.ok (.tup (ds ++ es)) S)) from h)
      refine L2.op_catA pins s τ H _ _ v u Q I rx ry ⟨a, b, vs, us, rfl, rfl, h1, h3, by rw [← h2.length, ← h4.length, ← LIM_eq]; exact hl, fun z => ?_, fun _ z => ?_, fun _ _ p hp => h.newT r (h2.append h4) hp⟩
      · have z' := h2.nil_iff.mpr z
        subst z'
        exact h.now r (.tup h3 h4)
      · have z' := h4.nil_iff.mpr z
        subst z'
        rw [List.append_nil] at h
        exact h.now r (.tup h1 h2)
    | _ => exact False.elim h
  | ref h1 =>
    rename_i m a
    cases qe with
    | ref h2 =>
      rename_i n b
      obtain ⟨s1, e1, h⟩ := PostR.opt (show PostR X.K xi (RelD X.K) E ι S H Q (R.opt (getL S m) fun s => R.opt (getL S n) fun t => R.req (s.length + t.length ≤ LIM) (ins1 S (.lst (s ++ t)))) from h)
      obtain ⟨s2, e2, h⟩ := PostR.opt h
      obtain ⟨hl, h⟩ := PostR.req h
      obtain ⟨_, vs, f1, g1⟩ := r.getL h1 e1
      obtain ⟨_, us, f2, g2⟩ := r.getL h2 e2
      exact L2.op_cat pins s τ H _ _ v u Q I rx ry ⟨a, b, vs, us, rfl, rfl, f1, f2, by rw [← g1.length, ← g2.length, ← LIM_eq]; exact hl, fun p hp => h.newL r (g1.append g2) hp⟩
    | _ => exact False.elim h
  | _ => exact False.elim h
theorem opr_sub : OpR X (binaryOp .Sub) (rD2 X.K xi (binop .sub)) := by
  rintro pins s τ H x y v u Q I rx ry ⟨ι, S, d, e, E, r, qd, qe, h⟩
  cases qd with
  | int i =>
    cases qe with
    | int j => exact op_sub pins s τ H _ _ v u Q I rx ry ⟨i, j, rfl, rfl, h.now r (.int _)⟩
    | _ => exact False.elim h
  | _ => exact False.elim h
theorem opr_mul : OpR X (binaryOp .Mult) (rD2 X.K xi (binop .mul)) := by
  rintro pins s τ H x y v u Q I rx ry ⟨ι, S, d, e, E, r, qd, qe, h⟩
  cases qd with
  | int i =>
    cases qe with
    | int j =>
      obtain ⟨hc, h⟩ := PostR.req (show PostR X.K xi (RelD X.K) E ι S H Q (R.req (i.natAbs < 2 ^ 64 ∨ j.natAbs < 2 ^ 64) (.ok (.int (i * j)) S)) from h)
      refine op_mul pins s τ H _ _ v u Q I rx ry ⟨i, j, rfl, rfl, ?_, h.now r (.int _)⟩
      rcases hc with hc | hc
      · exact .inl ⟨by omega, by omega⟩
      · exact .inr ⟨by omega, by omega⟩
    | _ => exact False.elim h
  | tup h1 h2 =>
    rename_i a vs ds
    cases qe with
    | int k =>
      obtain ⟨⟨c1, c2, c3, c4⟩, h⟩ := PostR.req (show PostR X.K xi (RelD X.K) E ι S H Q (R.req (ds ≠ [] ∧ 2 ≤ k ∧ k ≤ 1000 ∧ ds.length ≤ 1000) (.ok (.tup (List.replicate k.toNat ds).flatten) S)) from h)
      exact L2.op_repT pins s τ H _ _ v u Q I rx ry ⟨a, k, vs, rfl, rfl, h1, fun z => c1 (h2.nil_iff.mpr z), c2, c3, by rw [← h2.length]; exact c4, fun p hp => h.newT r (h2.rep _) hp⟩
    | _ => exact False.elim h
  | ref h1 =>
    rename_i m a
    cases qe with
    | int k =>
      obtain ⟨s1, e1, h⟩ := PostR.opt (show PostR X.K xi (RelD X.K) E ι S H Q (R.opt (getL S m) fun s => R.req (0 ≤ k ∧ k ≤ 100000 ∧ s.length * k.toNat ≤ LIM) (ins1 S (.lst (List.replicate k.toNat s).flatten))) from h)
      obtain ⟨⟨c1, c2, c3⟩, h⟩ := PostR.req h
      obtain ⟨_, vs, f1, g1⟩ := r.getL h1 e1
      exact L2.op_rep pins s τ H _ _ v u Q I rx ry ⟨a, k, vs, rfl, rfl, f1, by omega, by omega, by rw [← g1.length, ← LIM_eq]; exact c3, fun p hp => h.newL r (g1.rep _) hp⟩
    | _ => exact False.elim h
  | _ => exact False.elim h
theorem opr_fdiv : OpR X (binaryOp .FloorDiv) (rD2 X.K xi (binop .fdiv)) := by
  rintro pins s τ H x y v u Q I rx ry ⟨ι, S, d, e, E, r, qd, qe, h⟩
  cases qd with
  | int i =>
    cases qe with
    | int j =>
      obtain ⟨hc, h⟩ := PostR.req (show PostR X.K xi (RelD X.K) E ι S H Q (R.req (0 < j ∧ j < 1073741824) (.ok (.int (i / j)) S)) from h)
      exact op_fdiv pins s τ H _ _ v u Q I rx ry ⟨i, j, rfl, rfl, hc, h.now r (.int _)⟩
    | _ => exact False.elim h
  | _ => exact False.elim h
theorem opr_mod : OpR X (binaryOp .Mod) (rD2 X.K xi (binop .mod)) := by
  rintro pins s τ H x y v u Q I rx ry ⟨ι, S, d, e, E, r, qd, qe, h⟩
  cases qd with
  | int i =>
    cases qe with
    | int j =>
      obtain ⟨hc, h⟩ := PostR.req (show PostR X.K xi (RelD X.K) E ι S H Q (R.req (0 < j) (.ok (.int (i % j)) S)) from h)
      exact op_mod pins s τ H _ _ v u Q I rx ry ⟨i, j, rfl, rfl, hc, h.now r (.int _)⟩
    | _ => exact False.elim h
  | _ => exact False.elim h
theorem opr_pow : OpR X (binaryOp .Pow) (rD2 X.K xi (binop .pow)) := by
  rintro pins s τ H x y v u Q I rx ry ⟨ι, S, d, e, E, r, qd, qe, h⟩
  cases qd with
  | int i =>
    cases qe with
    | int j =>
      obtain ⟨hc, h⟩ := PostR.req (show PostR X.K xi (RelD X.K) E ι S H Q (R.req (0 ≤ j ∧ j ≤ 1000000 ∧ i.natAbs < 2 ^ 64) (.ok (.int (i ^ j.toNat)) S)) from h)
      exact op_pow pins s τ H _ _ v u Q I rx ry ⟨i, j, rfl, rfl, hc, h.now r (.int _)⟩
    | _ => exact False.elim h
  | _ => exact False.elim h
def opOf : Op → Operator
  | .add => .Add | .sub => .Sub | .mul => .Mult | .fdiv => .FloorDiv | .mod => .Mod | .pow => .Pow
theorem opr_all (o : Op) : OpR X (binaryOp (opOf o)) (rD2 X.K xi (binop o)) := by
  cases o
  · exact opr_add
  · exact opr_sub
  · exact opr_mul
  · exact opr_fdiv
  · exact opr_mod
  · exact opr_pow

/-! ### data, ==, truth -/
mutual
theorem rd_dp {K : Fr'} {ι : List Addr} {S : Sto} {H : Hp} (r : RelS K ι S H) : ∀ (n : Nat) {d : D} {v : V} {p : PyData}, RelD K ι H d v → rd S n d = some p → Dp K H v p ∧ p.canLay0 = true ∧ p.depth ≤ n
  | n, .non, _, p, .non, e => by
    cases n <;> (cases e; exact ⟨.non, rfl, Nat.zero_le _⟩)
  | n, .bl b, _, p, .bl _, e => by
    cases n <;> (cases e; exact ⟨.bl b, rfl, Nat.zero_le _⟩)
  | n, .int i, _, p, .int _, e => by
    cases n <;> (cases e; exact ⟨.int i, rfl, Nat.zero_le _⟩)
  | n, .str s, _, p, .str h1 h2, e => by
    have ok : (PyData.str (SX.S s)).canLay0 = true := by
      show (SX.S s).cps.all (· < 0x110000) = true
      rw [← Array.all_toList]
      refine List.all_eq_true.mpr fun c hc => ?_
      have := ascii_mem h2 c hc
      simp only [decide_eq_true_eq]
      omega
    cases n <;> (cases e; exact ⟨.str _, ok, Nat.zero_le _⟩)
  | 0, .tup _, _, p, .tup _ _, e => by cases e
  | n + 1, .tup ds, _, p, .tup h1 h2, e => by
    simp only [rd] at e
    cases q : rdL (rd S n) ds with
    | none => rw [q] at e; cases e
    | some ps =>
      rw [q] at e
      cases e
      obtain ⟨a1, a2, a3⟩ := rdL_dp r n h2 q
      exact ⟨.tup h1 a1, a2, Nat.succ_le_succ a3⟩
  | 0, .ref _, _, p, .ref _, e => by cases e
  | n + 1, .ref m, _, p, .ref h1, e => by
    simp only [rd] at e
    cases g : Cl.getQ S m with
    | none => rw [g] at e; cases e
    | some xs =>
      rw [g] at e
      simp only at e
      cases q : rdL (rd S n) xs with
      | none => rw [q] at e; cases e
      | some ps =>
        rw [q] at e
        cases e
        obtain ⟨vs, f1, g1⟩ := r.getQ h1 g
        obtain ⟨a1, a2, a3⟩ := rdL_dp r n g1 q
        exact ⟨.lst f1 a1, a2, Nat.succ_le_succ a3⟩
theorem rdL_dp {K : Fr'} {ι : List Addr} {S : Sto} {H : Hp} (r : RelS K ι S H) : ∀ (n : Nat) {ds : List D} {vs : List V} {ps : List PyData}, RelDs K ι H ds vs → rdL (rd S n) ds = some ps → DpAll K H vs ps ∧ PyData.canLayAll0 ps = true ∧ PyData.depthAll ps ≤ n
  | n, [], _, ps, .nil, e => by cases e; exact ⟨.nil, rfl, Nat.zero_le _⟩
  | n, d :: ds, _, ps, .cons h hs, e => by
    simp only [rdL] at e
    split at e
    · rename_i a as q1 q2
      cases e
      obtain ⟨a1, a2, a3⟩ := rd_dp r n h q1
      obtain ⟨b1, b2, b3⟩ := rdL_dp r n hs q2
      exact ⟨.cons a1 b1, by simp [PyData.canLayAll0, a2, b2], Nat.max_le.mpr ⟨a3, b3⟩⟩
    · cases e
end
end
end Cl

/-! part Py5 -/
/-! Cl: comparisons, truth, places, built-in functions. -/
namespace Cl
open PySem PySem.Spec PyProof.Rows L2
section
variable {X : Cx} {xi : XI}
/-- a comparison by the evaluator's -/
def rC (K : Fr') (o : Cm) : R2 := fun x y H Q => ∃ ι S d e k, RelS K ι S H ∧ RelD K ι H d x ∧ RelD K ι H e y ∧ cmpop o d e S = some k ∧ Q (.bl k) H
def cmOf : Cm → CmpOp
  | .eq => .Eq | .ne => .NotEq | .lt => .Lt | .le => .LtE | .gt => .Gt | .ge => .GtE | .isin => .In | .notin => .NotIn | .is => .Is | .isnot => .IsNot
theorem eqD_some {S : Sto} {d e : D} {k : Bool} (h : eqD S d e = some k) : ∃ x y, rd S DEEP d = some x ∧ rd S DEEP e = some y ∧ PyData.eqv x y = k := by
  unfold eqD at h
  split at h
  · rename_i x y e1 e2
    exact ⟨x, y, e1, e2, Option.some.inj h⟩
  · cases h
theorem shaped_of {p : PyData} {n : Nat} (h1 : p.canLay0 = true) (h2 : p.depth ≤ n) (hn : n ≤ 64) : SeqAt.shaped p = true := by
  unfold SeqAt.shaped
  rw [h1, decide_eq_true (Nat.le_trans h2 hn)]
  rfl
theorem opc_eq (hu : X.A.units + 65 < cLine) : OpR X (compareOp .Eq) (rC X.K .eq) := by
  rintro pins s τ H x y v u Q I rx ry ⟨ι, S, d, e, k, r, qd, qe, h, q⟩
  obtain ⟨p1, p2, e1, e2, rfl⟩ := eqD_some h
  obtain ⟨a1, a2, a3⟩ := rd_dp r _ qd e1
  obtain ⟨b1, b2, b3⟩ := rd_dp r _ qe e2
  exact op_eqD (by omega) pins s τ H x y v u Q I rx ry ⟨p1, p2, a1, b1, shaped_of a2 a3 (by decide), shaped_of b2 b3 (by decide), q⟩
theorem opc_ne (hu : X.A.units + 65 < cLine) : OpR X (compareOp .NotEq) (rC X.K .ne) := by
  rintro pins s τ H x y v u Q I rx ry ⟨ι, S, d, e, k, r, qd, qe, h, q⟩
  obtain ⟨k', h', rfl⟩ := Option.map_eq_some_iff.mp (show (eqD S d e).map (!·) = some k from h)
  obtain ⟨p1, p2, e1, e2, rfl⟩ := eqD_some h'
  obtain ⟨a1, a2, a3⟩ := rd_dp r _ qd e1
  obtain ⟨b1, b2, b3⟩ := rd_dp r _ qe e2
  exact op_neD (by omega) pins s τ H x y v u Q I rx ry ⟨p1, p2, a1, b1, shaped_of a2 a3 (by decide), shaped_of b2 b3 (by decide), q⟩
theorem opc_lt : OpR X (compareOp .Lt) (rC X.K .lt) := by
  rintro pins s τ H x y v u Q I rx ry ⟨ι, S, d, e, k, r, qd, qe, h, q⟩
  cases qd with
  | int i => cases qe with
    | int j => cases h; exact op_lt pins s τ H _ _ v u Q I rx ry ⟨i, j, rfl, rfl, q⟩
    | _ => cases h
  | _ => cases h
theorem opc_le : OpR X (compareOp .LtE) (rC X.K .le) := by
  rintro pins s τ H x y v u Q I rx ry ⟨ι, S, d, e, k, r, qd, qe, h, q⟩
  cases qd with
  | int i => cases qe with
    | int j => cases h; exact op_le pins s τ H _ _ v u Q I rx ry ⟨i, j, rfl, rfl, q⟩
    | _ => cases h
  | _ => cases h
theorem opc_gt : OpR X (compareOp .Gt) (rC X.K .gt) := by
  rintro pins s τ H x y v u Q I rx ry ⟨ι, S, d, e, k, r, qd, qe, h, q⟩
  cases qd with
  | int i => cases qe with
    | int j => cases h; exact op_gt pins s τ H _ _ v u Q I rx ry ⟨i, j, rfl, rfl, q⟩
    | _ => cases h
  | _ => cases h
theorem opc_ge : OpR X (compareOp .GtE) (rC X.K .ge) := by
  rintro pins s τ H x y v u Q I rx ry ⟨ι, S, d, e, k, r, qd, qe, h, q⟩
  cases qd with
  | int i => cases qe with
    | int j => cases h; exact op_ge pins s τ H _ _ v u Q I rx ry ⟨i, j, rfl, rfl, q⟩
    | _ => cases h
  | _ => cases h
theorem flat_V {K : Fr'} {ι : List Addr} {H : Hp} {d : D} {v : V} (q : RelD K ι H d v) (h : flat d = true) : flatV v = true := by
  cases q <;> first | rfl | cases h
theorem flats_V {K : Fr'} {ι : List Addr} {H : Hp} : ∀ {ds : List D} {vs : List V}, RelDs K ι H ds vs → ds.all flat = true → vs.all flatV = true
  | _, _, .nil, _ => rfl
  | _, _, .cons q qs, h => by
    rw [List.all_cons, Bool.and_eq_true] at h
    rw [List.all_cons, flat_V q h.1, flats_V qs h.2]; rfl
theorem eqF_V {K : Fr'} {ι : List Addr} {H : Hp} {d e : D} {v u : V} (q : RelD K ι H d v) (q2 : RelD K ι H e u) (h : flat d = true) (h2 : flat e = true) : eqF d e = eqV v u := by
  cases q <;> cases q2 <;> first | rfl | exact (SX.S_beq _ _).symm | cases h | cases h2
theorem inV_any {K : Fr'} {ι : List Addr} {H : Hp} {d : D} {v : V} (q : RelD K ι H d v) (h : flat d = true) : ∀ {ds : List D} {vs : List V}, RelDs K ι H ds vs → ds.all flat = true → (ds.any fun y => eqF y d) = inV v vs
  | _, _, .nil, _ => rfl
  | _, _, .cons r rs, z => by
    rw [List.all_cons, Bool.and_eq_true] at z
    have ih := inV_any q h rs z.2
    unfold inV at *
    rw [List.any_cons, List.any_cons, eqF_V r q z.1 h, ih]
theorem inF_cases {S : Sto} {d e : D} {k : Bool} (h : inF S d e = some k) : (∃ s t, d = .str s ∧ e = .str t ∧ k = subTx t s) ∨
    (∃ ys, e = .tup ys ∧ flat d = true ∧ ys.all flat = true ∧ k = ys.any fun y => eqF y d) ∨ (∃ m ys, e = .ref m ∧ getQ S m = some ys ∧ flat d = true ∧ ys.all flat = true ∧ k = ys.any fun y => eqF y d) := by
  unfold inF at h
  split at h
  · exact .inl ⟨_, _, rfl, rfl, (Option.some.inj h).symm⟩
  · split at h
    · rename_i c
      rw [Bool.and_eq_true] at c
      exact .inr (.inl ⟨_, rfl, c.1, c.2, (Option.some.inj h).symm⟩)
    · cases h
  · split at h
    · rename_i ys e1
      split at h
      · rename_i c
        rw [Bool.and_eq_true] at c
        exact .inr (.inr ⟨_, ys, rfl, e1, c.1, c.2, (Option.some.inj h).symm⟩)
      · cases h
    · cases h
  · cases h
theorem opc_in : OpR X (compareOp .In) (rC X.K .isin) := by
  rintro pins s τ H x y v u Q I rx ry ⟨ι, S, d, e, k, r, qd, qe, h, q⟩
  rcases inF_cases h with ⟨a, b, rfl, rfl, rfl⟩ | ⟨ys, rfl, f1, f2, rfl⟩ | ⟨m, ys, rfl, g, f1, f2, rfl⟩
  · cases qd; cases qe
    exact op_in_str pins s τ H _ _ v u Q I rx ry ⟨_, _, rfl, rfl, q⟩
  · cases qe with
    | tup h1 h2 => exact op_in_seq pins s τ H _ _ v u Q I rx ry ⟨_, _, rfl, .inr h1, flat_V qd f1, flats_V h2 f2, by rw [if_neg Bool.false_ne_true, ← inV_any qd f1 h2 f2]; exact q⟩
  · cases qe with
    | ref h1 =>
      obtain ⟨vs, g1, g2⟩ := r.getQ h1 g
      exact op_in_seq pins s τ H _ _ v u Q I rx ry ⟨_, _, rfl, .inl g1, flat_V qd f1, flats_V g2 f2, by rw [if_neg Bool.false_ne_true, ← inV_any qd f1 g2 f2]; exact q⟩
theorem opc_notin : OpR X (compareOp .NotIn) (rC X.K .notin) := by
  rintro pins s τ H x y v u Q I rx ry ⟨ι, S, d, e, k, r, qd, qe, h, q⟩
  obtain ⟨k', h', rfl⟩ := Option.map_eq_some_iff.mp (show (inF S d e).map (!·) = some k from h)
  rcases inF_cases h' with ⟨a, b, rfl, rfl, rfl⟩ | ⟨ys, rfl, f1, f2, rfl⟩ | ⟨m, ys, rfl, g, f1, f2, rfl⟩
  · cases qd; cases qe
    exact L2.op_notin_str pins s τ H _ _ v u Q I rx ry ⟨_, _, rfl, rfl, q⟩
  · cases qe with
    | tup h1 h2 => exact op_notIn_seq pins s τ H _ _ v u Q I rx ry ⟨_, _, rfl, .inr h1, flat_V qd f1, flats_V h2 f2, by rw [if_pos rfl, ← inV_any qd f1 h2 f2]; exact q⟩
  · cases qe with
    | ref h1 =>
      obtain ⟨vs, g1, g2⟩ := r.getQ h1 g
      exact op_notIn_seq pins s τ H _ _ v u Q I rx ry ⟨_, _, rfl, .inl g1, flat_V qd f1, flats_V g2 f2, by rw [if_pos rfl, ← inV_any qd f1 g2 f2]; exact q⟩
theorem isNon_V {K : Fr'} {ι : List Addr} {H : Hp} {d : D} {v : V} (q : RelD K ι H d v) : isNon d = decide (v = .non) := by
  cases q <;> rfl
theorem opc_is : OpR X (compareOp .Is) (rC X.K .is) := by
  rintro pins s τ H x y v u Q I rx ry ⟨ι, S, d, e, k, r, qd, qe, h, q⟩
  cases qe with
  | non =>
    cases h
    exact op_isN pins s τ H _ _ v u Q I rx ry ⟨rfl, by rw [← isNon_V qd]; exact q⟩
  | bl b =>
    cases qd with
    | bl a => cases h; exact L2.op_isBl pins s τ H _ _ v u Q I rx ry ⟨a, b, rfl, rfl, q⟩
    | _ => cases h
  | _ => cases h
theorem opc_isnot : OpR X (compareOp .IsNot) (rC X.K .isnot) := by
  rintro pins s τ H x y v u Q I rx ry ⟨ι, S, d, e, k, r, qd, qe, h, q⟩
  cases qe with
  | non =>
    cases h
    exact op_notN pins s τ H _ _ v u Q I rx ry ⟨rfl, by rw [← isNon_V qd]; exact q⟩
  | bl b =>
    cases qd with
    | bl a => cases h; exact L2.op_notBl pins s τ H _ _ v u Q I rx ry ⟨a, b, rfl, rfl, q⟩
    | _ => cases h
  | _ => cases h
theorem opc_all (hu : X.A.units + 65 < cLine) (o : Cm) : OpR X (compareOp (cmOf o)) (rC X.K o) := by
  cases o
  · exact opc_eq hu
  · exact opc_ne hu
  · exact opc_lt
  · exact opc_le
  · exact opc_gt
  · exact opc_ge
  · exact opc_in
  · exact opc_notin
  · exact opc_is
  · exact opc_isnot

/-! ### truth -/
theorem isEmpty_V {K : Fr'} {ι : List Addr} {H : Hp} {ds : List D} {vs : List V} (g : RelDs K ι H ds vs) : ds.isEmpty = vs.isEmpty := by
  cases g <;> rfl
theorem truth_V {K : Fr'} {ι : List Addr} {S : Sto} {H : Hp} (r : RelS K ι S H) {d : D} {v : V} {k : Bool} (q : RelD K ι H d v) (h : truth S d = some k) : TruV K v H k := by
  cases q with
  | non => cases h; exact rfl
  | bl b => cases h; exact rfl
  | int i => cases h; exact rfl
  | str h1 h2 =>
    cases h
    refine ⟨by rw [SX.S_len, ← LIM_eq]; exact h1, ?_⟩
    rw [SX.S_len]
    rename_i s
    cases s with
    | nil => rfl
    | cons a s =>
      have : ((List.length (a :: s) : Nat) : Int) ≠ 0 := by
        rw [List.length_cons]
        omega
      show true = _
      exact (bne_iff_ne.mpr this).symm
  | tup h1 h2 =>
    cases h
    exact .inr (.inl ⟨_, h1, by rw [isEmpty_V h2]⟩)
  | ref h1 =>
    obtain ⟨xs, e, rfl⟩ := Option.map_eq_some_iff.mp (show (getQ S _).map (fun xs => !xs.isEmpty) = some k from h)
    obtain ⟨vs, g1, g2⟩ := r.getQ h1 e
    exact .inl ⟨vs, g1, by rw [isEmpty_V g2]⟩

/-! ### places and slices -/
theorem atI_V {K : Fr'} {ι : List Addr} {H : Hp} {ds : List D} {vs : List V} (g : RelDs K ι H ds vs) {i : Int} {d : D} (h : atI ds i = some d) : ∃ v, L2.atI vs i = some v ∧ RelD K ι H d v := by
  unfold atI L2.atI at *
  rw [← g.length]
  cases e : ixN ds.length i with
  | none => rw [e] at h; cases h
  | some j =>
    rw [e] at h
    exact g.get h
theorem ix_all : IxR X (rD2 X.K xi index) := by
  rintro value slc pins s τ H x y v u Q I rx ry ⟨ι, S, d, e, E, r, qd, qe, h⟩ hs
  cases qd with
  | str h1 h2 =>
    rename_i z
    cases qe with
    | int i =>
      obtain ⟨c, e1, h⟩ := PostR.opt (show PostR X.K xi (RelD X.K) E ι S H Q (R.opt (atI z i) fun c => .ok (.str [c]) S) from h)
      refine ix_str value slc pins s τ H _ _ v u Q I rx ry ⟨_, i, c, rfl, rfl, by rw [SX.S_len, ← LIM_eq]; exact h1, e1, ?_⟩ hs
      refine h.now r (.str (show 1 ≤ LIM by decide) (ascii_sub h2 fun x hx => ?_))
      rw [List.mem_singleton] at hx
      subst hx
      unfold atI L2.atI at e1
      cases e2 : ixN z.length i with
      | none => rw [e2] at e1; cases e1
      | some j => rw [e2] at e1; exact List.mem_of_getElem? e1
    | _ => exact False.elim h
  | tup h1 h2 =>
    rename_i a vs ds
    cases qe with
    | int i =>
      obtain ⟨c, e1, h⟩ := PostR.opt (show PostR X.K xi (RelD X.K) E ι S H Q (R.opt (atI ds i) fun c => .ok c S) from h)
      obtain ⟨w, e2, g⟩ := atI_V h2 e1
      exact ix_tup value slc pins s τ H _ _ v u Q I rx ry ⟨a, vs, i, w, rfl, rfl, h1, e2, h.now r g⟩ hs
    | _ => exact False.elim h
  | ref h1 =>
    rename_i m a
    cases qe with
    | int i =>
      obtain ⟨xs, e0, h⟩ := PostR.opt (show PostR X.K xi (RelD X.K) E ι S H Q (R.opt (getQ S m) fun xs => R.opt (atI xs i) fun c => .ok c S) from h)
      obtain ⟨c, e1, h⟩ := PostR.opt h
      obtain ⟨vs, g1, g2⟩ := r.getQ h1 e0
      obtain ⟨w, e2, g⟩ := atI_V g2 e1
      exact ix_list value slc pins s τ H _ _ v u Q I rx ry ⟨a, vs, i, w, rfl, rfl, g1, e2, h.now r g⟩ hs
    | _ => exact False.elim h
  | _ => exact False.elim h
theorem cut_V {K : Fr'} {ι : List Addr} {H : Hp} {ds : List D} {vs : List V} (g : RelDs K ι H ds vs) (lo hi : Option Int) : RelDs K ι H (cut ds lo hi) (cutV vs lo hi) := by
  unfold cut cutV
  rw [g.length]
  exact (g.drop _).take _
theorem cut_mem {α : Type} {xs : List α} {lo hi : Option Int} {c : α} (h : c ∈ cut xs lo hi) : c ∈ xs := List.mem_of_mem_drop (List.mem_of_mem_take h)
theorem cut_len {α : Type} (xs : List α) (lo hi : Option Int) : (cut xs lo hi).length ≤ xs.length := by
  unfold cut
  rw [List.length_take, List.length_drop]
  omega
def rSlD (K : Fr') (xi : XI) : V → Option Int → Option Int → Hp → VK → Prop := fun x lo hi H Q => ∃ ι S d E, RelS K ι S H ∧ RelD K ι H d x ∧ PostR K xi (RelD K) E ι S H Q (slice d lo hi S)
theorem sl_all : SlR X (rSlD X.K xi) := by
  rintro pins s τ H x v vl vu lo hi sl Q I rx hs pl pu ⟨ι, S, d, E, r, qd, h⟩
  cases qd with
  | str h1 h2 =>
    rename_i z
    refine sl_str pins s τ H _ v vl vu lo hi sl Q I rx hs pl pu ⟨_, rfl, by rw [SX.S_len, ← LIM_eq]; exact h1, ?_⟩
    have e : cutS (SX.S z) lo hi = SX.S (cut z lo hi) := by
      unfold cutS cut
      rw [SX.S_len]
    rw [e]
    exact h.now r (.str (Nat.le_trans (cut_len _ _ _) h1) (ascii_sub h2 fun c hc => cut_mem hc))
  | tup h1 h2 =>
    rename_i a vs ds
    refine L2.sl_tupA pins s τ H _ v vl vu lo hi sl Q I rx hs pl pu ⟨a, vs, rfl, h1, fun z => ?_, fun z p hp => h.newT r (cut_V h2 lo hi) hp⟩
    have e : cut ds lo hi = ds := by
      unfold cut
      rw [h2.length, z.1, z.2, List.drop_zero, Nat.sub_zero, ← h2.length, List.take_length]
    have h' : PostR X.K xi (RelD X.K) E ι S H Q (.ok (.tup (cut ds lo hi)) S) := h
    rw [e] at h'
    exact h'.now r (.tup h1 h2)
  | ref h1 =>
    rename_i m a
    obtain ⟨xs, e0, h⟩ := PostR.opt (show PostR X.K xi (RelD X.K) E ι S H Q (R.opt (getQ S m) fun xs => ins1 S (.lst (cut xs lo hi))) from h)
    obtain ⟨vs, g1, g2⟩ := r.getQ h1 e0
    exact sl_list pins s τ H _ v vl vu lo hi sl Q I rx hs pl pu ⟨a, vs, rfl, g1, fun p hp => h.newL r (cut_V g2 lo hi) hp⟩
  | _ => exact False.elim h
end
end Cl

/-! part Py6 -/
/-! Cl: the text of data has signs below 128 alone; built-in functions. -/
namespace Cl
open PySem PySem.Spec PyProof.Rows L2
open PySem.Builtin PySem.Builtin.Str

/-! ### repr gives ascii -/
def ascS (x : Str) : Bool := asciiAll x.cps.toList
theorem ascS_append {x y : Str} (a : ascS x = true) (b : ascS y = true) : ascS (x ++ y) = true := by
  unfold ascS at *
  rw [show (x ++ y).cps.toList = x.cps.toList ++ y.cps.toList from TL.tl_append x y]
  exact ascii_append a b
theorem reprChar_ascii : ∀ c, c < 128 → ((reprChar 39 c).all (· < 128) && (reprChar 34 c).all (· < 128)) = true := by decide +kernel
theorem ascS_reprText {x : Str} (h : ascS x = true) : ascS (reprText x) = true := by
  have hq : reprQuote x = 39 ∨ reprQuote x = 34 := by
    unfold reprQuote
    split
    · exact .inr rfl
    · exact .inl rfl
  have hc : ∀ c ∈ x.cps.toList, ∀ z ∈ reprChar (reprQuote x) c, z < 128 := fun c hc z hz => by
    have q := reprChar_ascii c (ascii_mem h c hc)
    rw [Bool.and_eq_true] at q
    rcases hq with e | e
    · rw [e] at hz
      simpa using List.all_eq_true.mp q.1 z hz
    · rw [e] at hz
      simpa using List.all_eq_true.mp q.2 z hz
  have hq2 : reprQuote x < 128 := by rcases hq with e | e <;> rw [e] <;> decide
  unfold ascS reprText
  generalize reprQuote x = q at *
  rw [← Array.foldl_toList]
  have key : ∀ (l : List Nat) (acc : Array Nat), (∀ c ∈ l, ∀ z ∈ reprChar q c, z < 128) → asciiAll acc.toList = true → asciiAll (l.foldl (fun out c => out ++ (reprChar q c).toArray) acc).toList = true := by
    intro l
    induction l with
    | nil => intro acc _ ha; exact ha
    | cons c l ih =>
      intro acc hl ha
      refine ih _ (fun d hd => hl d (List.mem_cons_of_mem _ hd)) ?_
      rw [Array.toList_append]
      exact ascii_append ha (ascii_of fun z hz => hl c List.mem_cons_self z (by simpa using hz))
  rw [Array.toList_push]
  refine ascii_append (key _ _ hc (ascii_of fun z hz => ?_)) (ascii_of fun z hz => ?_)
  · have : z = q := by simpa using hz
    omega
  · have : z = q := by simpa using hz
    omega
theorem ascS_num (n : Nat) : ascS (Str.ofString (toString ((n : Nat) : Int))) = true := by
  unfold ascS
  rw [show (Str.ofString (toString ((n : Nat) : Int))).cps.toList = TL.numL n from TL.tl_num n]
  exact ascii_of fun c hc => by
    have := TL.numL_digits n c hc
    omega
theorem ascS_int (i : Int) : ascS (Str.ofString (toString i)) = true := by
  cases i with
  | ofNat n => exact ascS_num n
  | negSucc n =>
    have e : toString (Int.negSucc n) = "-" ++ toString (((n + 1 : Nat)) : Int) := rfl
    have h := ascS_num (n + 1)
    unfold ascS at *
    rw [e]
    rw [show (Str.ofString ("-" ++ toString (((n + 1 : Nat)) : Int))).cps.toList = _ from TL.tl_ofString _]
    rw [show (Str.ofString (toString (((n + 1 : Nat)) : Int))).cps.toList = _ from TL.tl_ofString _] at h
    rw [String.toList_append, List.map_append]
    exact ascii_append (by decide) h
theorem ascS_join {y : Str} (hy : ascS y = true) : ∀ {ts : List Str}, (∀ t ∈ ts, ascS t = true) → ascS (Str.join y ts) = true
  | [], _ => rfl
  | [t], h => h t List.mem_cons_self
  | t :: u :: r, h => ascS_append (ascS_append (h t List.mem_cons_self) hy) (ascS_join hy fun z hz => h z (List.mem_cons_of_mem _ hz))
theorem ascS_from : ∀ {ts : List Str} (k : Nat) {acc : Str}, ascS acc = true → (∀ t ∈ ts, ascS t = true) → ascS (textFrom k acc ts) = true
  | [], _, _, ha, _ => ha
  | t :: r, k, acc, ha, h => by
    unfold textFrom
    refine ascS_from (k + 1) (ascS_append (ascS_append ha ?_) (h t List.mem_cons_self)) fun z hz => h z (List.mem_cons_of_mem _ hz)
    split <;> decide +kernel
theorem ascS_list {ts : List Str} (h : ∀ t ∈ ts, ascS t = true) : ascS (listText ts) = true :=
  ascS_append (ascS_from 0 (by decide +kernel) h) (by decide +kernel)
theorem ascS_tup {ts : List Str} (h : ∀ t ∈ ts, ascS t = true) : ascS (tupleText ts) = true := by
  unfold tupleText
  refine ascS_append (ascS_append (by decide +kernel) (ascS_join (by decide +kernel) h)) ?_
  split <;> decide +kernel
mutual
/-- every text in it is ascii -/
def pAsc : PyData → Bool
  | .str x => ascS x
  | .list xs => pAscs xs
  | .tuple xs => pAscs xs
  | .dict _ => false
  | _ => true
def pAscs : List PyData → Bool
  | [] => true
  | x :: xs => pAsc x && pAscs xs
end
mutual
theorem shown_asc : ∀ p : PyData, pAsc p = true → ascS p.shown = true
  | .none, _ => by decide +kernel
  | .bool b, _ => by cases b <;> decide +kernel
  | .int i, _ => ascS_int i
  | .str x, h => ascS_reprText h
  | .list xs, h => ascS_list (shown_ascs xs h)
  | .tuple xs, h => ascS_tup (shown_ascs xs h)
  | .dict _, h => by cases h
theorem shown_ascs : ∀ ps : List PyData, pAscs ps = true → ∀ t ∈ PyData.shownAll ps, ascS t = true
  | [], _, t, ht => by cases ht
  | x :: xs, h, t, ht => by
    unfold pAscs at h
    rw [Bool.and_eq_true] at h
    rcases List.mem_cons.mp ht with e | ht
    · rw [e]; exact shown_asc x h.1
    · exact shown_ascs xs h.2 t ht
end
mutual
theorem rd_asc {K : Fr'} {ι : List Addr} {S : Sto} {H : Hp} (r : RelS K ι S H) : ∀ (n : Nat) {d : D} {v : V} {p : PyData}, RelD K ι H d v → rd S n d = some p → pAsc p = true
  | n, .non, _, p, .non, e => by cases n <;> (cases e; rfl)
  | n, .bl b, _, p, .bl _, e => by cases n <;> (cases e; rfl)
  | n, .int i, _, p, .int _, e => by cases n <;> (cases e; rfl)
  | n, .str s, _, p, .str h1 h2, e => by cases n <;> (cases e; exact h2)
  | 0, .tup _, _, p, .tup _ _, e => by cases e
  | n + 1, .tup ds, _, p, .tup h1 h2, e => by
    simp only [rd] at e
    cases q : rdL (rd S n) ds with
    | none => rw [q] at e; cases e
    | some ps =>
      rw [q] at e
      cases e
      exact rdL_asc r n h2 q
  | 0, .ref _, _, p, .ref _, e => by cases e
  | n + 1, .ref m, _, p, .ref h1, e => by
    simp only [rd] at e
    cases g : Cl.getQ S m with
    | none => rw [g] at e; cases e
    | some xs =>
      rw [g] at e
      simp only at e
      cases q : rdL (rd S n) xs with
      | none => rw [q] at e; cases e
      | some ps =>
        rw [q] at e
        cases e
        obtain ⟨vs, f1, g1⟩ := r.getQ h1 g
        exact rdL_asc r n g1 q
theorem rdL_asc {K : Fr'} {ι : List Addr} {S : Sto} {H : Hp} (r : RelS K ι S H) : ∀ (n : Nat) {ds : List D} {vs : List V} {ps : List PyData}, RelDs K ι H ds vs → rdL (rd S n) ds = some ps → pAscs ps = true
  | n, [], _, ps, .nil, e => by cases e; rfl
  | n, d :: ds, _, ps, .cons h hs, e => by
    simp only [rdL] at e
    split at e
    · rename_i a as q1 q2
      cases e
      unfold pAscs
      rw [rd_asc r n h q1, rdL_asc r n hs q2]; rfl
    · cases e
end

/-! ### built-in functions -/
section
variable {X : Cx} {xi : XI}
def rBt (K : Fr') (xi : XI) (b : Bf) : List V → Hp → VK → Prop := fun vs H Q => ∃ ι S ds E, RelS K ι S H ∧ RelDs K ι H ds vs ∧ PostR K xi (RelD K) E ι S H Q (blt b ds S)
theorem cl_len : CallR X (.builtin "len") (rBt X.K xi .len) := by
  rintro pins s τ H xs us Q I rx ⟨ι, S, ds, E, r, g, h⟩
  cases g with
  | nil => exact False.elim h
  | cons q g2 =>
    cases g2 with
    | cons _ _ => cases q <;> exact False.elim h
    | nil =>
      cases q with
      | str h1 h2 =>
        refine call_len_str pins s τ H _ us Q I rx ⟨_, rfl, by rw [SX.S_len, ← LIM_eq]; exact h1, ?_⟩
        rw [SX.S_len]
        exact h.now r (.int _)
      | tup h1 h2 => exact call_len_seq pins s τ H _ us Q I rx ⟨_, _, rfl, .inr h1, by rw [← h2.length]; exact h.now r (.int _)⟩
      | ref h1 =>
        rename_i m a
        obtain ⟨xs, e0, h⟩ := PostR.opt (show PostR X.K xi (RelD X.K) E ι S H Q (R.opt (getQ S m) fun xs => .ok (.int xs.length) S) from h)
        obtain ⟨vs, g1, g2⟩ := r.getQ h1 e0
        exact call_len_seq pins s τ H _ us Q I rx ⟨_, _, rfl, .inl g1, by rw [← g2.length]; exact h.now r (.int _)⟩
      | _ => exact False.elim h
theorem cl_abs : CallR X (.builtin "abs") (rBt X.K xi .abs) := by
  rintro pins s τ H xs us Q I rx ⟨ι, S, ds, E, r, g, h⟩
  cases g with
  | nil => exact False.elim h
  | cons q g2 =>
    cases g2 with
    | cons _ _ => cases q <;> exact False.elim h
    | nil =>
      cases q with
      | int i => exact call_abs pins s τ H _ us Q I rx ⟨i, rfl, h.now r (.int _)⟩
      | _ => exact False.elim h
theorem cl_int1 : CallR X (.type "int") (rBt X.K xi .int1) := by
  rintro pins s τ H xs us Q I rx ⟨ι, S, ds, E, r, g, h⟩
  cases g with
  | nil => exact False.elim h
  | cons q g2 =>
    cases g2 with
    | cons _ _ => cases q <;> exact False.elim h
    | nil =>
      cases q with
      | int i => exact call_int1 pins s τ H _ us Q I rx (.inl ⟨i, rfl, h.now r (.int _)⟩)
      | bl k => exact call_int1 pins s τ H _ us Q I rx (.inr ⟨k, rfl, h.now r (.int _)⟩)
      | str h1 h2 =>
        rename_i t
        obtain ⟨n, e0, h⟩ := PostR.opt (show PostR X.K xi (RelD X.K) E ι S H Q (R.opt (PySem.intText? (SX.S t)) fun n => R.req (t.length ≤ 640) (.ok (.int n) S)) from h)
        obtain ⟨c, h⟩ := PostR.req h
        exact call_int_str pins s τ H _ us Q I rx ⟨_, n, rfl, e0, by rw [SX.S_len]; exact c, h.now r (.int _)⟩
      | _ => exact False.elim h
theorem hexB_is {c : Nat} (h : hexB c = true) : L2.Hx.IsHex c := by
  unfold hexB at h
  unfold L2.Hx.IsHex
  simp only [Bool.or_eq_true, Bool.and_eq_true, decide_eq_true_eq] at h
  omega
theorem cl_int2 : CallR X (.type "int") (rBt X.K xi .int2) := by
  rintro pins s τ H xs us Q I rx ⟨ι, S, ds, E, r, g, h⟩
  cases g with
  | nil => exact False.elim h
  | cons q g2 =>
    cases g2 with
    | nil => cases q <;> exact False.elim h
    | cons q2 g3 =>
      cases g3 with
      | cons _ _ => cases q <;> cases q2 <;> exact False.elim h
      | nil =>
        cases q with
        | str h1 h2 =>
          cases q2 with
          | int j =>
            rename_i t
            obtain ⟨⟨c1, c2, c3, c4⟩, hh⟩ := PostR.req (show PostR X.K xi (RelD X.K) E ι S H Q (R.req (j = 16 ∧ t ≠ [] ∧ t.length ≤ 640 ∧ t.all hexB = true) (.ok (.int (L2.Hx.hexNum t : Nat)) S)) from h)
            subst c1
            exact call_int_hex pins s τ H _ us Q I rx ⟨t, rfl, c2, c3, fun c hc => hexB_is (List.all_eq_true.mp c4 c hc), hh.now r (.int _)⟩
          | _ => exact False.elim h
        | _ => cases q2 <;> exact False.elim h
theorem cl_max2 (hc : X.calm = true) : CallR X (.builtin "max") (rBt X.K xi .max2) := by
  rintro pins s τ H xs us Q I rx ⟨ι, S, ds, E, r, g, h⟩
  cases g with
  | nil => exact False.elim h
  | cons q g2 =>
    cases g2 with
    | nil => cases q <;> exact False.elim h
    | cons q2 g3 =>
      cases g3 with
      | cons _ _ => cases q <;> cases q2 <;> exact False.elim h
      | nil =>
        cases q with
        | int i =>
          cases q2 with
          | int j => exact call_max2 hc pins s τ H _ us Q I rx ⟨i, j, rfl, h.now r (.int _)⟩
          | _ => exact False.elim h
        | _ => cases q2 <;> exact False.elim h
theorem cl_min2 (hc : X.calm = true) : CallR X (.builtin "min") (rBt X.K xi .min2) := by
  rintro pins s τ H xs us Q I rx ⟨ι, S, ds, E, r, g, h⟩
  cases g with
  | nil => exact False.elim h
  | cons q g2 =>
    cases g2 with
    | nil => cases q <;> exact False.elim h
    | cons q2 g3 =>
      cases g3 with
      | cons _ _ => cases q <;> cases q2 <;> exact False.elim h
      | nil =>
        cases q with
        | int i =>
          cases q2 with
          | int j => exact call_min2 hc pins s τ H _ us Q I rx ⟨i, j, rfl, h.now r (.int _)⟩
          | _ => exact False.elim h
        | _ => cases q2 <;> exact False.elim h
theorem cl_list1 : CallR X (.type "list") (rBt X.K xi .list1) := by
  rintro pins s τ H xs us Q I rx ⟨ι, S, ds, E, r, g, h⟩
  cases g with
  | nil => exact False.elim h
  | cons q g2 =>
    cases g2 with
    | cons _ _ => cases q <;> exact False.elim h
    | nil =>
      cases q with
      | tup h1 h2 => exact call_list_of pins s τ H _ us Q I rx ⟨_, _, rfl, .inr h1, fun p hp => h.newL r h2 hp⟩
      | ref h1 =>
        rename_i m a
        obtain ⟨xs, e0, h⟩ := PostR.opt (show PostR X.K xi (RelD X.K) E ι S H Q (R.opt (getQ S m) fun xs => ins1 S (.lst xs)) from h)
        obtain ⟨vs, g1, g2⟩ := r.getQ h1 e0
        exact call_list_of pins s τ H _ us Q I rx ⟨_, _, rfl, .inl g1, fun p hp => h.newL r g2 hp⟩
      | _ => exact False.elim h
theorem cl_tuple1 : CallR X (.type "tuple") (rBt X.K xi .tuple1) := by
  rintro pins s τ H xs us Q I rx ⟨ι, S, ds, E, r, g, h⟩
  cases g with
  | nil => exact False.elim h
  | cons q g2 =>
    cases g2 with
    | cons _ _ => cases q <;> exact False.elim h
    | nil =>
      cases q with
      | tup h1 h2 => exact call_tuple_of pins s τ H _ us Q I rx ⟨_, _, rfl, .inr ⟨h1, h.now r (.tup h1 h2)⟩⟩
      | ref h1 =>
        rename_i m a
        obtain ⟨xs, e0, h⟩ := PostR.opt (show PostR X.K xi (RelD X.K) E ι S H Q (R.opt (getQ S m) fun xs => .ok (.tup xs) S) from h)
        obtain ⟨vs, g1, g2⟩ := r.getQ h1 e0
        exact call_tuple_of pins s τ H _ us Q I rx ⟨_, _, rfl, .inl ⟨g1, fun p hp => h.newT r g2 hp⟩⟩
      | _ => exact False.elim h
theorem bls_V {K : Fr'} {ι : List Addr} {H : Hp} : ∀ {ds : List D} {vs : List V} {bs : List Bool}, RelDs K ι H ds vs → asBls ds = some bs → vs = bs.map V.bl
  | [], _, bs, .nil, e => by cases e; rfl
  | .bl b :: ds, _, bs, .cons (.bl _) hs, e => by
    simp only [asBls] at e
    obtain ⟨cs, e1, rfl⟩ := Option.map_eq_some_iff.mp e
    rw [bls_V hs e1]; rfl
theorem cl_all1 (hc : X.calm = true) : CallR X (.builtin "all") (rBt X.K xi .all1) := by
  rintro pins s τ H xs us Q I rx ⟨ι, S, ds, E, r, g, h⟩
  cases g with
  | nil => exact False.elim h
  | cons q g2 =>
    cases g2 with
    | cons _ _ => cases q <;> exact False.elim h
    | nil =>
      cases q with
      | ref h1 =>
        rename_i m a
        obtain ⟨xs, e0, h⟩ := PostR.opt (show PostR X.K xi (RelD X.K) E ι S H Q (R.opt (getQ S m) fun xs => R.opt (asBls xs) fun bs => .ok (.bl (bs.all id)) S) from h)
        obtain ⟨bs, e1, h⟩ := PostR.opt h
        obtain ⟨vs, g1, g2⟩ := r.getQ h1 e0
        rw [bls_V g2 e1] at g1
        exact cr_all hc pins s τ H _ us Q I rx ⟨_, bs, rfl, g1, h.now r (.bl _)⟩
      | _ => exact False.elim h
theorem cl_any1 (hc : X.calm = true) : CallR X (.builtin "any") (rBt X.K xi .any1) := by
  rintro pins s τ H xs us Q I rx ⟨ι, S, ds, E, r, g, h⟩
  cases g with
  | nil => exact False.elim h
  | cons q g2 =>
    cases g2 with
    | cons _ _ => cases q <;> exact False.elim h
    | nil =>
      cases q with
      | ref h1 =>
        rename_i m a
        obtain ⟨xs, e0, h⟩ := PostR.opt (show PostR X.K xi (RelD X.K) E ι S H Q (R.opt (getQ S m) fun xs => R.opt (asBls xs) fun bs => .ok (.bl (bs.any id)) S) from h)
        obtain ⟨bs, e1, h⟩ := PostR.opt h
        obtain ⟨vs, g1, g2⟩ := r.getQ h1 e0
        rw [bls_V g2 e1] at g1
        exact cr_any hc pins s τ H _ us Q I rx ⟨_, bs, rfl, g1, h.now r (.bl _)⟩
      | _ => exact False.elim h
/-- repr of data -/
theorem cl_repr (hg : X.A.guards = some []) (hu : X.A.units + 65 < cLine) : CallR X (.builtin "repr") (rBt X.K xi .repr) := by
  rintro pins s τ H xs us Q I rx ⟨ι, S, ds, E, r, g, h⟩
  cases g with
  | nil => exact False.elim h
  | cons q g2 =>
    cases g2 with
    | cons _ _ => cases q <;> exact False.elim h
    | nil =>
      rename_i d v
      obtain ⟨p, e0, h⟩ := PostR.opt (show PostR X.K xi (RelD X.K) E ι S H Q (R.opt (rd S DEEP d) fun p => R.req (p.showable = true ∧ p.shown.length ≤ LIM) (.ok (.str p.shown.cps.toList) S)) from h)
      obtain ⟨⟨hs, hl⟩, h⟩ := PostR.req h
      obtain ⟨a1, a2, a3⟩ := rd_dp r _ q e0
      have asc := shown_asc p (rd_asc r _ q e0)
      have fin : Q (.str p.shown) H := by
        have z := h.now r (.str (ι := ι) (K := X.K) (H := H) (by rw [show p.shown.cps.toList.length = p.shown.length from by simp [Str.length]]; exact hl) asc)
        rw [SX.S_tl] at z
        exact z
      obtain ⟨u, rfl, ru⟩ := vals1 rx
      rw [LIM_eq] at hl
      cases q with
      | non => cases ru; cases e0; exact PySem.P.repr_of_none ⟨.str _, H, I.tok _, ⟨_, rfl⟩, fin⟩
      | bl b => cases ru; cases e0; exact PySem.P.repr_of_bool ⟨.str _, H, I.tok _, ⟨_, rfl⟩, fin⟩
      | int i => obtain ⟨t, rfl⟩ := ru; cases e0; exact PySem.P.repr_of_int (of_decide_eq_true hs) ⟨.str _, H, I.tok _, ⟨_, rfl⟩, fin⟩
      | str h1 h2 => obtain ⟨t, rfl⟩ := ru; cases e0; exact PySem.P.repr_of_str ⟨.str _, H, I.tok _, ⟨_, rfl⟩, fin⟩ hl
      | tup h1 h2 =>
        obtain ⟨as, rr⟩ := Dp.reads I p _ u a1 ru
        cases ru
        exact repr_of_reads' rr hs (PyData.noDict_hsm (PyData.hasDict_of_canLay p a2)) hg (by have : p.depth ≤ 24 := a3; omega) (fun _ _ e => e)
          (fun h' w tk k => ⟨.str _, H, I.kept k, ⟨w, rfl⟩, fin⟩) hl
      | ref h1 =>
        obtain ⟨as, rr⟩ := Dp.reads I p _ u a1 ru
        cases ru
        exact repr_of_reads' rr hs (PyData.noDict_hsm (PyData.hasDict_of_canLay p a2)) hg (by have : p.depth ≤ 24 := a3; omega) (fun _ _ e => e)
          (fun h' w tk k => ⟨.str _, H, I.kept k, ⟨w, rfl⟩, fin⟩) hl
end
end Cl

/-! part Py7 -/
/-! Cl: methods of texts and lists. -/
namespace Cl
open PySem PySem.Spec PyProof.Rows L2
open PySem.Builtin PySem.Builtin.Str
theorem takeWhile_drop {p : Nat → Bool} : ∀ l : List Nat, l.drop (l.takeWhile p).length = l.dropWhile p
  | [] => rfl
  | c :: r => by
    rw [List.takeWhile_cons, List.dropWhile_cons]
    split
    · rw [List.length_cons, List.drop_succ_cons]
      exact takeWhile_drop r
    · rfl
theorem takeWhile_le {p : Nat → Bool} : ∀ l : List Nat, (l.takeWhile p).length ≤ l.length
  | [] => Nat.le_refl _
  | c :: r => by
    rw [List.takeWhile_cons]
    split
    · simpa using takeWhile_le r
    · simp
theorem stripChars_S (s cs : Tx) : Txt.stripChars (SX.S s) (SX.S cs) = SX.S (stripS s cs) := by
  have hp : ∀ c, (SX.S cs).cps.contains c = cs.contains c := fun c => List.contains_toArray
  have hf : (SX.S cs).cps.contains = fun c => cs.contains c := funext hp
  refine TL.ext_tl ?_
  unfold Txt.stripChars
  rw [hf]
  generalize hq : (fun c => cs.contains c) = q
  rw [stripBy_eq, TL.tl_strSub]
  have e0 : stripLo q true (SX.S s) = (s.takeWhile q).length := rfl
  have e1 : stripHi q true (SX.S s) (stripLo q true (SX.S s)) = s.length - ((s.dropWhile q).reverse.takeWhile q).length := by
    rw [e0]
    unfold stripHi
    rw [if_pos rfl, SX.S_len]
    show s.length - ((s.drop (s.takeWhile q).length).reverse.takeWhile q).length = _
    rw [takeWhile_drop]
  rw [e1, e0]
  show (s.drop (s.takeWhile q).length).take _ = (stripS s cs)
  unfold stripS
  rw [hq, takeWhile_drop]
  have hl : (s.dropWhile q).length = s.length - (s.takeWhile q).length := by rw [← takeWhile_drop, List.length_drop]
  have hk := takeWhile_le (p := q) (s.dropWhile q).reverse
  rw [List.length_reverse] at hk
  have h0 := takeWhile_le (p := q) s
  rw [← takeWhile_drop (p := q) (s.dropWhile q).reverse]
  rw [show s.length - ((s.dropWhile q).reverse.takeWhile q).length - (s.takeWhile q).length = (s.dropWhile q).length - ((s.dropWhile q).reverse.takeWhile q).length from by omega]
  rw [List.drop_reverse, List.reverse_reverse]
theorem stripS_mem {s cs : Tx} {c : Nat} (h : c ∈ stripS s cs) : c ∈ s := by
  unfold stripS at h
  have h1 := (List.dropWhile_sublist _).subset (List.mem_reverse.mp h)
  exact (List.dropWhile_sublist _).subset (List.mem_reverse.mp h1)
theorem stripS_len (s cs : Tx) : (stripS s cs).length ≤ s.length := by
  unfold stripS
  rw [List.length_reverse]
  have h1 := (List.dropWhile_sublist (p := (cs.contains ·)) (l := (s.dropWhile (cs.contains ·)).reverse)).length_le
  have h2 := (List.dropWhile_sublist (p := (cs.contains ·)) (l := s)).length_le
  rw [List.length_reverse] at h1
  omega

section
variable {X : Cx} {xi : XI}
def rMt (K : Fr') (xi : XI) (m : Mt) : V → List V → Hp → VK → Prop := fun x vs H Q => ∃ ι S d ds E, RelS K ι S H ∧ RelD K ι H d x ∧ RelDs K ι H ds vs ∧ PostR K xi (RelD K) E ι S H Q (mth m d ds S)
theorem str1_V {K : Fr'} {ι : List Addr} {H : Hp} {d : D} {x : V} {ds : List D} {vs : List V} {p : Tx × Tx} (qd : RelD K ι H d x) (g : RelDs K ι H ds vs) (h : str1 d ds = some p) :
    x = .str (SX.S p.1) ∧ vs = [.str (SX.S p.2)] ∧ p.1.length ≤ LIM ∧ asciiAll p.1 = true ∧ p.2.length ≤ LIM ∧ asciiAll p.2 = true := by
  unfold str1 at h
  split at h
  · cases h
    cases qd with
    | str h1 h2 => cases g with
      | cons q g2 => cases g2; cases q with
        | str h3 h4 => exact ⟨rfl, rfl, h1, h2, h3, h4⟩
  · cases h
theorem str0_V {K : Fr'} {ι : List Addr} {H : Hp} {d : D} {x : V} {ds : List D} {vs : List V} {p : Tx} (qd : RelD K ι H d x) (g : RelDs K ι H ds vs) (h : str0 d ds = some p) :
    x = .str (SX.S p) ∧ vs = [] ∧ p.length ≤ LIM ∧ asciiAll p = true := by
  unfold str0 at h
  split at h
  · cases h
    cases qd with
    | str h1 h2 => cases g; exact ⟨rfl, rfl, h1, h2⟩
  · cases h
theorem lst1_V {K : Fr'} {ι : List Addr} {S : Sto} {H : Hp} (r : RelS K ι S H) {d : D} {x : V} {ds : List D} {vs : List V} {p : Nat × List D × D} (qd : RelD K ι H d x) (g : RelDs K ι H ds vs) (h : lst1 d ds S = some p) :
    ∃ a xs v, x = .ref a ∧ vs = [v] ∧ ι[p.1]? = some a ∧ S[p.1]? = some (.lst p.2.1) ∧ H a = some (.lst xs) ∧ RelDs K ι H p.2.1 xs ∧ RelD K ι H p.2.2 v := by
  unfold lst1 at h
  split at h
  · obtain ⟨ys, e, rfl⟩ := Option.map_eq_some_iff.mp h
    cases qd with
    | ref h1 => cases g with
      | cons q g2 =>
        cases g2
        obtain ⟨e1, xs, e2, e3⟩ := r.getL h1 e
        exact ⟨_, xs, _, rfl, rfl, h1, e1, e2, e3, q⟩
  · cases h
theorem lst0_V {K : Fr'} {ι : List Addr} {S : Sto} {H : Hp} (r : RelS K ι S H) {d : D} {x : V} {ds : List D} {vs : List V} {p : Nat × List D} (qd : RelD K ι H d x) (g : RelDs K ι H ds vs) (h : lst0 d ds S = some p) :
    ∃ a xs, x = .ref a ∧ vs = [] ∧ ι[p.1]? = some a ∧ S[p.1]? = some (.lst p.2) ∧ H a = some (.lst xs) ∧ RelDs K ι H p.2 xs := by
  unfold lst0 at h
  split at h
  · obtain ⟨ys, e, rfl⟩ := Option.map_eq_some_iff.mp h
    cases qd with
    | ref h1 =>
      cases g
      obtain ⟨e1, xs, e2, e3⟩ := r.getL h1 e
      exact ⟨_, xs, rfl, rfl, h1, e1, e2, e3⟩
  · cases h
/-- a list is written -/
theorem PostR.wr {K : Fr'} {E : XK} {ι : List Addr} {S : Sto} {H : Hp} {Q : VK} {n : Nat} {a : Addr} {xs ys : List D} {vs : List V} {d : D} {v : V} (h : PostR K xi (RelD K) E ι S H Q (.ok d (S.set n (.lst ys)))) (r : RelS K ι S H) (hi : ι[n]? = some a)
    (h0 : S[n]? = some (.lst xs)) (g : RelDs K ι H ys vs) (q : RelD K ι H d v) : Q v (upd H a (.lst vs)) := by
  have e : Ext ι S H ι (S.set n (.lst ys)) (upd H a (.lst vs)) := Ext.write hi h0 rfl rfl
  exact h.to e (r.write hi h0 rfl g) (q.mono r e)
theorem ml_strip : MtR X "str.strip" (rMt X.K xi .strip) := by
  rintro pins s τ H x xs v us Q I rx rs ⟨ι, S, d, ds, E, r, qd, g, h⟩
  obtain ⟨p, e, h⟩ := PostR.opt (show PostR X.K xi (RelD X.K) E ι S H Q (R.opt (str1 d ds) fun p => .ok (.str (stripS p.1 p.2)) S) from h)
  obtain ⟨rfl, rfl, l1, a1, l2, a2⟩ := str1_V qd g e
  refine mt_stripChars pins s τ H _ _ v us Q I rx rs ⟨_, _, rfl, rfl, by rw [SX.S_len, ← LIM_eq]; exact l1, ?_⟩
  rw [stripChars_S]
  exact h.now r (.str (Nat.le_trans (stripS_len _ _) l1) (ascii_sub a1 fun c hc => stripS_mem hc))
theorem lo1_lt {c : Nat} (h : c < 128) : PyProof.Rows.lo1 c < 128 := by
  unfold PyProof.Rows.lo1
  split <;> omega
theorem up1_lt {c : Nat} (h : c < 128) : PyProof.Rows.up1 c < 128 := by
  unfold PyProof.Rows.up1
  split <;> omega
theorem ml_lower : MtR X "str.lower" (rMt X.K xi .lower) := by
  rintro pins s τ H x xs v us Q I rx rs ⟨ι, S, d, ds, E, r, qd, g, h⟩
  obtain ⟨p, e, h⟩ := PostR.opt (show PostR X.K xi (RelD X.K) E ι S H Q (R.opt (str0 d ds) fun s => R.req (s.length ≤ 5592405) (.ok (.str (s.map PyProof.Rows.lo1)) S)) from h)
  obtain ⟨hl, h⟩ := PostR.req h
  obtain ⟨rfl, rfl, l1, a1⟩ := str0_V qd g e
  refine mt_lower pins s τ H _ _ v us Q I rx rs ⟨_, rfl, rfl, by rw [SX.S_len]; exact hl, ?_⟩
  rw [SX.lower_S a1]
  exact h.now r (.str (by rw [List.length_map]; exact l1) (ascii_of fun c hc => by
    obtain ⟨b, hb, rfl⟩ := List.mem_map.mp hc
    exact lo1_lt (ascii_mem a1 b hb)))
theorem ml_upper : MtR X "str.upper" (rMt X.K xi .upper) := by
  rintro pins s τ H x xs v us Q I rx rs ⟨ι, S, d, ds, E, r, qd, g, h⟩
  obtain ⟨p, e, h⟩ := PostR.opt (show PostR X.K xi (RelD X.K) E ι S H Q (R.opt (str0 d ds) fun s => R.req (s.length ≤ 5592405) (.ok (.str (s.map PyProof.Rows.up1)) S)) from h)
  obtain ⟨hl, h⟩ := PostR.req h
  obtain ⟨rfl, rfl, l1, a1⟩ := str0_V qd g e
  refine mt_upper pins s τ H _ _ v us Q I rx rs ⟨_, rfl, rfl, by rw [SX.S_len]; exact hl, ?_⟩
  rw [SX.upper_S a1]
  exact h.now r (.str (by rw [List.length_map]; exact l1) (ascii_of fun c hc => by
    obtain ⟨b, hb, rfl⟩ := List.mem_map.mp hc
    exact up1_lt (ascii_mem a1 b hb)))
theorem ml_find : MtR X "str.find" (rMt X.K xi .find) := by
  rintro pins s τ H x xs v us Q I rx rs ⟨ι, S, d, ds, E, r, qd, g, h⟩
  obtain ⟨p, e, h⟩ := PostR.opt (show PostR X.K xi (RelD X.K) E ι S H Q (R.opt (str1 d ds) fun p => .ok (.int (PySem.Txt.find (SX.S p.1) (SX.S p.2))) S) from h)
  obtain ⟨rfl, rfl, l1, a1, l2, a2⟩ := str1_V qd g e
  exact mt_find pins s τ H _ _ v us Q I rx rs ⟨_, _, rfl, rfl, h.now r (.int _)⟩
theorem ml_index : MtR X "str.index" (rMt X.K xi .index) := by
  rintro pins s τ H x xs v us Q I rx rs ⟨ι, S, d, ds, E, r, qd, g, h⟩
  obtain ⟨p, e, h⟩ := PostR.opt (show PostR X.K xi (RelD X.K) E ι S H Q (R.opt (str1 d ds) fun p => R.opt (PySem.Builtin.Str.occurrences (SX.S p.1) (SX.S p.2) 0 (SX.S p.1).length 1).head? fun i => .ok (.int (i : Nat)) S) from h)
  obtain ⟨rfl, rfl, l1, a1, l2, a2⟩ := str1_V qd g e
  obtain ⟨i, e2, h⟩ := PostR.opt h
  cases hl : PySem.Builtin.Str.occurrences (SX.S p.1) (SX.S p.2) 0 (SX.S p.1).length 1 with
  | nil => rw [hl] at e2; cases e2
  | cons k rest =>
    rw [hl] at e2
    have ek : k = i := Option.some.inj e2
    subst ek
    exact mt_sindex pins s τ H _ _ v us Q I rx rs ⟨_, _, k, rest, rfl, rfl, hl, h.now r (.int _)⟩
theorem ml_count : MtR X "str.count" (rMt X.K xi .count) := by
  rintro pins s τ H x xs v us Q I rx rs ⟨ι, S, d, ds, E, r, qd, g, h⟩
  obtain ⟨p, e, h⟩ := PostR.opt (show PostR X.K xi (RelD X.K) E ι S H Q (R.opt (str1 d ds) fun p => .ok (.int (PySem.Txt.count (SX.S p.1) (SX.S p.2))) S) from h)
  obtain ⟨rfl, rfl, l1, a1, l2, a2⟩ := str1_V qd g e
  exact mt_count pins s τ H _ _ v us Q I rx rs ⟨_, _, rfl, rfl, h.now r (.int _)⟩
/-- every part of a split lies in the text -/
theorem spl_parts (t : Tx) : ∀ (k : Nat) (acc l : Tx) (p : Tx), p ∈ TL.spl t k acc l → p.length ≤ acc.length + l.length ∧ ∀ c ∈ p, c ∈ acc ∨ c ∈ l
  | k, acc, [], p, h => by
    rw [TL.spl_nil, List.mem_singleton] at h
    subst h
    exact ⟨by simp, fun c hc => .inl hc⟩
  | k + 1, acc, c :: r, p, h => by
    obtain ⟨h1, h2⟩ := spl_parts t k acc r p (show p ∈ TL.spl t k acc r from h)
    exact ⟨by rw [List.length_cons]; omega, fun d hd => (h2 d hd).imp id (List.mem_cons_of_mem _)⟩
  | 0, acc, c :: r, p, h => by
    cases q : TL.pre t (c :: r) with
    | true =>
      rw [TL.spl_hit q] at h
      rcases List.mem_cons.mp h with e | h
      · subst e
        exact ⟨by omega, fun d hd => .inl hd⟩
      · obtain ⟨h1, h2⟩ := spl_parts t _ [] r p h
        refine ⟨by rw [List.length_cons]; simp at h1; omega, fun d hd => .inr (List.mem_cons_of_mem _ ((h2 d hd).resolve_left (by simp)))⟩
    | false =>
      rw [TL.spl_miss q] at h
      obtain ⟨h1, h2⟩ := spl_parts t 0 (acc ++ [c]) r p h
      refine ⟨by rw [List.length_cons]; rw [List.length_append] at h1; simp at h1; omega, fun d hd => ?_⟩
      rcases h2 d hd with z | z
      · rcases List.mem_append.mp z with z | z
        · exact .inl z
        · exact .inr (by rw [List.mem_singleton.mp z]; exact List.mem_cons_self)
      · exact .inr (List.mem_cons_of_mem _ z)
theorem strs_rel {K : Fr'} {ι : List Addr} {H : Hp} : ∀ {l : List Tx}, (∀ p ∈ l, p.length ≤ LIM ∧ asciiAll p = true) → RelDs K ι H (l.map .str) ((l.map SX.S).map V.str)
  | [], _ => .nil
  | p :: l, h => .cons (.str (h p List.mem_cons_self).1 (h p List.mem_cons_self).2) (strs_rel fun q hq => h q (List.mem_cons_of_mem _ hq))
theorem ml_split : MtR X "str.split" (rMt X.K xi .split) := by
  rintro pins s τ H x xs v us Q I rx rs ⟨ι, S, d, ds, E, r, qd, g, h⟩
  obtain ⟨p, e, h⟩ := PostR.opt (show PostR X.K xi (RelD X.K) E ι S H Q (R.opt (str1 d ds) fun p => R.req (p.2 ≠ [] ∧ p.1.length + 2 ≤ LIM) (ins1 S (.lst ((TL.spl p.2 0 [] p.1).map .str)))) from h)
  obtain ⟨⟨hn, hl⟩, h⟩ := PostR.req h
  obtain ⟨rfl, rfl, l1, a1, l2, a2⟩ := str1_V qd g e
  have hb : p.2.all (· < 256) = true := List.all_eq_true.mpr fun c hc => by
    have := ascii_mem a2 c hc
    simp only [decide_eq_true_eq]
    omega
  refine mt_split pins s τ H _ _ v us Q I rx rs ⟨_, _, rfl, rfl, ?_, by rw [SX.S_len, ← LIM_eq]; exact hl, fun q hq => ?_⟩
  · rw [SX.S_len]
    cases e2 : p.2 with
    | nil => exact absurd e2 hn
    | cons _ _ => rfl
  · rw [SX.split_S hn hb]
    refine h.newL r (strs_rel fun z hz => ?_) hq
    obtain ⟨z1, z2⟩ := spl_parts _ _ _ _ _ hz
    exact ⟨by simp at z1; omega, ascii_sub a1 fun c hc => (z2 c hc).resolve_left (by simp)⟩
theorem par_parts (t : Tx) : ∀ (acc l a b : Tx), TL.par t acc l = some (a, b) → a.length ≤ acc.length + l.length ∧ b.length ≤ l.length ∧ (∀ c ∈ a, c ∈ acc ∨ c ∈ l) ∧ ∀ c ∈ b, c ∈ l
  | acc, [], a, b, h => by cases h
  | acc, c :: r, a, b, h => by
    cases q : TL.pre t (c :: r) with
    | true =>
      rw [TL.par_hit q] at h
      cases h
      refine ⟨by omega, by rw [List.length_drop]; omega, fun d hd => .inl hd, fun d hd => List.mem_of_mem_drop hd⟩
    | false =>
      rw [TL.par_miss q] at h
      obtain ⟨h1, h2, h3, h4⟩ := par_parts t (acc ++ [c]) r a b h
      refine ⟨by rw [List.length_append] at h1; rw [List.length_cons]; simp at h1; omega, by rw [List.length_cons]; omega, fun d hd => ?_, fun d hd => List.mem_cons_of_mem _ (h4 d hd)⟩
      rcases h3 d hd with z | z
      · rcases List.mem_append.mp z with z | z
        · exact .inl z
        · exact .inr (by rw [List.mem_singleton.mp z]; exact List.mem_cons_self)
      · exact .inr (List.mem_cons_of_mem _ z)
theorem ml_partition : MtR X "str.partition" (rMt X.K xi .partition) := by
  rintro pins s τ H x xs v us Q I rx rs ⟨ι, S, d, ds, E, r, qd, g, h⟩
  obtain ⟨p, e, h⟩ := PostR.opt (show PostR X.K xi (RelD X.K) E ι S H Q (R.opt (str1 d ds) fun p => R.req (p.2 ≠ []) (.ok (match TL.par p.2 [] p.1 with
      | some (a, b) => .tup [.str a, .str p.2, .str b]
      | none => .tup [.str p.1, .str [], .str []]) S)) from h)
  obtain ⟨hn, h⟩ := PostR.req h
  obtain ⟨rfl, rfl, l1, a1, l2, a2⟩ := str1_V qd g e
  refine mt_partition pins s τ H _ _ v us Q I rx rs ⟨_, _, rfl, rfl, ?_, by rw [SX.S_len, ← LIM_eq]; exact l1, fun q hq => ?_⟩
  · rw [SX.S_len]
    cases e2 : p.2 with
    | nil => exact absurd e2 hn
    | cons _ _ => rfl
  · cases e3 : TL.par p.2 [] p.1 with
    | none =>
      rw [e3] at h
      rw [SX.partition_none hn e3]
      exact h.newT r (.cons (.str l1 a1) (.cons (.str (Nat.zero_le _) rfl) (.cons (.str (Nat.zero_le _) rfl) .nil))) hq
    | some ab =>
      obtain ⟨a, b⟩ := ab
      rw [e3] at h
      rw [SX.partition_some hn e3]
      obtain ⟨h1, h2, h3, h4⟩ := par_parts _ _ _ _ _ e3
      exact h.newT r (.cons (.str (by simp at h1; omega) (ascii_sub a1 fun c hc => (h3 c hc).resolve_left (by simp))) (.cons (.str l2 a2) (.cons (.str (by omega) (ascii_sub a1 h4)) .nil))) hq
theorem strs_V {K : Fr'} {ι : List Addr} {H : Hp} : ∀ {ds : List D} {vs : List V} {ts : List Tx}, RelDs K ι H ds vs → asStrs ds = some ts → vs = (ts.map SX.S).map V.str ∧ ∀ t ∈ ts, asciiAll t = true
  | [], _, ts, .nil, e => by cases e; exact ⟨rfl, fun _ h => by cases h⟩
  | .str b :: ds, _, ts, .cons (.str h1 h2) hs, e => by
    simp only [asStrs] at e
    obtain ⟨cs, e1, rfl⟩ := Option.map_eq_some_iff.mp e
    obtain ⟨z1, z2⟩ := strs_V hs e1
    refine ⟨by rw [z1]; rfl, fun t ht => ?_⟩
    rcases List.mem_cons.mp ht with q | q
    · rw [q]; exact h2
    · exact z2 t q
theorem joinL_ascii {s : Tx} (hs : asciiAll s = true) : ∀ {ts : List Tx}, (∀ t ∈ ts, asciiAll t = true) → asciiAll (TL.joinL s ts) = true
  | [], _ => rfl
  | [t], h => h t List.mem_cons_self
  | t :: u :: r, h => ascii_append (h t List.mem_cons_self) (ascii_append hs (joinL_ascii hs fun z hz => h z (List.mem_cons_of_mem _ hz)))
theorem joinL_len (s : Tx) : ∀ ts : List Tx, (TL.joinL s ts).length ≤ (ts.map List.length).sum + ts.length * s.length
  | [] => Nat.zero_le _
  | [t] => by simp [TL.joinL]
  | t :: u :: r => by
    have ih := joinL_len s (u :: r)
    have e : TL.joinL s (t :: u :: r) = t ++ (s ++ TL.joinL s (u :: r)) := rfl
    rw [e, List.length_append, List.length_append, List.map_cons, List.sum_cons, List.length_cons, Nat.succ_mul]
    omega
theorem ml_join : MtR X "str.join" (rMt X.K xi .join) := by
  rintro pins s τ H x xs v us Q I rx rs ⟨ι, S, d, ds, E, r, qd, g, h⟩
  obtain ⟨p, e, h⟩ := PostR.opt (show PostR X.K xi (RelD X.K) E ι S H Q (R.opt (strL d ds S) fun p => R.opt (asStrs p.2) fun ts => R.req ((ts.map List.length).sum + ts.length * p.1.length ≤ LIM) (.ok (.str (TL.joinL p.1 ts)) S)) from h)
  obtain ⟨ts, e1, h⟩ := PostR.opt h
  obtain ⟨hl, h⟩ := PostR.req h
  have main : ∀ {a : Addr}, x = .str (SX.S p.1) → xs = [.ref a] → asciiAll p.1 = true → (∃ ws, (SqL X.K H a ws ∨ SqT X.K H a ws) ∧ RelDs X.K ι H p.2 ws) → wpAny (model X.prog X.w) X.A (call (.builtin "str.join") (v :: us)) (EP X pins τ Q) X.xe s := by
    rintro a rfl rfl ha ⟨ws, hw, gw⟩
    obtain ⟨rfl, hts⟩ := strs_V gw e1
    refine mt_join pins s τ H _ _ v us Q I rx rs ⟨_, a, ts.map SX.S, rfl, rfl, hw, ?_, ?_⟩
    · rw [SX.lens, List.length_map, SX.S_len]
      exact hl
    · rw [SX.join_S]
      exact h.now r (.str (Nat.le_trans (joinL_len _ _) hl) (joinL_ascii ha hts))
  unfold strL at e
  split at e
  · cases e
    cases qd with
    | str h1 h2 => cases g with
      | cons q g2 => cases g2; cases q with
        | tup h3 h4 => exact main rfl rfl h2 ⟨_, .inr h3, h4⟩
  · obtain ⟨ys, e2, rfl⟩ := Option.map_eq_some_iff.mp e
    cases qd with
    | str h1 h2 => cases g with
      | cons q g2 => cases g2; cases q with
        | ref h3 =>
          obtain ⟨ws, g3, g4⟩ := r.getQ h3 e2
          exact main rfl rfl h2 ⟨ws, .inl g3, g4⟩
  · cases e
theorem ml_append : MtR X "list.append" (rMt X.K xi .append) := by
  rintro pins s τ H x xs v us Q I rx rs ⟨ι, S, d, ds, E, r, qd, g, h⟩
  obtain ⟨p, e, h⟩ := PostR.opt (show PostR X.K xi (RelD X.K) E ι S H Q (R.opt (lst1 d ds S) fun p => R.req (p.2.1.length < LIM) (.ok .non (S.set p.1 (.lst (p.2.1 ++ [p.2.2]))))) from h)
  obtain ⟨hl, h⟩ := PostR.req h
  obtain ⟨a, ws, w, rfl, rfl, h1, h2, h3, h4, h5⟩ := lst1_V r qd g e
  exact mt_append pins s τ H _ _ v us Q I rx rs ⟨a, ws, w, rfl, rfl, h3, by rw [← h4.length, ← LIM_eq]; exact hl, h.wr r h1 h2 (h4.append (.cons h5 .nil)) .non⟩
theorem ml_pop : MtR X "list.pop" (rMt X.K xi .pop) := by
  rintro pins s τ H x xs v us Q I rx rs ⟨ι, S, d, ds, E, r, qd, g, h⟩
  obtain ⟨p, e, h⟩ := PostR.opt (show PostR X.K xi (RelD X.K) E ι S H Q (R.opt (lst0 d ds S) fun p => R.opt (p.2[p.2.length - 1]?) fun d => .ok d (S.set p.1 (.lst p.2.dropLast))) from h)
  obtain ⟨y, e1, h⟩ := PostR.opt h
  obtain ⟨a, ws, rfl, rfl, h1, h2, h3, h4⟩ := lst0_V r qd g e
  obtain ⟨w, e2, h5⟩ := h4.get e1
  rw [h4.length] at e2
  exact mt_pop pins s τ H _ _ v us Q I rx rs ⟨a, ws, w, rfl, rfl, h3, e2, h.wr r h1 h2 h4.dropLast h5⟩
/-- the receiver's type -/
theorem recv_V {K : Fr'} {ι : List Addr} {S : Sto} {H : Hp} (r : RelS K ι S H) {m : Mt} {d : D} {x : V} (q : RelD K ι H d x) (h : recv m d S = true) : tyV K (if m.ofList then "list" else "str") x H := by
  cases q with
  | str h1 h2 =>
    have : m.ofList = false := by simpa [recv] using h
    rw [this]
    exact rfl
  | ref h1 =>
    simp only [recv, Bool.and_eq_true] at h
    rw [h.1, if_pos rfl]
    obtain ⟨xs, e⟩ := Option.isSome_iff_exists.mp h.2
    obtain ⟨vs, g1, g2⟩ := r.getQ h1 e
    exact .inl ⟨rfl, vs, g1⟩
  | _ => cases h
end
end Cl

/-! part Py8 -/
/-! Cl: calls of the program's own defs. -/
namespace Cl
open PySem PySem.Spec PyProof.Rows L2

/-- what runs around: room, nothing handled, no repr under way -/
structure GOk (n : Nat) (A : Around) : Prop where
  room : Room n A
  gu : A.guards = some []
theorem GOk.mono {j k : Nat} {A : Around} (g : GOk k A) (h : j ≤ k) : GOk j A := ⟨g.room.mono h, g.gu⟩
theorem GOk.deeper {k : Nat} {A : Around} (g : GOk (k + 1) A) (env : Env) : GOk k (A.deeper env) := ⟨g.room.deeper env, g.gu⟩
/-- a def keeps a promise, called where GOk holds -/
structure FnG (P : Program) (w : World) (K : Fr') (mg : Str → Option Value) (base : Heap) (n : Nat) (f : Addr) (fd : FuncData) (ps : List Str) (sp : Sp) : Prop where
  len : ∀ vs H Q E, sp vs H Q E → vs.length = ps.length
  run : ∀ (A : Around) (outer : List Env) (s : Shared) (H : Hp) (args : Args) (us : List Value) (vs : List V) (Q : VK) (E : XK), GOk n A → Env0 P w K mg base A outer s H → BindsTo s fd args (ps.zip us) → Vals vs us →
    sp vs H Q E → codeAny (model P w) A (.call (.ref f) args) (CR (L2.CX P w) outer P w H s Q E) s
theorem FnG.mono {P : Program} {w : World} {K : Fr'} {mg : Str → Option Value} {base : Heap} {j k : Nat} {f : Addr} {fd : FuncData} {ps : List Str} {sp : Sp} (F : FnG P w K mg base j f fd ps sp) (h : j ≤ k) : FnG P w K mg base k f fd ps sp :=
  ⟨F.len, fun A outer s H args us vs Q E g => F.run A outer s H args us vs Q E (g.mono h)⟩
/-- a call's promise by a function of the evaluator -/
def spF (K : Fr') (xi : XI) (c : List D → Sto → R D) : Sp := fun vs H Q E => ∃ ι ds S, RelS K ι S H ∧ RelDs K ι H ds vs ∧ PostR K xi (RelD K) E ι S H Q (c ds S)

section
variable {X : Cx} {xi : XI} {W : WX} {n : Nat} {f : Addr} {fd : FuncData} {ps : List Str} {sp : Sp}
/-- the callee, at the caller's slots τ -/
theorem run_G {pins : List (Addr × Obj)} {τ : Sv} {H : Hp} {s : Shared} {Q : VK} {us ws : List Value} {kw : List (Str × Value)} {vs : List V} (F : FnG X.prog X.w X.K X.mg X.base n f fd ps sp) (g : GOk n X.A) (tk : Takes X W) (I : Inv X pins τ H s)
    (hb : BindsTo s fd ⟨us, kw⟩ (ps.zip ws)) (r : Vals vs ws) (h : sp vs H Q fun c d H' => W c d τ H') : wpAny (model X.prog X.w) X.A (call (.ref f) us kw) (EP X pins τ Q) X.xe s := by
  refine wpAny_call (codeAny_mono (F.run X.A X.stack s H ⟨us, kw⟩ ws vs Q _ g I.env0 hb r h) fun res s' hq => ?_)
  cases res with
  | error e => exact tk e s' (XE.of_call I (W := W) (fun _ _ _ z => z) hq)
  | ok fl =>
    cases fl with
    | ret u => exact I.after hq
    | next => exact hq.elim
    | brk => exact hq.elim
    | cont => exact hq.elim

/-! ### argument lists -/
def plainE : Expr → Bool
  | .Starred _ _ => false
  | _ => true
theorem starEach_plain {e : Expr} {es : List Expr} {env : Env} (h : plainE e = true) : starEach (e :: es) env = (false, eval e env) :: starEach es env := by
  cases e <;> first | rfl | cases h
theorem star_none {env : Env} {pos : Pos} : ∀ {es : List Expr}, es.all plainE = true → (backTo pos (starEach es env)).any (·.1) = false
  | [], _ => rfl
  | e :: es, h => by
    rw [List.all_cons, Bool.and_eq_true] at h
    rw [starEach_plain h.1]
    exact star_none (es := es) h.2
theorem star_all {env : Env} {pos : Pos} : ∀ {es : List Expr}, es.all plainE = true → (backTo pos (starEach es env)).all (fun x => !x.1) = true
  | [], _ => rfl
  | e :: es, h => by
    rw [List.all_cons, Bool.and_eq_true] at h
    rw [starEach_plain h.1]
    show (!false && (backTo pos (starEach es env)).all (fun x => !x.1)) = true
    rw [star_all (es := es) h.2]; rfl
theorem das_nil : PA X [] (tDs X.K xi W fun _ S => .ok [] S) := pa_nil.mono fun _ _ _ ⟨_, _, _, r, _, h⟩ => h.now r .nil
theorem das_cons {e : Expr} {es : List Expr} {m : Sg → Sto → R D} {ms : Sg → Sto → R (List D)} (he : PE X e (tD X.K xi W m)) (hs : PA X es (tDs X.K xi W ms)) (hp : plainE e = true) :
    PA X (e :: es) (tDs X.K xi W fun σ S => (m σ S).bind fun x S1 => (ms σ S1).bind fun xs S2 => .ok (x :: xs) S2) := (pa_cons he hs (starEach_plain hp)).mono fun τ H Q ⟨ι, σ, S, r, g, h⟩ => by
  refine ⟨ι, σ, S, r, g, (PostR.bind h).imp ?_⟩
  rintro x H1 ⟨ι1, d, S1, e1, r1, q1, h1⟩
  refine ⟨ι1, σ, S1, r1, g.mono r e1, (PostR.bind h1).imp ?_⟩
  rintro xs H2 ⟨ι2, ds, S2, e2, r2, q2, h2⟩
  exact h2.now r2 (.cons (q1.mono r1 e2) q2)
/-- behind the arguments -/
theorem imp_args {τ : Sv} {H : Hp} {Q : VK} {ms : Sg → Sto → R (List D)} {f : List D → Sto → R D} (h : tD X.K xi W (fun σ S => (ms σ S).bind fun vs S1 => f vs S1) τ H Q) :
    tDs X.K xi W ms τ H fun vs H1 => ∃ ι ds S, RelS X.K ι S H1 ∧ RelDs X.K ι H1 ds vs ∧ PostR X.K xi (RelD X.K) (fun c d H' => W c d τ H') ι S H1 Q (f ds S) := by
  obtain ⟨ι, σ, S, r, g, h⟩ := h
  refine ⟨ι, σ, S, r, g, (PostR.bind h).imp ?_⟩
  rintro vs H1 ⟨ι1, ds, S1, e1, r1, q1, h1⟩
  exact ⟨ι1, ds, S1, r1, q1, h1⟩

/-! ### f(e, ..) -/
theorem de_call {x : Str} {p pos : Pos} {es : List Expr} {ms : Sg → Sto → R (List D)} {c : List D → Sto → R D} (F : FnG X.prog X.w X.K X.mg X.base n f fd ps (spF X.K xi c)) (g : GOk n X.A) (tk : Takes X W) (hg : Gl X x) (hm : X.mg x = some (.ref f))
    (hk : PySem.W.keepIn X.K (.ref f) = true) (hb : Binds X.K fd ps []) (ha : PA X es (tDs X.K xi W ms)) (hp : es.all plainE = true) (hdb : (x == ("__debug__" : Str)) = false) :
    PE X (.Call (.Name x p) es [] pos) (tD X.K xi W fun σ S => (ms σ S).bind fun vs S1 => c vs S1) := by
  have core : ∀ {pins : List (Addr × Obj)} {τ : Sv} {H : Hp} {s : Shared} {Q : VK} {us : List Value} {vs : List V}, Inv X pins τ H s → Vals vs us →
      (∃ ι ds S, RelS X.K ι S H ∧ RelDs X.K ι H ds vs ∧ PostR X.K xi (RelD X.K) (fun c d H' => W c d τ H') ι S H Q (c ds S)) → wpAny (model X.prog X.w) X.A (call (.ref f) us) (EP X pins τ Q) X.xe s := by
    intro pins τ H s Q us vs I r h
    have hl : (us ++ []).length = ps.length := by rw [List.append_nil, ← r.length]; exact F.len _ _ _ _ h
    have b := hb s us I.kIn hl
    rw [List.append_nil] at b
    exact run_G F g tk I b r h
  refine ⟨fun pins s τ H Q I h => ?_⟩
  refine wpAny_Call_Name_kw (ld_glob I hg hm ?_ hdb)
  have hpl := star_none (env := X.env) (pos := pos) hp
  refine PySem.W.callWith_of (P := X.K.In) (by rw [hpl]; rfl) (PySem.W.keeps_K hk) (L2.FK.evalArgs_any hpl (thn (ha.run pos pins s τ H _ I (imp_args h)) fun us s1 ⟨vs, H1, I1, r, q⟩ => ⟨I1.kIn, core I1 r q⟩))
end

/-! ### built-ins by their names -/
section
variable {X : Cx} {xi : XI} {W : WX}
theorem de_bltF {C : Cfg} {b : Bf} {id : String} {x : Str} {p pos : Pos} {e : Expr} {es : List Expr} {ms : Sg → Sto → R (List D)} (hc : CallR X (.builtin id) (rBt X.K xi b)) (hg : Gl X x) (hm : X.mg x = none) (hv : bootBuiltins x = some (.builtin id))
    (ha : PA X (e :: es) (tDs X.K xi W ms)) (hn : x ≠ "__name__") (hdb : (x == ("__debug__" : Str)) = false) (hp : (e :: es).all plainE = true) :
    PE X (.Call (.Name x p) (e :: es) [] pos) (tD X.K xi W fun σ S => (ms σ S).bind fun vs S1 => bltD C b vs S1) := by
  have hp' := hp
  rw [List.all_cons, Bool.and_eq_true] at hp'
  refine (pe_callB hc hg hm hv ha hn hdb (starEach_plain hp'.1) (star_none hp'.2)).mono fun τ H Q h => ?_
  obtain ⟨ι, σ, S, r, g, h⟩ := imp_args h
  refine ⟨ι, σ, S, r, g, h.imp ?_⟩
  rintro vs H1 ⟨ι1, ds, S1, r1, q1, h1⟩
  rw [bltD_eq r1 q1] at h1
  exact ⟨ι1, S1, ds, _, r1, q1, h1⟩
theorem de_bltT {C : Cfg} {b : Bf} {T : String} {x : Str} {p pos : Pos} {e : Expr} {es : List Expr} {ms : Sg → Sto → R (List D)} (hc : CallR X (.type T) (rBt X.K xi b)) (hg : Gl X x) (hm : X.mg x = none) (hv : bootBuiltins x = some (.type T))
    (ha : PA X (e :: es) (tDs X.K xi W ms)) (hn : x ≠ "__name__") (hdb : (x == ("__debug__" : Str)) = false) (hp : (e :: es).all plainE = true) :
    PE X (.Call (.Name x p) (e :: es) [] pos) (tD X.K xi W fun σ S => (ms σ S).bind fun vs S1 => bltD C b vs S1) := by
  have hp' := hp
  rw [List.all_cons, Bool.and_eq_true] at hp'
  refine (pe_callTy hc hg hm hv ha hn hdb (starEach_plain hp'.1) (star_none hp'.2)).mono fun τ H Q h => ?_
  obtain ⟨ι, σ, S, r, g, h⟩ := imp_args h
  refine ⟨ι, σ, S, r, g, h.imp ?_⟩
  rintro vs H1 ⟨ι1, ds, S1, r1, q1, h1⟩
  rw [bltD_eq r1 q1] at h1
  exact ⟨ι1, S1, ds, _, r1, q1, h1⟩
/-- o.m(e, ..) of a text or a list -/
theorem kw_nil {env : Env} {pos : Pos} : (backToKw pos (keywordEach [] env)).all (fun x => x.1.isSome) = true := rfl
theorem de_mth {m : Mt} {T id : String} {name : Str} {apos cpos : Pos} {o e : Expr} {es : List Expr} {mo : Sg → Sto → R D} {ms : Sg → Sto → R (List D)} (hT : T = if m.ofList then "list" else "str") (pa : PlainAttrs T) (slot : Slot T name id)
    (hty : typeOf (.builtin id) = pure (.type "method_descriptor")) (hm : MtR X id (rMt X.K xi m)) (ho : PE X o (tD X.K xi W mo)) (ha : PA X (e :: es) (tDs X.K xi W ms)) (hbase : attributeBase o name X.env (eval o X.env) = eval o X.env)
    (hline : (apos.endLine == cpos.line) = true) (hp : (e :: es).all plainE = true) (hlen : (e :: es).length < 30) :
    PE X (.Call (.Attribute o name apos) (e :: es) [] cpos) (tD X.K xi W fun σ S => (mo σ S).bind fun x S1 => R.req (recv m x S1 = true) ((ms σ S1).bind fun vs S2 => mth m x vs S2)) := by
  have hp' := hp
  rw [List.all_cons, Bool.and_eq_true] at hp'
  refine (pe_bm pa slot hty hm ho ha hbase ?_ hline (starEach_plain hp'.1) (star_none hp'.2)).mono fun τ H Q ⟨ι, σ, S, r, g, h⟩ => ?_
  · rw [star_all hp, kw_nil]
    simp only [Bool.true_and, List.isEmpty_nil, if_true, Nat.add_zero, List.length_nil]
    exact decide_eq_true hlen
  · refine ⟨ι, σ, S, r, g, (PostR.bind h).imp ?_⟩
    rintro x H1 ⟨ι1, d, S1, e1, r1, q1, h1⟩
    obtain ⟨hr, h1⟩ := PostR.req h1
    refine ⟨by rw [hT]; exact recv_V r1 q1 hr, ι1, σ, S1, r1, g.mono r e1, (PostR.bind h1).imp ?_⟩
    rintro vs H2 ⟨ι2, ds, S2, e2, r2, q2, h2⟩
    exact ⟨ι2, S2, d, ds, _, r2, q1.mono r1 e2, q2, h2⟩
theorem de_mth0 {m : Mt} {T id : String} {name : Str} {apos cpos : Pos} {o : Expr} {mo : Sg → Sto → R D} (hT : T = if m.ofList then "list" else "str") (pa : PlainAttrs T) (slot : Slot T name id)
    (hty : typeOf (.builtin id) = pure (.type "method_descriptor")) (hm : MtR X id (rMt X.K xi m)) (ho : PE X o (tD X.K xi W mo)) (hbase : attributeBase o name X.env (eval o X.env) = eval o X.env) (hline : (apos.endLine == cpos.line) = true) :
    PE X (.Call (.Attribute o name apos) [] [] cpos) (tD X.K xi W fun σ S => (mo σ S).bind fun x S1 => R.req (recv m x S1 = true) (R.bind (.ok [] S1) fun vs S2 => mth m x vs S2)) := by
  refine (pe_bm0 pa slot hty hm ho hbase hline).mono fun τ H Q ⟨ι, σ, S, r, g, h⟩ => ?_
  refine ⟨ι, σ, S, r, g, (PostR.bind h).imp ?_⟩
  rintro x H1 ⟨ι1, d, S1, e1, r1, q1, h1⟩
  obtain ⟨hr, h1⟩ := PostR.req h1
  exact ⟨by rw [hT]; exact recv_V r1 q1 hr, ι1, S1, d, [], _, r1, q1, .nil, h1⟩
/-- a call's attribute base -/
def plainBase : Expr → Bool
  | .Call (.Name _ _) [] [] _ => false
  | _ => true
theorem base_plain {o : Expr} {name : Str} {env : Env} (h : plainBase o = true) : attributeBase o name env (eval o env) = eval o env := by
  unfold attributeBase
  split
  · cases h
  · rfl

/-! ### displays, places, slices -/
theorem de_tup {x1} {pos : Pos} {es : List Expr} {ms : Sg → Sto → R (List D)} (ha : PA X es (tDs X.K xi W ms)) : PE X (.Tuple es x1 pos) (tD X.K xi W fun σ S => (ms σ S).bind fun vs S1 => R.req (vs.length ≤ LIM) (.ok (.tup vs) S1)) :=
  (pe_tup ha).mono fun τ H Q h => by
    obtain ⟨ι, σ, S, r, g, h⟩ := imp_args h
    refine ⟨ι, σ, S, r, g, h.imp ?_⟩
    rintro vs H1 ⟨ι1, ds, S1, r1, q1, h1⟩
    obtain ⟨hl, h1⟩ := PostR.req h1
    exact ⟨by rw [← q1.length, ← LIM_eq]; exact hl, fun p hp => h1.newT r1 q1 hp⟩
theorem de_lst {pos : Pos} {es : List Expr} {ms : Sg → Sto → R (List D)} (ha : PA X es (tDs X.K xi W ms)) : PE X (.List es pos) (tD X.K xi W fun σ S => (ms σ S).bind fun vs S1 => R.req (vs.length ≤ LIM) (ins1 S1 (.lst vs))) :=
  (pe_lst ha).mono fun τ H Q h => by
    obtain ⟨ι, σ, S, r, g, h⟩ := imp_args h
    refine ⟨ι, σ, S, r, g, h.imp ?_⟩
    rintro vs H1 ⟨ι1, ds, S1, r1, q1, h1⟩
    obtain ⟨hl, h1⟩ := PostR.req h1
    exact ⟨by rw [← q1.length, ← LIM_eq]; exact hl, fun p hp => h1.newL r1 q1 hp⟩
def notSlice : Expr → Bool
  | .Slice .. => false
  | _ => true
theorem plainIx_of {b : Expr} (h : notSlice b = true) : PlainIx b := by
  intro o i
  cases b <;> first | rfl | cases h
theorem de_idx {C : Cfg} {a b : Expr} {ma mb : Sg → Sto → R D} {pos : Pos} (ha : PE X a (tD X.K xi W ma)) (hb : PE X b (tD X.K xi W mb)) (hs : notSlice b = true) :
    PE X (.Subscript a b pos) (tD X.K xi W fun σ S => (ma σ S).bind fun x S1 => (mb σ S1).bind fun y S2 => indexD C x y S2) := (pe_ix ix_all ha hb (plainIx_of hs)).mono fun _ _ _ h => imp_op2D (fun r q _ => indexD_eq r q) h
theorem do_none : PO X none (tDO X.K xi W fun _ S => .ok none S) := po_none.mono fun _ _ _ ⟨_, _, _, r, _, h⟩ => h.now r rfl
theorem do_some {e : Expr} {m : Sg → Sto → R D} (he : PE X e (tD X.K xi W m)) : PO X (some e) (tDO X.K xi W fun σ S => (m σ S).bind fun x S1 => match x with | .int i => .ok (some i) S1 | _ => .no) :=
  (po_some he).mono fun τ H Q ⟨ι, σ, S, r, g, h⟩ => by
    refine ⟨ι, σ, S, r, g, (PostR.bind h).imp ?_⟩
    rintro x H1 ⟨ι1, d, S1, e1, r1, q1, h1⟩
    cases q1 with
    | int i => exact ⟨i, rfl, h1.now r1 rfl⟩
    | _ => exact h1.elim
theorem de_slc {a : Expr} {lo hi : Option Expr} {ma : Sg → Sto → R D} {ml mh : Sg → Sto → R (Option Int)} {pos p2 : Pos} (ha : PE X a (tD X.K xi W ma)) (hl : PO X lo (tDO X.K xi W ml)) (hh : PO X hi (tDO X.K xi W mh)) :
    PE X (.Subscript a (.Slice lo hi none p2) pos) (tD X.K xi W fun σ S => (ma σ S).bind fun x S1 => (ml σ S1).bind fun l S2 => (mh σ S2).bind fun u S3 => slice x l u S3) := (pe_slice (sl_all (xi := xi)) ha hl hh).mono fun τ H Q ⟨ι, σ, S, r, g, h⟩ => by
  refine ⟨ι, σ, S, r, g, (PostR.bind h).imp ?_⟩
  rintro x H1 ⟨ι1, d, S1, e1, r1, q1, h1⟩
  have g1 := g.mono r e1
  refine ⟨ι1, σ, S1, r1, g1, (PostR.bind h1).imp ?_⟩
  rintro l H2 ⟨ι2, l', S2, e2, r2, rfl, h2⟩
  have g2 := g1.mono r1 e2
  refine ⟨ι2, σ, S2, r2, g2, (PostR.bind h2).imp ?_⟩
  rintro u H3 ⟨ι3, u', S3, e3, r3, rfl, h3⟩
  exact ⟨ι3, S3, d, _, r3, (q1.mono r1 e2).mono r2 e3, h3⟩

/-! ### comparisons, truth, and, or, not, if -/
def notSet : Expr → Bool
  | .Set .. => false
  | _ => true
theorem marks_of {op : CmpOp} {b : Expr} (h : notSet b = true) : behindInMarks op b = false := by
  cases b <;> first | rfl | cases h
theorem imp_cmp {C : Cfg} {a b : Expr} {ma mb : Sg → Sto → R D} {o : Cm} {τ : Sv} {H : Hp} {Q : VK} (h : tD X.K xi W (fun σ S => (ma σ S).bind fun x S1 => (mb σ S1).bind fun y S2 => (cmpD C o x y S2).bind fun k S3 => .ok (.bl k) S3) τ H Q) :
    tOp (rC X.K o) (tD X.K xi W ma) (tD X.K xi W mb) τ H Q := by
  obtain ⟨ι, σ, S, r, g, h⟩ := h
  refine ⟨ι, σ, S, r, g, (PostR.bind h).imp ?_⟩
  rintro x H1 ⟨ι1, d, S1, e1, r1, q1, h1⟩
  refine ⟨ι1, σ, S1, r1, g.mono r e1, (PostR.bind h1).imp ?_⟩
  rintro y H2 ⟨ι2, e, S2, e2, r2, q2, h2⟩
  rw [cmpD_eq r2 (q1.mono r1 e2) q2, R.opt_bind] at h2
  obtain ⟨k, hk, h2⟩ := PostR.opt h2
  exact ⟨ι2, S2, d, e, k, r2, q1.mono r1 e2, q2, hk, PostR.now (show PostR X.K xi (RelD X.K) _ ι2 S2 H2 Q (.ok (.bl k) S2) from h2) r2 (.bl k)⟩
theorem de_cmp {C : Cfg} {a b : Expr} {ma mb : Sg → Sto → R D} {o : Cm} {pos : Pos} (hu : X.A.units + 65 < cLine) (ha : PE X a (tD X.K xi W ma)) (hb : PE X b (tD X.K xi W mb)) (hs : notSet b = true) :
    PE X (.Compare a [cmOf o] [b] pos) (tD X.K xi W fun σ S => (ma σ S).bind fun x S1 => (mb σ S1).bind fun y S2 => (cmpD C o x y S2).bind fun k S3 => .ok (.bl k) S3) :=
  (pe_cmpR (opc_all hu o) ha hb (marks_of hs)).mono fun _ _ _ h => imp_cmp (a := a) (b := b) h
/-- a test by a value's truth -/
def tstD (m : Sg → Sto → R D) : Sg → Sto → R Bool := fun σ S => (m σ S).bind fun x S1 => R.opt (truth S1 x) fun k => .ok k S1
theorem dt_cmp {C : Cfg} {a b : Expr} {ma mb : Sg → Sto → R D} {o : Cm} {pos : Pos} (hu : X.A.units + 65 < cLine) (ha : PE X a (tD X.K xi W ma)) (hb : PE X b (tD X.K xi W mb)) (hs : notSet b = true) :
    PT X (.Compare a [cmOf o] [b] pos) (tDT X.K xi W (tstD fun σ S => (ma σ S).bind fun x S1 => (mb σ S1).bind fun y S2 => (cmpD C o x y S2).bind fun k S3 => .ok (.bl k) S3)) :=
  (pt_cmpR (opc_all hu o) ha hb (marks_of hs)).mono fun τ H Q ⟨ι, σ, S, r, g, h⟩ => by
    unfold tstD at h
    simp only [R.bind_assoc, R.opt_bind] at h
    refine ⟨ι, σ, S, r, g, (PostR.bind h).imp ?_⟩
    rintro x H1 ⟨ι1, d, S1, e1, r1, q1, h1⟩
    refine ⟨ι1, σ, S1, r1, g.mono r e1, (PostR.bind h1).imp ?_⟩
    rintro y H2 ⟨ι2, e, S2, e2, r2, q2, h2⟩
    rw [cmpD_eq r2 (q1.mono r1 e2) q2, R.opt_bind] at h2
    obtain ⟨k, hk, h2⟩ := PostR.opt h2
    exact ⟨ι2, S2, d, e, k, r2, q1.mono r1 e2, q2, hk, k, rfl, PostR.now (show PostR X.K xi relB _ ι2 S2 H2 Q (.ok k S2) from h2) r2 rfl⟩
/-- any expression whose test is its value's truth -/
theorem dt_plain {a : Expr} {m : Sg → Sto → R D} (ha : PE X a (tD X.K xi W m)) (he : ∀ whole, isTrue a X.env whole = (do let v ← whole; standAt a.pos; holding [v] (truthy v))) : PT X a (tDT X.K xi W (tstD m)) :=
  (pt_truth ha he).mono fun τ H Q ⟨ι, σ, S, r, g, h⟩ => by
    refine ⟨ι, σ, S, r, g, (PostR.bind h).imp ?_⟩
    rintro x H1 ⟨ι1, d, S1, e1, r1, q1, h1⟩
    obtain ⟨k, hk, h1⟩ := PostR.opt h1
    exact ⟨k, truth_V r1 q1 hk, h1.now r1 rfl⟩
theorem de_not {a : Expr} {m : Sg → Sto → R D} {pos : Pos} (ha : PE X a (tD X.K xi W m)) : PE X (.UnaryOp .Not a pos) (tD X.K xi W fun σ S => (m σ S).bind fun x S1 => R.opt (truth S1 x) fun k => .ok (.bl (!k)) S1) :=
  (pe_notT ha).mono fun τ H Q ⟨ι, σ, S, r, g, h⟩ => by
    refine ⟨ι, σ, S, r, g, (PostR.bind h).imp ?_⟩
    rintro x H1 ⟨ι1, d, S1, e1, r1, q1, h1⟩
    obtain ⟨k, hk, h1⟩ := PostR.opt h1
    exact ⟨k, truth_V r1 q1 hk, h1.now r1 (.bl _)⟩
theorem dt_not {a : Expr} {m : Sg → Sto → R D} {pos : Pos} (ha : PT X a (tDT X.K xi W (tstD m))) : PT X (.UnaryOp .Not a pos) (tDT X.K xi W (tstD fun σ S => (m σ S).bind fun x S1 => R.opt (truth S1 x) fun k => .ok (.bl (!k)) S1)) :=
  (pt_not ha).mono fun τ H Q ⟨ι, σ, S, r, g, h⟩ => by
    unfold tstD at h
    simp only [R.bind_assoc, R.opt_bind] at h
    have h' : PostR X.K xi relB (fun c d H' => W c d τ H') ι S H Q ((tstD m σ S).bind fun k S1 => .ok (!k) S1) := by
      unfold tstD
      simp only [R.bind_assoc, R.opt_bind]
      exact h
    refine ⟨ι, σ, S, r, g, (PostR.bind h').imp ?_⟩
    rintro k H1 ⟨ι1, k', S1, e1, r1, rfl, h1⟩
    exact h1.now r1 rfl
theorem de_neg {a : Expr} {m : Sg → Sto → R D} {pos : Pos} (ha : PE X a (tD X.K xi W m)) : PE X (.UnaryOp .USub a pos) (tD X.K xi W fun σ S => (m σ S).bind fun x S1 => match x with | .int i => .ok (.int (-i)) S1 | _ => .no) :=
  (pe_un un_neg ha).mono fun τ H Q ⟨ι, σ, S, r, g, h⟩ => by
    refine ⟨ι, σ, S, r, g, (PostR.bind h).imp ?_⟩
    rintro x H1 ⟨ι1, d, S1, e1, r1, q1, h1⟩
    cases q1 with
    | int i => exact ⟨i, rfl, h1.now r1 (.int _)⟩
    | _ => exact h1.elim
theorem de_ite {c a b : Expr} {mc ma mb : Sg → Sto → R D} {pos : Pos} (hc : PT X c (tDT X.K xi W (tstD mc))) (ha : PE X a (tD X.K xi W ma)) (hb : PE X b (tD X.K xi W mb)) :
    PE X (.IfExp c a b pos) (tD X.K xi W fun σ S => (mc σ S).bind fun t S1 => R.opt (truth S1 t) fun k => if k then ma σ S1 else mb σ S1) := (pe_ifExp hc ha hb).mono fun τ H Q ⟨ι, σ, S, r, g, h⟩ => by
  have h' : PostR X.K xi (RelD X.K) (fun c d H' => W c d τ H') ι S H Q ((tstD mc σ S).bind fun k S1 => if k then ma σ S1 else mb σ S1) := by
    unfold tstD
    simp only [R.bind_assoc, R.opt_bind]
    exact h
  refine ⟨ι, σ, S, r, g, (PostR.bind h').imp ?_⟩
  rintro k H1 ⟨ι1, k', S1, e1, r1, rfl, h1⟩
  have g1 := g.mono r e1
  cases k' with
  | true => exact iteT ⟨ι1, σ, S1, r1, g1, h1⟩
  | false => exact iteF ⟨ι1, σ, S1, r1, g1, h1⟩
theorem dt_ite {c a b : Expr} {mc ma mb : Sg → Sto → R D} {pos : Pos} (hc : PT X c (tDT X.K xi W (tstD mc))) (ha : PT X a (tDT X.K xi W (tstD ma))) (hb : PT X b (tDT X.K xi W (tstD mb))) :
    PT X (.IfExp c a b pos) (tDT X.K xi W (tstD fun σ S => (mc σ S).bind fun t S1 => R.opt (truth S1 t) fun k => if k then ma σ S1 else mb σ S1)) := by
  refine ⟨fun pins s τ H Q I ⟨ι, σ, S, r, g, h⟩ => ?_⟩
  have h' : PostR X.K xi relB (fun c d H' => W c d τ H') ι S H Q ((tstD mc σ S).bind fun k S1 => if k then tstD ma σ S1 else tstD mb σ S1) := by
    have e : ((tstD mc σ S).bind fun k S1 => if k then tstD ma σ S1 else tstD mb σ S1) = tstD (fun σ S => (mc σ S).bind fun t S1 => R.opt (truth S1 t) fun k => if k then ma σ S1 else mb σ S1) σ S := by
      unfold tstD
      simp only [R.bind_assoc, R.opt_bind]
      congr 1
      funext a S1
      congr 1
      funext k
      cases k <;> rfl
    rw [e]
    exact h
  show wpAny _ _ (do if ← isTrue c X.env (eval c X.env) then isTrue a X.env (eval a X.env) else isTrue b X.env (eval b X.env)) _ _ _
  refine wpAny_bind (thn (hc.run pins s τ H _ I ⟨ι, σ, S, r, g, PostR.bind h'⟩) ?_)
  rintro k s1 ⟨H1, I1, ι1, k', S1, e1, r1, rfl, h1⟩
  have g1 := g.mono r e1
  cases k' with
  | true => exact ha.run pins s1 τ H1 Q I1 ⟨ι1, σ, S1, r1, g1, h1⟩
  | false => exact hb.run pins s1 τ H1 Q I1 ⟨ι1, σ, S1, r1, g1, h1⟩

/-! ### a < b < c -/
theorem de_chain {C : Cfg} {a b c : Expr} {ma mb mc : Sg → Sto → R D} {o p : Cm} {pos : Pos} (hu : X.A.units + 65 < cLine) (ha : PE X a (tD X.K xi W ma)) (hb : PE X b (tD X.K xi W mb)) (hc : PE X c (tD X.K xi W mc)) (hs : notSet c = true) :
    PE X (.Compare a [cmOf o, cmOf p] [b, c] pos) (tD X.K xi W fun σ S => (ma σ S).bind fun x S1 => (mb σ S1).bind fun y S2 => (cmpD C o x y S2).bind fun k S3 =>
      if k then (mc σ S3).bind fun z S4 => (cmpD C p y z S4).bind fun k2 S5 => .ok (.bl k2) S5 else .ok (.bl false) S3) :=
  (pe_chain (opc_all hu o) (opc_all hu p) ha hb hc (marks_of hs)).mono fun τ H Q ⟨ι, σ, S, r, g, h⟩ => by
    refine ⟨ι, σ, S, r, g, (PostR.bind h).imp ?_⟩
    rintro x H1 ⟨ι1, d, S1, e1, r1, q1, h1⟩
    have g1 := g.mono r e1
    refine ⟨ι1, σ, S1, r1, g1, (PostR.bind h1).imp ?_⟩
    rintro y H2 ⟨ι2, e, S2, e2, r2, q2, h2⟩
    have g2 := g1.mono r1 e2
    rw [cmpD_eq r2 (q1.mono r1 e2) q2, R.opt_bind] at h2
    obtain ⟨k, hk, h2⟩ := PostR.opt h2
    rw [R.bind_ok] at h2
    refine ⟨ι2, S2, d, e, k, r2, q1.mono r1 e2, q2, hk, k, rfl, ?_⟩
    cases k with
    | false => exact iteF (PostR.now (show PostR X.K xi (RelD X.K) _ ι2 S2 H2 Q (.ok (.bl false) S2) from h2) r2 (.bl _))
    | true =>
      refine iteT ⟨ι2, σ, S2, r2, g2, (PostR.bind (rel := RelD X.K) (show PostR X.K xi (RelD X.K) _ ι2 S2 H2 Q ((mc σ S2).bind fun z S4 => (cmpD C p e z S4).bind fun k2 S5 => .ok (.bl k2) S5) from h2)).imp ?_⟩
      rintro z H3 ⟨ι3, c', S3, e3, r3, q3, h3⟩
      rw [cmpD_eq r3 (q2.mono r2 e3) q3, R.opt_bind] at h3
      obtain ⟨k2, hk2, h3⟩ := PostR.opt h3
      rw [R.bind_ok] at h3
      exact ⟨ι3, S3, e, c', k2, r3, q2.mono r2 e3, q3, hk2, h3.now r3 (.bl _)⟩
theorem dt_chain {C : Cfg} {a b c : Expr} {ma mb mc : Sg → Sto → R D} {o p : Cm} {pos : Pos} (hu : X.A.units + 65 < cLine) (ha : PE X a (tD X.K xi W ma)) (hb : PE X b (tD X.K xi W mb)) (hc : PE X c (tD X.K xi W mc)) (hs : notSet c = true) :
    PT X (.Compare a [cmOf o, cmOf p] [b, c] pos) (tDT X.K xi W (tstD fun σ S => (ma σ S).bind fun x S1 => (mb σ S1).bind fun y S2 => (cmpD C o x y S2).bind fun k S3 =>
      if k then (mc σ S3).bind fun z S4 => (cmpD C p y z S4).bind fun k2 S5 => .ok (.bl k2) S5 else .ok (.bl false) S3)) :=
  (pt_chain (opc_all hu o) (opc_all hu p) ha hb hc (marks_of hs)).mono fun τ H Q ⟨ι, σ, S, r, g, h⟩ => by
    unfold tstD at h
    simp only [R.bind_assoc, R.opt_bind] at h
    refine ⟨ι, σ, S, r, g, (PostR.bind h).imp ?_⟩
    rintro x H1 ⟨ι1, d, S1, e1, r1, q1, h1⟩
    have g1 := g.mono r e1
    refine ⟨ι1, σ, S1, r1, g1, (PostR.bind h1).imp ?_⟩
    rintro y H2 ⟨ι2, e, S2, e2, r2, q2, h2⟩
    have g2 := g1.mono r1 e2
    rw [cmpD_eq r2 (q1.mono r1 e2) q2, R.opt_bind] at h2
    obtain ⟨k, hk, h2⟩ := PostR.opt h2
    rw [R.bind_ok] at h2
    refine ⟨ι2, S2, d, e, k, r2, q1.mono r1 e2, q2, hk, k, rfl, ?_⟩
    cases k with
    | false => exact iteF ⟨false, rfl, PostR.now (show PostR X.K xi relB _ ι2 S2 H2 Q (.ok false S2) from h2) r2 rfl⟩
    | true =>
      have h2' : PostR X.K xi relB (fun c d H' => W c d τ H') ι2 S2 H2 Q (((mc σ S2).bind fun z S4 => (cmpD C p e z S4).bind fun k2 S5 => .ok (.bl k2) S5).bind fun x S1 => R.opt (truth S1 x) fun k => .ok k S1) := h2
      simp only [R.bind_assoc, R.opt_bind] at h2'
      refine iteT ⟨ι2, σ, S2, r2, g2, (PostR.bind (rel := RelD X.K) h2').imp ?_⟩
      rintro z H3 ⟨ι3, c', S3, e3, r3, q3, h3⟩
      rw [cmpD_eq r3 (q2.mono r2 e3) q3, R.opt_bind] at h3
      obtain ⟨k2, hk2, h3⟩ := PostR.opt h3
      exact ⟨ι3, S3, e, c', k2, r3, q2.mono r2 e3, q3, hk2, k2, rfl, PostR.now (show PostR X.K xi relB _ ι3 S3 H3 Q (.ok k2 S3) from h3) r3 rfl⟩
/-! ### and, or -/
theorem de_one {op : BoolOp} {a : Expr} {m : Sg → Sto → R D} {pos : Pos} (ha : PE X a (tD X.K xi W m)) : PE X (.BoolOp op [a] pos) (tD X.K xi W m) := pe_one ha
theorem de_and {a b : Expr} {rest : List Expr} {ma mb : Sg → Sto → R D} {pos : Pos} (ha : PE X a (tD X.K xi W ma)) (hb : PE X (.BoolOp .And (b :: rest) pos) (tD X.K xi W mb)) :
    PE X (.BoolOp .And (a :: b :: rest) pos) (tD X.K xi W fun σ S => (ma σ S).bind fun x S1 => R.opt (truth S1 x) fun t => if t = true then mb σ S1 else .ok x S1) := (pe_andT ha hb).mono fun τ H Q ⟨ι, σ, S, r, g, h⟩ => by
  refine ⟨ι, σ, S, r, g, (PostR.bind h).imp ?_⟩
  rintro x H1 ⟨ι1, d, S1, e1, r1, q1, h1⟩
  obtain ⟨k, hk, h1⟩ := PostR.opt h1
  refine ⟨k, truth_V r1 q1 hk, ?_⟩
  cases k with
  | true => exact iteT ⟨ι1, σ, S1, r1, g.mono r e1, h1⟩
  | false => exact iteF (PostR.now (show PostR X.K xi (RelD X.K) _ ι1 S1 H1 Q (.ok d S1) from h1) r1 q1)
theorem de_or {a b : Expr} {rest : List Expr} {ma mb : Sg → Sto → R D} {pos : Pos} (ha : PE X a (tD X.K xi W ma)) (hb : PE X (.BoolOp .Or (b :: rest) pos) (tD X.K xi W mb)) :
    PE X (.BoolOp .Or (a :: b :: rest) pos) (tD X.K xi W fun σ S => (ma σ S).bind fun x S1 => R.opt (truth S1 x) fun t => if t = false then mb σ S1 else .ok x S1) := (pe_orT ha hb).mono fun τ H Q ⟨ι, σ, S, r, g, h⟩ => by
  refine ⟨ι, σ, S, r, g, (PostR.bind h).imp ?_⟩
  rintro x H1 ⟨ι1, d, S1, e1, r1, q1, h1⟩
  obtain ⟨k, hk, h1⟩ := PostR.opt h1
  refine ⟨k, truth_V r1 q1 hk, ?_⟩
  cases k with
  | true => exact iteT (PostR.now (show PostR X.K xi (RelD X.K) _ ι1 S1 H1 Q (.ok d S1) from h1) r1 q1)
  | false => exact iteF ⟨ι1, σ, S1, r1, g.mono r e1, h1⟩
theorem dw_one {k : Bool} {a : Expr} {m : Sg → Sto → R D} {pos : Pos} (ha : PT X a (tDT X.K xi W (tstD m))) : PW X (.BoolOp (if k then .And else .Or) [a] pos) (tDT X.K xi W (tstD m)) := by
  cases k
  · exact pw_or1 ha
  · exact pw_and1 ha
theorem tst_bop {ma mb : Sg → Sto → R D} {k : Bool} : (tstD fun σ S => (ma σ S).bind fun x S1 => R.opt (truth S1 x) fun t => if t = k then mb σ S1 else .ok x S1) =
    fun σ S => (tstD ma σ S).bind fun t S1 => if t = k then tstD mb σ S1 else .ok t S1 := by
  funext σ S
  unfold tstD
  simp only [R.bind_assoc, R.opt_bind]
  cases ma σ S with
  | ok x S1 =>
    simp only [R.bind_ok]
    cases e : truth S1 x with
    | none => rfl
    | some t =>
      simp only [R.opt_some, R.bind_ok]
      split
      · rfl
      · rw [R.bind_ok, e]; rfl
  | exc x S1 => rfl
  | no => rfl
theorem dw_and {a b : Expr} {rest : List Expr} {ma mb : Sg → Sto → R D} {pos : Pos} (ha : PT X a (tDT X.K xi W (tstD ma))) (hb : PW X (.BoolOp .And (b :: rest) pos) (tDT X.K xi W (tstD mb))) :
    PW X (.BoolOp .And (a :: b :: rest) pos) (tDT X.K xi W (tstD fun σ S => (ma σ S).bind fun x S1 => R.opt (truth S1 x) fun t => if t = true then mb σ S1 else .ok x S1)) := (pw_and ha hb).mono fun τ H Q ⟨ι, σ, S, r, g, h⟩ => by
  rw [tst_bop] at h
  refine ⟨ι, σ, S, r, g, (PostR.bind h).imp ?_⟩
  rintro k H1 ⟨ι1, k', S1, e1, r1, rfl, h1⟩
  cases k' with
  | true => exact iteT ⟨ι1, σ, S1, r1, g.mono r e1, h1⟩
  | false => exact iteF (PostR.now (show PostR X.K xi relB _ ι1 S1 H1 Q (.ok false S1) from h1) r1 rfl)
theorem dw_or {a b : Expr} {rest : List Expr} {ma mb : Sg → Sto → R D} {pos : Pos} (ha : PT X a (tDT X.K xi W (tstD ma))) (hb : PW X (.BoolOp .Or (b :: rest) pos) (tDT X.K xi W (tstD mb))) :
    PW X (.BoolOp .Or (a :: b :: rest) pos) (tDT X.K xi W (tstD fun σ S => (ma σ S).bind fun x S1 => R.opt (truth S1 x) fun t => if t = false then mb σ S1 else .ok x S1)) := (pw_or ha hb).mono fun τ H Q ⟨ι, σ, S, r, g, h⟩ => by
  rw [tst_bop] at h
  refine ⟨ι, σ, S, r, g, (PostR.bind h).imp ?_⟩
  rintro k H1 ⟨ι1, k', S1, e1, r1, rfl, h1⟩
  cases k' with
  | true => exact iteT (PostR.now (show PostR X.K xi relB _ ι1 S1 H1 Q (.ok true S1) from h1) r1 rfl)
  | false => exact iteF ⟨ι1, σ, S1, r1, g.mono r e1, h1⟩
end
end Cl

/-! part Py9 -/
/-! Cl: walks, targets, statements, loops. -/
namespace Cl
open PySem PySem.Spec PyProof.Rows L2
section
variable {K : Fr'} {xi : XI} {W : WX}
/-- the layer's walk J does what w does, from the state ι S H on -/
def WkOk (K : Fr') (ι : List Addr) (S : Sto) (H : Hp) (w : Wk) (J : L2.It) : Prop :=
  ∀ (ι' : List Addr) (S' : Sto) (H' : Hp) (i : Nat), Ext ι S H ι' S' H' → RelS K ι' S' H' →
    (w.at i S' = some none → J.stop i H') ∧
    ∀ d, w.at i S' = some (some d) → J.go i H' ∧ ∀ x H2, J.yld i H' x H2 → Ext ι' S' H' ι' S' H2 ∧ RelS K ι' S' H2 ∧ RelD K ι' H2 d x
theorem RelDs.none {ι : List Addr} {H : Hp} {ds : List D} {vs : List V} (g : RelDs K ι H ds vs) {i : Nat} (h : ds[i]? = Option.none) : vs.length ≤ i := by
  rw [← g.length]
  exact List.getElem?_eq_none_iff.mp h
theorem wk_lst {ι : List Addr} {S : Sto} {H : Hp} {m : Nat} {a : Addr} (h : ι[m]? = some a) : WkOk K ι S H (.lst m) (Itl K a) := by
  intro ι' S' H' i e r
  have h' := e.get h
  refine ⟨fun z => ?_, fun d z => ?_⟩
  · obtain ⟨xs, e1, e2⟩ := Option.map_eq_some_iff.mp z
    obtain ⟨vs, g1, g2⟩ := r.getQ h' e1
    exact ⟨vs, g1, g2.none e2⟩
  · obtain ⟨xs, e1, e2⟩ := Option.map_eq_some_iff.mp z
    obtain ⟨vs, g1, g2⟩ := r.getQ h' e1
    obtain ⟨v, g3, g4⟩ := g2.get e2
    refine ⟨⟨vs, v, g1, g3⟩, ?_⟩
    rintro x H2 ⟨rfl, hx⟩
    have : x = v := Option.some.inj ((hx vs g1).symm.trans g3)
    subst this
    exact ⟨.refl, r, g4⟩
theorem wk_tup {ι : List Addr} {S : Sto} {H : Hp} {a : Addr} {ds : List D} {vs : List V} (r0 : RelS K ι S H) (h : SqT K H a vs) (g : RelDs K ι H ds vs) : WkOk K ι S H (.fix ds) (Itt K a) := by
  intro ι' S' H' i e r
  have h' := e.tup r0 h
  have g' := g.mono r0 e
  refine ⟨fun z => ⟨vs, h', g'.none (Option.some.inj z)⟩, fun d z => ?_⟩
  obtain ⟨v, g3, g4⟩ := g'.get (Option.some.inj z)
  refine ⟨⟨vs, v, h', g3⟩, ?_⟩
  rintro x H2 ⟨rfl, hx⟩
  have : x = v := Option.some.inj ((hx vs h').symm.trans g3)
  subst this
  exact ⟨.refl, r, g4⟩
theorem wk_str {ι : List Addr} {S : Sto} {H : Hp} {s : Tx} (ha : asciiAll s = true) : WkOk K ι S H (.fix (s.map fun c => .str [c])) (Its (SX.S s)) := by
  intro ι' S' H' i e r
  refine ⟨fun z => ?_, fun d z => ?_⟩
  · have h := List.getElem?_eq_none_iff.mp (Option.some.inj z)
    rw [List.length_map] at h
    exact h
  · have z' := Option.some.inj z
    rw [List.getElem?_map] at z'
    obtain ⟨c, e1, rfl⟩ := Option.map_eq_some_iff.mp z'
    refine ⟨(List.getElem?_eq_some_iff.mp e1).1, ?_⟩
    rintro x H2 ⟨rfl, c', e2, rfl⟩
    have e3 : s[i]? = some c' := by
      have q : (SX.S s).cps[i]? = some c' := e2
      simpa using q
    have : c' = c := Option.some.inj (e3.symm.trans e1)
    subst this
    exact ⟨.refl, r, .str (s := [c']) (show 1 ≤ LIM by decide) (ascii_sub ha fun b hb => by rw [List.mem_singleton.mp hb]; exact List.mem_of_getElem? e1)⟩
theorem wk_rng {ι : List Addr} {S : Sto} {H : Hp} (lo : Int) (n : Nat) : WkOk K ι S H (.rng lo n) (Itr lo n) := by
  intro ι' S' H' i e r
  refine ⟨fun z => ?_, fun d z => ?_⟩
  · have z' := Option.some.inj z
    by_cases h : i < n
    · rw [if_pos h] at z'; cases z'
    · exact Nat.le_of_not_lt h
  · have z' := Option.some.inj z
    by_cases h : i < n
    · rw [if_pos h] at z'
      cases z'
      refine ⟨h, ?_⟩
      rintro x H2 ⟨rfl, rfl⟩
      exact ⟨.refl, r, .int _⟩
    · rw [if_neg h] at z'; cases z'
theorem wk_enm {ι : List Addr} {S : Sto} {H : Hp} {m : Nat} {a : Addr} (h : ι[m]? = some a) : WkOk K ι S H (.enm m) (Ite K a) := by
  intro ι' S' H' i e r
  have h' := e.get h
  refine ⟨fun z => ?_, fun d z => ?_⟩
  · obtain ⟨xs, e1, e2⟩ := Option.map_eq_some_iff.mp z
    obtain ⟨vs, g1, g2⟩ := r.getQ h' e1
    exact ⟨vs, g1, g2.none (Option.map_eq_none_iff.mp e2)⟩
  · obtain ⟨xs, e1, e2⟩ := Option.map_eq_some_iff.mp z
    obtain ⟨y, e3, rfl⟩ := Option.map_eq_some_iff.mp e2
    obtain ⟨vs, g1, g2⟩ := r.getQ h' e1
    obtain ⟨v, g3, g4⟩ := g2.get e3
    refine ⟨⟨vs, v, g1, g3⟩, ?_⟩
    rintro x H2 ⟨T, v', rfl, nT, rfl, hx⟩
    have : v' = v := Option.some.inj ((hx vs g1).symm.trans g3)
    subst this
    have ex := Ext.put (o := .tup [.int (i : Nat), v']) r nT
    exact ⟨ex, r.put nT, .tup (.inl (.inl upd_same)) (.cons (.int _) (.cons (g4.mono r ex) .nil))⟩
theorem wk_zip {ι : List Addr} {S : Sto} {H : Hp} {m n : Nat} {a b : Addr} (h : ι[m]? = some a) (h2 : ι[n]? = some b) : WkOk K ι S H (.zip m n) (Itz K a b) := by
  intro ι' S' H' i e r
  have h' := e.get h
  have h2' := e.get h2
  have two : ∀ {o : Option D}, Wk.at (.zip m n) i S' = some o → ∃ xs ys, getQ S' m = some xs ∧ getQ S' n = some ys ∧ o = (match xs[i]?, ys[i]? with
      | some x, some y => some (.tup [x, y])
      | _, _ => Option.none) := by
    intro o z
    simp only [Wk.at] at z
    split at z
    · rename_i xs ys e1 e2
      exact ⟨xs, ys, e1, e2, (Option.some.inj z).symm⟩
    · cases z
  refine ⟨fun z => ?_, fun d z => ?_⟩
  · obtain ⟨xs, ys, e1, e2, e3⟩ := two z
    obtain ⟨vs, g1, g2⟩ := r.getQ h' e1
    obtain ⟨us, f1, f2⟩ := r.getQ h2' e2
    refine ⟨vs, us, g1, f1, ?_⟩
    cases q1 : xs[i]? with
    | none => exact .inl (g2.none q1)
    | some x =>
      cases q2 : ys[i]? with
      | none => exact .inr (f2.none q2)
      | some y => rw [q1, q2] at e3; cases e3
  · obtain ⟨xs, ys, e1, e2, e3⟩ := two z
    obtain ⟨vs, g1, g2⟩ := r.getQ h' e1
    obtain ⟨us, f1, f2⟩ := r.getQ h2' e2
    cases q1 : xs[i]? with
    | none => rw [q1] at e3; cases e3
    | some x =>
      cases q2 : ys[i]? with
      | none => rw [q1, q2] at e3; cases e3
      | some y =>
        rw [q1, q2] at e3
        cases e3
        obtain ⟨v, g3, g4⟩ := g2.get q1
        obtain ⟨u, f3, f4⟩ := f2.get q2
        refine ⟨⟨vs, us, v, u, g1, f1, g3, f3⟩, ?_⟩
        rintro z H2 ⟨T, v', u', rfl, nT, rfl, hx, hy⟩
        have : v' = v := Option.some.inj ((hx vs g1).symm.trans g3)
        subst this
        have : u' = u := Option.some.inj ((hy us f1).symm.trans f3)
        subst this
        have ex := Ext.put (o := .tup [v', u']) r nT
        exact ⟨ex, r.put nT, .tup (.inl (.inl upd_same)) (.cons (g4.mono r ex) (.cons (f4.mono r ex) .nil))⟩

/-! ### what is walked -/
def PostI (K : Fr') (xi : XI) (E : XK) (ι : List Addr) (S : Sto) (H : Hp) (Rr : L2.It → Hp → Prop) : R Wk → Prop
  | .ok w S' => ∀ ι' H' J, Ext ι S H ι' S' H' → RelS K ι' S' H' → WkOk K ι' S' H' w J → Rr J H'
  | .exc x S' => ∀ ι' H' cls dd, Ext ι S H ι' S' H' → RelS K ι' S' H' → RelX K xi ι' S' H' x cls dd → E cls dd H'
  | .no => False
def tDI (K : Fr') (xi : XI) (W : WX) (m : Sg → Sto → R Wk) : TI := fun τ H Rr => ∃ ι σ S, RelS K ι S H ∧ RelG K ι H σ τ ∧ PostI K xi (fun c d H' => W c d τ H') ι S H Rr (m σ S)
theorem PostI.mono {E : XK} {ι ι1 : List Addr} {S S1 : Sto} {H H1 : Hp} {Rr : L2.It → Hp → Prop} (e : Ext ι S H ι1 S1 H1) {m : R Wk} (h : PostI K xi E ι S H Rr m) : PostI K xi E ι1 S1 H1 Rr m := by
  cases m with
  | ok a S' => exact fun ι' H' J e' r' q => h ι' H' J (e.trans e') r' q
  | exc x S' => exact fun ι' H' cls dd e' r' q => h ι' H' cls dd (e.trans e') r' q
  | no => exact h
theorem PostI.bind {α β : Type} {rel : List Addr → Hp → α → β → Prop} {E : XK} {ι : List Addr} {S : Sto} {H : Hp} {Rr : L2.It → Hp → Prop} {m : R α} {f : α → Sto → R Wk} (h : PostI K xi E ι S H Rr (m.bind f)) :
    PostR K xi rel E ι S H (fun y H1 => ∃ ι1 a S1, Ext ι S H ι1 S1 H1 ∧ RelS K ι1 S1 H1 ∧ rel ι1 H1 a y ∧ PostI K xi E ι1 S1 H1 Rr (f a S1)) m := by
  cases m with
  | ok a S' => exact fun ι' H' y e r q => ⟨ι', a, S', e, r, q, h.mono e⟩
  | exc x S' => exact h
  | no => exact h
theorem PostI.opt {γ : Type} {E : XK} {ι : List Addr} {S : Sto} {H : Hp} {Rr : L2.It → Hp → Prop} {o : Option γ} {f : γ → R Wk} (h : PostI K xi E ι S H Rr (R.opt o f)) : ∃ a, o = some a ∧ PostI K xi E ι S H Rr (f a) := by
  cases o with
  | none => exact h.elim
  | some a => exact ⟨a, rfl, h⟩
theorem PostI.now {E : XK} {ι : List Addr} {S : Sto} {H : Hp} {Rr : L2.It → Hp → Prop} {w : Wk} {J : L2.It} (h : PostI K xi E ι S H Rr (.ok w S)) (r : RelS K ι S H) (q : WkOk K ι S H w J) : Rr J H := h ι H J .refl r q
theorem PostI.req {E : XK} {ι : List Addr} {S : Sto} {H : Hp} {Rr : L2.It → Hp → Prop} {c : Prop} [Decidable c] {m : R Wk} (h : PostI K xi E ι S H Rr (R.req c m)) : c ∧ PostI K xi E ι S H Rr m := by
  by_cases hc : c
  · rw [R.req_of hc] at h
    exact ⟨hc, h⟩
  · unfold R.req at h
    rw [if_neg hc] at h
    exact h.elim
end
section
variable {X : Cx} {xi : XI} {W : WX} {tg : Expr}
theorem _root_.L2.PI.mono {it : Expr} {t t' : TI} (h : PI X tg it t) (i : ∀ σ H Q, t' σ H Q → t σ H Q) : PI X tg it t' := ⟨fun pins s σ H Q I q => h.run pins s σ H Q I (i σ H Q q)⟩
/-- a value is walked: a list, a tuple, a text -/
theorem di_val {e : Expr} {m : Sg → Sto → R D} (he : PE X e (tD X.K xi W m)) : PI X tg e (tDI X.K xi W fun σ S => (m σ S).bind fun d S1 => walk d S1) := by
  refine ⟨fun pins s τ H Rr I ⟨ι, σ, S, r, g, h⟩ => ?_⟩
  refine thn (he.run pins s τ H _ I ⟨ι, σ, S, r, g, PostI.bind h⟩) ?_
  rintro v s1 ⟨x, H1, I1, rx, ι1, d, S1, e1, r1, q1, h1⟩
  cases q1 with
  | str l1 a1 =>
    rename_i z
    obtain ⟨t, rfl⟩ := rx
    have fin := PostI.now (show PostI X.K xi _ ι1 S1 H1 Rr (.ok (.fix (z.map fun c => .str [c])) S1) from h1) r1 (wk_str a1)
    have ha : (SX.S z).cps.all (· < 128) = true := by
      rw [← Array.all_toList]
      exact a1
    exact wpAny_pyIter_ascii ha (pi_one (tk := s1.toks) I1 _ (turn_str _ _ t "str_ascii_iterator" (.inl rfl))
      ⟨_, Heap.get?_push_size _ rfl, rfl, rfl⟩ fin)
  | tup h2 h3 =>
    rename_i a vs ds
    cases rx
    have fin := PostI.now (show PostI X.K xi _ ι1 S1 H1 Rr (.ok (.fix ds) S1) from h1) r1 (wk_tup r1 h2 h3)
    obtain ⟨its, rv, p, hz⟩ := I1.tuple h2
    exact wpAny_pyIter_tuple (show s1.heap.IsTuple a its.toArray from p) (pi_one (tk := s1.toks) I1 _ (turn_tuple a _)
      ⟨_, Heap.get?_push_size _ rfl, rfl, rfl⟩ fin)
  | ref h2 =>
    rename_i k a
    cases rx
    obtain ⟨xs, e2, h1⟩ := PostI.opt (show PostI X.K xi _ ι1 S1 H1 Rr (R.opt (getQ S1 k) fun _ => .ok (.lst k) S1) from h1)
    have fin := PostI.now h1 r1 (wk_lst h2)
    obtain ⟨vs, g1, g2⟩ := r1.getQ h2 e2
    obtain ⟨its, rv, p, hz⟩ := I1.list g1
    exact wpAny_pyIter_list p.isList (pi_one (tk := s1.toks) I1 _ (turn_list a _)
      ⟨_, Heap.get?_push_size _ rfl, rfl, rfl⟩ fin)
  | _ => exact h1.elim
theorem starEach_one {e : Expr} {env : Env} (h : plainE e = true) : starEach [e] env = [(false, eval e env)] := by
  cases e <;> first | rfl | cases h
def rngOf (vs : List D) (S1 : Sto) : R Wk := match vs with
    | [.int j] => R.req (j < 2 ^ 62 ∧ -(2 ^ 62) ≤ j) (.ok (.rng 0 j.toNat) S1)
    | [.int i, .int j] => R.req ((-(2 ^ 62) ≤ i ∧ i < 2 ^ 62) ∧ -(2 ^ 62) ≤ j ∧ j < 2 ^ 62) (.ok (.rng i (j - i).toNat) S1)
    | _ => .no
theorem imp_argsI {τ : Sv} {H : Hp} {Rr : L2.It → Hp → Prop} {ms : Sg → Sto → R (List D)} {f : List D → Sto → R Wk} (h : tDI X.K xi W (fun σ S => (ms σ S).bind fun vs S1 => f vs S1) τ H Rr) :
    tDs X.K xi W ms τ H fun vs H1 => ∃ ι ds S, RelS X.K ι S H1 ∧ RelDs X.K ι H1 ds vs ∧ PostI X.K xi (fun c d H' => W c d τ H') ι S H1 Rr (f ds S) := by
  obtain ⟨ι, σ, S, r, g, h⟩ := h
  refine ⟨ι, σ, S, r, g, (PostI.bind h).imp ?_⟩
  rintro vs H1 ⟨ι1, ds, S1, e1, r1, q1, h1⟩
  exact ⟨ι1, ds, S1, r1, q1, h1⟩
theorem tDs.imp {ms : Sg → Sto → R (List D)} {τ : Sv} {H : Hp} {Q Q' : List V → Hp → Prop} (h : tDs X.K xi W ms τ H Q) (i : ∀ vs H1, Q vs H1 → Q' vs H1) : tDs X.K xi W ms τ H Q' :=
  let ⟨ι, σ, S, r, g, h⟩ := h
  ⟨ι, σ, S, r, g, h.imp i⟩
theorem wk_rng0 {K : Fr'} {ι : List Addr} {S : Sto} {H : Hp} {lo : Int} {n : Nat} : WkOk K ι S H (.rng lo n) (Itr lo n) := wk_rng lo n
theorem di_rng1 {a : Expr} {ms : Sg → Sto → R (List D)} {p pos : Pos} (hl : ∀ σ S vs S1, ms σ S = .ok vs S1 → vs.length = 1) (hg : Gl X "range") (hm : X.mg "range" = none) (ha : PA X [a] (tDs X.K xi W ms)) (hp : plainE a = true) :
    PI X tg (.Call (.Name "range" p) [a] [] pos) (tDI X.K xi W fun σ S => (ms σ S).bind fun vs S1 => rngOf vs S1) := (pi_range1 hg hm ha (starEach_one hp)).mono fun τ H Q h => by
  obtain ⟨ι, σ, S, r, g, h⟩ := h
  refine ⟨ι, σ, S, r, g, ?_⟩
  dsimp only at h ⊢
  cases em : ms σ S with
  | no => rw [em] at h; exact h.elim
  | exc x S1 => rw [em] at h; exact h
  | ok ds S1 =>
    rw [em] at h
    intro ι1 H1 vs e1 r1 q1
    obtain ⟨j, rfl, b1, b2, fin⟩ : ∃ j, ds = [.int j] ∧ -(2 ^ 62) ≤ j ∧ j < 2 ^ 62 ∧ PostI X.K xi (fun c d H' => W c d τ H') ι S H Q (.ok (.rng 0 j.toNat) S1) := by
      have h2 : PostI X.K xi (fun c d H' => W c d τ H') ι S H Q (rngOf ds S1) := h
      have l := hl σ S ds S1 em
      unfold rngOf at h2
      split at h2
      · obtain ⟨c, h2⟩ := PostI.req h2
        exact ⟨_, rfl, c.2, c.1, h2⟩
      · cases l
      · exact h2.elim
    cases q1 with
    | cons z zs =>
      cases zs
      cases z
      exact ⟨j, rfl, b1, b2, fin ι1 H1 _ e1 r1 wk_rng0⟩
theorem di_rng2 {a b : Expr} {ms : Sg → Sto → R (List D)} {p pos : Pos} (hl : ∀ σ S vs S1, ms σ S = .ok vs S1 → vs.length = 2) (hg : Gl X "range") (hm : X.mg "range" = none) (ha : PA X [a, b] (tDs X.K xi W ms)) (hp : plainE a = true) (hp2 : plainE b = true) :
    PI X tg (.Call (.Name "range" p) [a, b] [] pos) (tDI X.K xi W fun σ S => (ms σ S).bind fun vs S1 => rngOf vs S1) := (pi_range2 hg hm ha ((starEach_plain hp).trans (congrArg _ (starEach_one hp2))) (starEach_one hp2)).mono fun τ H Q h => by
  obtain ⟨ι, σ, S, r, g, h⟩ := h
  refine ⟨ι, σ, S, r, g, ?_⟩
  dsimp only at h ⊢
  cases em : ms σ S with
  | no => rw [em] at h; exact h.elim
  | exc x S1 => rw [em] at h; exact h
  | ok ds S1 =>
    rw [em] at h
    intro ι1 H1 vs e1 r1 q1
    obtain ⟨i, j, rfl, b, fin⟩ : ∃ i j, ds = [.int i, .int j] ∧ (-(2 ^ 62) ≤ i ∧ i < 2 ^ 62 ∧ -(2 ^ 62) ≤ j ∧ j < 2 ^ 62) ∧ PostI X.K xi (fun c d H' => W c d τ H') ι S H Q (.ok (.rng i (j - i).toNat) S1) := by
      have h2 : PostI X.K xi (fun c d H' => W c d τ H') ι S H Q (rngOf ds S1) := h
      have l := hl σ S ds S1 em
      unfold rngOf at h2
      split at h2
      · cases l
      · obtain ⟨c, h2⟩ := PostI.req h2
        exact ⟨_, _, rfl, ⟨c.1.1, c.1.2, c.2.1, c.2.2⟩, h2⟩
      · exact h2.elim
    cases q1 with
    | cons z zs =>
      cases zs with
      | cons z' zs =>
        cases zs
        cases z
        cases z'
        exact ⟨i, j, rfl, b, fin ι1 H1 _ e1 r1 wk_rng0⟩
theorem di_zip {a b : Expr} {ma mb : Sg → Sto → R D} {p pos tpos : Pos} {elts : List Expr} {kk : Nat} (hg : Gl X "zip") (hm : X.mg "zip" = none) (ha : PE X a (tD X.K xi W ma)) (hb : PE X b (tD X.K xi W mb)) (hp : plainE a = true) (hp2 : plainE b = true) :
    PI X (.Tuple elts kk tpos) (.Call (.Name "zip" p) [a, b] [] pos) (tDI X.K xi W fun σ S => (ma σ S).bind fun x S1 => (mb σ S1).bind fun y S2 => match x, y with
      | .ref m, .ref n => R.opt (getQ S2 m) fun _ => R.opt (getQ S2 n) fun _ => .ok (.zip m n) S2
      | _, _ => .no) := (pi_zip hg hm (das_cons ha (das_cons hb das_nil hp2) hp) (starEach_plain hp) (by rw [starEach_one hp2]; rfl)).mono fun τ H Q h => by
  obtain ⟨ι, σ, S, r, g, h⟩ := h
  refine ⟨ι, σ, S, r, g, ?_⟩
  dsimp only at h ⊢
  cases em : ma σ S with
  | no => rw [em] at h; exact h.elim
  | exc x S1 => rw [em] at h; exact h
  | ok d S1 =>
    rw [em] at h
    rw [R.bind_ok] at h ⊢
    cases em2 : mb σ S1 with
    | no => rw [em2] at h; exact h.elim
    | exc x S1 => rw [em2] at h; exact h
    | ok d2 S2 =>
      rw [em2] at h
      intro ι1 H1 vs e1 r1 q1
      cases q1 with
      | cons z zs =>
        cases zs with
        | cons z2 zs =>
          cases zs
          have h2 := h
          rw [R.bind_ok] at h2
          cases z with
          | ref hz =>
            cases z2 with
            | ref hz2 =>
              obtain ⟨xs, ex, h2⟩ := PostI.opt h2
              obtain ⟨ys, ey, h2⟩ := PostI.opt h2
              obtain ⟨us, g1, g2⟩ := r1.getQ hz ex
              obtain ⟨ws, f1, f2⟩ := r1.getQ hz2 ey
              exact ⟨_, _, us, ws, rfl, g1, f1, h2 ι1 H1 _ e1 r1 (wk_zip hz hz2)⟩
            | _ => exact h2.elim
          | _ => exact h2.elim
end
end Cl

/-! part Py9b -/
/-! Cl: enumerate over a text, over a list: one rule. -/
namespace Cl
open PySem PySem.Spec PyProof.Rows L2
theorem enum_endU {prog : Program} {w : World} {A : Around} {E : Value → Shared → Prop} {s : Shared} {e it : Addr} {i : Int} {old : Value} {Q : Option Value → Shared → Prop} (he : IsEnum s.heap e it i old)
    (hd : ∀ (Q : Value → Shared → Prop) (E : Value → Shared → Prop), (∀ h' x, Heap.ExtBut it s.heap h' → (∃ o, h'.get? x = some o ∧ o.cls = .type "StopIteration") → E (.ref x) { s with heap := h' }) → wpAny (model prog w) A.in1 (Builtin.SmallTypes.nextOf (.ref it)) Q E s)
    (hQ : ∀ h', Heap.ExtBut it s.heap h' → Q none { s with heap := h' }) : wpAny (model prog w) A (pyNext (.ref e)) Q E s := by
  have hT : s.TypeIs (.ref e) "enumerate" := ⟨_, he, rfl⟩
  unfold pyNext
  refine wpAny_bind (wpAny_attempt (wpAny_callSpecial?_slot (name := Str.ofString "__next__") hT F.slot_enumerate_next
    (wpAny_call_entry F.slot_enumerate_next hT F.entry_enumerate_next ?_ (F.args_enumerate_next_1 _))))
  show wpAny _ _ (field (.ref e) 2 >>= _) _ _ _
  refine wpAny_bind (wpAny_field he rfl (x := .ref it) rfl ?_)
  refine wpAny_bind (hd _ _ fun h' x he' hx' => ?_)
  obtain ⟨o, ho, hc⟩ := hx'
  refine wpAny_bind (wpAny_isInstance (T := "StopIteration") (b := true) ⟨o, ho, hc⟩ isSubtype_stop ?_)
  exact wpAny_pure (hQ _ he')
/-- the signs of a text with their numbers, each in a new pair -/
def Ites (x : Str) : L2.It :=
  ⟨fun i _ => i < x.cps.size, fun i H v H' => ∃ T c, v = .ref T ∧ H T = none ∧ H' = upd H T (.tup [.int (i : Nat), .str ⟨#[c]⟩]) ∧ x.cps[i]? = some c, fun i _ => x.cps.size ≤ i⟩
theorem turn_enumS {P : Program} {w : World} {K : PySem.W.Frag} {elts : List Expr} {kk : Nat} {tpos : Pos} (x : Str) (t : Tok) (e it : Addr) :
    Turn P w K (.Tuple elts kk tpos) (Ites x) [e, it] e (fun i h => (∃ old, IsEnum h e it ((i : Nat) : Int) old) ∧ h.IsStrIter it (strIterType x) x t i ∧ e ≠ it) where
  mem := by simp
  obj := fun i h st b hb => by
    obtain ⟨⟨old, he⟩, ⟨o, ho, hc, hd⟩, _⟩ := st
    have e' : b = e ∨ b = it := by simpa using hb
    rcases e' with z | z
    · rw [z]; exact ⟨_, he, fun v q => nomatch q⟩
    · rw [z]; exact ⟨o, ho, fun v q => by rw [hd] at q; cases q⟩
  keep := fun i h h' st k => let ⟨⟨old, he⟩, ⟨o, ho, r⟩, hne⟩ := st; ⟨⟨old, k e (by simp) _ he⟩, ⟨o, k it (by simp) o ho, r⟩, hne⟩
  item := by
    intro X hP hw hK hc i pins s σ H E I hf st hg
    subst hP hw hK
    obtain ⟨⟨old, he⟩, hit, hne⟩ := st
    have hel : e < s.heap.objs.size := Heap.lt_size he
    have hil : it < s.heap.objs.size := by obtain ⟨_, q, _⟩ := hit; exact Heap.lt_size q
    have D := Draws.text (prog := X.prog) (w := X.w) (A := X.A.in1) (I.ok.hd hc) it x t
    refine wpAny_pyNext_enum_itemD D he hit hg hne (by simpa using hne) fun u h' tk hu ho hit' hT hsz hk => ?_
    obtain ⟨c, tu, hcx, rfl⟩ := hu
    refine ⟨_, rfl, wpAny_letOwnedTupleGo_enum (s := { s with heap := h', toks := tk + 1 }) ho fun h'' he' sb => ?_⟩
    have hT2 : h''.get? s.heap.objs.size = some { cls := .type "tuple", data := .seq #[.int i tk, .str ⟨#[c]⟩ tu] } := (sb.2 _ (Nat.ne_of_gt hel)).trans hT
    have new : ObjOk X.prog X.w (upd H s.heap.objs.size (.tup [.int (i : Nat), .str ⟨#[c]⟩])) h'' s.heap.objs.size (.tup [.int (i : Nat), .str ⟨#[c]⟩]) :=
      ⟨by show 2 ≤ sizeLine; decide, [.int i tk, .str ⟨#[c]⟩ tu], .cons ⟨_, rfl⟩ (.cons ⟨_, rfl⟩ .nil), ⟨_, hT2, rfl, _, rfl⟩⟩
    have I1 : Inv X pins σ (upd H s.heap.objs.size (.tup [.int (i : Nat), .str ⟨#[c]⟩])) { s with heap := h'', toks := tk + 1 } :=
      I.turnedNew (ch := [e, it]) (fun b ob hb q => (sb.2 b (fun z => hb (by simp [z]))).trans (hk b ob (fun z => hb (by simp [z])) (fun z => hb (by simp [z])) q)) hf (Nat.le_refl _) new
    refine ⟨.ref s.heap.objs.size, _, I1, rfl, ⟨_, c, rfl, I.hok.fresh (Nat.le_refl _), rfl, hcx⟩, ⟨⟨.str ⟨#[c]⟩ tu, ?_⟩, ?_, hne⟩, fun b hb => ?_⟩
    · have e1 : ((i + 1 : Nat) : Int) = (i : Int) + 1 := by omega
      rw [e1]; exact he'
    · obtain ⟨o, ho, r⟩ := hit'
      exact ⟨o, (sb.2 it (Ne.symm hne)).trans ho, r⟩
    · have hb' : b < s.heap.objs.size := by
        have e' : b = e ∨ b = it := by simpa using hb
        rcases e' with z | z
        · rw [z]; exact hel
        · rw [z]; exact hil
      rw [upd_ne (Nat.ne_of_lt hb')]
      exact (hf b hb).1
  done := by
    intro X hP hw hK hc i pins s σ H E I hf st hg
    subst hP hw hK
    obtain ⟨⟨old, he⟩, hit, hne⟩ := st
    obtain ⟨f0, f1, f2, f3, f4, f5⟩ := hf it (by simp)
    have hx : x.cps[i]? = none := Array.getElem?_eq_none hg
    refine enum_endU he (fun Q E hE => ?_) fun h' eb => ⟨rfl, I.turned (t' := s.toks) (fun b o hb q => eb b o hb q) f0 f1 f3 f4 f5⟩
    unfold strIterType at hit
    split at hit
    · exact wpAny_nextOf_ascii_end (I.ok.hd hc) hit hx hE
    · exact wpAny_nextOf_wide_end (I.ok.hd hc) hit hx hE
  self := fun A i s Q E st h => let ⟨⟨_, he⟩, _⟩ := st; wpAny_pyIter_enum he h
/-! ### a tuple -/
def Itet (K : PySem.W.Frag) (a : Addr) : L2.It :=
  ⟨fun i H => ∃ (xs : List V) (x : V), SqT K H a xs ∧ xs[i]? = some x, fun i H v H' => ∃ T x, v = .ref T ∧ H T = none ∧ H' = upd H T (.tup [.int (i : Nat), x]) ∧ ∀ xs, SqT K H a xs → xs[i]? = some x, fun i H => ∃ xs : List V, SqT K H a xs ∧ xs.length ≤ i⟩
theorem turn_enumT {P : Program} {w : World} {K : PySem.W.Frag} {elts : List Expr} {kk : Nat} {tpos : Pos} (a e it : Addr) :
    Turn P w K (.Tuple elts kk tpos) (Itet K a) [e, it] e (fun i h => (∃ old, IsEnum h e it ((i : Nat) : Int) old) ∧ h.IsTupleIter it a i ∧ e ≠ it) where
  mem := by simp
  obj := fun i h st b hb => by
    obtain ⟨⟨old, he⟩, ⟨o, ho, hc, hd⟩, _⟩ := st
    have e' : b = e ∨ b = it := by simpa using hb
    rcases e' with z | z
    · rw [z]; exact ⟨_, he, fun v q => nomatch q⟩
    · rw [z]; exact ⟨o, ho, fun v q => by rw [hd] at q; cases q⟩
  keep := fun i h h' st k => let ⟨⟨old, he⟩, hi, hne⟩ := st; ⟨⟨old, k e (by simp) _ he⟩, hi.at fun o q => k it (by simp) o q, hne⟩
  item := by
    intro X hP hw hK hc i pins s σ H E I hf st hg
    subst hP hw hK
    obtain ⟨⟨old, he⟩, hit, hne⟩ := st
    obtain ⟨xs, x, hq, hx⟩ := hg
    obtain ⟨its, rv, p, hz⟩ := I.tuple hq
    obtain ⟨u, hu, ru⟩ := rv.get hx
    have hel : e < s.heap.objs.size := Heap.lt_size he
    have hil : it < s.heap.objs.size := by obtain ⟨_, q, _⟩ := hit; exact Heap.lt_size q
    have hal : a ≠ it := by
      intro z
      subst z
      obtain ⟨o, ho, hc, hd⟩ := hit
      obtain ⟨o2, ho2, hc2, _⟩ := p
      rw [ho] at ho2
      cases ho2
      rw [hc] at hc2
      revert hc2
      decide
    have hae : a ≠ e := by
      intro z
      subst z
      obtain ⟨o2, ho2, hc2, _⟩ := p
      have := he.symm.trans ho2
      cases this
      revert hc2
      show ¬ (Value.type "enumerate" = Value.type "tuple")
      decide
    have D := Draws.tuple (prog := X.prog) (w := X.w) (A := X.A.in1) (I.ok.hd hc) it a hal its.toArray
    have hlt : i < its.toArray.size := by
      have := (List.getElem?_eq_some_iff.mp hu).1
      simpa using this
    refine wpAny_pyNext_enum_itemD D he ⟨hit, p⟩ hlt hne (by simpa using ⟨hne, fun z => hae z.symm⟩) fun u' h' tk hu' ho hit' hT hsz hk => ?_
    have : u' = u := by
      have h2 : its[i]? = some u' := by simpa using hu'
      rw [hu] at h2
      cases h2
      rfl
    subst this
    refine ⟨_, rfl, wpAny_letOwnedTupleGo_enum (s := { s with heap := h', toks := tk + 1 }) ho fun h'' he' sb => ?_⟩
    have hT2 : h''.get? s.heap.objs.size = some { cls := .type "tuple", data := .seq #[.int i tk, u'] } := (sb.2 _ (Nat.ne_of_gt hel)).trans hT
    have new : ObjOk X.prog X.w (upd H s.heap.objs.size (.tup [.int (i : Nat), x])) h'' s.heap.objs.size (.tup [.int (i : Nat), x]) :=
      ⟨by show 2 ≤ sizeLine; decide, [.int i tk, u'], .cons ⟨_, rfl⟩ (.cons ru .nil), ⟨_, hT2, rfl, _, rfl⟩⟩
    have I1 : Inv X pins σ (upd H s.heap.objs.size (.tup [.int (i : Nat), x])) { s with heap := h'', toks := tk + 1 } :=
      I.turnedNew (ch := [e, it]) (fun b ob hb q => (sb.2 b (fun z => hb (by simp [z]))).trans (hk b ob (fun z => hb (by simp [z])) (fun z => hb (by simp [z])) q)) hf (Nat.le_refl _) new
    refine ⟨.ref s.heap.objs.size, _, I1, rfl, ⟨_, x, rfl, I.hok.fresh (Nat.le_refl _), rfl, fun ys hy => by rw [I.tuple_inj hy hq]; exact hx⟩, ⟨⟨u', ?_⟩, hit'.1.at fun o q => (sb.2 it (Ne.symm hne)).trans q, hne⟩, fun b hb => ?_⟩
    · have e1 : ((i + 1 : Nat) : Int) = (i : Int) + 1 := by omega
      rw [e1]; exact he'
    · have hb' : b < s.heap.objs.size := by
        have e' : b = e ∨ b = it := by simpa using hb
        rcases e' with z | z
        · rw [z]; exact hel
        · rw [z]; exact hil
      rw [upd_ne (Nat.ne_of_lt hb')]
      exact (hf b hb).1
  done := by
    intro X hP hw hK hc i pins s σ H E I hf st hg
    subst hP hw hK
    obtain ⟨⟨old, he⟩, hit, hne⟩ := st
    obtain ⟨xs, hq, hx⟩ := hg
    obtain ⟨its, rv, p, hz⟩ := I.tuple hq
    obtain ⟨f0, f1, f2, f3, f4, f5⟩ := hf it (by simp)
    have hl := rv.length
    exact enum_endU he (fun Q E hE => wpAny_nextOf_tuple_end (I.ok.hd hc) hit p (by simp; omega) hE) fun h' eb => ⟨rfl, I.turned (t' := s.toks) (fun b o hb q => eb b o hb q) f0 f1 f3 f4 f5⟩
  self := fun A i s Q E st h => let ⟨⟨_, he⟩, _⟩ := st; wpAny_pyIter_enum he h
/-! ### enumerate(v), v told by its iterator -/
set_option maxHeartbeats 1000000 in
theorem meets_enumerate_newV {v : Value} {o : Obj} {F : Heap → Prop} (B : Begins v o F) :
    Meets (Builtin.«enumerate.__new__» ⟨[.type "enumerate", v], []⟩) (fun _ R s => F s.heap ∧
      R (.ok (.ret (.ref (s.heap.push o).objs.size))) { s with heap := (s.heap.push o).push { cls := .type "enumerate", data := .fields #[.none, .bool false, .ref s.heap.objs.size, rawInt 0, .none, .none] } }) :=
  .of_wp fun prog w A R s h => by
    obtain ⟨hp, g, d, tk, os⟩ := s; obtain ⟨h1, h⟩ := h
    have hsub := sub_enumerate
    have q1 : ∀ {A' : Around} {E : Value → Shared → Prop} {Q : Value → Shared → Prop}, Q (.ref hp.objs.size) ⟨hp.push o, g, d, tk, os⟩ → wpAny (model prog w) A' (pyIter v) Q E ⟨hp, g, d, tk, os⟩ :=
      fun q => B.iter prog w _ _ ⟨hp, g, d, tk, os⟩ _ h1 q
    wp_walk using q1
    refine wpAny_stack_any fun st => wpAny_pure ?_
    split
    · rename_i c _ _ _ _ _
      cases (c == Value.type "enumerate")
      · wp_walk using q1
        exact ⟨_, rfl, h⟩
      · wp_walk using q1
        exact ⟨_, rfl, h⟩
    · wp_walk using q1
      exact ⟨_, rfl, h⟩
theorem call_enumV {prog : Program} {w : World} {A : Around} {E : Value → Shared → Prop} {s : Shared} {v : Value} {o : Obj} {Fh : Heap → Prop} {Q : Value → Shared → Prop} (B : Begins v o Fh) (h1 : Fh s.heap)
    (h : ∀ h', IsEnum h' (s.heap.objs.size + 1) s.heap.objs.size 0 .none → h'.get? s.heap.objs.size = some o → h'.objs.size = s.heap.objs.size + 2 →
      (∀ b o, s.heap.get? b = some o → h'.get? b = some o) → Q (.ref (s.heap.objs.size + 1)) { s with heap := h' }) :
    wpAny (model prog w) A (call (.type "enumerate") [v]) Q E s := by
  refine callType_new F.called_enumerate (by decide) (F.typeCall_enumerate_1 _) (F.newCall_enumerate_1 _) (fun obj => F.args_object_init_2 obj _) F.entry_enumerate_new
    (meets_enumerate_newV B) ⟨h1, ?_⟩
  have hz : (s.heap.push o).objs.size = s.heap.objs.size + 1 := Heap.size_push ..
  show _ ∧ _
  rw [hz]
  have he : IsEnum ((s.heap.push o).push { cls := .type "enumerate", data := .fields #[.none, .bool false, .ref s.heap.objs.size, rawInt 0, .none, .none] }) (s.heap.objs.size + 1) s.heap.objs.size 0 .none := by
    have := Heap.get?_push_size (s.heap.push o) (o := { cls := .type "enumerate", data := .fields #[.none, .bool false, .ref s.heap.objs.size, rawInt 0, .none, .none] }) rfl
    rw [hz] at this; exact this
  exact ⟨⟨_, he, rfl⟩, h _ he (Heap.get?_push_of_some _ (Heap.get?_push_size _ B.free)) (by rw [Heap.size_push, hz]) fun b o x => Heap.get?_push_of_some _ (Heap.get?_push_of_some _ x)⟩
/-- enumerate of a list, a tuple, a text -/
def iEnumA (K : PySem.W.Frag) (ta : TA) : TI := fun σ H R => ta σ H fun vs H1 => (∃ a xs, vs = [.ref a] ∧ SqL K H1 a xs ∧ R (Ite K a) H1) ∨ (∃ a xs, vs = [.ref a] ∧ SqT K H1 a xs ∧ R (Itet K a) H1) ∨ ∃ x, vs = [.str x] ∧ R (Ites x) H1
theorem pi_enumA {X : Cx} {e : Expr} {ta : TA} {p pos tpos : Pos} {elts : List Expr} {kk : Nat} (hg : Gl X "enumerate") (hm : X.mg "enumerate" = none) (ha : PA X [e] ta) (hs : starEach [e] X.env = [(false, eval e X.env)] := by rfl) :
    PI X (.Tuple elts kk tpos) (.Call (.Name "enumerate" p) [e] [] pos) (iEnumA X.K ta) := by
  refine ⟨fun pins s σ H R I h => ?_⟩
  refine Call_ (ld_blt I hg hm boot_enumerate (PyProof.Rows.callWith_type1 (thn (ha.run pos pins s σ H _ I h) fun us s1 ⟨vs, H1, I1, r1, q1⟩ => ?_) hs rfl))
  have fp : ∀ b, b ∈ [s1.heap.objs.size + 1, s1.heap.objs.size] → FpOk X pins H1 b := fun b hb => by
    have e' : b = s1.heap.objs.size + 1 ∨ b = s1.heap.objs.size := by simpa using hb
    have hle : s1.heap.objs.size ≤ b := by
      rcases e' with z | z
      · rw [z]; exact Nat.le_add_right _ _
      · rw [z]; exact Nat.le_refl _
    exact I1.fpOk hle (I1.hok.fresh hle)
  rcases q1 with ⟨a, xs, ex, hq, q⟩ | ⟨a, xs, ex, hq, q⟩ | ⟨x, ex, q⟩
  · subst ex
    cases r1 with
    | cons r rr =>
      cases rr
      cases r
      obtain ⟨its, rv, p', hz⟩ := I1.list hq
      refine call_enumerate_list p'.isList fun h' he hit hsz hk => wpAny_pyIter_enum he ?_
      have I2 : Inv X pins σ H1 { s1 with heap := h' } := I1.kept (t' := s1.toks) hk
      exact ⟨s1.heap.objs.size + 1, [s1.heap.objs.size + 1, s1.heap.objs.size], _, _, H1, rfl, I2, turn_enum a (s1.heap.objs.size + 1) s1.heap.objs.size, ⟨⟨.none, he⟩, hit, Nat.succ_ne_self _⟩, fp, q⟩
  · subst ex
    cases r1 with
    | cons r rr =>
      cases rr
      cases r
      obtain ⟨its, rv, p', hz⟩ := I1.tuple hq
      refine call_enumV (begins_tuple a its.toArray) p' fun h' he hit hsz hk => wpAny_pyIter_enum he ?_
      have I2 : Inv X pins σ H1 { s1 with heap := h' } := I1.kept (t' := s1.toks) hk
      exact ⟨s1.heap.objs.size + 1, [s1.heap.objs.size + 1, s1.heap.objs.size], _, _, H1, rfl, I2, turn_enumT a (s1.heap.objs.size + 1) s1.heap.objs.size, ⟨⟨.none, he⟩, ⟨_, hit, rfl, rfl⟩, Nat.succ_ne_self _⟩, fp, q⟩
  · subst ex
    cases r1 with
    | cons r rr =>
      cases rr
      obtain ⟨t, rfl⟩ := r
      refine call_enumV (begins_text x t) trivial fun h' he hit hsz hk => wpAny_pyIter_enum he ?_
      have I2 : Inv X pins σ H1 { s1 with heap := h' } := I1.kept (t' := s1.toks) hk
      exact ⟨s1.heap.objs.size + 1, [s1.heap.objs.size + 1, s1.heap.objs.size], _, _, H1, rfl, I2, turn_enumS x t (s1.heap.objs.size + 1) s1.heap.objs.size, ⟨⟨.none, he⟩, ⟨_, hit, rfl, rfl⟩, Nat.succ_ne_self _⟩, fp, q⟩
section
variable {K : Fr'} {xi : XI}
theorem enumD_at {ds : List D} (j i : Nat) : (enumD j ds)[i]? = ds[i]?.map fun x => .tup [.int (j + i : Nat), x] := by
  induction ds generalizing j i with
  | nil => simp [enumD]
  | cons d ds ih =>
    cases i with
    | zero => simp [enumD]
    | succ i =>
      simp only [enumD, List.getElem?_cons_succ, ih]
      rw [show j + 1 + i = j + (i + 1) by omega]
theorem wk_enmT {ι : List Addr} {S : Sto} {H : Hp} {ds : List D} {vs : List V} {a : Addr} (r0 : RelS K ι S H) (hs : SqT K H a vs) (g : RelDs K ι H ds vs) : WkOk K ι S H (.fix (enumD 0 ds)) (Itet K a) := by
  intro ι' S' H' i e r
  have hs' := Ext.tup r0 e hs
  have g' := g.mono r0 e
  refine ⟨fun z => ?_, fun d z => ?_⟩
  · have z' := Option.some.inj z
    rw [enumD_at] at z'
    exact ⟨vs, hs', g'.none (Option.map_eq_none_iff.mp z')⟩
  · have z' := Option.some.inj z
    rw [enumD_at] at z'
    obtain ⟨y, e3, rfl⟩ := Option.map_eq_some_iff.mp z'
    obtain ⟨v, g3, g4⟩ := g'.get e3
    refine ⟨⟨vs, v, hs', g3⟩, ?_⟩
    rintro x H2 ⟨T, v', rfl, nT, rfl, hx⟩
    have : v' = v := Option.some.inj ((hx vs hs').symm.trans g3)
    subst this
    have ex := Ext.put (o := .tup [.int (i : Nat), v']) r nT
    refine ⟨ex, r.put nT, .tup (.inl (.inl upd_same)) (.cons ?_ (.cons (g4.mono r ex) .nil))⟩
    rw [Nat.zero_add]
    exact .int _
theorem wk_enmS {ι : List Addr} {S : Sto} {H : Hp} {s : Tx} (hl : s.length ≤ LIM) (ha : asciiAll s = true) : WkOk K ι S H (.fix (enumD 0 (s.map fun c => .str [c]))) (Ites (SX.S s)) := by
  intro ι' S' H' i e r
  have hsz : (SX.S s).cps.size = s.length := by simp
  refine ⟨fun z => ?_, fun d z => ?_⟩
  · have z' := Option.some.inj z
    rw [enumD_at] at z'
    have := Option.map_eq_none_iff.mp z'
    rw [List.getElem?_map] at this
    have := List.getElem?_eq_none_iff.mp (Option.map_eq_none_iff.mp this)
    show (SX.S s).cps.size ≤ i
    rw [hsz]
    exact this
  · have z' := Option.some.inj z
    rw [enumD_at] at z'
    obtain ⟨y, e3, rfl⟩ := Option.map_eq_some_iff.mp z'
    rw [List.getElem?_map] at e3
    obtain ⟨c, e4, rfl⟩ := Option.map_eq_some_iff.mp e3
    have hi := (List.getElem?_eq_some_iff.mp e4).1
    refine ⟨show i < (SX.S s).cps.size by rw [hsz]; exact hi, ?_⟩
    rintro x H2 ⟨T, c', rfl, nT, rfl, hx⟩
    have : c' = c := by
      have h2 : s[i]? = some c' := by simpa using hx
      rw [e4] at h2
      cases h2
      rfl
    subst this
    have ex := Ext.put (o := .tup [.int (i : Nat), .str ⟨#[c']⟩]) r nT
    refine ⟨ex, r.put nT, .tup (.inl (.inl upd_same)) (.cons ?_ (.cons (.str (s := [c']) (show 1 ≤ LIM by decide) (ascii_sub ha fun b hb => by rw [List.mem_singleton.mp hb]; exact List.mem_of_getElem? e4)) .nil))⟩
    rw [Nat.zero_add]
    exact .int _
end
section
variable {X : Cx} {xi : XI} {W : WX}
theorem di_enm {e : Expr} {m : Sg → Sto → R D} {p pos tpos : Pos} {elts : List Expr} {kk : Nat} (hg : Gl X "enumerate") (hm : X.mg "enumerate" = none) (he : PE X e (tD X.K xi W m)) (hp : plainE e = true) :
    PI X (.Tuple elts kk tpos) (.Call (.Name "enumerate" p) [e] [] pos) (tDI X.K xi W fun σ S => (m σ S).bind fun d S1 => match d with
      | .ref n => R.opt (getQ S1 n) fun _ => .ok (.enm n) S1
      | .tup xs => .ok (.fix (enumD 0 xs)) S1
      | .str s => .ok (.fix (enumD 0 (s.map fun c => .str [c]))) S1
      | _ => .no) := (pi_enumA hg hm (das_cons he das_nil hp) (starEach_one hp)).mono fun τ H Q h => by
  obtain ⟨ι, σ, S, r, g, h⟩ := h
  refine ⟨ι, σ, S, r, g, ?_⟩
  dsimp only at h ⊢
  cases em : m σ S with
  | no => rw [em] at h; exact h.elim
  | exc x S1 => rw [em] at h; exact h
  | ok d S1 =>
    rw [em] at h
    intro ι1 H1 vs e1 r1 q1
    cases q1 with
    | cons z zs =>
      cases zs
      have h2 := h
      rw [R.bind_ok] at h2
      cases z with
      | ref hz =>
        obtain ⟨xs, ex, h2⟩ := PostI.opt h2
        obtain ⟨us, g1, g2⟩ := r1.getQ hz ex
        exact .inl ⟨_, us, rfl, g1, h2 ι1 H1 _ e1 r1 (wk_enm hz)⟩
      | tup hs hr => exact .inr (.inl ⟨_, _, rfl, hs, h2 ι1 H1 _ e1 r1 (wk_enmT r1 hs hr)⟩)
      | str hl ha => exact .inr (.inr ⟨_, rfl, h2 ι1 H1 _ e1 r1 (wk_enmS hl ha)⟩)
      | _ => exact h2.elim
end
end Cl

/-! part Py10 -/
/-! Cl: targets, statements, loops, comprehensions. -/
namespace Cl
open PySem PySem.Spec PyProof.Rows L2
/-! ### how a statement ends -/
section
variable {K : Fr'} {xi : XI}
def PostS (K : Fr') (xi : XI) (W : WX) (G : Ends) (ι : List Addr) (S : Sto) (H : Hp) : RS → Prop
  | .next σ' S' => ∀ ι' H' τ', Ext ι S H ι' S' H' → RelS K ι' S' H' → RelG K ι' H' σ' τ' → G.nx τ' H'
  | .ret d S' => ∀ ι' H' v, Ext ι S H ι' S' H' → RelS K ι' S' H' → RelD K ι' H' d v → G.rt v H'
  | .brk σ' S' => ∀ ι' H' τ', Ext ι S H ι' S' H' → RelS K ι' S' H' → RelG K ι' H' σ' τ' → G.bk τ' H'
  | .cont σ' S' => ∀ ι' H' τ', Ext ι S H ι' S' H' → RelS K ι' S' H' → RelG K ι' H' σ' τ' → G.ct τ' H'
  | .exc x σ' S' => ∀ ι' H' τ' cls dd, Ext ι S H ι' S' H' → RelS K ι' S' H' → RelG K ι' H' σ' τ' → RelX K xi ι' S' H' x cls dd → W cls dd τ' H'
  | .no => False
variable {W : WX} {G : Ends} {ι ι1 : List Addr} {S S1 : Sto} {H H1 : Hp}
theorem PostS.mono (e : Ext ι S H ι1 S1 H1) {m : RS} (h : PostS K xi W G ι S H m) : PostS K xi W G ι1 S1 H1 m := by
  cases m with
  | next σ' S' => exact fun ι' H' τ' e' r' q => h ι' H' τ' (e.trans e') r' q
  | ret σ' S' => exact fun ι' H' τ' e' r' q => h ι' H' τ' (e.trans e') r' q
  | brk σ' S' => exact fun ι' H' τ' e' r' q => h ι' H' τ' (e.trans e') r' q
  | cont σ' S' => exact fun ι' H' τ' e' r' q => h ι' H' τ' (e.trans e') r' q
  | exc x σ' S' => exact fun ι' H' τ' cls dd e' r' q => h ι' H' τ' cls dd (e.trans e') r' q
  | no => exact h
def tSm (K : Fr') (xi : XI) (W : WX) (m : Sg → Sto → RS) : TS := fun G τ H => ∃ ι σ S, RelS K ι S H ∧ RelG K ι H σ τ ∧ PostS K xi W G ι S H (m σ S)
theorem PostS.at {α β : Type} {rel : List Addr → Hp → α → β → Prop} {σ : Sg} {τ : Sv} (r : RelS K ι S H) (g : RelG K ι H σ τ) {m : R α} {f : α → Sto → RS} (h : PostS K xi W G ι S H (m.at σ f)) :
    PostR K xi rel (fun c d H' => W c d τ H') ι S H (fun y H1 => ∃ ι1 a S1, Ext ι S H ι1 S1 H1 ∧ RelS K ι1 S1 H1 ∧ rel ι1 H1 a y ∧ PostS K xi W G ι1 S1 H1 (f a S1)) m := by
  cases m with
  | ok a S' => exact fun ι' H' y e r' q => ⟨ι', a, S', e, r', q, h.mono e⟩
  | exc x S' => exact fun ι' H' cls dd e r' q => h ι' H' τ cls dd e r' (g.mono r e) q
  | no => exact h
theorem PostS.opt {γ : Type} {o : Option γ} {f : γ → RS} (h : PostS K xi W G ι S H (RS.opt o f)) : ∃ a, o = some a ∧ PostS K xi W G ι S H (f a) := by
  cases o with
  | none => exact h.elim
  | some a => exact ⟨a, rfl, h⟩
theorem PostS.seq {m : RS} {f : Sg → Sto → RS} (h : PostS K xi W G ι S H (m.seq f)) : PostS K xi W { G with nx := fun τ H => tSm K xi W f G τ H } ι S H m := by
  cases m with
  | next σ' S' => exact fun ι' H' τ' e r q => ⟨ι', σ', S', r, q, h.mono e⟩
  | ret σ' S' => exact h
  | brk σ' S' => exact h
  | cont σ' S' => exact h
  | exc x σ' S' => exact h
  | no => exact h
theorem PostS.now {σ : Sg} {τ : Sv} (h : PostS K xi W G ι S H (.next σ S)) (r : RelS K ι S H) (g : RelG K ι H σ τ) : G.nx τ H := h ι H τ .refl r g
end

/-! ### targets -/
def setV (τ : Sv) : List Nat → List V → Sv
  | i :: is, v :: vs => setV (τ.set i (some v)) is vs
  | _, _ => τ
theorem RelG.setAll {K : Fr'} {ι : List Addr} {H : Hp} : ∀ {is : List Nat} {σ : Sg} {τ : Sv} {ds : List D} {vs : List V}, RelG K ι H σ τ → RelDs K ι H ds vs → RelG K ι H (Cl.setAll σ is ds) (setV τ is vs)
  | [], _, _, _, _, g, _ => g
  | _ :: _, _, _, _, _, g, .nil => g
  | i :: is, _, _, _, _, g, .cons h hs => RelG.setAll (is := is) (g.set i h) hs
def gAll (is : List Nat) : TGs := fun vs τ H Q => vs.length = is.length ∧ Q (setV τ is vs) H
/-- what a target takes -/
def tTg (K : Fr') (tg : List Nat) (tup : Bool) : TG := fun v τ H Q => match tup with
  | false => ∃ i, tg = [i] ∧ Q (τ.set i (some v)) H
  | true => ∃ a xs, v = .ref a ∧ (SqT K H a xs ∨ SqL K H a xs) ∧ xs.length = tg.length ∧ Q (setV τ tg xs) H
theorem tgt_ok {K : Fr'} {ι : List Addr} {S : Sto} {H : Hp} {tg : List Nat} {tup : Bool} {d : D} {v : V} {σ σ' : Sg} {τ : Sv} {Q : L2.St → Hp → Prop} (r : RelS K ι S H) (g : RelG K ι H σ τ) (q : RelD K ι H d v) (h : target tg tup d σ S = some σ')
    (k : ∀ τ', RelG K ι H σ' τ' → Q τ' H) : tTg K tg tup v τ H Q := by
  cases tup with
  | false =>
    cases tg with
    | nil => cases h
    | cons i is =>
      cases is with
      | cons _ _ => cases h
      | nil =>
        cases h
        exact ⟨i, rfl, k _ (g.set i q)⟩
  | true =>
    cases q with
    | tup h1 h2 =>
      simp only [target] at h
      split at h
      · rename_i hl
        cases h
        exact ⟨_, _, rfl, .inl h1, by rw [← h2.length]; exact hl, k _ (g.setAll h2)⟩
      · cases h
    | ref h1 =>
      simp only [target] at h
      split at h
      · rename_i ds e
        obtain ⟨vs, g1, g2⟩ := r.getQ h1 e
        split at h
        · rename_i hl
          cases h
          exact ⟨_, vs, rfl, .inr g1, by rw [← g2.length]; exact hl, k _ (g.setAll g2)⟩
        · cases h
      · cases h
    | _ => cases h
/-- the names of a target -/
def namesOf : List Expr → Option (List Str)
  | [] => some []
  | .Name x _ :: es => (namesOf es).map (x :: ·)
  | _ => none
def locB (sc : Scope) (x : Str) : Bool := match sc.names.lookup x with
  | some .local => true
  | some .cell => true
  | _ => false
theorem loc_of {sc : Scope} {x : Str} (h : locB sc x = true) : Loc sc x := by
  unfold locB at h
  split at h
  · rename_i e; exact .inl e
  · rename_i e; exact .inr e
  · cases h
section
variable {X : Cx} {pos : Pos}
/-- a name that may be stored -/
structure Stor (X : Cx) (i : Nat) (x : Str) : Prop where
  ix : X.N[i]? = some x
  loc : Loc X.env.scope x
  fn : X.fn x = true ∨ X.env.scope.names.lookup x = some .local
inductive Stors (X : Cx) : List Nat → List Expr → Prop
  | nil : Stors X [] []
  | cons {i : Nat} {x : Str} {p : Pos} {is : List Nat} {es : List Expr} : Stor X i x → Stors X is es → Stors X (i :: is) (.Name x p :: es)
theorem pgs_names (hN : X.N.Nodup) : ∀ {is : List Nat} {es : List Expr}, Stors X is es → PGs X es (gAll is)
  | _, _, .nil => ⟨fun pins s σ H vs us Q I r h => by
      obtain ⟨e, h⟩ := h
      cases vs with
      | nil => exact pgs_nil.run pins s σ H [] us Q I r ⟨rfl, h⟩
      | cons _ _ => cases e⟩
  | _, _, .cons s t => ⟨fun pins sh σ H vs us Q I r h => by
      obtain ⟨e, h⟩ := h
      cases vs with
      | nil => cases e
      | cons v vs => exact (pgs_cons (pg_name hN s.ix s.loc s.fn) (pgs_names hN t)).run pins sh σ H (v :: vs) us Q I r ⟨v, vs, rfl, by simpa using e, h⟩⟩
theorem Stors.length : ∀ {is : List Nat} {es : List Expr}, Stors X is es → (assignEach es X.env).length = is.length
  | _, _, .nil => rfl
  | _, _, .cons s t => by
    have := Stors.length t
    simp [assignEach, this]
theorem Stors.plain : ∀ {is : List Nat} {es : List Expr}, Stors X is es → (assignEach es X.env).findIdx? (·.1) = none
  | _, _, .nil => rfl
  | _, _, .cons s t => by
    have := Stors.plain t
    simp [assignEach, List.findIdx?_cons, this]
/-- a target, whole -/
def TgOk (X : Cx) (tg : List Nat) (tup : Bool) (e : Expr) : Prop := match tup with
  | false => ∃ i x p, tg = [i] ∧ e = .Name x p ∧ Stor X i x
  | true => ∃ es k p, e = .Tuple es k p ∧ Stors X tg es
theorem pg_tg {tg : List Nat} {tup : Bool} {e : Expr} (hc : X.calm = true) (hN : X.N.Nodup) (ok : TgOk X tg tup e) : PG X e (tTg X.K tg tup) := by
  cases tup with
  | false =>
    obtain ⟨i, x, p, rfl, rfl, s⟩ := ok
    refine ⟨fun pins sh σ H v u Q I r h => ?_⟩
    obtain ⟨j, e, h⟩ := h
    cases e
    exact (pg_name hN s.ix s.loc s.fn).run pins sh σ H v u Q I r h
  | true =>
    obtain ⟨es, k, p, rfl, s⟩ := ok
    refine ⟨fun pins sh σ H v u Q I r h => ?_⟩
    obtain ⟨a, xs, rfl, hq, hl, h⟩ := h
    rcases hq with hq | hq
    · exact (pg_tup hc (pgs_names hN s) s.length s.plain).run pins sh σ H _ u Q I r ⟨a, xs, rfl, hq, hl, hl, h⟩
    · exact (pg_lst hc (pgs_names hN s) s.length s.plain).run pins sh σ H _ u Q I r ⟨a, xs, rfl, hq, hl, hl, h⟩
end

/-! ### small statements -/
section
variable {X : Cx} {xi : XI} {W : WX} {pos : Pos}
def notComp : Expr → Bool
  | .ListComp .. => false
  | .SetComp .. => false
  | .DictComp .. => false
  | _ => true
theorem swaps_plain {e : Expr} {t : Option Expr} {l : Nat} {env : Env} (h : notComp e = true) : swapsWith e t l env = pure false := by
  cases e <;> first | rfl | cases h
theorem dss_nil : PSs X [] (tSm X.K xi W fun σ S => .next σ S) := pss_nil.mono fun G τ H ⟨_, _, _, r, g, h⟩ => h.now r g
theorem dss_one {st : Stmt} {m : Sg → Sto → RS} (h : PS X st (tSm X.K xi W m)) : PSs X [st] (tSm X.K xi W m) := pss_one h
theorem dss_cons {st s2 : Stmt} {rest : List Stmt} {m m2 : Sg → Sto → RS} (h : PS X st (tSm X.K xi W m)) (h2 : PSs X (s2 :: rest) (tSm X.K xi W m2)) : PSs X (st :: s2 :: rest) (tSm X.K xi W fun σ S => (m σ S).seq m2) :=
  (pss_cons h h2).mono fun G τ H ⟨ι, σ, S, r, g, h⟩ => ⟨ι, σ, S, r, g, h.seq⟩
theorem ds_set {i : Nat} {x : Str} {p : Pos} {e : Expr} {m : Sg → Sto → R D} (hN : X.N.Nodup) (s : Stor X i x) (he : PE X e (tD X.K xi W m)) (hs : swapsWith e (some (.Name x p)) pos.line X.env = pure false) :
    PS X (.Assign [.Name x p] e pos) (tSm X.K xi W fun σ S => (m σ S).at σ fun d S1 => .next (σ.set i (some d)) S1) := (ps_set hN s.ix s.loc he hs s.fn).mono fun G τ H ⟨ι, σ, S, r, g, h⟩ => by
  refine ⟨ι, σ, S, r, g, (PostS.at r g h).imp ?_⟩
  rintro y H1 ⟨ι1, d, S1, e1, r1, q1, h1⟩
  exact h1.now r1 ((g.mono r e1).set i q1)
theorem ds_sets {tg : List Nat} {e : Expr} {es : List Expr} {k : Nat} {p : Pos} {m : Sg → Sto → R D} (hc : X.calm = true) (hN : X.N.Nodup) (ok : Stors X tg es) (he : PE X e (tD X.K xi W m)) (hs : swapsWith e (some (.Tuple es k p)) pos.line X.env = pure false)
    (hw : swappedStores [.Tuple es k p] e X.env = pure none) :
    PS X (.Assign [.Tuple es k p] e pos) (tSm X.K xi W fun σ S => (m σ S).at σ fun d S1 => RS.opt (target tg true d σ S1) fun σ1 => .next σ1 S1) :=
  (ps_asg he (pg_tg hc hN (tup := true) ⟨es, k, p, rfl, ok⟩) hs hw (by simp [assignEach])).mono fun G τ H ⟨ι, σ, S, r, g, h⟩ => by
    refine ⟨ι, σ, S, r, g, (PostS.at r g h).imp ?_⟩
    rintro y H1 ⟨ι1, d, S1, e1, r1, q1, h1⟩
    obtain ⟨σ1, hσ, h1⟩ := PostS.opt h1
    exact tgt_ok r1 (g.mono r e1) q1 hσ fun τ' g' => h1.now r1 g'
theorem ds_expr {e : Expr} {m : Sg → Sto → R D} (he : PE X e (tD X.K xi W m)) (hs : notComp e = true) : PS X (.Expr e pos) (tSm X.K xi W fun σ S => (m σ S).at σ fun _ S1 => .next σ S1) :=
  (ps_expr he (swaps_plain hs)).mono fun G τ H ⟨ι, σ, S, r, g, h⟩ => by
    refine ⟨ι, σ, S, r, g, (PostS.at r g h).imp ?_⟩
    rintro y H1 ⟨ι1, d, S1, e1, r1, q1, h1⟩
    exact h1.now r1 (g.mono r e1)
theorem ds_ret {e : Expr} {m : Sg → Sto → R D} (he : PE X e (tD X.K xi W m)) : PS X (.Return (some e) pos) (tSm X.K xi W fun σ S => (m σ S).at σ fun d S1 => .ret d S1) :=
  (ps_ret he).mono fun G τ H ⟨ι, σ, S, r, g, h⟩ => by
    refine ⟨ι, σ, S, r, g, (PostS.at r g h).imp ?_⟩
    rintro y H1 ⟨ι1, d, S1, e1, r1, q1, h1⟩
    exact h1 ι1 H1 y .refl r1 q1
theorem ds_retn : PS X (.Return none pos) (tSm X.K xi W fun _ S => .ret .non S) := ps_retN.mono fun G τ H ⟨ι, σ, S, r, g, h⟩ => h ι H .non .refl r .non
theorem ds_pass : PS X (.Pass pos) (tSm X.K xi W fun σ S => .next σ S) := ps_pass.mono fun G τ H ⟨ι, σ, S, r, g, h⟩ => h.now r g
theorem ds_brk : PS X (.Break pos) (tSm X.K xi W fun σ S => .brk σ S) := ps_break.mono fun G τ H ⟨ι, σ, S, r, g, h⟩ => h ι H τ .refl r g
theorem ds_cont : PS X (.Continue pos) (tSm X.K xi W fun σ S => .cont σ S) := ps_continue.mono fun G τ H ⟨ι, σ, S, r, g, h⟩ => h ι H τ .refl r g
theorem ds_doc {x j p} : PS X (.Expr (.Constant (.str x) j p) pos) (tSm X.K xi W fun σ S => .next σ S) := ps_doc.mono fun G τ H ⟨ι, σ, S, r, g, h⟩ => h.now r g
theorem ds_if {c : Expr} {a b : List Stmt} {mc : Sg → Sto → R D} {ma mb : Sg → Sto → RS} (hc : PT X c (tDT X.K xi W (tstD mc))) (ha : PSs X a (tSm X.K xi W ma)) (hb : PSs X b (tSm X.K xi W mb)) :
    PS X (.If c a b pos) (tSm X.K xi W fun σ S => (mc σ S).at σ fun t S1 => RS.opt (truth S1 t) fun k => if k then ma σ S1 else mb σ S1) :=
  (ps_if hc ha hb).mono fun G τ H ⟨ι, σ, S, r, g, h⟩ => by
    have h' : PostS X.K xi W G ι S H ((tstD mc σ S).at σ fun k S1 => if k then ma σ S1 else mb σ S1) := by
      unfold tstD
      cases e : mc σ S with
      | ok x S1 =>
        simp only [e, R.bind_ok, R.at_ok] at h ⊢
        cases e2 : truth S1 x with
        | none => rw [e2] at h; exact h
        | some k => rw [e2] at h; exact h
      | exc x S1 => simp only [e] at h; exact h
      | no => simp only [e] at h; exact h
    refine ⟨ι, σ, S, r, g, (PostS.at r g h').imp ?_⟩
    rintro k H1 ⟨ι1, k', S1, e1, r1, rfl, h1⟩
    cases k' with
    | true => exact iteT ⟨ι1, σ, S1, r1, g.mono r e1, h1⟩
    | false => exact iteF ⟨ι1, σ, S1, r1, g.mono r e1, h1⟩
end
end Cl

/-! part Py11 -/
/-! Cl: name += e, a, b = x, y, o[i] = e, while, for, comprehensions. -/
namespace Cl
open PySem PySem.Spec PyProof.Rows L2
section
variable {X : Cx} {xi : XI} {W : WX} {pos : Pos}
/-! ### name op= e -/
theorem iopr_add : OpR X (inplaceOp .Add) (rD2 X.K xi (augop .add)) := by
  rintro pins s τ H x y v u Q I rx ry ⟨ι, S, d, e, E, r, qd, qe, h⟩
  cases qd with
  | int i =>
    cases qe with
    | int j => exact iop_add pins s τ H _ _ v u Q I rx ry ⟨i, j, rfl, rfl, h.now r (.int _)⟩
    | _ => exact False.elim h
  | str h1 h2 =>
    rename_i s1
    cases qe with
    | str h3 h4 =>
      rename_i s2
      obtain ⟨hl, h⟩ := PostR.req (show PostR X.K xi (RelD X.K) E ι S H Q (R.req (s1.length + s2.length ≤ LIM) (.ok (.str (s1 ++ s2)) S)) from h)
      refine iop_add_str pins s τ H _ _ v u Q I rx ry ⟨_, _, rfl, rfl, by rw [SX.S_len, SX.S_len, ← LIM_eq]; exact hl, ?_⟩
      rw [SX.S_cat]
      exact h.now r (.str (by rw [List.length_append]; exact hl) (ascii_append h2 h4))
    | _ => exact False.elim h
  | ref h1 =>
    rename_i m a
    cases qe with
    | ref h2 =>
      rename_i n b
      obtain ⟨s1, e1, h⟩ := PostR.opt (show PostR X.K xi (RelD X.K) E ι S H Q (R.opt (getL S m) fun s => R.opt (getL S n) fun t => R.req (s.length + t.length ≤ LIM) (.ok (.ref m) (S.set m (.lst (s ++ t))))) from h)
      obtain ⟨s2, e2, h⟩ := PostR.opt h
      obtain ⟨hl, h⟩ := PostR.req h
      obtain ⟨hS, vs, f1, g1⟩ := r.getL h1 e1
      obtain ⟨_, us, f2, g2⟩ := r.getL h2 e2
      exact iop_ext pins s τ H _ _ v u Q I rx ry ⟨a, b, vs, us, rfl, rfl, f1, f2, by rw [← g1.length, ← g2.length, ← LIM_eq]; exact hl, h.wr r h1 hS (g1.append g2) (.ref h1)⟩
    | _ => exact False.elim h
  | _ => exact False.elim h
theorem iopr_sub : OpR X (inplaceOp .Sub) (rD2 X.K xi (augop .sub)) := by
  rintro pins s τ H x y v u Q I rx ry ⟨ι, S, d, e, E, r, qd, qe, h⟩
  cases qd with
  | int i =>
    cases qe with
    | int j => exact iop_sub pins s τ H _ _ v u Q I rx ry ⟨i, j, rfl, rfl, h.now r (.int _)⟩
    | _ => exact False.elim h
  | _ => exact False.elim h
theorem iopr_all (o : Op) : OpR X (inplaceOp (opOf o)) (rD2 X.K xi (augop o)) := by
  cases o with
  | add => exact iopr_add
  | sub => exact iopr_sub
  | _ => rintro pins s τ H x y v u Q I rx ry ⟨ι, S, d, e, E, r, qd, qe, h⟩; exact False.elim h
theorem ds_aug {i : Nat} {x : Str} {p : Pos} {o : Op} {e : Expr} {m : Sg → Sto → R D} (hN : X.N.Nodup) (s : Stor X i x) (he : PE X e (tD X.K xi W m)) :
    PS X (.AugAssign (.Name x p) (opOf o) e pos) (tSm X.K xi W fun σ S => match σ[i]? with
      | some (some x) => (m σ S).at σ fun y S1 => (augop o x y S1).at σ fun z S2 => .next (σ.set i (some z)) S2
      | _ => .no) := (ps_aug hN s.ix s.loc he (iopr_all (xi := xi) o) s.fn).mono fun G τ H ⟨ι, σ, S, r, g, h⟩ => by
  dsimp only at h
  cases ed : σ[i]? with
  | none => rw [ed] at h; exact h.elim
  | some od =>
    cases od with
    | none => rw [ed] at h; exact h.elim
    | some d =>
      rw [ed] at h
      obtain ⟨v, h1, h2⟩ := g.at_ i d ed
      refine ⟨v, h1, ι, σ, S, r, g, (PostS.at r g h).imp ?_⟩
      rintro y H1 ⟨ι1, e', S1, e1, r1, q1, h1⟩
      have g1 := g.mono r e1
      refine ⟨ι1, S1, d, e', _, r1, h2.mono r e1, q1, (PostS.at r1 g1 h1).imp ?_⟩
      rintro z H2 ⟨ι2, z', S2, e2, r2, q2, h2⟩
      exact h2.now r2 ((g1.mono r1 e2).set i q2)
/-! ### o[i] = e -/
theorem swaps_sub {e o i : Expr} {p : Pos} {l : Nat} {env : Env} : swapsWith e (some (.Subscript o i p)) l env = pure false := by cases e <;> rfl
theorem ds_seti {o i e : Expr} {p : Pos} {mo mi me : Sg → Sto → R D} (ho : PE X o (tD X.K xi W mo)) (hi : PE X i (tD X.K xi W mi)) (he : PE X e (tD X.K xi W me)) (hn : notSlice i = true) :
    PS X (.Assign [.Subscript o i p] e pos) (tSm X.K xi W fun σ S => (me σ S).at σ fun v S1 => (mo σ S1).at σ fun x S2 => (mi σ S2).at σ fun y S3 => RS.opt (Cl.setItem x y v S3) fun S4 => .next σ S4) :=
  (ps_asg he (pg_sub ho hi set_list (by cases i <;> first | (intro _; rfl) | cases hn)) (show swapsWithSole [.Subscript o i p] e pos.line X.env = pure false from swaps_sub (o := o) (i := i) (p := p) (l := pos.line) (env := X.env)) (by rfl) (by rfl)).mono fun G τ H ⟨ι, σ, S, r, g, h⟩ => by
    refine ⟨ι, σ, S, r, g, (PostS.at r g h).imp ?_⟩
    rintro v H1 ⟨ι1, d, S1, e1, r1, q1, h1⟩
    have g1 := g.mono r e1
    refine ⟨ι1, σ, S1, r1, g1, (PostS.at r1 g1 h1).imp ?_⟩
    rintro x H2 ⟨ι2, d2, S2, e2, r2, q2, h2⟩
    have g2 := g1.mono r1 e2
    refine ⟨ι2, σ, S2, r2, g2, (PostS.at r2 g2 h2).imp ?_⟩
    rintro y H3 ⟨ι3, d3, S3, e3, r3, q3, h3⟩
    obtain ⟨S4, hS, h3⟩ := PostS.opt h3
    have g3 := g2.mono r2 e3
    have q1' := (q1.mono r1 e2).mono r2 e3
    cases q2 with
    | ref hm =>
      rename_i m a
      have hm' := e3.get hm
      cases q3 with
      | int k =>
        simp only [Cl.setItem] at hS
        split at hS
        · rename_i xs ex
          obtain ⟨j, hj, rfl⟩ := Option.map_eq_some_iff.mp hS
          obtain ⟨h0, vs, f1, f2⟩ := r3.getL hm' ex
          have f3 := f2.set q1' j
          have ew : Ext ι3 S3 H3 ι3 (S3.set m (.lst (xs.set j d))) (upd H3 a (.lst (vs.set j v))) := Ext.write hm' h0 rfl rfl
          exact ⟨a, vs, k, j, rfl, rfl, f1, by rw [← f2.length]; exact hj, h3 ι3 _ τ ew (r3.write hm' h0 rfl f3) (g3.mono r3 ew)⟩
        · cases hS
      | _ => cases hS
    | _ => cases hS
/-! ### a, b = x, y -/
theorem ds_par0 {is : List Nat} {ts es : List Expr} {k k2 : Nat} {pt pt2 : Pos} {ms : Sg → Sto → R (List D)} (hc : X.calm = true) (hN : X.N.Nodup) (ok : Stors X is ts) (hl : is.length ≤ LIM) (ha : PA X es (tDs X.K xi W ms))
    (hw : swappedStores [.Tuple ts k pt] (.Tuple es k2 pt2) X.env = pure none) :
    PS X (.Assign [.Tuple ts k pt] (.Tuple es k2 pt2) pos) (tSm X.K xi W fun σ S => (ms σ S).at σ fun ds S1 => if ds.length = is.length then .next (Cl.setAll σ is ds) S1 else .no) :=
  (ps_asg (pe_tup ha) (pg_tup hc (pgs_names hN ok) ok.length ok.plain) rfl hw (by simp [assignEach])).mono fun G τ H ⟨ι, σ, S, r, g, h⟩ => by
    refine ⟨ι, σ, S, r, g, (PostS.at r g h).imp ?_⟩
    rintro vs H1 ⟨ι1, ds, S1, e1, r1, q1, h1⟩
    split at h1
    · rename_i hd
      have hv : vs.length = is.length := by rw [← q1.length]; exact hd
      refine ⟨by rw [hv, ← LIM_eq]; exact hl, fun p hp => ⟨p, vs, rfl, .inl (.inl upd_same), hv, hv, ?_⟩⟩
      have ex := Ext.put (o := .tup vs) r1 hp
      exact h1 ι1 _ _ ex (r1.put hp) (((g.mono r e1).mono r1 ex).setAll (q1.mono r1 ex))
    · exact h1.elim
theorem ds_par2 {i j : Nat} {x y : Str} {a b : Expr} {px py pt pt2 : Pos} {kt k2} {ms : Sg → Sto → R (List D)} (hc : X.calm = true) (hN : X.N.Nodup) (hi : X.N[i]? = some x) (hj : X.N[j]? = some y) (hij : i ≠ j)
    (hx : X.env.scope.names.lookup x = some .local) (hy : X.env.scope.names.lookup y = some .local) (ha : PA X [a, b] (tDs X.K xi W ms))
    (hw : swappedStores [.Tuple [.Name x px, .Name y py] kt pt] (.Tuple [a, b] k2 pt2) X.env = pure (some [x, y])) :
    PS X (.Assign [.Tuple [.Name x px, .Name y py] kt pt] (.Tuple [a, b] k2 pt2) pos) (tSm X.K xi W fun σ S => (ms σ S).at σ fun ds S1 => if ds.length = [i, j].length then .next (Cl.setAll σ [i, j] ds) S1 else .no) :=
  (ps_par hc hN hi hj hij hx hy ha hw rfl).mono fun G τ H ⟨ι, σ, S, r, g, h⟩ => by
    refine ⟨ι, σ, S, r, g, (PostS.at r g h).imp ?_⟩
    rintro vs H1 ⟨ι1, ds, S1, e1, r1, q1, h1⟩
    split at h1
    · rename_i hd
      have g1 := (g.mono r e1).setAll (is := [i, j]) q1
      have fin := h1.now r1 g1
      cases q1 with
      | nil => cases hd
      | cons z zs =>
        cases zs with
        | nil => cases hd
        | cons z2 zs =>
          cases zs with
          | nil => exact ⟨_, _, rfl, fin⟩
          | cons _ _ => simp at hd
    · exact h1.elim
theorem ds_par3 {i j l : Nat} {x y z : Str} {a b c : Expr} {px py pz pt pt2 : Pos} {kt k2} {ms : Sg → Sto → R (List D)} (hc : X.calm = true) (hN : X.N.Nodup) (hi : X.N[i]? = some x) (hj : X.N[j]? = some y) (hl : X.N[l]? = some z) (hij : i ≠ j) (hil : i ≠ l) (hjl : j ≠ l)
    (hx : X.env.scope.names.lookup x = some .local) (hy : X.env.scope.names.lookup y = some .local) (hz : X.env.scope.names.lookup z = some .local) (ha : PA X [a, b, c] (tDs X.K xi W ms))
    (hw : swappedStores [.Tuple [.Name x px, .Name y py, .Name z pz] kt pt] (.Tuple [a, b, c] k2 pt2) X.env = pure (some [x, y, z])) :
    PS X (.Assign [.Tuple [.Name x px, .Name y py, .Name z pz] kt pt] (.Tuple [a, b, c] k2 pt2) pos) (tSm X.K xi W fun σ S => (ms σ S).at σ fun ds S1 => if ds.length = [i, j, l].length then .next (Cl.setAll σ [i, j, l] ds) S1 else .no) :=
  (ps_par3 hc hN hi hj hl hij hil hjl hx hy hz ha hw rfl).mono fun G τ H ⟨ι, σ, S, r, g, h⟩ => by
    refine ⟨ι, σ, S, r, g, (PostS.at r g h).imp ?_⟩
    rintro vs H1 ⟨ι1, ds, S1, e1, r1, q1, h1⟩
    split at h1
    · rename_i hd
      have g1 := (g.mono r e1).setAll (is := [i, j, l]) q1
      have fin := h1.now r1 g1
      cases q1 with
      | nil => cases hd
      | cons z zs =>
        cases zs with
        | nil => cases hd
        | cons z2 zs =>
          cases zs with
          | nil => cases hd
          | cons z3 zs =>
            cases zs with
            | nil => exact ⟨_, _, _, rfl, fin⟩
            | cons _ _ => simp at hd
    · exact h1.elim

/-! ### while -/
theorem PostS.turn {K : Fr'} {G : Ends} {ι : List Addr} {S : Sto} {H : Hp} {m : RS} {k : Sg → Sto → RS} (h : PostS K xi W G ι S H (match m with
      | .next σ1 S1 => k σ1 S1
      | .cont σ1 S1 => k σ1 S1
      | .brk σ1 S1 => .next σ1 S1
      | r => r)) {N : L2.St → Hp → Prop} (hk : ∀ ι' σ' S' H' τ', Ext ι S H ι' S' H' → RelS K ι' S' H' → RelG K ι' H' σ' τ' → PostS K xi W G ι S H (k σ' S') → N τ' H') : PostS K xi W { G with nx := N, ct := N, bk := G.nx } ι S H m := by
  cases m with
  | next σ1 S1 => exact fun ι' H' τ' e r g => hk ι' σ1 S1 H' τ' e r g h
  | cont σ1 S1 => exact fun ι' H' τ' e r g => hk ι' σ1 S1 H' τ' e r g h
  | brk σ1 S1 => exact h
  | ret d S1 => exact h
  | exc x σ1 S1 => exact h
  | no => exact h
theorem ds_while {c : Expr} {body : List Stmt} {mc : Sg → Sto → R Bool} {mb : Sg → Sto → RS} (hp : PassesOwn (model X.prog X.w) X.A X.env X.xe) (hc : PT X c (tDT X.K xi W mc)) (hb : PSs X body (tSm X.K xi W mb)) :
    PS X (.While c body [] pos) (tSm X.K xi W fun σ S => whileLoop mc mb FUEL σ S) := (ps_while hp hc hb).mono fun G τ H ⟨ι, σ, S, r, g, h⟩ => by
  refine ⟨fun m τ H => ∃ ι σ S, RelS X.K ι S H ∧ RelG X.K ι H σ τ ∧ PostS X.K xi W G ι S H (whileLoop mc mb m σ S), ⟨FUEL, ι, σ, S, r, g, h⟩, ?_⟩
  rintro m τ H ⟨ι, σ, S, r, g, h⟩
  cases m with
  | zero => exact h.elim
  | succ n =>
    unfold whileLoop at h
    refine ⟨ι, σ, S, r, g, (PostS.at r g h).imp ?_⟩
    rintro k H1 ⟨ι1, k', S1, e1, r1, rfl, h1⟩
    have g1 := g.mono r e1
    cases k' with
    | false => exact iteF (PostS.now (show PostS X.K xi W G ι1 S1 H1 (.next σ S1) from h1) r1 g1)
    | true =>
      refine iteT ⟨fun τ' H' => ∃ ι σ S, RelS X.K ι S H' ∧ RelG X.K ι H' σ τ' ∧ PostS X.K xi W G ι S H' (whileLoop mc mb n σ S), fun τ' H' z => ⟨n, Nat.lt_succ_self n, z⟩, ι1, σ, S1, r1, g1, PostS.turn (k := whileLoop mc mb n) h1 ?_⟩
      exact fun ι' σ' S' H' τ' e' r' g' h' => ⟨ι', σ', S', r', g', h'.mono e'⟩
/-! ### for -/
theorem PostS.atI {K : Fr'} {G : Ends} {ι : List Addr} {S : Sto} {H : Hp} {σ : Sg} {τ : Sv} (r : RelS K ι S H) (g : RelG K ι H σ τ) {m : R Wk} {f : Wk → Sto → RS} (h : PostS K xi W G ι S H (m.at σ f)) :
    PostI K xi (fun c d H' => W c d τ H') ι S H (fun J H1 => ∃ ι1 w S1, Ext ι S H ι1 S1 H1 ∧ RelS K ι1 S1 H1 ∧ WkOk K ι1 S1 H1 w J ∧ PostS K xi W G ι1 S1 H1 (f w S1)) m := by
  cases m with
  | ok a S' => exact fun ι' H' y e r' q => ⟨ι', a, S', e, r', q, h.mono e⟩
  | exc x S' => exact fun ι' H' cls dd e r' q => h ι' H' τ cls dd e r' (g.mono r e) q
  | no => exact h
def notSetE : Expr → Bool
  | .Set .. => false
  | _ => true
theorem fold_of {e : Expr} {env : Env} (h : notSetE e = true) (x : Value) : foldedSetIterable e env x = pure x := by
  cases e <;> first | rfl | cases h
theorem ds_for {tg : List Nat} {tup : Bool} {te iter : Expr} {body : List Stmt} {mi : Sg → Sto → R Wk} {mb : Sg → Sto → RS} (hp : PassesOwn (model X.prog X.w) X.A X.env X.xe) (hc : X.calm = true) (hN : X.N.Nodup) (ok : TgOk X tg tup te)
    (hi : PI X te iter (tDI X.K xi W mi)) (hb : PSs X body (tSm X.K xi W mb)) (hs : notSetE iter = true) :
    PS X (.For te iter body [] pos) (tSm X.K xi W fun σ S => (mi σ S).at σ fun w S1 => forLoop (fun d σ S => RS.opt (target tg tup d σ S) fun σ1 => mb σ1 S) w FUEL 0 σ S1) :=
  (ps_for hp hc hi (pg_tg hc hN ok) hb (fold_of hs)).mono fun G τ H ⟨ι, σ, S, r, g, h⟩ => by
    refine ⟨ι, σ, S, r, g, ?_⟩
    have key := PostS.atI r g h
    revert key
    generalize mi σ S = m0
    intro key
    have imp : ∀ {m0 : R Wk} {Rr Rr' : L2.It → Hp → Prop}, PostI X.K xi (fun c d H' => W c d τ H') ι S H Rr m0 → (∀ J H', Rr J H' → Rr' J H') → PostI X.K xi (fun c d H' => W c d τ H') ι S H Rr' m0 := by
      intro m0 Rr Rr' h i
      cases m0 with
      | ok a S' => exact fun ι' H' y e r' q => i _ _ (h ι' H' y e r' q)
      | exc x S' => exact h
      | no => exact h
    refine imp key ?_
    rintro J H1 ⟨ι1, w, S1, e1, r1, wk, h1⟩
    have g1 := g.mono r e1
    refine ⟨fun i m τ H' => ∃ ι' σ' S', Ext ι1 S1 H1 ι' S' H' ∧ RelS X.K ι' S' H' ∧ RelG X.K ι' H' σ' τ ∧ PostS X.K xi W G ι' S' H' (forLoop (fun d σ S => RS.opt (target tg tup d σ S) fun σ1 => mb σ1 S) w m i σ' S'), ⟨FUEL, ι1, σ, S1, .refl, r1, g1, h1⟩, ?_⟩
    rintro i m τ2 H2 ⟨ι2, σ2, S2, e2, r2, g2, h2⟩
    cases m with
    | zero => exact h2.elim
    | succ n =>
      unfold forLoop at h2
      obtain ⟨o, ho, h2⟩ := PostS.opt h2
      obtain ⟨w1, w2⟩ := wk ι2 S2 H2 i e2 r2
      cases o with
      | none => exact .inl ⟨w1 ho, PostS.now (show PostS X.K xi W G ι2 S2 H2 (.next σ2 S2) from h2) r2 g2⟩
      | some d =>
        obtain ⟨go, yl⟩ := w2 d ho
        refine .inr ⟨go, fun τ' H' => ∃ ι' σ' S', Ext ι1 S1 H1 ι' S' H' ∧ RelS X.K ι' S' H' ∧ RelG X.K ι' H' σ' τ' ∧ PostS X.K xi W G ι' S' H' (forLoop (fun d σ S => RS.opt (target tg tup d σ S) fun σ1 => mb σ1 S) w n (i + 1) σ' S'), fun τ' H' z => ⟨n, Nat.lt_succ_self n, z⟩, fun x H3 hy => ?_⟩
        obtain ⟨e3, r3, q3⟩ := yl x H3 hy
        have g3 := g2.mono r2 e3
        have h3 := PostS.turn (k := forLoop (fun d σ S => RS.opt (target tg tup d σ S) fun σ1 => mb σ1 S) w n (i + 1)) (h2.mono e3) (N := fun τ' H' => ∃ ι' σ' S', Ext ι1 S1 H1 ι' S' H' ∧ RelS X.K ι' S' H' ∧ RelG X.K ι' H' σ' τ' ∧ PostS X.K xi W G ι' S' H' (forLoop (fun d σ S => RS.opt (target tg tup d σ S) fun σ1 => mb σ1 S) w n (i + 1) σ' S'))
          fun ι' σ' S' H' τ' e' r' g' h' => ⟨ι', σ', S', (e2.trans e3).trans e', r', g', h'.mono e'⟩
        obtain ⟨σ4, hσ, h4⟩ := PostS.opt h3
        exact tgt_ok r3 g3 q3 hσ fun τ4 g4 => ⟨ι2, σ4, S2, r3, g4, h4⟩
end
end Cl

/-! part Py12 -/
/-! Cl: list comprehensions. -/
namespace Cl
open PySem PySem.Spec PyProof.Rows L2
theorem wipe_get (τ : Sv) (j : Nat) : ∀ vs : List Nat, (L2.wipe τ vs)[j]? = if j ∈ vs then (if j < τ.length then some none else none) else τ[j]?
  | [] => by simp [L2.wipe]
  | v :: vs => by
    unfold L2.wipe
    by_cases h : v = j
    · subst h
      by_cases hl : v < τ.length
      · rw [List.getElem?_set_self (by rw [wipe_length]; exact hl)]
        simp [hl]
      · rw [List.getElem?_eq_none (by rw [List.length_set, wipe_length]; omega)]
        simp [hl]
    · rw [List.getElem?_set_ne h, wipe_get τ j vs]
      have : (j ∈ v :: vs) ↔ j ∈ vs := by simp [Ne.symm h]
      simp only [this]
theorem wipe_same {τ τ' : Sv} {vs : List Nat} (hl : τ.length = τ'.length) (h : ∀ j, j ∉ vs → τ[j]? = τ'[j]?) : L2.wipe τ vs = L2.wipe τ' vs := by
  apply List.ext_getElem?
  intro j
  rw [wipe_get, wipe_get, hl]
  by_cases hj : j ∈ vs
  · simp only [hj, if_true]
  · simp only [hj, if_false]
    exact h j hj
theorem setV_length : ∀ {is : List Nat} {τ : Sv} {vs : List V}, (setV τ is vs).length = τ.length
  | [], _, _ => rfl
  | _ :: _, _, [] => rfl
  | i :: is, τ, v :: vs => by
    unfold setV
    rw [setV_length, List.length_set]
theorem setV_out {j : Nat} : ∀ {is : List Nat} {τ : Sv} {vs : List V}, j ∉ is → (setV τ is vs)[j]? = τ[j]?
  | [], _, _, _ => rfl
  | _ :: _, _, [], _ => rfl
  | i :: is, τ, v :: vs, h => by
    unfold setV
    rw [setV_out (fun q => h (List.mem_cons_of_mem _ q)), List.getElem?_set_ne (fun q => h (by rw [q]; exact List.mem_cons_self))]
theorem wipe_of {τ τ' : Sv} {vs : List Nat} (hl : τ'.length = τ.length) (h : ∀ j, j ∉ vs → τ'[j]? = τ[j]?) : L2.wipe τ' vs = L2.wipe τ vs := wipe_same hl h
theorem wipe_wipe {τ : Sv} {vs : List Nat} : L2.wipe (L2.wipe τ vs) vs = L2.wipe τ vs := wipe_of (wipe_length _ _) fun j hj => by rw [wipe_get, if_neg hj]
section
variable {K : Fr'} {ι : List Addr} {H : Hp} {S : Sto}
/-! ### a list that the store does not own is written -/
theorem SqT.wr {p a : Addr} {ws us vs : List V} (hp : H p = some (.lst ws)) (h : SqT K H a vs) : SqT K (upd H p (.lst us)) a vs := by
  have ne : ∀ {u : HO}, H a = some u → (∀ xs, u ≠ .lst xs) → a ≠ p := fun hu hn e => by
    subst e
    rw [hp] at hu
    exact hn ws (Option.some.inj hu).symm
  rcases h with (h | ⟨o, h⟩) | h
  · exact .inl (.inl (by rw [upd_ne (ne h fun xs e => by cases e)]; exact h))
  · exact .inl (.inr ⟨o, by rw [upd_ne (ne h fun xs e => by cases e)]; exact h⟩)
  · exact .inr h
mutual
theorem RelD.wr {p : Addr} {ws us : List V} (hp : H p = some (.lst ws)) : ∀ {d : D} {v : V}, RelD K ι H d v → RelD K ι (upd H p (.lst us)) d v
  | _, _, .non => .non
  | _, _, .bl b => .bl b
  | _, _, .int i => .int i
  | _, _, .str h h2 => .str h h2
  | _, _, .tup h hs => .tup (SqT.wr hp h) (RelDs.wr hp hs)
  | _, _, .ref h => .ref h
theorem RelDs.wr {p : Addr} {ws us : List V} (hp : H p = some (.lst ws)) : ∀ {ds : List D} {vs : List V}, RelDs K ι H ds vs → RelDs K ι (upd H p (.lst us)) ds vs
  | _, _, .nil => .nil
  | _, _, .cons h hs => .cons (RelD.wr hp h) (RelDs.wr hp hs)
end
theorem RelS.wr (r : RelS K ι S H) {p : Addr} {ws us : List V} (hp : H p = some (.lst ws)) (no : ¬ Own ι S p) : RelS K ι S (upd H p (.lst us)) := by
  refine ⟨r.len, fun n o a h1 h2 => ?_, r.inj⟩
  have h := r.ob n o a h1 h2
  cases o with
  | lst xs =>
    obtain ⟨vs, e, g⟩ := h
    refine ⟨vs, ?_, g.wr hp⟩
    rw [upd_ne fun z => no ⟨n, _, by rw [← z]; exact h2, h1, rfl⟩]
    exact e
  | scr ns =>
    rcases h with ⟨o, h⟩ | h
    · refine .inl ⟨o, ?_⟩
      rw [upd_ne fun z => by subst z; rw [hp] at h; cases h]
      exact h
    · exact .inr h
  | ins _ _ => exact h.elim
  | dct _ => exact h.elim
/-- it is owned from now on -/
theorem RelS.take (r : RelS K ι S H) {p : Addr} {xs : List D} {vs : List V} (hp : H p = some (.lst vs)) (no : ¬ Own ι S p) (g : RelDs K ι H xs vs) : RelS K (ι ++ [p]) (S ++ [.lst xs]) H := by
  have monos : ∀ {d v}, RelDs K ι H d v → RelDs K (ι ++ [p]) H d v := fun h => RelDs.mono r (S' := S) ⟨⟨[p], rfl⟩, fun a u h n => ⟨h, fun q => by
    obtain ⟨k, o, h1, h2, h3⟩ := q
    have hl : k < ι.length := by rw [r.len]; exact (List.getElem?_eq_some_iff.mp h2).1
    rw [List.getElem?_append_left hl] at h1
    exact n ⟨k, o, h1, h2, h3⟩⟩⟩ h
  have side : ∀ {k : Nat} {o : Ob} {a : Addr}, (S ++ [Ob.lst xs])[k]? = some o → (ι ++ [p])[k]? = some a → (S[k]? = some o ∧ ι[k]? = some a ∧ k < ι.length) ∨ (k = ι.length ∧ a = p ∧ o = .lst xs) := by
    intro k o a h1 h2
    by_cases hk : k < ι.length
    · rw [List.getElem?_append_left hk] at h2
      rw [List.getElem?_append_left (by rw [← r.len]; exact hk)] at h1
      exact .inl ⟨h1, h2, hk⟩
    · rw [List.getElem?_append_right (by omega)] at h2
      rw [List.getElem?_append_right (by rw [← r.len]; omega)] at h1
      have z : k - ι.length = 0 := by
        have := (List.getElem?_eq_some_iff.mp h2).1
        simp at this
        omega
      rw [← r.len] at h1
      rw [z] at h1 h2
      simp at h1 h2
      exact .inr ⟨by omega, h2.symm, h1.symm⟩
  refine ⟨by simp [r.len], fun n o a h1 h2 => ?_, fun m n o q a hm hn im in_ om qm => ?_⟩
  · rcases side h1 h2 with ⟨s1, s2, _⟩ | ⟨rfl, rfl, rfl⟩
    · have h := r.ob n o a s1 s2
      cases o with
      | lst ys =>
        obtain ⟨us, e, g⟩ := h
        exact ⟨us, e, monos g⟩
      | scr ns => exact h
      | ins _ _ => exact h.elim
      | dct _ => exact h.elim
    · exact ⟨vs, hp, monos g⟩
  · rcases side hm im with ⟨s1, i1, l1⟩ | ⟨l1, a1, _⟩
    · rcases side hn in_ with ⟨s2, i2, l2⟩ | ⟨l2, a2, _⟩
      · exact r.inj m n o q a s1 s2 i1 i2 om qm
      · exact absurd ⟨m, o, by rw [← a2]; exact i1, s1, om⟩ no
    · rcases side hn in_ with ⟨s2, i2, l2⟩ | ⟨l2, a2, _⟩
      · exact absurd ⟨n, q, by rw [← a1]; exact i2, s2, qm⟩ no
      · omega
end
/-- what a turn does -/
def turnF (tg : List Nat) (tup : Bool) (vs : List Nat) (mc : Sg → Sto → R Bool) (me : Sg → Sto → R D) (σ : Sg) : D → Sto → R (Option D) := fun d S2 => R.opt (target tg tup d (wipe σ vs) S2) fun σ2 =>
  (mc σ2 S2).bind fun k S3 => if k then (me σ2 S3).bind fun y S4 => .ok (some y) S4 else .ok none S3
def compM (tg : List Nat) (tup : Bool) (vs : List Nat) (mi : Sg → Sto → R Wk) (mc : Sg → Sto → R Bool) (me : Sg → Sto → R D) : Sg → Sto → R D := fun σ S => (mi σ S).bind fun w S1 => (compLoop (turnF tg tup vs mc me σ) w FUEL 0 [] S1).bind fun ys S2 => ins1 S2 (.lst ys)
def noW : WX := fun _ _ _ _ => False
section
variable {X : Cx} {xi : XI} {W : WX} {pos : Pos}
theorem tgt_wipe {K : Fr'} {tg vs : List Nat} {tup : Bool} {v : V} {τ : Sv} {H : Hp} {Q : L2.St → Hp → Prop} (hv : ∀ i ∈ tg, i ∈ vs) (h : tTg K tg tup v (L2.wipe τ vs) H Q) :
    tTg K tg tup v (L2.wipe τ vs) H fun σ2 H2 => L2.wipe σ2 vs = L2.wipe τ vs ∧ Q σ2 H2 := by
  cases tup with
  | false =>
    obtain ⟨i, rfl, q⟩ := h
    refine ⟨i, rfl, ?_, q⟩
    rw [← wipe_wipe (τ := τ) (vs := vs)]
    refine wipe_of (by simp [wipe_length]) fun j hj => ?_
    rw [List.getElem?_set_ne (fun e => hj (by rw [← e]; exact hv i (by simp))), wipe_wipe]
  | true =>
    obtain ⟨a, xs, e, hq, hl, q⟩ := h
    refine ⟨a, xs, e, hq, hl, ?_, q⟩
    rw [← wipe_wipe (τ := τ) (vs := vs)]
    refine wipe_of (by simp [wipe_length, setV_length]) fun j hj => ?_
    rw [setV_out (fun e => hj (hv j e)), wipe_wipe]
theorem imp_lc {tg vs : List Nat} {tup : Bool} {mi : Sg → Sto → R Wk} {mc : Sg → Sto → R Bool} {me : Sg → Sto → R D} {τ : Sv} {H : Hp} {Q : VK} (hv : ∀ i ∈ tg, i ∈ vs) (h : tD X.K xi W (compM tg tup vs mi mc me) τ H Q) :
    tLc (tDI X.K xi W mi) (tTg X.K tg tup) (tDT X.K xi noW mc) (tD X.K xi noW me) vs τ H Q := by
  obtain ⟨ι, σ, S, r, g, h⟩ := h
  refine ⟨ι, σ, S, r, g, ?_⟩
  unfold compM at h
  cases em : mi σ S with
  | no => rw [em] at h; exact h
  | exc x S1 => rw [em] at h; exact h
  | ok w S1 =>
    rw [em, R.bind_ok] at h
    intro ι1 H1 J e1 r1 wk L hL
    have g1 := g.mono r e1
    have key := h.mono e1
    clear h
    have eL := Ext.put (o := .lst []) r1 hL
    refine ⟨fun i m H' => ∃ ι2 S2 acc us, Ext ι1 S1 H1 ι2 S2 H' ∧ RelS X.K ι2 S2 H' ∧ H' L = some (.lst us) ∧ ¬ Own ι2 S2 L ∧ RelDs X.K ι2 H' acc us ∧
      PostR X.K xi (RelD X.K) (fun c d H' => W c d τ H') ι1 S1 H1 Q ((compLoop (turnF tg tup vs mc me σ) w m i acc S2).bind fun ys S2 => ins1 S2 (.lst ys)),
      ⟨FUEL, ι1, S1, [], [], eL, r1.put hL, upd_same, r1.free hL, .nil, key⟩, ?_⟩
    rintro i m H2 ⟨ι2, S2, acc, us, e2, r2, hL2, no2, ga, h2⟩
    cases m with
    | zero => exact h2.elim
    | succ n =>
      unfold compLoop at h2
      obtain ⟨w1, w2⟩ := wk ι2 S2 H2 i e2 r2
      cases ea : w.at i S2 with
      | none => rw [ea] at h2; exact h2.elim
      | some o =>
        rw [ea, R.opt_some] at h2
        cases o with
        | none =>
          refine .inl ⟨w1 ea, ?_⟩
          have fin : Ext ι1 S1 H1 (ι2 ++ [L]) (S2 ++ [.lst acc]) H2 := by
            refine ⟨?_, fun a u hu hn => ?_⟩
            · obtain ⟨l, e⟩ := e2.pre
              exact ⟨l ++ [L], by rw [e, List.append_assoc]⟩
            · obtain ⟨k1, k2⟩ := e2.keep a u hu hn
              refine ⟨k1, fun q => ?_⟩
              rcases own_new r2.len q with q | q
              · exact k2 q
              · subst q
                rw [hL] at hu
                cases hu
          have h3 : PostR X.K xi (RelD X.K) (fun c d H' => W c d τ H') ι1 S1 H1 Q (.ok (.ref S2.length) (S2 ++ [.lst acc])) := h2
          refine h3 (ι2 ++ [L]) H2 (.ref L) fin (r2.take hL2 no2 ga) (.ref ?_)
          rw [← r2.len, List.getElem?_append_right (Nat.le_refl _)]
          simp
        | some d =>
          obtain ⟨go, yl⟩ := w2 d ea
          dsimp only at h2
          -- the turn
          refine .inr ⟨go, fun H' => ∃ m', m' < n + 1 ∧ ∃ ι2 S2 acc us, Ext ι1 S1 H1 ι2 S2 H' ∧ RelS X.K ι2 S2 H' ∧ H' L = some (.lst us) ∧ ¬ Own ι2 S2 L ∧ RelDs X.K ι2 H' acc us ∧
            PostR X.K xi (RelD X.K) (fun c d H' => W c d τ H') ι1 S1 H1 Q ((compLoop (turnF tg tup vs mc me σ) w m' (i + 1) acc S2).bind fun ys S2 => ins1 S2 (.lst ys)), fun H' z => z, fun x H3 hy => ?_⟩
          obtain ⟨e3, r3, q3⟩ := yl x H3 hy
          have gw := ((g1.mono r1 (e2.trans e3)).wipe vs)
          cases et : target tg tup d (wipe σ vs) S2 with
          | none =>
            simp only [turnF, et, R.opt_none] at h2
            exact h2.elim
          | some σ2 =>
            refine tgt_wipe hv (tgt_ok r3 gw q3 et fun τ4 g4 => ?_)
            simp only [turnF, et, R.opt_some] at h2
            obtain ⟨hL3, no3⟩ := e3.keep L _ hL2 no2
            refine ⟨ι2, σ2, S2, r3, g4, ?_⟩
            cases ec : mc σ2 S2 with
            | no => rw [ec] at h2; exact h2.elim
            | exc _ _ => rw [ec] at h2; exact h2.elim
            | ok k S4 =>
              rw [ec] at h2
              rintro ι4 H4 k' e4 r4 rfl
              obtain ⟨hL4, no4⟩ := e4.keep L _ hL3 no3
              have e24 := e3.trans e4
              have ga4 := ga.mono r2 e24
              cases k with
              | false => exact iteF ⟨n, Nat.lt_succ_self n, ι4, S4, acc, us, e2.trans e24, r4, hL4, no4, ga4, h2⟩
              | true =>
                refine iteT ?_
                simp only [R.bind_ok, if_true] at h2
                refine ⟨ι4, σ2, S4, r4, g4.mono r3 e4, ?_⟩
                cases ee : me σ2 S4 with
                | no => rw [ee] at h2; exact h2.elim
                | exc _ _ => rw [ee] at h2; exact h2.elim
                | ok y S5 =>
                  rw [ee] at h2
                  simp only [R.bind_ok] at h2
                  intro ι5 H5 v e5 r5 q5
                  obtain ⟨hL5, no5⟩ := e5.keep L _ hL4 no4
                  have ga5 := ga4.mono r4 e5
                  have hl : acc.length < LIM := by
                    by_cases hl : acc.length < LIM
                    · exact hl
                    · unfold R.req at h2
                      rw [if_neg hl] at h2
                      exact h2.elim
                  rw [R.req_of hl] at h2
                  refine ⟨us, hL5, by rw [← ga5.length, ← LIM_eq]; exact hl, n, Nat.lt_succ_self n, ι5, S5, acc ++ [y], us ++ [v], ?_, r5.wr hL5 no5, upd_same, no5, (ga5.append (.cons q5 .nil)).wr hL5, h2⟩
                  have eb := (e2.trans e24).trans e5
                  refine ⟨eb.pre, fun a u hu hn => ?_⟩
                  obtain ⟨k1, k2⟩ := eb.keep a u hu hn
                  refine ⟨?_, k2⟩
                  rw [upd_ne fun z => by subst z; rw [hL] at hu; cases hu]
                  exact k1
theorem dts_nil : PTs X [] (tDT X.K xi W fun _ S => .ok true S) := ⟨fun pins s τ H Q I ⟨ι, σ, S, r, g, h⟩ => pts_nil.run pins s τ H Q I (PostR.now (a := true) (y := true) h r rfl)⟩
theorem de_comp {tg : List Nat} {tup : Bool} {elt te iter : Expr} {ifs : List Expr} {scope : Scope} {own : List (Str × Nat)} {mi : Sg → Sto → R Wk} {mc : Sg → Sto → R Bool} {me : Sg → Sto → R D} (hc : X.calm = true) (hN : X.N.Nodup)
    (hi : PI X te iter (tDI X.K xi W mi)) (ok : BlkOk X.N X.env.scope scope own) (hv : ∀ i ∈ tg, i ∈ own.map (·.2))
    (hg : ∀ (s : Shared) (H : Hp) (C : Addr) (cl : List (Str × Addr)) (fp : List Addr), TgOk (X.blk s H scope (compEnvC scope cl C X.env) fp) tg tup te)
    (ht : ∀ (s : Shared) (H : Hp) (C : Addr) (cl : List (Str × Addr)) (fp : List Addr), PTs (X.blk s H scope (compEnvC scope cl C X.env) fp) ifs (tDT X.K xi noW mc))
    (he : ∀ (s : Shared) (H : Hp) (C : Addr) (cl : List (Str × Addr)) (fp : List Addr), PE (X.blk s H scope (compEnvC scope cl C X.env) fp) elt (tD X.K xi noW me)) (hs : notSetE iter = true) :
    PE X (.ListComp elt [⟨te, iter, ifs, 0⟩] scope pos) (tD X.K xi W (compM tg tup (own.map (·.2)) mi mc me)) :=
  (pe_lc hc hN hi ok (fun s H C cl fp => pg_tg (X := X.blk s H scope (compEnvC scope cl C X.env) fp) hc hN (hg s H C cl fp)) ht he (fold_of hs)).mono fun _ _ _ h => imp_lc hv h
theorem ds_setLc {i : Nat} {y : Str} {py spos : Pos} {tg : List Nat} {tup : Bool} {elt te iter : Expr} {ifs : List Expr} {scope : Scope} {own : List (Str × Nat)} {mi : Sg → Sto → R Wk} {mc : Sg → Sto → R Bool} {me : Sg → Sto → R D} (hc : X.calm = true) (hN : X.N.Nodup)
    (hy : X.N[i]? = some y) (hyl : X.env.scope.names.lookup y = some .local) (hsw : swapsWith (.ListComp elt [⟨te, iter, ifs, 0⟩] scope pos) (some (.Name y py)) spos.line X.env = pure true)
    (hi : PI X te iter (tDI X.K xi W mi)) (ok : BlkOk X.N X.env.scope scope own) (hv : ∀ i ∈ tg, i ∈ own.map (·.2))
    (hg : ∀ (s : Shared) (H : Hp) (C : Addr) (cl : List (Str × Addr)) (fp : List Addr), TgOk (X.blk s H scope (compEnvC scope cl C X.env) fp) tg tup te)
    (ht : ∀ (s : Shared) (H : Hp) (C : Addr) (cl : List (Str × Addr)) (fp : List Addr), PTs (X.blk s H scope (compEnvC scope cl C X.env) fp) ifs (tDT X.K xi noW mc))
    (he : ∀ (s : Shared) (H : Hp) (C : Addr) (cl : List (Str × Addr)) (fp : List Addr), PE (X.blk s H scope (compEnvC scope cl C X.env) fp) elt (tD X.K xi noW me)) (hs : notSetE iter = true) :
    PS X (.Assign [.Name y py] (.ListComp elt [⟨te, iter, ifs, 0⟩] scope pos) spos) (tSm X.K xi W fun σ S => (compM tg tup (own.map (·.2)) mi mc me σ S).at σ fun d S1 => .next (σ.set i (some d)) S1) :=
  (ps_setLc hc hN hy hyl hsw hi ok (fun s H C cl fp => pg_tg (X := X.blk s H scope (compEnvC scope cl C X.env) fp) hc hN (hg s H C cl fp)) ht he (fold_of hs)).mono fun G τ H ⟨ι, σ, S, r, g, h⟩ =>
    imp_lc hv ⟨ι, σ, S, r, g, (PostS.at r g h).imp fun y H1 ⟨ι1, d, S1, e1, r1, q1, h1⟩ => h1.now r1 ((g.mono r e1).set i q1)⟩
end
end Cl

/-! part Py13 -/
/-! Cl: calls with keywords; what stands around an expression; built-ins and methods by their names. -/
namespace Cl
open PySem PySem.Spec PyProof.Rows L2
/-- a def, for its callers -/
structure DefT where
  name : Str
  ps : List Str
  shapes : List (Nat × List String × List (Sum Nat Kd))
def Kd.toV : Kd → V
  | .non => .non
  | .bl b => .bl b
  | .int i => .int i
  | .str s => .str (SX.S s)
def Kd.ok : Kd → Bool
  | .str s => decide (s.length ≤ LIM) && asciiAll s
  | _ => true
/-- a call's values in the parameters' order -/
inductive Perm (all : List Value) : List (Sum Nat Kd) → List Value → Prop
  | nil : Perm all [] []
  | pos {i : Nat} {u : Value} {p : List (Sum Nat Kd)} {us : List Value} : all[i]? = some u → Perm all p us → Perm all (.inl i :: p) (u :: us)
  | dft {k : Kd} {u : Value} {p : List (Sum Nat Kd)} {us : List Value} : RelV k.toV u → Perm all p us → Perm all (.inr k :: p) (u :: us)
def KFact (K : Fr') (fd : FuncData) (ps : List Str) (n : Nat) (names : List String) (perm : List (Sum Nat Kd)) : Prop :=
  ∀ (s : Shared) (us ws : List Value), K.In s.heap → us.length = n → ws.length = names.length → ∃ as, Perm (us ++ ws) perm as ∧ BindsTo s fd ⟨us, (names.map Str.ofString).zip ws⟩ (ps.zip as)
section
variable {K : Fr'} {ι : List Addr} {H : Hp}
theorem vals_get : ∀ {vs : List V} {us : List Value} {i : Nat} {u : Value}, Vals vs us → us[i]? = some u → ∃ v, vs[i]? = some v ∧ RelV v u
  | _, _, _, _, .nil, h => by simp at h
  | _, _, 0, _, .cons r _, h => by simp at h; subst h; exact ⟨_, rfl, r⟩
  | _, _, i + 1, _, .cons _ t, h => by
    obtain ⟨v, h1, h2⟩ := vals_get (i := i) t (by simpa using h)
    exact ⟨v, by simpa using h1, h2⟩
theorem Kd.rel {k : Kd} (h : k.ok = true) : RelD K ι H k.toD k.toV := by
  cases k with
  | non => exact .non
  | bl b => exact .bl b
  | int i => exact .int i
  | str s =>
    have h' : (decide (s.length ≤ LIM) && asciiAll s) = true := h
    rw [Bool.and_eq_true] at h'
    exact .str (of_decide_eq_true h'.1) h'.2
def permOk (p : List (Sum Nat Kd)) : Bool := p.all fun | .inl _ => true | .inr k => k.ok
theorem perm_vals {all : List Value} {vs : List V} {ds : List D} (r : Vals vs all) (g : RelDs K ι H ds vs) {p : List (Sum Nat Kd)} {as : List Value} (hp : Perm all p as) : ∀ {es : List D}, permOk p = true → p.mapM (argOf ds) = some es → ∃ xs, Vals xs as ∧ RelDs K ι H es xs := by
  induction hp with
  | nil =>
    intro es _ h
    have e : es = [] := (Option.some.inj h).symm
    subst e
    exact ⟨[], .nil, .nil⟩
  | @pos i u p us hu t ih =>
    intro es hk h
    rw [List.mapM_cons] at h
    obtain ⟨d, e1, h⟩ := Option.bind_eq_some_iff.mp h
    obtain ⟨es', e2, h⟩ := Option.bind_eq_some_iff.mp h
    have e : es = d :: es' := (Option.some.inj h).symm
    subst e
    obtain ⟨v, h1, h2⟩ := vals_get r hu
    obtain ⟨v', h3, h4⟩ := g.get (show ds[i]? = some d from e1)
    have : v' = v := Option.some.inj (h3.symm.trans h1)
    subst this
    obtain ⟨xs, x1, x2⟩ := ih (by unfold permOk at hk ⊢; simpa using hk) e2
    exact ⟨v' :: xs, .cons h2 x1, .cons h4 x2⟩
  | @dft k u p us hu t ih =>
    intro es hk h
    rw [List.mapM_cons] at h
    obtain ⟨d, e1, h⟩ := Option.bind_eq_some_iff.mp h
    obtain ⟨es', e2, h⟩ := Option.bind_eq_some_iff.mp h
    have e : es = d :: es' := (Option.some.inj h).symm
    subst e
    have e3 : d = k.toD := (Option.some.inj e1).symm
    subst e3
    have hk' : k.ok = true ∧ permOk p = true := by
      unfold permOk at hk ⊢
      rw [List.all_cons, Bool.and_eq_true] at hk
      exact hk
    obtain ⟨xs, x1, x2⟩ := ih hk'.2 e2
    exact ⟨k.toV :: xs, .cons hu x1, .cons (Kd.rel hk'.1) x2⟩
end
/-! ### keywords -/
inductive Kws : List String → List Expr → List Keyword → Prop
  | nil : Kws [] [] []
  | cons {x : String} {e : Expr} {p : Pos} {xs : List String} {es : List Expr} {ks : List Keyword} : Kws xs es ks → Kws (x :: xs) (e :: es) (⟨some (Str.ofString x), e, p⟩ :: ks)
theorem Kws.all {env : Env} {pos : Pos} {xs es ks} (h : Kws xs es ks) : (backToKw pos (keywordEach ks env)).all (·.1.isSome) = true := by
  induction h with
  | nil => rfl
  | cons _ ih => exact ih
theorem Kws.none {env : Env} {pos : Pos} {xs es ks} (h : Kws xs es ks) : (backToKw pos (keywordEach ks env)).any (·.1.isNone) = false := by
  induction h with
  | nil => rfl
  | cons _ ih => exact ih
theorem Kws.names {env : Env} {pos : Pos} {xs es ks} (h : Kws xs es ks) : (backToKw pos (keywordEach ks env)).filterMap (·.1) = xs.map Str.ofString := by
  induction h with
  | nil => rfl
  | cons _ ih => rw [List.map_cons, ← ih]; rfl
section
variable {X : Cx} {xi : XI} {W : WX} {n : Nat} {f : Addr} {fd : FuncData} {ps : List Str}
theorem _root_.L2.PK.mono {X : Cx} {ks : List Keyword} {t t' : TA} (h : PK X ks t) (i : ∀ σ H Q, t' σ H Q → t σ H Q) : PK X ks t' := ⟨fun p pins s σ H Q I q => h.run p pins s σ H Q I (i σ H Q q)⟩
theorem dks_nil : PK X [] (tDs X.K xi W fun _ S => .ok [] S) := pk_nil.mono fun _ _ _ ⟨_, _, _, r, _, h⟩ => h.now r .nil
theorem dks_cons {e : Expr} {ks : List Keyword} {nm : Option Str} {p : Pos} {m : Sg → Sto → R D} {ms : Sg → Sto → R (List D)} (he : PE X e (tD X.K xi W m)) (hs : PK X ks (tDs X.K xi W ms)) :
    PK X (⟨nm, e, p⟩ :: ks) (tDs X.K xi W fun σ S => (m σ S).bind fun x S1 => (ms σ S1).bind fun xs S2 => .ok (x :: xs) S2) := (pk_cons he hs).mono fun τ H Q ⟨ι, σ, S, r, g, h⟩ => by
  refine ⟨ι, σ, S, r, g, (PostR.bind h).imp ?_⟩
  rintro x H1 ⟨ι1, d, S1, e1, r1, q1, h1⟩
  refine ⟨ι1, σ, S1, r1, g.mono r e1, (PostR.bind h1).imp ?_⟩
  rintro xs H2 ⟨ι2, ds, S2, e2, r2, q2, h2⟩
  exact h2.now r2 (.cons (q1.mono r1 e2) q2)
/-- f(e, .., k = e, ..) -/
theorem de_callk {x : Str} {p pos : Pos} {es ke : List Expr} {kws : List Keyword} {names : List String} {perm : List (Sum Nat Kd)} {ms mk : Sg → Sto → R (List D)} {c : List D → Sto → R D} (F : FnG X.prog X.w X.K X.mg X.base n f fd ps (spF X.K xi c)) (g : GOk n X.A) (tk : Takes X W) (hg : Gl X x)
    (hm : X.mg x = some (.ref f)) (hk : PySem.W.keepIn X.K (.ref f) = true) (kf : KFact X.K fd ps es.length names perm) (pk : permOk perm = true) (ha : PA X es (tDs X.K xi W ms)) (hp : es.all plainE = true) (hks : Kws names ke kws) (hkw : PK X kws (tDs X.K xi W mk))
    (l1 : ∀ σ S vs S1, ms σ S = .ok vs S1 → vs.length = es.length) (l2 : ∀ σ S vs S1, mk σ S = .ok vs S1 → vs.length = names.length) (h0 : es = [] → ms = fun _ S => .ok [] S) (hdb : (x == ("__debug__" : Str)) = false) :
    PE X (.Call (.Name x p) es kws pos) (tD X.K xi W fun σ S => (ms σ S).bind fun vs S1 => (mk σ S1).bind fun zs S2 => R.opt (perm.mapM (argOf (vs ++ zs))) fun as => c as S2) := by
  refine ⟨fun pins s τ H Q I h => ?_⟩
  refine wpAny_Call_Name_kw (ld_glob I hg hm ?_ hdb)
  have hpl : ((backTo pos (starEach es X.env)).any (·.1) || (backToKw pos (keywordEach kws X.env)).any (·.1.isNone)) = false := by rw [star_none hp, hks.none]; rfl
  obtain ⟨ι, σ, S, r, gg, h⟩ := h
  -- what is wanted behind the positional values
  have step1 : tDs X.K xi W ms τ H fun vs H1 => vs.length = es.length ∧ ∃ ι1 ds S1, RelS X.K ι1 S1 H1 ∧ RelG X.K ι1 H1 σ τ ∧ RelDs X.K ι1 H1 ds vs ∧ PostR X.K xi (RelD X.K) (fun c d H' => W c d τ H') ι1 S1 H1 Q ((mk σ S1).bind fun zs S2 => R.opt (perm.mapM (argOf (ds ++ zs))) fun as => c as S2) := by
    refine ⟨ι, σ, S, r, gg, ?_⟩
    dsimp only at h
    cases em : ms σ S with
    | no => rw [em] at h; exact h
    | exc y S1 => rw [em] at h; exact h
    | ok ds S1 =>
      rw [em] at h
      intro ι1 H1 vs e1 r1 q1
      exact ⟨by rw [← q1.length]; exact l1 _ _ _ _ em, ι1, ds, S1, r1, gg.mono r e1, q1, PostR.mono e1 h⟩
  have step2 : ∀ {pins' : List (Addr × Obj)} {vs : List V} {us : List Value} {H1 : Hp} {s1 : Shared}, Inv X pins' τ H1 s1 → Vals vs us → (vs.length = es.length ∧ ∃ ι1 ds S1, RelS X.K ι1 S1 H1 ∧ RelG X.K ι1 H1 σ τ ∧ RelDs X.K ι1 H1 ds vs ∧ PostR X.K xi (RelD X.K) (fun c d H' => W c d τ H') ι1 S1 H1 Q ((mk σ S1).bind fun zs S2 => R.opt (perm.mapM (argOf (ds ++ zs))) fun as => c as S2)) →
      wpAny (model X.prog X.w) X.A (evalAll ((backToKw pos (keywordEach kws X.env)).map (·.2))) (fun ks s2 => X.K.In s2.heap ∧ wpAny (model X.prog X.w) X.A (call (.ref f) us (((backToKw pos (keywordEach kws X.env)).filterMap (·.1)).zip ks)) (EP X pins' τ Q) X.xe s2) X.xe s1 := by
    rintro pins' vs us H1 s1 I1 ru ⟨hl1, ι1, ds, S1, r1, g1, q1, h1⟩
    have st : tDs X.K xi W mk τ H1 fun zs H2 => zs.length = names.length ∧ ∃ ι2 fs S2, RelS X.K ι2 S2 H2 ∧ RelDs X.K ι2 H2 (ds ++ fs) (vs ++ zs) ∧ PostR X.K xi (RelD X.K) (fun c d H' => W c d τ H') ι2 S2 H2 Q (R.opt (perm.mapM (argOf (ds ++ fs))) fun as => c as S2) := by
      refine ⟨ι1, σ, S1, r1, g1, ?_⟩
      cases em : mk σ S1 with
      | no => rw [em] at h1; exact h1
      | exc y S2 => rw [em] at h1; exact h1
      | ok fs S2 =>
        rw [em] at h1
        intro ι2 H2 zs e2 r2 q2
        exact ⟨by rw [← q2.length]; exact l2 _ _ _ _ em, ι2, fs, S2, r2, (RelDs.mono r1 e2 q1).append q2, PostR.mono e2 h1⟩
    refine thn (hkw.run pos pins' s1 τ H1 _ I1 st) fun ws s2 ⟨zs, H2, I2, rz, hl2, ι2, fs, S2, r2, q2, h2⟩ => ⟨I2.kIn, ?_⟩
    obtain ⟨es', hes, h2⟩ := PostR.opt h2
    obtain ⟨as, pm, hb⟩ := kf s2 us ws I2.kIn (ru.length.symm.trans hl1) (rz.length.symm.trans hl2)
    obtain ⟨xs, x1, x2⟩ := perm_vals (ru.append rz) q2 pm pk hes
    rw [hks.names]
    exact run_G F g tk I2 hb x1 ⟨ι2, es', S2, r2, x2, h2⟩
  cases es with
  | nil =>
    refine PySem.W.callWith_KW0 (h₀ := X.base) I.ok.mod.kin hk hks.all ?_ hpl
    have em : ms σ S = .ok [] S := by rw [h0 rfl]
    dsimp only at h
    rw [em] at h
    exact step2 I .nil ⟨rfl, ι, [], S, r, gg, .nil, h⟩
  | cons e es =>
    have hp' := hp
    rw [List.all_cons, Bool.and_eq_true] at hp'
    exact PySem.W.callWith_KW (h₀ := X.base) I.ok.mod.kin hk hks.all (thn (ha.run pos pins s τ H _ I step1) fun us s1 ⟨vs, H1, I1, ru, q⟩ => step2 I1 ru q) hpl (starEach_plain hp'.1)
end
end Cl

/-! part Py13b -/
/-! Cl: isinstance of built-in types. -/
namespace Cl
open PySem PySem.Spec PyProof.Rows L2
def tyN : Ty → Option String
  | .int => some "int" | .bool => some "bool" | .str => some "str" | .list => some "list" | .tuple => some "tuple" | _ => none
section
variable {K : Fr'} {ι : List Addr} {H : Hp} {S : Sto}
/-- a value's type, and what isinstance says of it -/
theorem tyD {d : D} {v : V} (r : RelS K ι S H) (q : RelD K ι H d v) : (∀ t, hasTyS S d t = none) ∨ ∃ T, (∀ H' : Hp, (∀ a u, H a = some u → H' a = some u) → TyX K H' v (.type T)) ∧ ∀ t nm b, tyN t = some nm → hasTyS S d t = some b → kitB T nm = some b := by
  cases q with
  | non =>
    refine .inr ⟨"NoneType", fun _ _ => .base .non, fun t nm b h1 h2 => ?_⟩
    cases t <;> cases h1 <;> cases h2 <;> decide +kernel
  | bl x =>
    refine .inr ⟨"bool", fun _ _ => .base (.bl x), fun t nm b h1 h2 => ?_⟩
    cases t <;> cases h1 <;> cases h2 <;> decide +kernel
  | int x =>
    refine .inr ⟨"int", fun _ _ => .base (.int x), fun t nm b h1 h2 => ?_⟩
    cases t <;> cases h1 <;> cases h2 <;> decide +kernel
  | str h1 h2 =>
    refine .inr ⟨"str", fun _ _ => .base (.str _), fun t nm b h1 h2 => ?_⟩
    cases t <;> cases h1 <;> cases h2 <;> decide +kernel
  | tup h1 h2 =>
    rename_i a vs ds
    refine .inr ⟨"tuple", fun H' up => ?_, fun t nm b h1 h2 => ?_⟩
    · rcases h1 with (h | ⟨o, h⟩) | ⟨o, its, n, h, c, _⟩
      · exact .base (.tup (up _ _ h))
      · exact .fTuple (up _ _ h)
      · exact .kTuple h c
    · cases t <;> cases h1 <;> cases h2 <;> decide +kernel
  | ref h1 =>
    rename_i n a
    have key : ∀ xs, getQ S n = some xs → (∀ t nm b, tyN t = some nm → hasTyS S (.ref n) t = some b → kitB "list" nm = some b) → (∀ t, hasTyS S (.ref n) t = none) ∨ ∃ T, (∀ H' : Hp, (∀ a u, H a = some u → H' a = some u) → TyX K H' (.ref a) (.type T)) ∧ ∀ t nm b, tyN t = some nm → hasTyS S (.ref n) t = some b → kitB T nm = some b := by
      intro xs e hk
      refine .inr ⟨"list", fun H' up => ?_, hk⟩
      obtain ⟨vs, (h | ⟨o, h⟩) | ⟨o, its, n, h, c, _⟩, _⟩ := r.getQ h1 e
      · exact .base (.lst (up _ _ h))
      · exact .base (.frz (up _ _ h))
      · exact .kList h c
    cases e : S[n]? with
    | none =>
      refine .inl fun t => ?_
      unfold hasTyS
      dsimp only
      rw [e]
    | some o =>
      cases o with
      | ins _ _ => exact (r.ob n _ a e h1).elim
      | dct _ => exact (r.ob n _ a e h1).elim
      | lst xs =>
        refine key xs (by unfold getQ; rw [e]) fun t nm b h1 h2 => ?_
        unfold hasTyS at h2
        dsimp only at h2
        rw [e] at h2
        cases t <;> cases h1 <;> cases h2 <;> decide +kernel
      | scr xs =>
        refine key (xs.map .int) (by unfold getQ; rw [e]) fun t nm b h1 h2 => ?_
        unfold hasTyS at h2
        dsimp only at h2
        rw [e] at h2
        cases t <;> cases h1 <;> cases h2 <;> decide +kernel
end
section
variable {X : Cx} {xi : XI} {W : WX}
theorem pe_tyName {T : String} {x : Str} {p : Pos} (hg : Gl X x) (hm : X.mg x = none) (hv : bootBuiltins x = some (.type T)) (hn : x ≠ "__name__") (hdb : (x == ("__debug__" : Str)) = false) : PE X (.Name x p) (tC (.ty T)) :=
  ⟨fun pins s σ H Q I h => ld_blt I hg hm hv ⟨.ty T, H, I, rfl, h⟩ hn hdb⟩
/-- the names of types -/
inductive TyNames (X : Cx) : List Ty → List Expr → Prop
  | nil : TyNames X [] []
  | cons {t : Ty} {nm : String} {p : Pos} {ts : List Ty} {es : List Expr} : tyN t = some nm → Gl X (Str.ofString nm) → X.mg (Str.ofString nm) = none → TyNames X ts es → TyNames X (t :: ts) (.Name (Str.ofString nm) p :: es)
theorem boot_ty : ∀ {t : Ty} {nm : String}, tyN t = some nm → bootBuiltins (Str.ofString nm) = some (.type nm) ∧ (Str.ofString nm) ≠ "__name__" ∧ (Str.ofString nm == ("__debug__" : Str)) = false := by
  intro t nm h
  cases t <;> cases h <;> exact ⟨by decide +kernel, by decide +kernel, by decide +kernel⟩
theorem pe_ty1 {t : Ty} {nm : String} {p : Pos} (h : tyN t = some nm) (hg : Gl X (Str.ofString nm)) (hm : X.mg (Str.ofString nm) = none) : PE X (.Name (Str.ofString nm) p) (tC (.ty nm)) := pe_tyName hg hm (boot_ty h).1 (boot_ty h).2.1 (boot_ty h).2.2
theorem de_isi1 {t : Ty} {nm : String} {e : Expr} {m : Sg → Sto → R D} {p p2 pos : Pos} (ht : tyN t = some nm) (hg : Gl X "isinstance") (hm : X.mg "isinstance" = none) (hg2 : Gl X (Str.ofString nm)) (hm2 : X.mg (Str.ofString nm) = none) (he : PE X e (tD X.K xi W m)) (hp : plainE e = true) :
    PE X (.Call (.Name "isinstance" p) [e, .Name (Str.ofString nm) p2] [] pos) (tD X.K xi W fun σ S => (m σ S).bind fun x S1 => R.opt (isiAny S1 x [t]) fun k => .ok (.bl k) S1) := by
  refine (pe_callB (call_isi (X := X)) hg hm (by decide +kernel) (pa_cons he (pa_cons (pe_ty1 ht hg2 hm2) pa_nil (by rfl)) (starEach_plain hp)) (by decide) (by decide +kernel) (starEach_plain hp) (by rfl)).mono fun τ H Q ⟨ι, σ, S, r, g, h⟩ => ?_
  refine ⟨ι, σ, S, r, g, (PostR.bind h).imp ?_⟩
  rintro x H1 ⟨ι1, d, S1, e1, r1, q1, h1⟩
  obtain ⟨k, hk, h1⟩ := PostR.opt h1
  have hk' : hasTyS S1 d t = some k := by
    unfold isiAny at hk
    cases e2 : hasTyS S1 d t with
    | none => rw [e2] at hk; cases hk
    | some b => cases b <;> rw [e2] at hk <;> cases hk <;> rfl
  rcases tyD r1 q1 with z | ⟨T, ty, kb⟩
  · rw [z t] at hk'; cases hk'
  · exact ⟨x, .ty nm, _, _, k, rfl, .ty nm, ty H1 (fun _ _ z => z), kit_ty (kb t nm k ht hk'), h1.now r1 (.bl k)⟩
theorem pa_tys : ∀ {ts : List Ty} {es : List Expr}, TyNames X ts es → ∃ cs us : List _, Paired ClsV cs us ∧ (∀ (K : Fr') (T : String) (S : Sto) (d : D) (k : Bool), (∀ t nm b, tyN t = some nm → hasTyS S d t = some b → kitB T nm = some b) → isiAny S d ts = some k → PySem.W.kitAny K (.type T) us = some k) ∧ cs.length = ts.length ∧ PA X es (fun σ H Q => Q cs H)
  | _, _, .nil => ⟨[], [], .nil, fun K T S d k _ h => by cases h; exact kitAny_nil, rfl, pa_nil.mono fun _ _ _ h => h⟩
  | _, _, .cons (t := t) (nm := nm) h1 h2 h3 tl => by
    obtain ⟨cs, us, p, q, l, pa⟩ := pa_tys tl
    refine ⟨.ty nm :: cs, .type nm :: us, .cons (.ty nm) p, fun K T S d k hT h => ?_, by simp [l], (pa_cons (pe_ty1 h1 h2 h3) pa (by rfl)).mono fun _ _ _ h => h⟩
    unfold isiAny at h
    cases e2 : hasTyS S d t with
    | none => rw [e2] at h; cases h
    | some b =>
      rw [e2] at h
      refine kitAny_cons (kit_ty (hT t nm b h1 e2)) (fun hb => ?_) fun hb => ?_
      · subst hb
        exact q K T S d k hT h
      · subst hb
        cases h
        rfl
theorem de_isiT {ts : List Ty} {es : List Expr} {e : Expr} {m : Sg → Sto → R D} {x1} {p p2 pos : Pos} (hts : TyNames X ts es) (hne : ts ≠ []) (hl : ts.length ≤ 1000) (hg : Gl X "isinstance") (hm : X.mg "isinstance" = none) (he : PE X e (tD X.K xi W m)) (hp : plainE e = true) :
    PE X (.Call (.Name "isinstance" p) [e, .Tuple es x1 p2] [] pos) (tD X.K xi W fun σ S => (m σ S).bind fun x S1 => R.opt (isiAny S1 x ts) fun k => .ok (.bl k) S1) := by
  obtain ⟨cs, us, pr, kit, lc, pa⟩ := pa_tys hts
  refine (pe_callB (call_isiT (X := X)) hg hm (by decide +kernel) (pa_cons he (pa_cons (pe_tup pa) pa_nil (by rfl)) (starEach_plain hp)) (by decide) (by decide +kernel) (starEach_plain hp) (by rfl)).mono fun τ H Q ⟨ι, σ, S, r, g, h⟩ => ?_
  refine ⟨ι, σ, S, r, g, (PostR.bind h).imp ?_⟩
  rintro x H1 ⟨ι1, d, S1, e1, r1, q1, h1⟩
  obtain ⟨k, hk, h1⟩ := PostR.opt h1
  refine ⟨by rw [lc]; exact Nat.le_of_lt (small1000 hl), fun tp htp => ?_⟩
  rcases tyD r1 q1 with z | ⟨T, ty, kb⟩
  · cases ts with
    | nil => exact absurd rfl hne
    | cons t ts =>
      unfold isiAny at hk
      rw [z t] at hk
      cases hk
  · have ex := Ext.put (o := .tup cs) r1 htp
    exact ⟨x, tp, cs, _, us, k, rfl, upd_same, pr, ty _ (fun a u e => by rw [upd_ne (ne_of_none e htp)]; exact e), kit X.K T S1 d k kb hk, h1 ι1 _ _ ex (r1.put htp) (.bl k)⟩
end
end Cl

/-! part Py13c -/
/-! Cl: exceptions with one field: made, raised, caught. -/
namespace Cl
open PySem PySem.Spec PyProof.Rows L2
/-! ### __init__(self, x): ValueError.__init__(self, f'..{x}'); self.x = x -/
def argV (v : V) : Prop := (∃ y : Str, v = .str y ∧ y.length ≤ 1000000) ∨ ∃ i : Int, v = .int i ∧ i.natAbs < 10 ^ 12
def spI (K : Fr') (C : Addr) (x : Str) : Sp := fun vs H Q _ => ∃ a v, vs = [.ref a, v] ∧ OexC K C ∧ H a = some (exo a C none) ∧ argV v ∧ ∀ dx, H dx = none → dx ≠ a → Q .non (upd (upd H dx (exd dx [(x, v)])) a (exo a C (some dx)))
/-- the text of such an __init__: the call, the store -/
structure InitTxt where
  p1 : Pos
  p2 : Pos
  q1 : Pos
  j : Nat
  q2 : Pos
  q3 : Pos
  q4 : Pos
  q5 : Pos
  q6 : Pos
  q7 : Pos
  q8 : Pos
  q9 : Pos
  q10 : Pos
  q11 : Pos
def InitTxt.call (t : InitTxt) (x lit : Str) : Expr := .Call (.Attribute (.Name "ValueError" t.p1) "__init__" t.p2) [.Name "self" t.q1, .JoinedStr [.Constant (.str lit) t.j t.q2, .FormattedValue (.Name x t.q3) (-1) none t.q4] t.q5] [] t.q6
def InitTxt.body (t : InitTxt) (x lit : Str) : List Stmt := [.Expr (t.call x lit) t.q7, .Assign [.Attribute (.Name "self" t.q8) x t.q9] (.Name x t.q10) t.q11]
/-- how the call is entered (by rfl at given places) -/
def InitTxt.Ok (t : InitTxt) (x lit : Str) : Prop := ∀ env : Env, ∃ pl : Sem Bool, eval (t.call x lit) env = (do
      let ov ← eval (.Name "ValueError" t.p1) env
      standAt t.p2.atName
      let (f, first) ← holding [ov] (getMethod ov "__init__" pl)
      callWith t.q6 f first (backTo t.q6 (starEach [.Name "self" t.q1, .JoinedStr [.Constant (.str lit) t.j t.q2, .FormattedValue (.Name x t.q3) (-1) none t.q4] t.q5] env)) (backToKw t.q6 (keywordEach [] env)))
theorem log2_12 {i : Int} (h : i.natAbs < 10 ^ 12) : i.natAbs.log2 < 1920 := by
  by_cases h0 : i.natAbs = 0
  · rw [h0]; decide
  · refine (Nat.log2_lt h0).mpr (Nat.lt_trans h ?_)
    decide +kernel
section
variable {P : Program} {w : World} {K : Fr'} {mg : Str → Option Value} {base : Heap}
theorem init_ok {k : Nat} {f C : Addr} {name qual x lit : Str} {params : Arguments} {body : List Stmt} {scope : Scope} {dV kV doc pm cdv ct oc : Value} {an od : Option Addr} {osl : Array (Option Value)}
    (lk : K.lookup f = some ⟨oc, od, .func (PySem.W.fnOf name qual params body scope dV kV doc pm an cdv ct), osl⟩) (hcd : PySem.W.codeIn K cdv qual = true) (S : FnScope ["self", x] ["self", x] scope) (t : InitTxt) (hb : body = t.body x lit) (ht : t.Ok x lit) (hlit : lit.length ≤ 1000)
    (hgV : scope.names.lookup ("ValueError" : Str) = some .globalImplicit) (hmV : mg "ValueError" = none) (vV : PySem.W.findCls K (.type "ValueError") (.type "type") "__init__" = some (.val (.builtin "ValueError.__init__"))) (hno : PySem.W.findIn K (.ref C) x = some none)
    (hd : (x == ("__debug__" : Str)) = false) (hcl : (x == ("__classdict__" : Str)) = false) : FnOk P w K mg base CX0 (k + 1) f (PySem.W.fnOf name qual params body scope dV kV doc pm an cdv ct) ["self", x] (spI K C x) := by
  refine fn_of lk hcd S (fun vs H Q E ⟨a, v, e, _⟩ => by rw [e]; rfl) ?_
  rintro A outer s H vs Q E hr ⟨a, v, rfl, T, ha, hv, q⟩
  subst hb
  obtain ⟨pl, hcall⟩ := ht (cxOf CX0 P w K mg base ["self", x] qual scope f cdv A outer s H E).env
  have v0 : ∀ p, PE (cxOf CX0 P w K mg base ["self", x] qual scope f cdv A outer s H E) (.Name "self" p) (tVar 0) := fun p => pe_var (i := 0) rfl (by
    rcases S.par "self" List.mem_cons_self with z | z
    · exact .inl z
    · exact .inr (.inl z)) (by decide) (by decide)
  have v1 : ∀ p, PE (cxOf CX0 P w K mg base ["self", x] qual scope f cdv A outer s H E) (.Name x p) (tVar 1) := fun p => pe_var (i := 1) rfl (by
    rcases S.par x (List.mem_cons_of_mem _ List.mem_cons_self) with z | z
    · exact .inl z
    · exact .inr (.inl z)) hd hcl
  refine ⟨_, pss_cons (ps_expr (pe_veinit hgV hmV vV (pa_cons (v0 _) (pa_cons (pe_joined (.cons pe_str (.cons (pe_fmt (v1 _)) .nil))) pa_nil)) hcall)) (pss_one (ps_ost (v0 _) (v1 _))), ?_⟩
  have hl : ∀ y : Str, y.length ≤ 1000000 → (Str.empty ++ lit).length ≤ sizeLine ∧ ((Str.empty ++ lit) ++ y).length ≤ sizeLine := fun y hy => by
    have e1 : (Str.empty ++ lit).length = lit.length := by rw [Str.length_append]; exact Nat.zero_add _
    exact ⟨by rw [e1, sizeLine_eq]; omega, by rw [Str.length_append (Str.empty ++ lit) y, e1, sizeLine_eq]; omega⟩
  have fin : ∀ out : Str, tOst K x (tVar 0) (tVar 1) { nx := fun _ H' => Q .non H', rt := Q } (L2.start ["self", x] [.ref a, v]) H := fun out =>
    ⟨v, rfl, .ref a, rfl, a, C, rfl, T, hno, .inl ⟨ha, fun dx n1 n2 => q dx n1 n2⟩⟩
  rcases hv with ⟨y, rfl, hy⟩ | ⟨i, rfl, hi⟩
  · refine ⟨.ref a, rfl, ⟨lit, rfl, (hl y hy).1, .str y, rfl, .inl ⟨y, rfl, by rw [sizeLine_eq]; omega, ⟨y, rfl, (hl y hy).2, ?_⟩⟩⟩⟩
    exact ⟨a, C, _, rfl, by show 1 ≤ 1000; decide, T, ha, fin lit⟩
  · have hs : ((toString i : String) : Str).length ≤ 13 := by
      have := PyData.shown_int_le hi
      rw [PyData.shown_int] at this
      exact this
    refine ⟨.ref a, rfl, ⟨lit, rfl, (hl (toString i) (by omega)).1, .int i, rfl, .inr ⟨i, rfl, log2_12 hi, ⟨_, rfl, (hl (toString i) (by omega)).2, ?_⟩⟩⟩⟩
    exact ⟨a, C, _, rfl, by show 1 ≤ 1000; decide, T, ha, fin lit⟩
end
/-! ### raise C(e) -/
/-- an exception class with one field -/
structure XCls (P : Program) (w : World) (K : Fr') (mg : Str → Option Value) (base : Heap) (xi : XI) (c : Nat) (nm fld : Str) : Prop where
  ex : ∃ (C fI : Addr) (fd : FuncData), xi c = some (C, [fld]) ∧ mg nm = some (.ref C) ∧ OexC K C ∧ PySem.W.findIn K (.ref C) "__init__" = some (some (.ref fI)) ∧ PySem.W.typeIn K (.ref fI) = some (.type "function") ∧
    (∀ k, FnOk P w K mg base CX0 (k + 1) fI fd ["self", fld] (spI K C fld)) ∧ L2.Binds K fd ["self", fld] [] ∧ XfC K C ∧ PySem.W.findIn K (.ref C) fld = some none
section
variable {X : Cx} {xi : XI} {W : WX}
theorem argV_of {K : Fr'} {ι : List Addr} {H : Hp} {ds : List D} {vs : List V} (g : RelDs K ι H ds vs) (h : exOk ds = true) : ∃ v, vs = [v] ∧ argV v := by
  cases g with
  | nil => cases h
  | cons q t =>
    cases t with
    | cons _ _ =>
      cases q <;> cases h
    | nil =>
      cases q with
      | int i => exact ⟨_, rfl, .inr ⟨i, rfl, of_decide_eq_true h⟩⟩
      | str h1 h2 => exact ⟨_, rfl, .inl ⟨_, rfl, by rw [SX.S_len]; exact of_decide_eq_true h⟩⟩
      | _ => cases h
theorem ds_raise {c n : Nat} {nm fld : Str} {e : Expr} {es : List Expr} {p pos rpos : Pos} {ms : Sg → Sto → R (List D)} (hc : X.calm = true) (tk : Takes X W) (hr : Room (n + 2) X.A) (xc : XCls X.prog X.w X.K X.mg X.base xi c nm fld) (hg : Gl X nm) (ha : PA X (e :: es) (tDs X.K xi W ms))
    (hp : (e :: es).all plainE = true) (hdb : (nm == ("__debug__" : Str)) = false) :
    PS X (.Raise (some (.Call (.Name nm p) (e :: es) [] pos)) none rpos) (tSm X.K xi W fun σ S => (ms σ S).at σ fun vs S1 => raiseR c vs σ S1) := by
  obtain ⟨C, fI, fd, hx, hm, T, iC, tI, F1, hb, _, _⟩ := xc.ex
  have hp' := hp
  rw [List.all_cons, Bool.and_eq_true] at hp'
  refine (ps_raise hc tk (pmk_oex (k := n + 1) (dvs := []) T iC tI (F1 n) hr hb .nil (fun _ _ _ _ _ _ _ h => h.elim) hg hm ha hdb (starEach_plain hp'.1) (star_none hp'.2))).mono fun G τ H ⟨ι, σ, S, r, g, h⟩ => ?_
  refine ⟨ι, σ, S, r, g, (PostS.at r g h).imp ?_⟩
  rintro vs H1 ⟨ι1, ds, S1, e1, r1, q1, h1⟩
  unfold raiseR at h1
  by_cases hk : exOk ds = true
  · rw [if_pos hk] at h1
    obtain ⟨v, rfl, av⟩ := argV_of q1 hk
    refine ⟨by show 1 ≤ 1000; decide, fun a na => ⟨a, v, rfl, T, upd_same, av, fun dx n1 n2 => ⟨rfl, dx, [(fld, v)], upd_same, ?_, ?_, ?_⟩⟩⟩
    · rw [upd_ne n2, upd_same]
    · rw [upd_ne n2] at n1
      exact n1
    · have nd : H1 dx = none := by
        rw [upd_ne n2] at n1
        exact n1
      have eH : upd (L2.del (upd (upd (upd H1 a (exo a C none)) dx (exd dx [(fld, v)])) a (exo a C (some dx))) a) dx (.xd [(fld, v)]) = upd H1 dx (.xd [(fld, v)]) := by
        funext b
        by_cases hb : b = dx
        · subst hb
          rw [upd_same, upd_same]
        · rw [upd_ne hb, upd_ne hb]
          by_cases hba : b = a
          · subst hba
            rw [del_same, na]
          · rw [del_ne hba, upd_ne hba, upd_ne hb, upd_ne hba]
      rw [eH]
      have ex := Ext.put (o := .xd [(fld, v)]) r1 nd
      refine h1 ι1 _ τ _ _ ex (r1.put nd) ((g.mono r e1).mono r1 ex) ⟨c, ds, C, [fld], rfl, hx, rfl, .inr ⟨dx, [v], rfl, by rw [q1.length]; rfl, upd_same, q1.mono r1 ex⟩⟩
  · rw [if_neg hk] at h1
    exact h1.elim
end
end Cl
namespace Cl
open PySem PySem.Spec PyProof.Rows L2
/-- the places of an __init__'s text -/
def txOf : List Stmt → InitTxt
  | [.Expr (.Call (.Attribute (.Name _ p1) _ p2) [.Name _ q1, .JoinedStr [.Constant _ j q2, .FormattedValue (.Name _ q3) _ _ q4] q5] [] q6) q7, .Assign [.Attribute (.Name _ q8) _ q9] (.Name _ q10) q11] => ⟨p1, p2, q1, j, q2, q3, q4, q5, q6, q7, q8, q9, q10, q11⟩
  | _ => ⟨⟨0, 0, 0, 0⟩, ⟨0, 0, 0, 0⟩, ⟨0, 0, 0, 0⟩, 0, ⟨0, 0, 0, 0⟩, ⟨0, 0, 0, 0⟩, ⟨0, 0, 0, 0⟩, ⟨0, 0, 0, 0⟩, ⟨0, 0, 0, 0⟩, ⟨0, 0, 0, 0⟩, ⟨0, 0, 0, 0⟩, ⟨0, 0, 0, 0⟩, ⟨0, 0, 0, 0⟩, ⟨0, 0, 0, 0⟩⟩
theorem veF {K : Fr'} : PySem.W.findCls K (.type "ValueError") (.type "type") "__init__" = some (.val (.builtin "ValueError.__init__")) := by kernel_rfl
end Cl

/-! part Py13d -/
/-! Cl: try .. except C as e: return ... -/
namespace Cl
open PySem PySem.Spec PyProof.Rows L2
section
variable {X : Cx} {xi : XI} {W : WX}
/-- what holds of the caught exception where its suite runs, and what is wanted of the values -/
def tXe (K : Fr') (i : Nat) (C : Addr) (fld : Str) (a : Addr) (cls : Value) (d : Option Addr) (x : XE) : TE := fun τ H Q => τ[i]? = some (some (.ref a)) ∧ cls = .ref C ∧ ∃ ι S v0 d0 dd, d = some dd ∧ H dd = some (.xd [(fld, v0)]) ∧ RelS K ι S H ∧ RelD K ι H d0 v0 ∧
  ∃ r, evX x [d0] = some r ∧ ∀ ι' H' v, Ext ι S H ι' S H' → RelS K ι' S H' → RelD K ι' H' r v → Q v H'
def tXes (K : Fr') (i : Nat) (C : Addr) (fld : Str) (a : Addr) (cls : Value) (d : Option Addr) (xs : List XE) : TA := fun τ H Q => τ[i]? = some (some (.ref a)) ∧ cls = .ref C ∧ ∃ ι S v0 d0 dd, d = some dd ∧ H dd = some (.xd [(fld, v0)]) ∧ RelS K ι S H ∧ RelD K ι H d0 v0 ∧
  ∃ rs, evXs xs [d0] = some rs ∧ ∀ ι' H' vs, Ext ι S H ι' S H' → RelS K ι' S H' → RelDs K ι' H' rs vs → Q vs H'
theorem xd_free {K : Fr'} {ι : List Addr} {S : Sto} {H : Hp} {dd : Addr} {l : List (Str × V)} (r : RelS K ι S H) (h : H dd = some (.xd l)) : ¬ Own ι S dd := fun q => by
  obtain ⟨vs, e⟩ := r.own q
  rw [h] at e
  cases e
section
variable {i : Nat} {C a : Addr} {fld n : Str} {cls : Value} {d : Option Addr} {oe : Obj} {pn : List (Addr × Obj)} {pos : Pos}
theorem dx_cst {e : Expr} {k : Kd} (h : ∀ (Y : Cx), PE Y e (tC k.toV)) (ho : k.ok = true) : PE X e (tXe X.K i C fld a cls d (.cst k)) := (h X).mono fun τ H Q ⟨_, _, ι, S, v0, d0, dd, _, _, r, _, y, e1, q⟩ => by
  have e2 : y = k.toD := (Option.some.inj e1).symm
  subst e2
  exact q ι H k.toV .refl r (Kd.rel ho)
theorem dx_fld (T : XfC X.K C) (hno : PySem.W.findIn X.K (.ref C) fld = some none) (hz : Zc cls d oe) (hf : ∃ vs, oe.data = .fields vs) (hN : X.N[i]? = some n) (hv : Vis X.env.scope n) (hd : (n == ("__debug__" : Str)) = false) (hcd : (n == ("__classdict__" : Str)) = false) {p : Pos} :
    PE (X.suite a ((a, oe) :: pn)) (.Attribute (.Name n p) fld pos) (tXe X.K i C fld a cls d .fld) :=
  (pe_xf T hno hz hf (pe_var (X := X.suite a ((a, oe) :: pn)) hN hv hd hcd) (by rfl)).mono fun τ H Q ⟨h1, h2, ι, S, v0, d0, dd, e1, e2, r, q0, y, e3, q⟩ => by
    have e4 : y = d0 := (Option.some.inj e3).symm
    subst e4
    exact ⟨.ref a, h1, rfl, h2, dd, _, v0, e1, e2, by simp, q ι H v0 .refl r q0⟩
theorem dxs_nil : PA X [] (tXes X.K i C fld a cls d []) := pa_nil.mono fun τ H Q ⟨_, _, ι, S, v0, d0, dd, _, _, r, _, y, e1, q⟩ => by
  have e2 : y = [] := (Option.some.inj e1).symm
  subst e2
  exact q ι H [] .refl r .nil
theorem dxs_cons {e : Expr} {es : List Expr} {x : XE} {xs : List XE} (he : PE X e (tXe X.K i C fld a cls d x)) (hs : PA X es (tXes X.K i C fld a cls d xs)) (hp : plainE e = true) : PA X (e :: es) (tXes X.K i C fld a cls d (x :: xs)) :=
  (pa_cons he hs (starEach_plain hp)).mono fun τ H Q ⟨h1, h2, ι, S, v0, d0, dd, e1, e2, r, q0, y, e3, q⟩ => by
    unfold evXs at e3
    cases ea : evX x [d0] with
    | none => rw [ea] at e3; cases e3
    | some r1 =>
      cases eb : evXs xs [d0] with
      | none => rw [ea, eb] at e3; cases e3
      | some rs =>
        rw [ea, eb] at e3
        have e4 : y = r1 :: rs := (Option.some.inj e3).symm
        subst e4
        refine ⟨h1, h2, ι, S, v0, d0, dd, e1, e2, r, q0, r1, ea, fun ι' H' v ex r' qv => ?_⟩
        refine ⟨h1, h2, ι', S, v0, d0, dd, e1, (ex.keep _ _ e2 (xd_free r e2)).1, r', q0.mono r ex, rs, eb, fun ι2 H2 vs ex2 r2 qs => ?_⟩
        exact q ι2 H2 (v :: vs) (ex.trans ex2) r2 (.cons (qv.mono r' ex2) qs)
theorem dx_tup {es : List Expr} {xs : List XE} {x1} (hs : PA X es (tXes X.K i C fld a cls d xs)) (hl : xs.length ≤ 1000) : PE X (.Tuple es x1 pos) (tXe X.K i C fld a cls d (.tup xs)) :=
  (pe_tup hs).mono fun τ H Q ⟨h1, h2, ι, S, v0, d0, dd, e1, e2, r, q0, y, e3, q⟩ => by
    have e3' : (evXs xs [d0]).map D.tup = some y := e3
    obtain ⟨rs, eb, rfl⟩ := Option.map_eq_some_iff.mp e3'
    have len : ∀ {xs : List XE} {rs : List D}, evXs xs [d0] = some rs → rs.length = xs.length := by
      intro xs
      induction xs with
      | nil => intro rs h; cases h; rfl
      | cons x xs ih =>
        intro rs h
        unfold evXs at h
        cases ea : evX x [d0] with
        | none => rw [ea] at h; cases h
        | some r1 =>
          cases ec : evXs xs [d0] with
          | none => rw [ea, ec] at h; cases h
          | some r2 =>
            rw [ea, ec] at h
            cases h
            rw [List.length_cons, ih ec]; rfl
    refine ⟨h1, h2, ι, S, v0, d0, dd, e1, e2, r, q0, rs, eb, fun ι' H' vs ex r' qs => ⟨?_, fun p hp => ?_⟩⟩
    · rw [← qs.length, len eb]
      exact Nat.le_of_lt (small1000 hl)
    · have ex2 := Ext.put (o := .tup vs) r' hp
      exact q ι' _ _ (ex.trans ex2) (r'.put hp) (.tup (.inl (.inl upd_same)) (RelDs.mono r' ex2 qs))
end
/-- the suite: return x -/
def tsX (K : Fr') (i : Nat) (C : Addr) (fld : Str) (x : XE) (a : Addr) (cls : Value) (d : Option Addr) : TS := fun G τ H => tXe K i C fld a cls d x τ H G.rt
theorem ds_try {c i : Nat} {nm fld n : Str} {body : List Stmt} {xe : Expr} {x : XE} {np rp pos' pos : Pos} {mb : Sg → Sto → RS} {C : Addr} (hs : X.stack = X.env :: X.outer) (hf : X.env.frame = some X.env.locals) (hN : X.N.Nodup) (hi : X.N[i]? = some n) (hln : X.env.kindOf n = some .local)
    (hx : xi c = some (C, [fld])) (hc : Names X nm (.ref C)) (tk : Takes X W) (xm : ∀ c' C' ns, xi c' = some (C', ns) → PySem.W.exmOne X.K (.ref C') (.ref C) = some (decide (c' = c)))
    (hb : ∀ (W : WX) (pn : List (Addr × Obj)) (xe : Value → Shared → Prop), Takes (X.tr pn xe) W → PassesOwn (model X.prog X.w) X.A X.env xe → PSs (X.tr pn xe) body (tSm X.K xi W mb))
    (hsu : ∀ (a : Addr) (oe : Obj) (cls : Value) (d : Option Addr) (pn : List (Addr × Obj)), Zc cls d oe → (∃ vs, oe.data = .fields vs) → PE (X.suite a ((a, oe) :: pn)) xe (tXe X.K i C fld a cls d x)) :
    PS X (.Try body [.ExceptHandler (some (.Name nm np)) (some n) [.Return (some xe) rp] pos'] [] [] pos) (tSm X.K xi W fun σ S => catchR c i x (mb σ S)) := by
  refine (ps_try_as (tb := fun W' => tSm X.K xi W' mb) (ts := tsX X.K i C fld x) hs hf hN hi hln hc tk hb fun a oe cls d pn hz hv => pss_one ((ps_ret (hsu a oe cls d pn hz hv)).mono fun G τ H h => h)).mono fun G τ H ⟨ι, σ, S, r, g, h⟩ => ?_
  refine ⟨ι, σ, S, r, g, ?_⟩
  dsimp only at h
  revert h
  cases mb σ S with
  | next σ1 S1 => exact fun h => h
  | ret d S1 => exact fun h => h
  | brk σ1 S1 => exact fun h => h
  | cont σ1 S1 => exact fun h => h
  | no => exact fun h => h
  | exc e σ1 S1 =>
    intro h ι1 H1 τ1 cls dd ex r1 g1 rx
    obtain ⟨c', fs, C', names, rfl, hx', rfl, alt⟩ := rx
    have xm' := xm c' C' names hx'
    refine ⟨_, xm', fun hb a na => ?_, fun hb => ?_⟩
    · have ec : c' = c := of_decide_eq_true hb
      subst ec
      rw [hx] at hx'
      cases hx'
      unfold catchR at h
      dsimp only at h
      rw [if_pos rfl] at h
      by_cases hl : i < σ1.length
      · rw [if_pos hl] at h
        obtain ⟨y, ey, h2⟩ := PostS.opt h
        rcases alt with ⟨z, _⟩ | ⟨d, vs, rfl, hlen, hd, q⟩
        · cases z
        · cases q with
          | nil => cases hlen
          | cons q0 t =>
            cases t with
            | cons _ _ => simp at hlen
            | nil =>
              rename_i d0 v0
              refine ⟨?_, rfl, ι1, S1, v0, d0, d, rfl, hd, r1, q0, y, ey, fun ι' H' v ex' r' qv => h2 ι' H' v (ex.trans ex') r' qv⟩
              rw [List.getElem?_set_self (by rw [← g1.len]; exact hl)]
      · rw [if_neg hl] at h
        exact h.elim
    · have ec : c' ≠ c := of_decide_eq_false hb
      unfold catchR at h
      dsimp only at h
      rw [if_neg ec] at h
      exact h ι1 H1 τ1 _ dd ex r1 g1 ⟨c', fs, C', names, rfl, hx', rfl, alt⟩
end
end Cl

/-! part Py14 -/
/-! Cl: the checker of terms against the text, and that it is sound. -/
namespace Cl
open PySem PySem.Spec PyProof.Rows L2
/-! ### built-ins, methods -/
def bltN : Bf → Option String
  | .len => some "len" | .abs => some "abs" | .max2 => some "max" | .min2 => some "min" | .int1 => some "int" | .int2 => some "int" | .repr => some "repr"
  | .list1 => some "list" | .tuple1 => some "tuple" | .all1 => some "all" | .any1 => some "any" | _ => none
def BltOk (b : Bf) (x : Str) : Prop := (x ≠ "__name__" ∧ (x == ("__debug__" : Str)) = false) ∧
  ((∃ id, bootBuiltins x = some (.builtin id) ∧ ∀ (X : Cx) (xi : XI), X.calm = true → X.A.guards = some [] → X.A.units + 65 < cLine → CallR X (.builtin id) (rBt X.K xi b)) ∨
    ∃ T, bootBuiltins x = some (.type T) ∧ ∀ (X : Cx) (xi : XI), CallR X (.type T) (rBt X.K xi b))
theorem bltOk : ∀ {b : Bf} {nm : String}, bltN b = some nm → BltOk b (Str.ofString nm) := by
  intro b nm h
  cases b <;> cases h
  · exact ⟨by decide +kernel, .inl ⟨_, PySem.boot_len, fun X xi _ _ _ => cl_len⟩⟩
  · exact ⟨by decide +kernel, .inl ⟨"abs", by decide +kernel, fun X xi _ _ _ => cl_abs⟩⟩
  · exact ⟨by decide +kernel, .inl ⟨"max", by decide +kernel, fun X xi hc _ _ => cl_max2 hc⟩⟩
  · exact ⟨by decide +kernel, .inl ⟨"min", by decide +kernel, fun X xi hc _ _ => cl_min2 hc⟩⟩
  · exact ⟨by decide +kernel, .inr ⟨"int", by decide +kernel, fun X xi => cl_int1⟩⟩
  · exact ⟨by decide +kernel, .inr ⟨"int", by decide +kernel, fun X xi => cl_int2⟩⟩
  · exact ⟨by decide +kernel, .inl ⟨"repr", by decide +kernel, fun X xi _ hg hu => cl_repr hg hu⟩⟩
  · exact ⟨by decide +kernel, .inr ⟨"list", by decide +kernel, fun X xi => cl_list1⟩⟩
  · exact ⟨by decide +kernel, .inr ⟨"tuple", by decide +kernel, fun X xi => cl_tuple1⟩⟩
  · exact ⟨by decide +kernel, .inl ⟨"all", by decide +kernel, fun X xi hc _ _ => cl_all1 hc⟩⟩
  · exact ⟨by decide +kernel, .inl ⟨"any", by decide +kernel, fun X xi hc _ _ => cl_any1 hc⟩⟩
def mthN : Mt → Option String
  | .strip => some "strip" | .lower => some "lower" | .upper => some "upper" | .split => some "split" | .partition => some "partition" | .join => some "join"
  | .find => some "find" | .index => some "index" | .count => some "count" | .append => some "append" | .pop => some "pop" | _ => none
def MthOk (m : Mt) (x : Str) : Prop := ∃ T id, T = (if m.ofList then "list" else "str") ∧ PlainAttrs T ∧ Slot T x id ∧ typeOf (.builtin id) = pure (.type "method_descriptor") ∧ ∀ (X : Cx) (xi : XI), MtR X id (rMt X.K xi m)
theorem mthOk : ∀ {m : Mt} {nm : String}, mthN m = some nm → MthOk m (Str.ofString nm) := by
  intro m nm h
  cases m <;> cases h
  · exact ⟨_, _, rfl, PySem.F.plainAttrs_str, PySem.F.slot_str_strip, PySem.F.type_str_strip, fun X xi => ml_strip⟩
  · exact ⟨_, _, rfl, PySem.F.plainAttrs_str, PySem.F.slot_str_lower, PySem.F.type_str_lower, fun X xi => ml_lower⟩
  · exact ⟨_, _, rfl, PySem.F.plainAttrs_str, PySem.F.slot_str_upper, PySem.F.type_str_upper, fun X xi => ml_upper⟩
  · exact ⟨_, _, rfl, PySem.F.plainAttrs_str, PySem.F.slot_str_split, PySem.F.type_str_split, fun X xi => ml_split⟩
  · exact ⟨_, _, rfl, PySem.F.plainAttrs_str, PySem.F.slot_str_partition, PySem.F.type_str_partition, fun X xi => ml_partition⟩
  · exact ⟨_, _, rfl, PySem.F.plainAttrs_str, PySem.F.slot_str_join, PySem.F.type_str_join, fun X xi => ml_join⟩
  · exact ⟨_, _, rfl, PySem.F.plainAttrs_str, PySem.F.slot_str_find, PySem.F.type_str_find, fun X xi => ml_find⟩
  · exact ⟨_, _, rfl, PySem.F.plainAttrs_str, PySem.F.slot_str_count, PySem.F.type_str_count, fun X xi => ml_count⟩
  · exact ⟨_, _, rfl, PySem.F.plainAttrs_str, PySem.F.slot_str_index, PySem.F.type_str_index, fun X xi => ml_index⟩
  · exact ⟨_, _, rfl, PySem.F.plainAttrs_list, PySem.F.slot_list_append, PySem.F.type_list_append, fun X xi => ml_append⟩
  · exact ⟨_, _, rfl, PySem.F.plainAttrs_list, PySem.F.slot_list_pop, PySem.F.type_list_pop, fun X xi => ml_pop⟩
/-! ### tables -/
structure Tab where
  T : List DefT
  G : List String
  B : List String
  X : List (String × String)
structure Cxt (t : Tab) (X : Cx) (xi : XI) (W : WX) (C : Cfg) (sc : Scope) (N : List Str) (n : Nat) : Prop where
  hs : X.env.scope = sc
  kind : sc.kind = .function
  hN : X.N = N
  nd : N.Nodup
  calm : X.calm = true
  g : GOk n X.A
  n2 : 2 ≤ n
  tk : Takes X W
  fn : ∀ f d, t.T[f]? = some d → ∃ a fd, X.mg d.name = some (.ref a) ∧ PySem.W.keepIn X.K (.ref a) = true ∧ Binds X.K fd d.ps [] ∧ (∀ sh ∈ d.shapes, KFact X.K fd d.ps sh.1 sh.2.1 sh.2.2) ∧ FnG X.prog X.w X.K X.mg X.base n a fd d.ps (spF X.K xi (C.call f))
  gl : ∀ g x, t.G[g]? = some x → ∃ d u v, C.g.c g = some d ∧ X.mg (Str.ofString x) = some u ∧ RelV v u ∧ ∀ ι H, RelD X.K ι H d v
  bl : ∀ x ∈ t.B, X.mg (Str.ofString x) = none
  xc : ∀ c nm fld, t.X[c]? = some (nm, fld) → XCls X.prog X.w X.K X.mg X.base xi c (Str.ofString nm) (Str.ofString fld)
  xm : ∀ c C ns c' C' ns', xi c = some (C, ns) → xi c' = some (C', ns') → PySem.W.exmOne X.K (.ref C') (.ref C) = some (decide (c' = c))
theorem Cxt.hu {t : Tab} {X : Cx} {xi : XI} {W : WX} {C : Cfg} {sc : Scope} {N : List Str} {n : Nat} (c : Cxt t X xi W C sc N n) : X.A.units + 65 < cLine := by
  have := c.g.room.un
  omega
theorem takes_no {X : Cx} {s : Shared} {H : Hp} {sc : Scope} {e : Env} {fp : List Addr} : Takes (X.blk s H sc e fp) noW := fun u s' h => by
  obtain ⟨_, _, _, _, _, _, _, _, _, _, _, _, _, _, _, _, z⟩ := h
  exact z.elim
theorem Cxt.blk {t : Tab} {X : Cx} {xi : XI} {W : WX} {C : Cfg} {sc : Scope} {N : List Str} {n : Nat} (c : Cxt t X xi W C sc N n) (s : Shared) (H : Hp) {scope : Scope} (hk : scope.kind = .function) (a : Addr) (cl : List (Str × Addr)) (fp : List Addr) :
    Cxt t (X.blk s H scope (compEnvC scope cl a X.env) fp) xi noW C (relS scope sc) N n :=
  ⟨by rw [← c.hs]; rfl, hk, c.hN, c.nd, c.calm, c.g, c.n2, takes_no, c.fn, c.gl, c.bl, c.xc, c.xm⟩

/-! ### the checker -/
def eqS (x : Str) (s : String) : Bool := decide (x = Str.ofString s)
def visB (sc : Scope) (x : Str) : Bool := match sc.names.lookup x with
  | some .local => true
  | some .cell => true
  | some .free => true
  | _ => false
def glB (sc : Scope) (x : Str) : Bool := match sc.names.lookup x with
  | some .globalImplicit => true
  | _ => false
def dbgB (x : Str) : Bool := !(x == ("__debug__" : Str)) && !(x == ("__classdict__" : Str))
theorem vis_of {sc : Scope} {x : Str} (h : visB sc x = true) : Vis sc x := by
  unfold visB at h
  split at h
  · rename_i e; exact .inl e
  · rename_i e; exact .inr (.inl e)
  · rename_i e; exact .inr (.inr e)
  · cases h
theorem gl_of {sc : Scope} {x : Str} (h : glB sc x = true) : sc.names.lookup x = some .globalImplicit := by
  unfold glB at h
  split at h
  · rename_i e; exact e
  · cases h
/-- a target's names -/
def locS (strict : Bool) (sc : Scope) (x : Str) : Bool := if strict then decide (sc.names.lookup x = some .local) else locB sc x
theorem locS_ok {strict : Bool} {sc : Scope} {x : Str} (h : locS strict sc x = true) : Loc sc x ∧ (strict = true → sc.names.lookup x = some .local) := by
  unfold locS at h
  cases strict with
  | true =>
    have h' := of_decide_eq_true h
    exact ⟨.inl h', fun _ => h'⟩
  | false => exact ⟨loc_of h, fun z => by cases z⟩
def storsB (strict : Bool) (N : List Str) (sc : Scope) : List Nat → List Expr → Bool
  | [], [] => true
  | i :: is, .Name x _ :: es => decide (N[i]? = some x) && locS strict sc x && storsB strict N sc is es
  | _, _ => false
def tgB (strict : Bool) (N : List Str) (sc : Scope) (tg : List Nat) (tup : Bool) (e : Expr) : Bool := match tup, e with
  | false, .Name x p => decide (tg.length = 1) && storsB strict N sc tg [.Name x p]
  | true, .Tuple es _ _ => storsB strict N sc tg es
  | _, _ => false
def isTup : Expr → Bool
  | .Tuple .. => true
  | _ => false
def tyB (t : Tab) (sc : Scope) (ty : Ty) (x : Str) : Bool := match tyN ty with
  | some nm => eqS x nm && glB sc x && t.B.contains nm
  | none => false
def tysB (t : Tab) (sc : Scope) : List Ty → List Expr → Bool
  | [], [] => true
  | ty :: ts, .Name x _ :: es => tyB t sc ty x && tysB t sc ts es
  | _, _ => false
def lenEs : Es → Nat
  | .nil => 0
  | .cons _ es => lenEs es + 1
def kwB : List String → List Keyword → Option (List Expr)
  | [], [] => some []
  | n :: ns, ⟨some x, e, _⟩ :: ks => if x = Str.ofString n then (kwB ns ks).map (e :: ·) else none
  | _, _ => none
def ownS (own : List (String × Nat)) : List (Str × Nat) := own.map fun p => (Str.ofString p.1, p.2)
theorem ownS_ix (own : List (String × Nat)) : (ownS own).map (·.2) = own.map (·.2) := by
  unfold ownS
  rw [List.map_map]
  rfl
def permB : List (Sum Nat Kd) → List (Sum Nat Kd) → Bool
  | [], [] => true
  | .inl i :: p, .inl j :: q => decide (i = j) && permB p q
  | .inr a :: p, .inr b :: q => decide (a = b) && permB p q
  | _, _ => false
theorem permB_eq : ∀ {p q : List (Sum Nat Kd)}, permB p q = true → p = q
  | [], [], _ => rfl
  | .inl i :: p, .inl j :: q, h => by
    unfold permB at h
    rw [Bool.and_eq_true] at h
    rw [of_decide_eq_true h.1, permB_eq h.2]
  | .inr i :: p, .inr j :: q, h => by
    unfold permB at h
    rw [Bool.and_eq_true] at h
    rw [of_decide_eq_true h.1, permB_eq h.2]
  | [], _ :: _, h => by cases h
  | .inl _ :: _, [], h => by cases h
  | .inr _ :: _, [], h => by cases h
  | .inl _ :: _, .inr _ :: _, h => by cases h
  | .inr _ :: _, .inl _ :: _, h => by cases h
def shapeB (n : Nat) (names : List String) (perm : List (Sum Nat Kd)) (l : List (Nat × List String × List (Sum Nat Kd))) : Bool := l.any fun s => decide (s.1 = n) && decide (s.2.1 = names) && permB s.2.2 perm
theorem shapeB_mem {n : Nat} {names : List String} {perm : List (Sum Nat Kd)} {l : List (Nat × List String × List (Sum Nat Kd))} (h : shapeB n names perm l = true) : (n, names, perm) ∈ l := by
  obtain ⟨s, hs, h⟩ := List.any_eq_true.mp h
  rw [Bool.and_eq_true, Bool.and_eq_true] at h
  have e : s = (n, names, perm) := by
    rw [← of_decide_eq_true h.1.1, ← of_decide_eq_true h.1.2, ← permB_eq h.2]
  rw [← e]
  exact hs
mutual
def chkE (t : Tab) (N : List Str) (sc : Scope) : E → Expr → Bool
  | .non, x => match x with | .Constant .none _ _ => true | _ => false
  | .bl b, x => match x with | .Constant (.bool c) _ _ => decide (b = c) | _ => false
  | .int i, x => match x with | .Constant (.int j) _ _ => decide (i = j) | _ => false
  | .str s, x => match x with | .Constant (.str y) _ _ => decide (y = SX.S s) && decide (s.length ≤ LIM) && asciiAll s | _ => false
  | .var i, x => match x with | .Name y _ => decide (N[i]? = some y) && visB sc y && dbgB y | _ => false
  | .glo g, x => match x with | .Name y _ => glB sc y && dbgB y && (match t.G[g]? with | some z => eqS y z | none => false) | _ => false
  | .bin o a b, x => match x with | .BinOp l op r _ => decide (op = opOf o) && chkE t N sc a l && chkE t N sc b r | _ => false
  | .neg a, x => match x with | .UnaryOp .USub l _ => chkE t N sc a l | _ => false
  | .not a, x => match x with | .UnaryOp .Not l _ => chkE t N sc a l | _ => false
  | .bop k es, x => match x with | .BoolOp op xs _ => decide (op = if k then .And else .Or) && chkEs t N sc es xs | _ => false
  | .ite c a b, x => match x with | .IfExp y l r _ => chkE t N sc c y && chkE t N sc a l && chkE t N sc b r | _ => false
  | .cmp o a b, x => match x with | .Compare l [op] [r] _ => decide (op = cmOf o) && chkE t N sc a l && chkE t N sc b r && notSet r | _ => false
  | .chain o p a b c, x => match x with | .Compare l [op, op2] [r, r2] _ => decide (op = cmOf o) && decide (op2 = cmOf p) && chkE t N sc a l && chkE t N sc b r && chkE t N sc c r2 && notSet r2 | _ => false
  | .tup es, x => match x with | .Tuple xs _ _ => chkEs t N sc es xs | _ => false
  | .lst es, x => match x with | .List xs _ => chkEs t N sc es xs | _ => false
  | .idx a b, x => match x with | .Subscript l r _ => chkE t N sc a l && chkE t N sc b r && notSlice r | _ => false
  | .slc a lo hi, x => match x with | .Subscript l (.Slice u v none _) _ => chkE t N sc a l && chkO t N sc lo u && chkO t N sc hi v | _ => false
  | .fld _ _, _ => false
  | .new _ _ _ _ _, _ => false
  | .mcall _ _ _ _ _ _, _ => false
  | .fmt _, _ => false
  | .cat _ _ _, _ => false
  | .call f es, x => match x with | .Call (.Name y _) xs [] _ => glB sc y && dbgB y && xs.all plainE && (match t.T[f]? with | some d => decide (y = d.name) | none => false) && chkEs t N sc es xs | _ => false
  | .callk f es ks names perm, x => match x with
    | .Call (.Name y _) xs kws _ => glB sc y && dbgB y && xs.all plainE && (match t.T[f]? with | some d => decide (y = d.name) && shapeB xs.length names perm d.shapes | none => false) && permOk perm && chkEs t N sc es xs &&
      (match kwB names kws with | some zs => chkEs t N sc ks zs | none => false)
    | _ => false
  | .blt b es, x => match x with | .Call (.Name y _) (x1 :: xs) [] _ => glB sc y && (x1 :: xs).all plainE && (match bltN b with | some nm => eqS y nm && t.B.contains nm | none => false) && chkEs t N sc es (x1 :: xs) | _ => false
  | .isi a ts single, x => match x with
    | .Call (.Name y _) [e, .Name z _] [] _ => single && eqS y "isinstance" && glB sc y && t.B.contains "isinstance" && plainE e && (match ts with | [ty] => tyB t sc ty z | _ => false) && chkE t N sc a e
    | .Call (.Name y _) [e, .Tuple es _ _] [] _ => !single && eqS y "isinstance" && glB sc y && t.B.contains "isinstance" && plainE e && tysB t sc ts es && decide (ts.length ≤ 1000) && !ts.isEmpty && chkE t N sc a e
    | _ => false
  | .mth m o es, x => match x with
    | .Call (.Attribute y name apos) xs [] cpos => (match mthN m with | some nm => eqS name nm | none => false) && plainBase y && (apos.endLine == cpos.line) && xs.all plainE && decide (xs.length < 30) && chkE t N sc o y && chkEs t N sc es xs
    | _ => false
  | .comp elt tg tup it cond own, x => match x with
    | .ListComp el [⟨te, iter, ifs, z⟩] scope _ => decide (z = 0) && blkC N sc scope (ownS own) && tg.all (fun i => (own.map (·.2)).contains i) && tgB true N (relS scope sc) tg tup te && notSetE iter && chkI t N sc it (isTup te) iter && chkC t N (relS scope sc) cond ifs && chkE t N (relS scope sc) elt el
    | _ => false
def chkEs (t : Tab) (N : List Str) (sc : Scope) : Es → List Expr → Bool
  | .nil, xs => match xs with | [] => true | _ => false
  | .cons e es, xs => match xs with | y :: ys => chkE t N sc e y && plainE y && chkEs t N sc es ys | _ => false
def chkO (t : Tab) (N : List Str) (sc : Scope) : Es → Option Expr → Bool
  | .nil, x => match x with | none => true | _ => false
  | .cons e _, x => match x with | some y => chkE t N sc e y | _ => false
def chkC (t : Tab) (N : List Str) (sc : Scope) : Es → List Expr → Bool
  | .nil, xs => match xs with | [] => true | _ => false
  | .cons e _, xs => match xs with | [y] => chkE t N sc e y | _ => false
def chkI (t : Tab) (N : List Str) (sc : Scope) : It → Bool → Expr → Bool
  | .val e, _, x => chkE t N sc e x
  | .rng es, _, x => match x with
    | .Call (.Name y _) [a] [] _ => eqS y "range" && glB sc y && t.B.contains "range" && chkEs t N sc es [a]
    | .Call (.Name y _) [a, b] [] _ => eqS y "range" && glB sc y && t.B.contains "range" && chkEs t N sc es [a, b]
    | _ => false
  | .enm e, tp, x => match x with | .Call (.Name y _) [a] [] _ => tp && eqS y "enumerate" && glB sc y && t.B.contains "enumerate" && plainE a && chkE t N sc e a | _ => false
  | .zip e f, tp, x => match x with | .Call (.Name y _) [a, b] [] _ => tp && eqS y "zip" && glB sc y && t.B.contains "zip" && plainE a && plainE b && chkE t N sc e a && chkE t N sc f b | _ => false
end
/-! ### lengths -/
theorem evEs_len {C : Cfg} : ∀ {es : Es} {σ : Sg} {S S1 : Sto} {vs : List D}, evEs C es σ S = .ok vs S1 → vs.length = lenEs es
  | .nil, _, _, _, _, h => by
    unfold evEs at h
    cases h
    rfl
  | .cons e es, σ, S, S1, vs, h => by
    unfold evEs at h
    cases e1 : evE C e σ S with
    | no => rw [e1] at h; cases h
    | exc _ _ => rw [e1] at h; cases h
    | ok x S2 =>
      rw [e1, R.bind_ok] at h
      cases e2 : evEs C es σ S2 with
      | no => rw [e2] at h; cases h
      | exc _ _ => rw [e2] at h; cases h
      | ok xs S3 =>
        rw [e2, R.bind_ok] at h
        cases h
        rw [List.length_cons, evEs_len e2]
        rfl
theorem chkEs_len {t : Tab} {N : List Str} {sc : Scope} : ∀ {es : Es} {xs : List Expr}, chkEs t N sc es xs = true → lenEs es = xs.length
  | .nil, xs, h => by
    unfold chkEs at h
    cases xs with
    | nil => rfl
    | cons _ _ => cases h
  | .cons e es, xs, h => by
    unfold chkEs at h
    cases xs with
    | nil => cases h
    | cons y ys =>
      dsimp only at h
      rw [Bool.and_eq_true] at h
      rw [List.length_cons, ← chkEs_len h.2]
      rfl
theorem chkEs_plain {t : Tab} {N : List Str} {sc : Scope} : ∀ {es : Es} {xs : List Expr}, chkEs t N sc es xs = true → xs.all plainE = true
  | .nil, xs, h => by
    unfold chkEs at h
    cases xs with
    | nil => rfl
    | cons _ _ => cases h
  | .cons e es, xs, h => by
    unfold chkEs at h
    cases xs with
    | nil => cases h
    | cons y ys =>
      dsimp only at h
      rw [Bool.and_eq_true, Bool.and_eq_true] at h
      rw [List.all_cons, h.1.2, chkEs_plain h.2]
      rfl
theorem kwB_ok : ∀ {ns : List String} {ks : List Keyword} {zs : List Expr}, kwB ns ks = some zs → Kws ns zs ks
  | [], [], zs, h => by
    cases h
    exact .nil
  | n :: ns, ⟨some x, e, p⟩ :: ks, zs, h => by
    unfold kwB at h
    split at h
    · rename_i hx
      obtain ⟨ys, e1, rfl⟩ := Option.map_eq_some_iff.mp h
      subst hx
      exact .cons (kwB_ok e1)
    · cases h
  | [], _ :: _, _, h => by cases h
  | _ :: _, [], _, h => by cases h
  | _ :: _, ⟨none, _, _⟩ :: _, _, h => by cases h
theorem stors_of {strict : Bool} {X : Cx} {sc : Scope} {N : List Str} (hs : X.env.scope = sc) (hN : X.N = N) (hf : strict = true ∨ ∀ x, X.fn x = true) : ∀ {is : List Nat} {es : List Expr}, storsB strict N sc is es = true → Stors X is es
  | [], [], _ => .nil
  | [], _ :: _, h => by cases h
  | _ :: _, [], h => by cases h
  | i :: is, e :: es, h => by
    cases e with
    | Name x p =>
      unfold storsB at h
      rw [Bool.and_eq_true, Bool.and_eq_true] at h
      have l := locS_ok h.1.2
      exact .cons ⟨by rw [hN]; exact of_decide_eq_true h.1.1, by rw [hs]; exact l.1, by rw [hs]; exact hf.elim (fun z => .inr (l.2 z)) fun z => .inl (z x)⟩ (stors_of hs hN hf h.2)
    | _ => cases h
theorem tgOk_of {strict : Bool} {X : Cx} {sc : Scope} {N : List Str} {tg : List Nat} {tup : Bool} {e : Expr} (hs : X.env.scope = sc) (hN : X.N = N) (hf : strict = true ∨ ∀ x, X.fn x = true) (h : tgB strict N sc tg tup e = true) : TgOk X tg tup e := by
  cases tup with
  | false =>
    cases e with
    | Name x p =>
      unfold tgB at h
      rw [Bool.and_eq_true] at h
      cases stors_of hs hN hf h.2 with
      | cons s t =>
        cases t
        exact ⟨_, x, p, rfl, rfl, s⟩
    | _ => cases h
  | true =>
    cases e with
    | Tuple es k p => exact ⟨es, k, p, rfl, stors_of hs hN hf h⟩
    | _ => cases h
end Cl

/-! part Py15 -/
/-! Cl: soundness of the checker, expressions. -/
namespace Cl
open PySem PySem.Spec PyProof.Rows L2
theorem Kws.len {xs es ks} (h : Kws xs es ks) : es.length = xs.length := by
  induction h with
  | nil => rfl
  | cons _ ih => simp [ih]
theorem and2 {a b : Bool} (h : (a && b) = true) : a = true ∧ b = true := by rwa [Bool.and_eq_true] at h
theorem dbg1 {x : Str} (h : dbgB x = true) : (x == ("__debug__" : Str)) = false ∧ (x == ("__classdict__" : Str)) = false := by
  unfold dbgB at h
  simp only [Bool.and_eq_true] at h
  obtain ⟨a, b⟩ := h
  exact ⟨by simpa using a, by simpa using b⟩
theorem de_glo {X : Cx} {xi : XI} {W : WX} {C : Cfg} {g : Nat} {x : Str} {pos : Pos} (hg : Gl X x) (hdb : (x == ("__debug__" : Str)) = false) (h : ∃ d u v, C.g.c g = some d ∧ X.mg x = some u ∧ RelV v u ∧ ∀ ι H, RelD X.K ι H d v) :
    PE X (.Name x pos) (tD X.K xi W fun _ S => R.opt (C.g.c g) fun d => .ok d S) := by
  obtain ⟨d, u, v, h1, h2, h3, h4⟩ := h
  refine (pe_glob hg h2 h3 hdb).mono fun τ H Q ⟨ι, σ, S, r, _, h⟩ => ?_
  rw [h1] at h
  exact PostR.now (show PostR X.K xi (RelD X.K) _ ι S H Q (.ok d S) from h) r (h4 ι H)
abbrev Ev (X : Cx) (xi : XI) (W : WX) (m : Sg → Sto → R D) (x : Expr) : Prop := PE X x (tD X.K xi W m) ∧ PT X x (tDT X.K xi W (tstD m))
theorem ev_plain {X : Cx} {xi : XI} {W : WX} {m : Sg → Sto → R D} {x : Expr} (h : PE X x (tD X.K xi W m)) (he : ∀ whole, isTrue x X.env whole = (do let v ← whole; standAt x.pos; holding [v] (truthy v))) : Ev X xi W m x := ⟨h, dt_plain h he⟩
theorem Cxt.gl_ {t : Tab} {X : Cx} {xi : XI} {W : WX} {C : Cfg} {sc : Scope} {N : List Str} {n : Nat} (c : Cxt t X xi W C sc N n) {x : Str} (h : glB sc x = true) : Gl X x := by
  show X.env.scope.names.lookup x = some .globalImplicit
  rw [c.hs]
  exact gl_of h
theorem Cxt.bl_ {t : Tab} {X : Cx} {xi : XI} {W : WX} {C : Cfg} {sc : Scope} {N : List Str} {n : Nat} (c : Cxt t X xi W C sc N n) {s : String} (h : t.B.contains s = true) : X.mg (Str.ofString s) = none := c.bl s (by simpa using h)
theorem tyB_ok {t : Tab} {X : Cx} {xi : XI} {W : WX} {C : Cfg} {sc : Scope} {N : List Str} {n : Nat} (c : Cxt t X xi W C sc N n) {ty : Ty} {x : Str} (h : tyB t sc ty x = true) : ∃ nm, tyN ty = some nm ∧ Gl X (Str.ofString nm) ∧ X.mg (Str.ofString nm) = none ∧ x = Str.ofString nm := by
  unfold tyB at h
  split at h
  · rename_i nm e
    simp only [Bool.and_eq_true] at h
    obtain ⟨⟨h0, h1⟩, h2⟩ := h
    have ex := of_decide_eq_true h0
    exact ⟨nm, e, by rw [← ex]; exact c.gl_ h1, c.bl_ h2, ex⟩
  · cases h
theorem tysB_ok {t : Tab} {X : Cx} {xi : XI} {W : WX} {C : Cfg} {sc : Scope} {N : List Str} {n : Nat} (c : Cxt t X xi W C sc N n) : ∀ {ts : List Ty} {es : List Expr}, tysB t sc ts es = true → TyNames X ts es
  | [], [], _ => .nil
  | [], _ :: _, h => by cases h
  | _ :: _, [], h => by cases h
  | ty :: ts, e :: es, h => by
    cases e with
    | Name x p =>
      unfold tysB at h
      obtain ⟨h0, h1⟩ := and2 h
      obtain ⟨nm, n1, n2, n3, n4⟩ := tyB_ok c h0
      subst n4
      exact .cons n1 n2 n3 (tysB_ok c h1)
    | _ => cases h
mutual
theorem sE {t : Tab} {N : List Str} {C : Cfg} {xi : XI} {n : Nat} : ∀ (e : E) (x : Expr) (sc : Scope) (X : Cx) (W : WX), chkE t N sc e x = true → Cxt t X xi W C sc N n → Ev X xi W (evE C e) x
  | .non, x, sc, X, W, h, c => by
    cases x <;> unfold chkE at h <;> try cases h
    rename_i v _ _
    cases v <;> try cases h
    exact ev_plain de_non fun _ => rfl
  | .bl b, x, sc, X, W, h, c => by
    cases x <;> unfold chkE at h <;> try cases h
    rename_i v _ _
    cases v <;> try cases h
    have e := of_decide_eq_true h
    subst e
    exact ev_plain de_bl fun _ => rfl
  | .int i, x, sc, X, W, h, c => by
    cases x <;> unfold chkE at h <;> try cases h
    rename_i v _ _
    cases v <;> try cases h
    have e := of_decide_eq_true h
    subst e
    exact ev_plain de_int fun _ => rfl
  | .str s, x, sc, X, W, h, c => by
    cases x <;> unfold chkE at h <;> try cases h
    rename_i v _ _
    cases v <;> try cases h
    simp only [Bool.and_eq_true] at h
    obtain ⟨⟨h0, h1⟩, h2⟩ := h
    exact ev_plain (de_str (of_decide_eq_true h0) (of_decide_eq_true h1) h2) fun _ => rfl
  | .var i, x, sc, X, W, h, c => by
    cases x <;> unfold chkE at h <;> try cases h
    simp only [Bool.and_eq_true] at h
    obtain ⟨⟨h0, h1⟩, h2⟩ := h
    exact ev_plain (de_var (by rw [c.hN]; exact of_decide_eq_true h0) (by rw [c.hs]; exact vis_of h1) (dbg1 h2).1 (dbg1 h2).2) fun _ => rfl
  | .glo g, x, sc, X, W, h, c => by
    cases x <;> unfold chkE at h <;> try cases h
    simp only [Bool.and_eq_true] at h
    obtain ⟨⟨h0, h1⟩, h2⟩ := h
    cases eg : t.G[g]? with
    | none => simp only [eg] at h2; cases h2
    | some z =>
      simp only [eg] at h2
      have e := of_decide_eq_true h2
      subst e
      exact ev_plain (de_glo (c.gl_ h0) (dbg1 h1).1 (c.gl g z eg)) fun _ => rfl
  | .bin o a b, x, sc, X, W, h, c => by
    cases x <;> unfold chkE at h <;> try cases h
    simp only [Bool.and_eq_true] at h
    obtain ⟨⟨h0, h1⟩, h2⟩ := h
    have e := of_decide_eq_true h0
    subst e
    exact ev_plain (de_bin (opr_all o) (sE a _ sc X W h1 c).1 (sE b _ sc X W h2 c).1) fun _ => rfl
  | .neg a, x, sc, X, W, h, c => by
    cases x <;> unfold chkE at h <;> try cases h
    rename_i op _ _
    cases op <;> try cases h
    exact ev_plain (de_neg (sE a _ sc X W h c).1) fun _ => rfl
  | .not a, x, sc, X, W, h, c => by
    cases x <;> unfold chkE at h <;> try cases h
    rename_i op _ _
    cases op <;> try cases h
    have ih := sE a _ sc X W h c
    exact ⟨de_not ih.1, dt_not ih.2⟩
  | .bop k es, x, sc, X, W, h, c => by
    cases x <;> unfold chkE at h <;> try cases h
    simp only [Bool.and_eq_true] at h
    obtain ⟨h0, h1⟩ := h
    have e := of_decide_eq_true h0
    subst e
    exact sB k es _ _ sc X W h1 c
  | .ite p a b, x, sc, X, W, h, c => by
    cases x <;> unfold chkE at h <;> try cases h
    simp only [Bool.and_eq_true] at h
    obtain ⟨⟨h0, h1⟩, h2⟩ := h
    have i0 := sE p _ sc X W h0 c
    have i1 := sE a _ sc X W h1 c
    have i2 := sE b _ sc X W h2 c
    exact ⟨de_ite i0.2 i1.1 i2.1, dt_ite i0.2 i1.2 i2.2⟩
  | .cmp o a b, x, sc, X, W, h, c => by
    cases x <;> unfold chkE at h <;> try cases h
    rename_i l ops rs pos
    split at h
    · simp only [Bool.and_eq_true] at h
      obtain ⟨⟨⟨h0, h1⟩, h2⟩, h3⟩ := h
      rename_i op r e1
      cases e1
      have e := of_decide_eq_true h0
      subst e
      have i1 := sE a _ sc X W h1 c
      have i2 := sE b _ sc X W h2 c
      exact ⟨de_cmp c.hu i1.1 i2.1 h3, dt_cmp c.hu i1.1 i2.1 h3⟩
    · cases h
  | .chain o p a b d, x, sc, X, W, h, c => by
    cases x <;> unfold chkE at h <;> try cases h
    rename_i l ops rs pos
    split at h
    · simp only [Bool.and_eq_true] at h
      obtain ⟨⟨⟨⟨⟨h0, h1⟩, h2⟩, h3⟩, h4⟩, h5⟩ := h
      rename_i op op2 r r2 e1
      cases e1
      have e := of_decide_eq_true h0
      subst e
      have e := of_decide_eq_true h1
      subst e
      have i1 := sE a _ sc X W h2 c
      have i2 := sE b _ sc X W h3 c
      have i3 := sE d _ sc X W h4 c
      exact ⟨de_chain c.hu i1.1 i2.1 i3.1 h5, dt_chain c.hu i1.1 i2.1 i3.1 h5⟩
    · cases h
  | .tup es, x, sc, X, W, h, c => by
    cases x <;> unfold chkE at h <;> try cases h
    exact ev_plain (de_tup (sEs es _ sc X W h c)) fun _ => rfl
  | .lst es, x, sc, X, W, h, c => by
    cases x <;> unfold chkE at h <;> try cases h
    exact ev_plain (de_lst (sEs es _ sc X W h c)) fun _ => rfl
  | .idx a b, x, sc, X, W, h, c => by
    cases x <;> unfold chkE at h <;> try cases h
    simp only [Bool.and_eq_true] at h
    obtain ⟨⟨h0, h1⟩, h2⟩ := h
    exact ev_plain (de_idx (sE a _ sc X W h0 c).1 (sE b _ sc X W h1 c).1 h2) fun _ => rfl
  | .slc a lo hi, x, sc, X, W, h, c => by
    unfold chkE at h
    split at h
    · rename_i l u v p2 pos
      simp only [Bool.and_eq_true] at h
      obtain ⟨⟨h0, h1⟩, h2⟩ := h
      exact ev_plain (de_slc (sE a _ sc X W h0 c).1 (sO lo _ sc X W h1 c) (sO hi _ sc X W h2 c)) fun _ => rfl
    · cases h
  | .fld a f, x, sc, X, W, h, c => by
    unfold chkE at h
    cases h
  | .new _ _ _ _ _, x, sc, X, W, h, c => by
    unfold chkE at h
    cases h
  | .mcall _ _ _ _ _ _, x, sc, X, W, h, c => by
    unfold chkE at h
    cases h
  | .fmt _, x, sc, X, W, h, c => by
    unfold chkE at h
    cases h
  | .cat _ _ _, x, sc, X, W, h, c => by
    unfold chkE at h
    cases h
  | .call f es, x, sc, X, W, h, c => by
    unfold chkE at h
    split at h
    · simp only [Bool.and_eq_true] at h
      obtain ⟨⟨⟨⟨h0, h1⟩, h2⟩, h3⟩, h4⟩ := h
      cases ef : t.T[f]? with
      | none => rw [ef] at h3; cases h3
      | some d =>
        rw [ef] at h3
        have e := of_decide_eq_true h3
        subst e
        obtain ⟨a, fd, m1, m2, m3, m4, m5⟩ := c.fn f d ef
        exact ev_plain (de_call m5 c.g c.tk (c.gl_ h0) m1 m2 m3 (sEs es _ sc X W h4 c) h2 (dbg1 h1).1) fun _ => rfl
    · cases h
  | .callk f es ks names perm, x, sc, X, W, h, c => by
    unfold chkE at h
    split at h
    · simp only [Bool.and_eq_true] at h
      obtain ⟨⟨⟨⟨⟨⟨h0, h1⟩, h2⟩, h3⟩, h4⟩, h5⟩, h6⟩ := h
      cases ef : t.T[f]? with
      | none => rw [ef] at h3; cases h3
      | some d =>
        rw [ef] at h3
        obtain ⟨h3, hsh⟩ := and2 h3
        have e := of_decide_eq_true h3
        subst e
        obtain ⟨a, fd, m1, m2, m3, m4, m5⟩ := c.fn f d ef
        split at h6
        · rename_i zs ek
          have kw := kwB_ok ek
          have hn : zs.length = names.length := kw.len
          refine ev_plain (de_callk m5 c.g c.tk (c.gl_ h0) m1 m2 (m4 _ (shapeB_mem hsh)) h4 (sEs es _ sc X W h5 c) h2 kw (sK ks _ sc X W h6 kw c) (fun σ S vs S1 hv => ?_) (fun σ S vs S1 hv => ?_) (fun e0 => ?_) (dbg1 h1).1) fun _ => rfl
          · rw [evEs_len hv, chkEs_len h5]
          · rw [evEs_len hv, chkEs_len h6, hn]
          · subst e0
            cases es with
            | nil => rfl
            | cons _ _ => cases h5
        · cases h6
    · cases h
  | .blt b es, x, sc, X, W, h, c => by
    unfold chkE at h
    split at h
    · simp only [Bool.and_eq_true] at h
      obtain ⟨⟨⟨h0, h1⟩, h2⟩, h3⟩ := h
      cases eb : bltN b with
      | none => rw [eb] at h2; cases h2
      | some nm =>
        rw [eb] at h2
        obtain ⟨h2, hB⟩ := and2 h2
        have e := of_decide_eq_true h2
        subst e
        obtain ⟨⟨nn, nd⟩, ok⟩ := bltOk eb
        refine ev_plain ?_ fun _ => rfl
        rcases ok with ⟨id, o1, o2⟩ | ⟨T, o1, o2⟩
        · exact de_bltF (o2 X xi c.calm c.g.gu c.hu) (c.gl_ h0) (c.bl_ hB) o1 (sEs es _ sc X W h3 c) nn nd h1
        · exact de_bltT (o2 X xi) (c.gl_ h0) (c.bl_ hB) o1 (sEs es _ sc X W h3 c) nn nd h1
    · cases h
  | .isi a ts single, x, sc, X, W, h, c => by
    unfold chkE at h
    split at h
    · simp only [Bool.and_eq_true] at h
      obtain ⟨⟨⟨⟨⟨⟨h0, h1⟩, h2⟩, h3⟩, h4⟩, h5⟩, h6⟩ := h
      have e := of_decide_eq_true h1
      subst e
      cases ts with
      | nil => cases h5
      | cons ty ts =>
        cases ts with
        | cons _ _ => cases h5
        | nil =>
          obtain ⟨nm, n1, n2, n3, n4⟩ := tyB_ok c h5
          subst n4
          exact ev_plain (de_isi1 n1 (c.gl_ h2) (c.bl_ h3) n2 n3 (sE a _ sc X W h6 c).1 h4) fun _ => rfl
    · simp only [Bool.and_eq_true] at h
      obtain ⟨⟨⟨⟨⟨⟨⟨⟨h0, h1⟩, h2⟩, h3⟩, h4⟩, h5⟩, h6⟩, h7⟩, h8⟩ := h
      have e := of_decide_eq_true h1
      subst e
      exact ev_plain (de_isiT (tysB_ok c h5) (by intro z; rw [z] at h7; cases h7) (of_decide_eq_true h6) (c.gl_ h2) (c.bl_ h3) (sE a _ sc X W h8 c).1 h4) fun _ => rfl
    · cases h
  | .mth m o es, x, sc, X, W, h, c => by
    unfold chkE at h
    split at h
    · simp only [Bool.and_eq_true] at h
      obtain ⟨⟨⟨⟨⟨⟨h0, h1⟩, h2⟩, h3⟩, h4⟩, h5⟩, h6⟩ := h
      cases em : mthN m with
      | none => rw [em] at h0; cases h0
      | some nm =>
        rw [em] at h0
        have e := of_decide_eq_true h0
        subst e
        obtain ⟨T, id, k1, k2, k3, k4, k5⟩ := mthOk em
        refine ev_plain ?_ fun _ => rfl
        rename_i xs _
        have io := (sE o _ sc X W h5 c).1
        cases xs with
        | nil =>
          cases es with
          | nil => exact de_mth0 k1 k2 k3 k4 (k5 X xi) io (base_plain h1) h2
          | cons _ _ => cases h6
        | cons y ys => exact de_mth k1 k2 k3 k4 (k5 X xi) io (sEs es _ sc X W h6 c) (base_plain h1) h2 h3 (of_decide_eq_true h4)
    · cases h
  | .comp elt tg tup it cond own, x, sc, X, W, h, c => by
    unfold chkE at h
    split at h
    · simp only [Bool.and_eq_true] at h
      obtain ⟨⟨⟨⟨⟨⟨⟨h0, h1⟩, h2⟩, h3⟩, h4⟩, h5⟩, h6⟩, h7⟩ := h
      rename_i el te iter ifs z scope pos
      have hz := of_decide_eq_true h0
      subst hz
      have bo := blkOk_by h1
      have key := de_comp (X := X) (xi := xi) (W := W) (pos := pos) (elt := el) (te := te) (iter := iter) (ifs := ifs) (scope := scope) (own := ownS own) (tg := tg) (tup := tup) (mi := evI C it) (mc := evC C cond) (me := evE C elt) c.calm (by rw [c.hN]; exact c.nd) (sI it te iter sc X W h5 c) (by rw [c.hN, c.hs]; exact bo)
        (fun i hi => by rw [ownS_ix]; simpa using List.all_eq_true.mp h2 i hi)
        (fun s H C' cl fp => let c2 := c.blk s H bo.kind C' cl fp; tgOk_of c2.hs c2.hN (.inl rfl) h3)
        (fun s H C' cl fp => sC cond ifs _ _ _ h6 (c.blk s H bo.kind C' cl fp))
        (fun s H C' cl fp => (sE elt el _ _ _ h7 (c.blk s H bo.kind C' cl fp)).1) h4
      rw [ownS_ix] at key
      exact ev_plain key fun _ => rfl
    · cases h
theorem sEs {t : Tab} {N : List Str} {C : Cfg} {xi : XI} {n : Nat} : ∀ (es : Es) (xs : List Expr) (sc : Scope) (X : Cx) (W : WX), chkEs t N sc es xs = true → Cxt t X xi W C sc N n → PA X xs (tDs X.K xi W (evEs C es))
  | .nil, xs, sc, X, W, h, c => by
    cases xs <;> unfold chkEs at h <;> try cases h
    exact das_nil
  | .cons e es, xs, sc, X, W, h, c => by
    cases xs <;> unfold chkEs at h <;> try cases h
    simp only [Bool.and_eq_true] at h
    obtain ⟨⟨h0, h1⟩, h2⟩ := h
    exact das_cons (sE e _ sc X W h0 c).1 (sEs es _ sc X W h2 c) h1
theorem sK {t : Tab} {N : List Str} {C : Cfg} {xi : XI} {n : Nat} : ∀ (es : Es) (xs : List Expr) (sc : Scope) (X : Cx) (W : WX) {names : List String} {ks : List Keyword}, chkEs t N sc es xs = true → Kws names xs ks → Cxt t X xi W C sc N n → PK X ks (tDs X.K xi W (evEs C es))
  | .nil, xs, sc, X, W, names, ks, h, k, c => by
    cases xs <;> unfold chkEs at h <;> try cases h
    cases k
    exact dks_nil
  | .cons e es, xs, sc, X, W, names, ks, h, k, c => by
    cases xs <;> unfold chkEs at h <;> try cases h
    cases k with
    | cons k' =>
      simp only [Bool.and_eq_true] at h
      obtain ⟨⟨h0, h1⟩, h2⟩ := h
      exact dks_cons (sE e _ sc X W h0 c).1 (sK es _ sc X W h2 k' c)
theorem sB {t : Tab} {N : List Str} {C : Cfg} {xi : XI} {n : Nat} (k : Bool) : ∀ (es : Es) (xs : List Expr) (pos : Pos) (sc : Scope) (X : Cx) (W : WX), chkEs t N sc es xs = true → Cxt t X xi W C sc N n → Ev X xi W (evE C (.bop k es)) (.BoolOp (if k then .And else .Or) xs pos)
  | .nil, xs, pos, sc, X, W, h, c => ⟨⟨fun pins s τ H Q I ⟨ι, σ, S, r, g, h⟩ => h.elim⟩, ⟨fun pins s τ H Q I ⟨ι, σ, S, r, g, h⟩ => h.elim⟩⟩
  | .cons e .nil, xs, pos, sc, X, W, h, c => by
    cases xs <;> unfold chkEs at h <;> try cases h
    rename_i y ys
    simp only [Bool.and_eq_true] at h
    obtain ⟨⟨h0, h1⟩, h2⟩ := h
    cases ys with
    | cons _ _ => unfold chkEs at h2; cases h2
    | nil =>
      have ih := sE e _ sc X W h0 c
      exact ⟨de_one ih.1, (dw_one ih.2).pt⟩
  | .cons e (.cons e2 es), xs, pos, sc, X, W, h, c => by
    cases xs <;> unfold chkEs at h <;> try cases h
    rename_i y ys
    simp only [Bool.and_eq_true] at h
    obtain ⟨⟨h0, h1⟩, h2⟩ := h
    cases ys with
    | nil => unfold chkEs at h2; cases h2
    | cons y2 ys =>
      have ih := sE e _ sc X W h0 c
      have iw := sW k (.cons e2 es) _ pos sc X W (by rfl) h2 c
      have ib := sB k (.cons e2 es) _ pos sc X W h2 c
      cases k with
      | true => exact ⟨de_and ih.1 ib.1, (dw_and ih.2 iw).pt⟩
      | false => exact ⟨de_or ih.1 ib.1, (dw_or ih.2 iw).pt⟩
theorem sW {t : Tab} {N : List Str} {C : Cfg} {xi : XI} {n : Nat} (k : Bool) : ∀ (es : Es) (xs : List Expr) (pos : Pos) (sc : Scope) (X : Cx) (W : WX), (es matches .cons _ _) = true → chkEs t N sc es xs = true → Cxt t X xi W C sc N n → PW X (.BoolOp (if k then .And else .Or) xs pos) (tDT X.K xi W (tstD (evE C (.bop k es))))
  | .nil, xs, pos, sc, X, W, hne, h, c => by cases hne
  | .cons e .nil, xs, pos, sc, X, W, hne, h, c => by
    cases xs <;> unfold chkEs at h <;> try cases h
    rename_i y ys
    simp only [Bool.and_eq_true] at h
    obtain ⟨⟨h0, h1⟩, h2⟩ := h
    cases ys with
    | cons _ _ => unfold chkEs at h2; cases h2
    | nil => exact dw_one (sE e _ sc X W h0 c).2
  | .cons e (.cons e2 es), xs, pos, sc, X, W, hne, h, c => by
    cases xs <;> unfold chkEs at h <;> try cases h
    rename_i y ys
    simp only [Bool.and_eq_true] at h
    obtain ⟨⟨h0, h1⟩, h2⟩ := h
    cases ys with
    | nil => unfold chkEs at h2; cases h2
    | cons y2 ys =>
      have ih := sE e _ sc X W h0 c
      have iw := sW k (.cons e2 es) _ pos sc X W (by rfl) h2 c
      cases k with
      | true => exact dw_and ih.2 iw
      | false => exact dw_or ih.2 iw
theorem sO {t : Tab} {N : List Str} {C : Cfg} {xi : XI} {n : Nat} : ∀ (es : Es) (x : Option Expr) (sc : Scope) (X : Cx) (W : WX), chkO t N sc es x = true → Cxt t X xi W C sc N n → PO X x (tDO X.K xi W (evO C es))
  | .nil, x, sc, X, W, h, c => by
    cases x <;> unfold chkO at h <;> try cases h
    exact do_none
  | .cons e es, x, sc, X, W, h, c => by
    cases x <;> unfold chkO at h <;> try cases h
    exact do_some (sE e _ sc X W h c).1
theorem sC {t : Tab} {N : List Str} {C : Cfg} {xi : XI} {n : Nat} : ∀ (es : Es) (xs : List Expr) (sc : Scope) (X : Cx) (W : WX), chkC t N sc es xs = true → Cxt t X xi W C sc N n → PTs X xs (tDT X.K xi W (evC C es))
  | .nil, xs, sc, X, W, h, c => by
    cases xs <;> unfold chkC at h <;> try cases h
    exact dts_nil
  | .cons e es, xs, sc, X, W, h, c => by
    cases xs <;> unfold chkC at h <;> try cases h
    rename_i y ys
    cases ys with
    | cons _ _ => cases h
    | nil => exact pts_one (sE e _ sc X W h c).2
theorem sI {t : Tab} {N : List Str} {C : Cfg} {xi : XI} {n : Nat} : ∀ (it : It) (te : Expr) (x : Expr) (sc : Scope) (X : Cx) (W : WX), chkI t N sc it (isTup te) x = true → Cxt t X xi W C sc N n → PI X te x (tDI X.K xi W (evI C it))
  | .val e, te, x, sc, X, W, h, c => di_val (sE e _ sc X W h c).1
  | .rng es, te, x, sc, X, W, h, c => by
    unfold chkI at h
    split at h
    · simp only [Bool.and_eq_true] at h
      obtain ⟨⟨⟨h0, h1⟩, h2⟩, h3⟩ := h
      have e := of_decide_eq_true h0
      subst e
      have hp := chkEs_plain h3
      rw [List.all_cons, Bool.and_eq_true] at hp
      exact di_rng1 (fun σ S vs S1 hv => by rw [evEs_len hv, chkEs_len h3]; rfl) (c.gl_ h1) (c.bl_ h2) (sEs es _ sc X W h3 c) hp.1
    · simp only [Bool.and_eq_true] at h
      obtain ⟨⟨⟨h0, h1⟩, h2⟩, h3⟩ := h
      have e := of_decide_eq_true h0
      subst e
      have hp := chkEs_plain h3
      rw [List.all_cons, Bool.and_eq_true, List.all_cons, Bool.and_eq_true] at hp
      exact di_rng2 (fun σ S vs S1 hv => by rw [evEs_len hv, chkEs_len h3]; rfl) (c.gl_ h1) (c.bl_ h2) (sEs es _ sc X W h3 c) hp.1 hp.2.1
    · cases h
  | .enm e, te, x, sc, X, W, h, c => by
    unfold chkI at h
    split at h
    · simp only [Bool.and_eq_true] at h
      obtain ⟨⟨⟨⟨⟨h0, h1⟩, h2⟩, h3⟩, h4⟩, h5⟩ := h
      have e1 := of_decide_eq_true h1
      subst e1
      cases te with
      | Tuple elts k p => exact di_enm (c.gl_ h2) (c.bl_ h3) (sE e _ sc X W h5 c).1 h4
      | _ => cases h0
    · cases h
  | .zip e f, te, x, sc, X, W, h, c => by
    unfold chkI at h
    split at h
    · simp only [Bool.and_eq_true] at h
      obtain ⟨⟨⟨⟨⟨⟨⟨h0, h1⟩, h2⟩, h3⟩, h4⟩, h5⟩, h6⟩, h7⟩ := h
      have e1 := of_decide_eq_true h1
      subst e1
      cases te with
      | Tuple elts k p => exact di_zip (c.gl_ h2) (c.bl_ h3) (sE e _ sc X W h6 c).1 (sE f _ sc X W h7 c).1 h4 h5
      | _ => cases h0
    · cases h
end
end Cl

/-! part Py16 -/
/-! Cl: soundness of the checker, statements; a def; the law's call. -/
namespace Cl
open PySem PySem.Spec PyProof.Rows L2
/-! ### stores that are exchanged -/
/-- is the assignment of a comprehension used up at once -/
def swB (sc : Scope) (x : Str) (p cp : Pos) (scope : Scope) : Bool := (sc.names.lookup x == some .local) && (p.line == cp.line) && !(scope.names.any fun (n, k) => n == x && (k == .local || k == .cell))
theorem blockKind_of {env : Env} (hk : env.scope.kind = .function) : env.blockKind = .function := by unfold Env.blockKind; rw [hk]; rfl
theorem swB_eq {elt : Expr} {gs : List Comprehension} {scope sc : Scope} {cp p : Pos} {x : Str} {l : Nat} {env : Env} (hs : env.scope = sc) (hk : sc.kind = .function) : swapsWith (.ListComp elt gs scope cp) (some (.Name x p)) l env = pure (swB sc x p cp scope) := by
  subst hs
  have hb := blockKind_of hk
  unfold swapsWith swB
  simp only [hb, Expr.pos]
  rfl
/-- what the stores of a, b = x, y are -/
def swp (sc : Scope) (ts vs : List Expr) : Option (Option (List Str)) :=
  if !(ts.length == 2 || ts.length == 3) || vs.length != ts.length then some none
  else if vs.any fun | .Starred .. => true | _ => false then some none
  else
    let line := (ts.head?.map (·.pos.line)).getD 0
    let names := ts.filterMap fun
      | .Name id pos => if sc.names.lookup id == some .local && pos.line == line then some id else none
      | _ => none
    if names.length != ts.length || names.eraseDups.length != names.length then some none
    else if vs.all (foldedForSure 8) then some none
    else if vs.all (constantsAlone 8) then none
    else some (some names)
theorem swp_eq {sc : Scope} {ts vs : List Expr} {k k2 : Nat} {p p2 : Pos} {env : Env} {r : Option (List Str)} (hs : env.scope = sc) (hk : sc.kind = .function) (h : swp sc ts vs = some r) : swappedStores [.Tuple ts k p] (.Tuple vs k2 p2) env = pure r := by
  subst hs
  have hb := blockKind_of hk
  have hb2 : (env.blockKind != ScopeKind.function) = false := by rw [hb]; rfl
  have kd : ∀ x, env.kindOf x = env.scope.names.lookup x := fun _ => rfl
  unfold swappedStores
  unfold swp at h
  simp only [hb2, kd, Bool.or_false] at h ⊢
  split at h
  · rename_i c
    cases h
    simp only [c, if_true]
  · rename_i c
    simp only [c, if_false]
    refine (if_neg (by decide)).trans ?_
    split at h
    · rename_i c2
      cases h
      exact if_pos c2
    · rename_i c2
      refine (if_neg c2).trans ?_
      split at h
      · rename_i c3
        cases h
        exact if_pos c3
      · rename_i c3
        refine (if_neg c3).trans ?_
        split at h
        · rename_i c4
          cases h
          exact if_pos c4
        · rename_i c4
          refine (if_neg c4).trans ?_
          split at h
          · cases h
          · rename_i c5
            cases h
            exact if_neg c5
theorem swp_none {ts : List Expr} {e : Expr} {k : Nat} {p : Pos} {env : Env} (h : isTup e = false) : swappedStores [.Tuple ts k p] e env = pure none := by
  cases e <;> first | rfl | cases h
/-! ### the checker of statements -/
def swOk (sc : Scope) (y : Str) (p : Pos) : Expr → Bool
  | .ListComp _ _ scope cp => !swB sc y p cp scope || decide (sc.names.lookup y = some .local)
  | v => notComp v
def parB (sc : Scope) (is : List Nat) (ts xs : List Expr) : Bool := match swp sc ts xs with
  | some none => true
  | some (some names) => (match is, ts, xs with
    | [i, j], [.Name x _, .Name y _], [_, _] => decide (names = [x, y]) && decide (i ≠ j) && decide (sc.names.lookup x = some .local) && decide (sc.names.lookup y = some .local)
    | [i, j, l], [.Name x _, .Name y _, .Name z _], [_, _, _] => decide (names = [x, y, z]) && decide (i ≠ j) && decide (i ≠ l) && decide (j ≠ l) && decide (sc.names.lookup x = some .local) && decide (sc.names.lookup y = some .local) && decide (sc.names.lookup z = some .local)
    | _, _, _ => false)
  | none => false
def cstB : Kd → Const → Bool
  | .non, .none => true
  | .bl b, .bool b' => decide (b = b')
  | .int i, .int i' => decide (i = i')
  | .str s, .str s' => decide (s' = SX.S s)
  | _, _ => false
mutual
def chkX (n fld : Str) : XE → Expr → Bool
  | .cst k, x => match x with | .Constant c _ _ => k.ok && cstB k c | _ => false
  | .fld, x => match x with | .Attribute (.Name y _) f _ => decide (y = n) && decide (f = fld) | _ => false
  | .tup xs, x => match x with | .Tuple es _ _ => chkXs n fld xs es && decide (xs.length ≤ 1000) | _ => false
def chkXs (n fld : Str) : List XE → List Expr → Bool
  | [], xs => match xs with | [] => true | _ => false
  | x :: xs, es => match es with | e :: es => chkX n fld x e && plainE e && chkXs n fld xs es | _ => false
end
mutual
def chkS (t : Tab) (N : List Str) (sc : Scope) : St → Stmt → Bool
  | .set i e, x => match x with | .Assign [.Name y p] v _ => storsB false N sc [i] [.Name y p] && chkE t N sc e v && swOk sc y p v | _ => false
  | .sets tg e, x => match x with | .Assign [.Tuple ts _ _] v _ => storsB false N sc tg ts && chkE t N sc e v && notComp v && !isTup v | _ => false
  | .par is es, x => match x with | .Assign [.Tuple ts _ _] (.Tuple xs _ _) _ => storsB false N sc is ts && chkEs t N sc es xs && decide (is.length ≤ 1000) && parB sc is ts xs | _ => false
  | .aug i o e, x => match x with | .AugAssign (.Name y p) op v _ => storsB false N sc [i] [.Name y p] && decide (op = opOf o) && chkE t N sc e v | _ => false
  | .setf _ _ _, _ => false
  | .augf _ _ _ _, _ => false
  | .seti o i e, x => match x with | .Assign [.Subscript ox ix _] v _ => chkE t N sc o ox && chkE t N sc i ix && chkE t N sc e v && notSlice ix | _ => false
  | .expr e, x => match x with | .Expr v _ => chkE t N sc e v && notComp v | _ => false
  | .ret e, x => match x with | .Return (some v) _ => chkE t N sc e v | _ => false
  | .retn, x => match x with | .Return none _ => true | _ => false
  | .ifs c a b, x => match x with | .If v l r _ => chkE t N sc c v && chkSs t N sc a l && chkSs t N sc b r | _ => false
  | .whl c _ b, x => match x with | .While v l [] _ => chkE t N sc c v && chkSs t N sc b l | _ => false
  | .forr tg tup it _ b, x => match x with | .For te iter body [] _ => tgB false N sc tg tup te && chkI t N sc it (isTup te) iter && notSetE iter && chkSs t N sc b body | _ => false
  | .raise c es, x => match x with
    | .Raise (some (.Call (.Name y _) (e1 :: xs) [] _)) none _ => (match t.X[c]? with | some (nm, _) => eqS y nm | none => false) && glB sc y && dbgB y && chkEs t N sc es (e1 :: xs)
    | _ => false
  | .tryx _ _, _ => false
  | .tryr b c i x, s => match s with
    | .Try body [.ExceptHandler (some (.Name y _)) (some n) [.Return (some xe) _] _] [] [] _ => (match t.X[c]? with | some (nm, fld) => eqS y nm && chkX n (Str.ofString fld) x xe | none => false) && glB sc y && dbgB y && decide (N[i]? = some n) && decide (sc.names.lookup n = some .local) && dbgB n && chkSs t N sc b body
    | _ => false
  | .pass, x => match x with | .Pass _ => true | .Expr (.Constant (.str _) _ _) _ => true | _ => false
  | .brk, x => match x with | .Break _ => true | _ => false
  | .cont, x => match x with | .Continue _ => true | _ => false
def chkSs (t : Tab) (N : List Str) (sc : Scope) : Ss → List Stmt → Bool
  | .nil, xs => match xs with | [] => true | _ => false
  | .cons s ss, xs => match xs with | y :: ys => chkS t N sc s y && chkSs t N sc ss ys | _ => false
end
structure CxtS (t : Tab) (X : Cx) (xi : XI) (W : WX) (C : Cfg) (sc : Scope) (N : List Str) (n : Nat) : Prop extends Cxt t X xi W C sc N n where
  fnT : ∀ x, X.fn x = true
  po : PassesOwn (model X.prog X.w) X.A X.env X.xe
  stk : X.stack = X.env :: X.outer
  frm : X.env.frame = some X.env.locals
section
variable {t : Tab} {X : Cx} {xi : XI} {W : WX} {C : Cfg} {sc : Scope} {N : List Str} {n : Nat}
theorem CxtS.stors (c : CxtS t X xi W C sc N n) {is : List Nat} {es : List Expr} (h : storsB false N sc is es = true) : Stors X is es := stors_of c.hs c.hN (.inr c.fnT) h
theorem CxtS.nodup (c : CxtS t X xi W C sc N n) : X.N.Nodup := by rw [c.hN]; exact c.nd
theorem stor1 {i : Nat} {x : Str} {p : Pos} (h : Stors X [i] [.Name x p]) : Stor X i x := by
  cases h with
  | cons s _ => exact s
/-- a comprehension that is stored at once -/
theorem set_lc (c : CxtS t X xi W C sc N n) {i : Nat} {y : Str} {p spos : Pos} {e : E} {el : Expr} {gs : List Comprehension} {scope : Scope} {cp : Pos} (s : Stor X i y) (h : chkE t N sc e (.ListComp el gs scope cp) = true) (hw : swOk sc y p (.ListComp el gs scope cp) = true) :
    PS X (.Assign [.Name y p] (.ListComp el gs scope cp) spos) (tSm X.K xi W fun σ S => (evE C e σ S).at σ fun d S1 => .next (σ.set i (some d)) S1) := by
  have sw := swB_eq (elt := el) (gs := gs) (scope := scope) (cp := cp) (p := p) (x := y) (l := spos.line) c.hs c.kind
  cases hb : swB sc y p cp scope with
  | false =>
    rw [hb] at sw
    exact ds_set c.nodup s (sE e _ sc X W h c.toCxt).1 sw
  | true =>
    rw [hb] at sw
    have hl : sc.names.lookup y = some .local := by
      have hw' : (!swB sc y p cp scope || decide (sc.names.lookup y = some .local)) = true := hw
      rw [hb] at hw'
      exact of_decide_eq_true (by simpa using hw')
    cases e <;> unfold chkE at h <;> try cases h
    rename_i elt tg tup it cond own
    split at h
    · simp only [Bool.and_eq_true] at h
      obtain ⟨⟨⟨⟨⟨⟨⟨h0, h1⟩, h2⟩, h3⟩, h4⟩, h5⟩, h6⟩, h7⟩ := h
      rename_i el' te iter ifs z scope' pos' heq
      cases heq
      have hz := of_decide_eq_true h0
      subst hz
      have bo := blkOk_by h1
      have key := ds_setLc (X := X) (xi := xi) (W := W) (pos := cp) (spos := spos) (py := p) (i := i) (y := y) (elt := el) (te := te) (iter := iter) (ifs := ifs) (scope := scope) (own := ownS own) (tg := tg) (tup := tup) (mi := evI C it) (mc := evC C cond) (me := evE C elt) c.calm c.nodup s.ix (by rw [c.hs]; exact hl) sw
        (sI it te iter sc X W h5 c.toCxt) (by rw [c.hN, c.hs]; exact bo)
        (fun i hi => by rw [ownS_ix]; simpa using List.all_eq_true.mp h2 i hi)
        (fun s H C' cl fp => let c2 := c.toCxt.blk s H bo.kind C' cl fp; tgOk_of c2.hs c2.hN (.inl rfl) h3)
        (fun s H C' cl fp => sC cond ifs _ _ _ h6 (c.toCxt.blk s H bo.kind C' cl fp))
        (fun s H C' cl fp => (sE elt el _ _ _ h7 (c.toCxt.blk s H bo.kind C' cl fp)).1) h4
      rw [ownS_ix] at key
      exact key
    · cases h
theorem set_any (c : CxtS t X xi W C sc N n) {i : Nat} {y : Str} {p spos : Pos} {e : E} {v : Expr} (s : Stor X i y) (h : chkE t N sc e v = true) (hw : swOk sc y p v = true) :
    PS X (.Assign [.Name y p] v spos) (tSm X.K xi W fun σ S => (evE C e σ S).at σ fun d S1 => .next (σ.set i (some d)) S1) := by
  have plain : notComp v = true → PS X (.Assign [.Name y p] v spos) (tSm X.K xi W fun σ S => (evE C e σ S).at σ fun d S1 => .next (σ.set i (some d)) S1) := fun hp =>
    ds_set c.nodup s (sE e v sc X W h c.toCxt).1 (swaps_plain hp)
  cases v with
  | ListComp el gs scope cp => exact set_lc c s h hw
  | SetComp _ _ _ _ => cases hw
  | DictComp _ _ _ _ _ => cases hw
  | _ => exact plain rfl
end
theorem kd_pe {k : Kd} {c : Const} {j : Nat} {p : Pos} (h : cstB k c = true) (Y : Cx) : PE Y (.Constant c j p) (tC k.toV) := by
  cases k with
  | non =>
    cases c <;> try cases h
    exact pe_non
  | bl b =>
    cases c <;> try cases h
    have e := of_decide_eq_true h
    subst e
    exact pe_bl
  | int i =>
    cases c <;> try cases h
    have e := of_decide_eq_true h
    subst e
    exact pe_int
  | str s =>
    cases c <;> try cases h
    have e := of_decide_eq_true h
    subst e
    exact pe_str
mutual
theorem sX {X : Cx} {i : Nat} {C a : Addr} {n fld : Str} {cls : Value} {d : Option Addr} {oe : Obj} {pn : List (Addr × Obj)} (T : XfC X.K C) (hno : PySem.W.findIn X.K (.ref C) fld = some none) (hz : Zc cls d oe) (hf : ∃ vs, oe.data = .fields vs) (hN : X.N[i]? = some n) (hv : Vis X.env.scope n) (hd : (n == ("__debug__" : Str)) = false) (hcd : (n == ("__classdict__" : Str)) = false) :
    ∀ (x : XE) (e : Expr), chkX n fld x e = true → PE (X.suite a ((a, oe) :: pn)) e (tXe X.K i C fld a cls d x)
  | .cst k, e, h => by
    unfold chkX at h
    split at h
    · obtain ⟨h0, h1⟩ := and2 h
      exact dx_cst (X := X.suite a ((a, oe) :: pn)) (kd_pe h1) h0
    · cases h
  | .fld, e, h => by
    unfold chkX at h
    split at h
    · obtain ⟨h0, h1⟩ := and2 h
      have e0 := of_decide_eq_true h0
      have e1 := of_decide_eq_true h1
      subst e0
      subst e1
      exact dx_fld T hno hz hf hN hv hd hcd
    · cases h
  | .tup xs, e, h => by
    unfold chkX at h
    split at h
    · obtain ⟨h0, h1⟩ := and2 h
      exact dx_tup (X := X.suite a ((a, oe) :: pn)) (sXs T hno hz hf hN hv hd hcd xs _ h0) (of_decide_eq_true h1)
    · cases h
theorem sXs {X : Cx} {i : Nat} {C a : Addr} {n fld : Str} {cls : Value} {d : Option Addr} {oe : Obj} {pn : List (Addr × Obj)} (T : XfC X.K C) (hno : PySem.W.findIn X.K (.ref C) fld = some none) (hz : Zc cls d oe) (hf : ∃ vs, oe.data = .fields vs) (hN : X.N[i]? = some n) (hv : Vis X.env.scope n) (hd : (n == ("__debug__" : Str)) = false) (hcd : (n == ("__classdict__" : Str)) = false) :
    ∀ (xs : List XE) (es : List Expr), chkXs n fld xs es = true → PA (X.suite a ((a, oe) :: pn)) es (tXes X.K i C fld a cls d xs)
  | [], es, h => by
    unfold chkXs at h
    split at h
    · exact dxs_nil (X := X.suite a ((a, oe) :: pn))
    · cases h
  | x :: xs, es, h => by
    unfold chkXs at h
    split at h
    · simp only [Bool.and_eq_true] at h
      obtain ⟨⟨h0, h1⟩, h2⟩ := h
      exact dxs_cons (X := X.suite a ((a, oe) :: pn)) (sX T hno hz hf hN hv hd hcd x _ h0) (sXs T hno hz hf hN hv hd hcd xs _ h2) h1
    · cases h
end
theorem CxtS.tr {t : Tab} {X : Cx} {xi : XI} {W W' : WX} {C : Cfg} {sc : Scope} {N : List Str} {n : Nat} (c : CxtS t X xi W C sc N n) {pn : List (Addr × Obj)} {xe : Value → Shared → Prop} (tk : Takes (X.tr pn xe) W') (po : PassesOwn (model X.prog X.w) X.A X.env xe) : CxtS t (X.tr pn xe) xi W' C sc N n :=
  { hs := c.hs, kind := c.kind, hN := c.hN, nd := c.nd, calm := c.calm, g := c.g, n2 := c.n2, tk := tk, fn := c.fn, gl := c.gl, bl := c.bl, xc := c.xc, xm := c.xm, fnT := c.fnT, po := po, stk := c.stk, frm := c.frm }
mutual
theorem sS {t : Tab} {N : List Str} {C : Cfg} {xi : XI} {n : Nat} {sc : Scope} : ∀ (s : St) (x : Stmt) (X : Cx) (W : WX), CxtS t X xi W C sc N n → chkS t N sc s x = true → PS X x (tSm X.K xi W (evS C s))
  | .set i e, x, X, W, c, h => by
    unfold chkS at h
    split at h
    · simp only [Bool.and_eq_true] at h
      obtain ⟨⟨h0, h1⟩, h2⟩ := h
      exact set_any c (stor1 (c.stors h0)) h1 h2
    · cases h
  | .sets tg e, x, X, W, c, h => by
    unfold chkS at h
    split at h
    · simp only [Bool.and_eq_true] at h
      obtain ⟨⟨⟨h0, h1⟩, h2⟩, h3⟩ := h
      exact ds_sets c.calm c.nodup (c.stors h0) (sE e _ sc X W h1 c.toCxt).1 (swaps_plain h2) (swp_none (by simpa using h3))
    · cases h
  | .par is es, x, X, W, c, h => by
    unfold chkS at h
    split at h
    · rename_i ts k1 p1 xs k2 p2 pos
      simp only [Bool.and_eq_true] at h
      obtain ⟨⟨⟨h0, h1⟩, h2⟩, h3⟩ := h
      have st := c.stors h0
      have ha := sEs es xs sc X W h1 c.toCxt
      unfold parB at h3
      split at h3
      · rename_i e
        exact ds_par0 c.calm c.nodup st (Nat.le_trans (of_decide_eq_true h2) (by decide)) ha (swp_eq c.hs c.kind e)
      · rename_i names e
        split at h3
        · simp only [Bool.and_eq_true] at h3
          obtain ⟨⟨⟨q0, q1⟩, q2⟩, q3⟩ := h3
          have en := of_decide_eq_true q0
          subst en
          cases st with
          | cons s1 st =>
            cases st with
            | cons s2 st =>
              exact ds_par2 c.calm c.nodup s1.ix s2.ix (of_decide_eq_true q1) (by rw [c.hs]; exact of_decide_eq_true q2) (by rw [c.hs]; exact of_decide_eq_true q3) ha (swp_eq c.hs c.kind e)
        · simp only [Bool.and_eq_true] at h3
          obtain ⟨⟨⟨⟨⟨⟨q0, q1⟩, q2⟩, q3⟩, q4⟩, q5⟩, q6⟩ := h3
          have en := of_decide_eq_true q0
          subst en
          cases st with
          | cons s1 st =>
            cases st with
            | cons s2 st =>
              cases st with
              | cons s3 st =>
                exact ds_par3 c.calm c.nodup s1.ix s2.ix s3.ix (of_decide_eq_true q1) (of_decide_eq_true q2) (of_decide_eq_true q3) (by rw [c.hs]; exact of_decide_eq_true q4) (by rw [c.hs]; exact of_decide_eq_true q5) (by rw [c.hs]; exact of_decide_eq_true q6) ha (swp_eq c.hs c.kind e)
        · cases h3
      · cases h3
    · cases h
  | .aug i o e, x, X, W, c, h => by
    unfold chkS at h
    split at h
    · simp only [Bool.and_eq_true] at h
      obtain ⟨⟨h0, h1⟩, h2⟩ := h
      have eo := of_decide_eq_true h1
      subst eo
      exact ds_aug c.nodup (stor1 (c.stors h0)) (sE e _ sc X W h2 c.toCxt).1
    · cases h
  | .setf _ _ _, x, X, W, c, h => by unfold chkS at h; cases h
  | .augf _ _ _ _, x, X, W, c, h => by unfold chkS at h; cases h
  | .seti o i e, x, X, W, c, h => by
    unfold chkS at h
    split at h
    · simp only [Bool.and_eq_true] at h
      obtain ⟨⟨⟨h0, h1⟩, h2⟩, h3⟩ := h
      exact ds_seti (sE o _ sc X W h0 c.toCxt).1 (sE i _ sc X W h1 c.toCxt).1 (sE e _ sc X W h2 c.toCxt).1 h3
    · cases h
  | .expr e, x, X, W, c, h => by
    unfold chkS at h
    split at h
    · obtain ⟨h0, h1⟩ := and2 h
      exact ds_expr (sE e _ sc X W h0 c.toCxt).1 h1
    · cases h
  | .ret e, x, X, W, c, h => by
    unfold chkS at h
    split at h
    · exact ds_ret (sE e _ sc X W h c.toCxt).1
    · cases h
  | .retn, x, X, W, c, h => by
    unfold chkS at h
    split at h
    · exact ds_retn
    · cases h
  | .ifs p a b, x, X, W, c, h => by
    unfold chkS at h
    split at h
    · simp only [Bool.and_eq_true] at h
      obtain ⟨⟨h0, h1⟩, h2⟩ := h
      exact ds_if (sE p _ sc X W h0 c.toCxt).2 (sSs a _ X W c h1) (sSs b _ X W c h2)
    · cases h
  | .whl p _ b, x, X, W, c, h => by
    unfold chkS at h
    split at h
    · obtain ⟨h0, h1⟩ := and2 h
      exact ds_while c.po (sE p _ sc X W h0 c.toCxt).2 (sSs b _ X W c h1)
    · cases h
  | .forr tg tup it _ b, x, X, W, c, h => by
    unfold chkS at h
    split at h
    · simp only [Bool.and_eq_true] at h
      obtain ⟨⟨⟨h0, h1⟩, h2⟩, h3⟩ := h
      exact ds_for c.po c.calm c.nodup (tgOk_of c.hs c.hN (.inr c.fnT) h0) (sI it _ _ sc X W h1 c.toCxt) (sSs b _ X W c h3) h2
    · cases h
  | .raise k es, x, X, W, c, h => by
    unfold chkS at h
    split at h
    · simp only [Bool.and_eq_true] at h
      obtain ⟨⟨⟨h0, h1⟩, h2⟩, h3⟩ := h
      split at h0
      · rename_i nm fld e
        have ey := of_decide_eq_true h0
        subst ey
        exact ds_raise (n := 0) c.calm c.tk (c.g.room.mono c.n2) (c.xc k nm fld e) (c.gl_ h1) (sEs es _ sc X W h3 c.toCxt) (chkEs_plain h3) (dbg1 h2).1
      · cases h0
    · cases h
  | .tryx _ _, x, X, W, c, h => by unfold chkS at h; cases h
  | .tryr b k i x, s, X, W, c, h => by
    unfold chkS at h
    split at h
    · simp only [Bool.and_eq_true] at h
      obtain ⟨⟨⟨⟨⟨⟨h0, h1⟩, h2⟩, h3⟩, h4⟩, h5⟩, h6⟩ := h
      split at h0
      · rename_i nm fld e
        obtain ⟨h0, hX⟩ := and2 h0
        have ey := of_decide_eq_true h0
        subst ey
        obtain ⟨C0, fI, fd, x1, x2, x3, x4, x5, x6, x7, x8, x9⟩ := (c.xc k nm fld e).ex
        have hN := of_decide_eq_true h3
        have hl := of_decide_eq_true h4
        exact ds_try c.stk c.frm c.nodup (by rw [c.hN]; exact hN) (by show X.env.scope.names.lookup _ = _; rw [c.hs]; exact hl) x1 ⟨c.gl_ h1, (dbg1 h2).1, .inl x2⟩ c.tk (fun c' C' ns hx => c.xm k C0 _ c' C' ns x1 hx)
          (fun W' pn xe tk po => sSs b _ _ W' (c.tr tk po) h6)
          fun a oe cls d pn hz hv => sX x8 x9 hz hv (by rw [c.hN]; exact hN) (by rw [c.hs]; exact .inl hl) (dbg1 h5).1 (dbg1 h5).2 x _ hX
      · cases h0
    · cases h
  | .pass, x, X, W, c, h => by
    unfold chkS at h
    split at h
    · exact ds_pass
    · exact ds_doc
    · cases h
  | .brk, x, X, W, c, h => by
    unfold chkS at h
    split at h
    · exact ds_brk
    · cases h
  | .cont, x, X, W, c, h => by
    unfold chkS at h
    split at h
    · exact ds_cont
    · cases h
theorem sSs {t : Tab} {N : List Str} {C : Cfg} {xi : XI} {n : Nat} {sc : Scope} : ∀ (ss : Ss) (xs : List Stmt) (X : Cx) (W : WX), CxtS t X xi W C sc N n → chkSs t N sc ss xs = true → PSs X xs (tSm X.K xi W (evSs C ss))
  | .nil, xs, X, W, c, h => by
    unfold chkSs at h
    split at h
    · exact dss_nil
    · cases h
  | .cons s .nil, xs, X, W, c, h => by
    unfold chkSs at h
    split at h
    · obtain ⟨h0, h1⟩ := and2 h
      unfold chkSs at h1
      split at h1
      · exact dss_one (sS s _ X W c h0)
      · cases h1
    · cases h
  | .cons s (.cons s2 ss), xs, X, W, c, h => by
    unfold chkSs at h
    split at h
    · obtain ⟨h0, h1⟩ := and2 h
      rename_i y ys
      cases ys with
      | nil => unfold chkSs at h1; cases h1
      | cons y2 ys => exact dss_cons (sS s _ X W c h0) (sSs (.cons s2 ss) _ X W c h1)
    · cases h
end
end Cl

/-! part Py17 -/
/-! Cl: a def of the text keeps the promise that its term tells; all defs; the law's call. -/
namespace Cl
open PySem PySem.Spec PyProof.Rows L2
section
variable {P : Program} {w : World} {K : Fr'} {mg : Str → Option Value} {base : Heap} {t : Tab} {xi : XI} {P' : Nat → Option Fn} {glo : Glo}
/-- the facts that a table tells, at a depth -/
structure TabOk (P : Program) (w : World) (K : Fr') (mg : Str → Option Value) (base : Heap) (t : Tab) (xi : XI) (C : Cfg) (n : Nat) : Prop where
  fn : ∀ f d, t.T[f]? = some d → ∃ a fd, mg d.name = some (.ref a) ∧ PySem.W.keepIn K (.ref a) = true ∧ L2.Binds K fd d.ps [] ∧ (∀ sh ∈ d.shapes, KFact K fd d.ps sh.1 sh.2.1 sh.2.2) ∧ FnG P w K mg base n a fd d.ps (spF K xi (C.call f))
  gl : ∀ g x, t.G[g]? = some x → ∃ d u v, C.g.c g = some d ∧ mg (Str.ofString x) = some u ∧ RelV v u ∧ ∀ ι H, RelD K ι H d v
  bl : ∀ x ∈ t.B, mg (Str.ofString x) = none
  xc : ∀ c nm fld, t.X[c]? = some (nm, fld) → XCls P w K mg base xi c (Str.ofString nm) (Str.ofString fld)
  xm : ∀ c C ns c' C' ns', xi c = some (C, ns) → xi c' = some (C', ns') → PySem.W.exmOne K (.ref C') (.ref C) = some (decide (c' = c))
theorem spF_len {n f : Nat} {fnI : Fn} (hf : P' f = some fnI) {vs : List V} {H : Hp} {Q : VK} {E : XK} (h : spF K xi (run P' glo (n + 1) f) vs H Q E) : vs.length = fnI.np := by
  obtain ⟨ι, ds, S, r, g, h⟩ := h
  rw [← g.length]
  unfold run at h
  rw [hf] at h
  dsimp only at h
  by_cases hl : ds.length = fnI.np
  · exact hl
  · rw [if_neg hl] at h
    exact h.elim
theorem start_rel {ι : List Addr} {H : Hp} {ds : List D} {vs : List V} (g : RelDs K ι H ds vs) (k : Nat) : RelG K ι H (ds.map some ++ List.replicate k none) (vs.map some ++ List.replicate k none) := by
  refine ⟨by simp [g.length], fun i d h => ?_⟩
  by_cases hi : i < ds.length
  · rw [List.getElem?_append_left (by simpa using hi), List.getElem?_map] at h
    obtain ⟨d', e1, e2⟩ := Option.map_eq_some_iff.mp h
    cases e2
    obtain ⟨v, v1, v2⟩ := g.get e1
    refine ⟨v, ?_, v2⟩
    rw [List.getElem?_append_left (by rw [List.length_map, ← g.length]; exact hi), List.getElem?_map, v1]
    rfl
  · rw [List.getElem?_append_right (by simpa using hi)] at h
    rw [List.getElem?_replicate] at h
    split at h <;> cases h
theorem fnG_of {n f : Nat} {a : Addr} {name qual : Str} {params : Arguments} {body : List Stmt} {scope : Scope} {dV kV doc pm cdv ct oc : Value} {an od : Option Addr} {osl : Array (Option Value)} {N ps : List Str} {fnI : Fn}
    (lk : K.lookup a = some ⟨oc, od, .func (PySem.W.fnOf name qual params body scope dV kV doc pm an cdv ct), osl⟩) (hcd : PySem.W.codeIn K cdv qual = true) (Sc : FnScope N ps scope) (hf : P' f = some fnI) (h1 : fnI.np = ps.length) (h2 : fnI.ns = N.length)
    (hck : chkSs t N scope fnI.body body = true) (T : TabOk P w K mg base t xi ⟨run P' glo n, glo⟩ (n + 2)) :
    FnG P w K mg base (n + 3) a (PySem.W.fnOf name qual params body scope dV kV doc pm an cdv ct) ps (spF K xi (run P' glo (n + 1) f)) := by
  refine ⟨fun vs H Q E h => (spF_len hf h).trans h1, ?_⟩
  intro A outer s H args us vs Q E hr e0 hb r hsp
  have hl : vs.length = ps.length := (spF_len hf hsp).trans h1
  have inK : K.In s.heap := e0.mod.kin.keeps fun b o e => (e0.bs b o e).1
  have nol : s.heap.NoLimit := e0.mod.nolimit.keeps fun b o e => (e0.bs b o e).1
  have kinds : ∀ y ∈ ps.zip us, scope.names.lookup y.1 = some .local ∨ (scope.names.lookup y.1 = some .cell ∧ ((cellsFrom (s.heap.objs.size + 1) scope.names []).lookup y.1).isSome = true) := by
    rintro ⟨x, u⟩ hy
    exact (Sc.par x (List.of_mem_zip hy).1).imp id fun q => ⟨q, PySem.W.cellsFrom_some _ _ _ (.inl q)⟩
  apply codeAny_call_function hr.room.depth (inK _ _ lk) rfl Sc.co Sc.gen rfl (PySem.W.codeRec_of inK hcd)
  refine hb _ _ _ _ (wpAny_newFunctionEnv_cells Sc.kind kinds ?_)
  rintro env rfl s1 x
  refine ⟨nol.keeps x.toInCall.keep, codeAny_func ?_⟩
  have J : Inv (cxOf (L2.CX P w) P w K mg base N qual scope a cdv A outer s H E) [] (start N vs) H s1 := inv_start Sc hr.room.hd e0 hl r x
  have cx : CxtS t (cxOf (L2.CX P w) P w K mg base N qual scope a cdv A outer s H E) xi (fun cls d _ H => E cls d H) ⟨run P' glo n, glo⟩ scope N (n + 2) :=
    { hs := rfl, kind := Sc.kind, hN := rfl, nd := Sc.nd, calm := rfl, g := hr.deeper _, n2 := Nat.le_add_left 2 n, tk := takes_of rfl rfl rfl rfl, fn := T.fn, gl := T.gl, bl := T.bl, xc := T.xc, xm := T.xm, fnT := fun _ => rfl, po := passes_of rfl, stk := rfl, frm := rfl }
  obtain ⟨ι, ds, S, rs, gs, hq⟩ := hsp
  have hd : ds.length = fnI.np := by rw [gs.length, hl, h1]
  have want : tSm K xi (fun cls d _ H => E cls d H) (evSs ⟨run P' glo n, glo⟩ fnI.body) { nx := fun _ H' => Q .non H', rt := Q } (start N vs) H := by
    refine ⟨ι, ds.map some ++ List.replicate (fnI.ns - fnI.np) none, S, rs, ?_, ?_⟩
    · have z := start_rel gs (fnI.ns - fnI.np)
      unfold L2.start
      rw [h2, h1] at z
      rw [hl]
      rw [h2, h1]
      exact z
    · unfold run at hq
      rw [hf] at hq
      dsimp only at hq
      rw [if_pos hd] at hq
      revert hq
      cases evSs ⟨run P' glo n, glo⟩ fnI.body (ds.map some ++ List.replicate (fnI.ns - fnI.np) none) S with
      | next σ1 S1 => exact fun hq ι' H' τ' e' r' _ => hq ι' H' .non e' r' .non
      | ret d S1 => exact fun hq => hq
      | brk σ1 S1 => exact fun hq => hq.elim
      | cont σ1 S1 => exact fun hq => hq.elim
      | exc y σ1 S1 => exact fun hq ι' H' τ' cls dd e' r' _ q' => hq ι' H' cls dd e' r' q'
      | no => exact fun hq => hq.elim
  refine wpAny_mono ((sSs fnI.body body _ _ cx hck).run [] s1 (start N vs) H _ J want) ?_ fun e s' hs => hs
  have done : ∀ {τ' : Sv} {H' : Hp} {s' : Shared} {v : V} {u : Value}, Inv (cxOf (L2.CX P w) P w K mg base N qual scope a cdv A outer s H E) [] τ' H' s' → RelV v u → Q v H' → CE outer P w H s Q u s' :=
    fun I rv q => ⟨_, _, I.os, I.bare, I.base, I.hok, rv, q⟩
  rintro (_ | _ | _ | u) s' hs
  · obtain ⟨τ', H', I, q⟩ := hs
    exact done (v := V.non) (u := Value.none) I rfl q
  · obtain ⟨_, _, _, q⟩ := hs
    exact q.elim
  · obtain ⟨_, _, _, q⟩ := hs
    exact q.elim
  · obtain ⟨v, τ', H', I, rv, q⟩ := hs
    exact done I rv q
/-! ### all defs -/
/-- where a def of the table stands, and what its text is -/
structure DefOk (K : Fr') (mg : Str → Option Value) (t : Tab) (P' : Nat → Option Fn) (f : Nat) (d : DefT) : Prop where
  ex : ∃ (a : Addr) (name qual : Str) (params : Arguments) (body : List Stmt) (scope : Scope) (dV kV doc pm cdv ct oc : Value) (an od : Option Addr) (osl : Array (Option Value)) (N : List Str) (fnI : Fn),
    K.lookup a = some ⟨oc, od, .func (PySem.W.fnOf name qual params body scope dV kV doc pm an cdv ct), osl⟩ ∧ PySem.W.codeIn K cdv qual = true ∧ FnScope N d.ps scope ∧ P' f = some fnI ∧ fnI.np = d.ps.length ∧ fnI.ns = N.length ∧ chkSs t N scope fnI.body body = true ∧
    mg d.name = some (.ref a) ∧ PySem.W.keepIn K (.ref a) = true ∧ L2.Binds K (PySem.W.fnOf name qual params body scope dV kV doc pm an cdv ct) d.ps [] ∧ ∀ sh ∈ d.shapes, KFact K (PySem.W.fnOf name qual params body scope dV kV doc pm an cdv ct) d.ps sh.1 sh.2.1 sh.2.2
theorem tab_ok (hD : ∀ f d, t.T[f]? = some d → DefOk K mg t P' f d) (gl : ∀ g x, t.G[g]? = some x → ∃ d u v, glo.c g = some d ∧ mg (Str.ofString x) = some u ∧ RelV v u ∧ ∀ ι H, RelD K ι H d v) (bl : ∀ x ∈ t.B, mg (Str.ofString x) = none)
    (xc : ∀ c nm fld, t.X[c]? = some (nm, fld) → XCls P w K mg base xi c (Str.ofString nm) (Str.ofString fld)) (xm : ∀ c C ns c' C' ns', xi c = some (C, ns) → xi c' = some (C', ns') → PySem.W.exmOne K (.ref C') (.ref C) = some (decide (c' = c))) :
    ∀ n, TabOk P w K mg base t xi ⟨run P' glo n, glo⟩ (n + 2)
  | 0 => ⟨fun f d hf => by
      obtain ⟨a, name, qual, params, body, scope, dV, kV, doc, pm, cdv, ct, oc, an, od, osl, N, fnI, _, _, _, _, _, _, _, m1, m2, m3, m4⟩ := (hD f d hf).ex
      exact ⟨a, _, m1, m2, m3, m4, fun vs H Q E ⟨_, _, _, _, _, z⟩ => z.elim, fun A outer s H args us vs Q E _ _ _ _ ⟨_, _, _, _, _, z⟩ => z.elim⟩, gl, bl, xc, xm⟩
  | n + 1 => ⟨fun f d hf => by
      obtain ⟨a, name, qual, params, body, scope, dV, kV, doc, pm, cdv, ct, oc, an, od, osl, N, fnI, k1, k2, k3, k4, k5, k6, k7, m1, m2, m3, m4⟩ := (hD f d hf).ex
      exact ⟨a, _, m1, m2, m3, m4, fnG_of k1 k2 k3 k4 k5 k6 k7 (tab_ok hD gl bl xc xm n)⟩, gl, bl, xc, xm⟩
end
/-! ### the law is called -/
section
variable {P : Program} {w : World} {K : Fr'} {mg mb : Str → Option Value} {xi : XI}
/-- nothing is tracked but the script -/
theorem own1 {a : Addr} {ns : List Int} {H : Hp} (h : RelOb K [a] H a (.scr ns)) : RelS K [a] [.scr ns] H := by
  refine ⟨rfl, fun n o b h1 h2 => ?_, fun m n o q b h1 h2 _ _ om _ => ?_⟩
  · cases n with
    | zero =>
      cases h1
      cases h2
      exact h
    | succ n => simp at h1
  · cases m with
    | zero =>
      cases h1
      cases om
    | succ m => simp at h1
theorem go_law {k : Nat} {fa a : Addr} {fd : FuncData} {x : Str} {c : List D → Sto → R D} {sh : Shared} {vs : List Value} {ns : List Int} (inK : K.In sh.heap) (hns : sh.heap.Ns mainGlobals mg) (hb : sh.heap.Ns builtinsNs mb) (hbb : ∀ y : Str, y ≠ "__name__" → mb y = bootBuiltins y)
    (nol : sh.heap.NoLimit) (hg : sh.gens = #[]) (ha : sh.heap.get? a = some { cls := .type "list", data := .seq vs.toArray }) (hi : IntsAre vs ns) (hl : ns.length ≤ sizeLine) (hr : Room k callerA)
    (F : ∀ base : Heap, FnG P w K mg base k fa fd [x] (spF K xi c)) (bind : ∀ (s : Shared) (u : Value), BindsTo s fd ⟨[u], []⟩ [(x, u)]) (good : ∃ S', c [.ref 0] [.scr ns] = .ok (.bl true) S') :
    codeAny (model P w) callerA (.call (.ref fa) ⟨[.ref a], []⟩) (fun r s' => r = .ok (.ret (.bool true)) ∧ OldK sh.heap s'.heap ∧ s'.os = sh.os ∧ AllBare s'.gens) sh := by
  have rv := vals_ints hi
  obtain ⟨S', hgood⟩ := good
  -- over any abstract heap that knows the script at most
  have main : ∀ H : Hp, (∀ b, H b = none ∨ (b = a ∧ K.lookup a = none ∧ ∃ o xs, H b = some (.frz o (.lst xs)))) → RelOb K [a] H a (.scr ns) → HOk P w H sh.heap →
      codeAny (model P w) callerA (.call (.ref fa) ⟨[.ref a], []⟩) (fun r s' => r = .ok (.ret (.bool true)) ∧ OldK sh.heap s'.heap ∧ s'.os = sh.os ∧ AllBare s'.gens) sh := by
    intro H only rel hok
    have low : ∀ {b : Addr} {o : Obj}, sh.heap.get? b = some o → H b = none → (hidT sh.heap H).get? b = some o := fun e n => hidT_get e n
    have free : ∀ {b : Addr} {o : Obj}, sh.heap.get? b = some o → (∀ its m, o.data ≠ .seq its m) → H b = none := fun {b o} e d => by
      rcases only b with z | ⟨z, _, _⟩
      · exact z
      · subst z
        rw [ha] at e
        cases e
        exact absurd rfl (d _ _)
    have names : ∀ {b : Addr} {m : Str → Option Value}, sh.heap.Ns b m → (hidT sh.heap H).Ns b m := by
      rintro b m ⟨o, es, ep, e, d, r⟩
      exact ⟨o, es, ep, low e (free e fun its m z => by rw [d] at z; cases z), d, r⟩
    have kb : K.In (hidT sh.heap H) := fun b o e => low (inK b o e) (by
      rcases only b with z | ⟨z, nk, _⟩
      · exact z
      · subst z
        rw [nk] at e
        cases e)
    have md : Mod K mg (hidT sh.heap H) := by
      refine ⟨kb, names hns, ⟨mb, names hb, hbb⟩, ?_⟩
      obtain ⟨mc, h1, h2⟩ := nol
      exact ⟨mc, names h1, h2⟩
    have env0 : Env0 P w K mg (hidT sh.heap H) callerA [] sh H :=
      { frames := rfl, mod := md, bs := fun b o e => of_hidT e, bsz := Nat.le_of_eq (hidT_size _ _), funs := trivial, frf := (fun b hb => nomatch (show b ∈ ([] : List Addr) from hb)), hok := hok, bare := .of_eq hg }
    have sp : spF K xi c [.ref a] H (fun v _ => v = V.bl true) (fun _ _ _ => False) := by
      refine ⟨[a], [.ref 0], [.scr ns], own1 rel, .cons (.ref rfl) .nil, ?_⟩
      rw [hgood]
      intro ι' H' y _ _ q
      cases q
      rfl
    refine codeAny_mono ((F (hidT sh.heap H)).run callerA [] sh H ⟨[.ref a], []⟩ [.ref a] [.ref a] (fun v _ => v = V.bl true) (fun _ _ _ => False) ⟨hr, rfl⟩ env0 (bind sh (.ref a)) (.cons rfl .nil) sp) ?_
    rintro (e | fl) s' h
    · obtain ⟨_, _, _, _, _, _, _, _, _, _, _, _, z⟩ := h
      exact z.elim
    · cases fl with
      | ret u =>
        obtain ⟨v, H', os, bare, un, hok', r', q⟩ := h
        subst q
        have hu : u = Value.bool true := r'
        subst hu
        refine ⟨rfl, OldK.of_keep fun b o e => ?_, os, bare⟩
        rcases only b with z | ⟨rfl, _, ob, xs, z⟩
        · exact un.keep b o e z (fun m => by cases m) (fun m => by cases m)
        · have z2 := un.frzs _ ob _ z
          obtain ⟨e1, _⟩ := hok _ _ z
          obtain ⟨e2, _⟩ := hok' _ _ z2
          rw [e] at e1
          cases e1
          exact e2
      | _ => exact h.elim
  cases hk : K.lookup a with
  | some o =>
    have e := inK a o hk
    rw [ha] at e
    cases e
    refine main (fun _ => none) (fun _ => .inl rfl) (.inr ⟨_, vs.toArray, _, hk, rfl, rfl, rfl, by rw [List.size_toArray, hi.length]; exact hl, by simpa using rv⟩) ?_
    intro b u z
    cases z
  | none =>
    refine main (fun b => if b = a then some (.frz { cls := .type "list", data := .seq vs.toArray } (.lst (ns.map V.int))) else none) ?_ (.inl ⟨_, if_pos rfl⟩) ?_
    · intro b
      by_cases e : b = a
      · exact .inr ⟨e, hk, _, _, if_pos e⟩
      · exact .inl (if_neg e)
    · intro b u z
      dsimp only at z
      by_cases e : b = a
      · rw [if_pos e] at z
        cases z
        subst e
        exact ⟨ha, by rw [List.length_map]; exact hl, vs, _, rv, ha⟩
      · rw [if_neg e] at z
        cases z
end
/-- the head's case: the law's def by the table, and that its term says True of every script -/
theorem walk_law {l : PySem.W.OpenLaw} {n k : Nat} {q : Program} {loose : List Str} {XP : (Str → Option Value) → Heap → Prop} {YP : World → Heap → Prop} {d : DefRec} {K : Params → PySem.W.Frag} {x : Str} {c : List D → Sto → R D}
    (hn : l.most = some n) (hn2 : n ≤ sizeLine) (hdf : d.params.defaults = []) (hr : Room k callerA) (hY : ∀ (w : World) (h : Heap), YP w h → (K w.params).In h)
    (F : ∀ (w : World) (mg : Str → Option Value) (fa : Addr) (h : Heap), (K w.params).In h → h.Ns mainGlobals mg → mg d.name = some (.ref fa) →
      ∃ (xi : XI) (fd : FuncData), (∀ (s : Shared) (u : Value), BindsTo s fd ⟨[u], []⟩ [(x, u)]) ∧ ∀ base : Heap, FnG l.prog w (K w.params) mg base k fa fd [x] (spF (K w.params) xi c))
    (good : ∀ ns : List Int, ns.length ≤ n → (∀ z ∈ ns, Builtin.Int.intBits z ≤ 1048576) → ∃ S', c [.ref 0] [.scr ns] = .ok (.bl true) S') :
    PySem.W.WalkO q loose XP YP l.row.toRowW d [] (fun f vs => PySem.call f vs) := by
  refine Att.attach_callB hn hdf ?_
  intro w s₀ sh mg mb fa o pm cd doc a vs ns G Y ho hd hcd hmg hobj hints hlen hbits hg
  obtain ⟨xi, fd, hb, hF⟩ := F w mg fa _ (hY w _ Y) G.T.g hmg
  exact go_law (hY w _ Y) G.T.g G.T.b G.T.builtins G.T.nolimit hg hobj hints (Nat.le_trans hlen hn2) hr hF hb (good ns hlen hbits)
end Cl
namespace Cl
/-- no exception classes -/
def xi0 : XI := fun _ => none
end Cl

/-! part U1 -/
/-! Cl: the second evaluator: values without a store. -/
namespace Cl
open PySem (PyData Str)
/-! ### trees of draws -/
inductive Tr (α : Type) where | ret (a : α) | draw (m : Nat) (f : Nat → Tr α)
def Tr.bind {α β : Type} : Tr α → (α → Tr β) → Tr β
  | .ret a, g => g a
  | .draw m f, g => .draw m fun r => (f r).bind g
inductive Tr.Has {α : Type} : Tr α → α → Prop where
  | ret {a : α} : Tr.Has (.ret a) a
  | draw {m r : Nat} {f : Nat → Tr α} {a : α} : r < m → Tr.Has (f r) a → Tr.Has (.draw m f) a
inductive Tr.All {α : Type} (Q : α → Prop) : Tr α → Prop where
  | ret {a : α} : Q a → Tr.All Q (.ret a)
  | draw {m : Nat} {f : Nat → Tr α} : (∀ r, r < m → Tr.All Q (f r)) → Tr.All Q (.draw m f)
theorem Tr.All.ret' {α : Type} {Q : α → Prop} {a : α} (h : (Tr.ret a).All Q) : Q a := by cases h; assumption
theorem Tr.All.draw' {α : Type} {Q : α → Prop} {m : Nat} {f : Nat → Tr α} (h : (Tr.draw m f).All Q) : ∀ r, r < m → (f r).All Q := by cases h; assumption
theorem Tr.All.has {α : Type} {Q : α → Prop} {t : Tr α} {a : α} (h : t.All Q) (e : t.Has a) : Q a := by
  induction e with
  | ret => exact h.ret'
  | draw hr _ ih => exact ih (h.draw' _ hr)
theorem Tr.Has.bind {α β : Type} {t : Tr α} {g : α → Tr β} {a : α} {b : β} (h : t.Has a) (h2 : (g a).Has b) : (t.bind g).Has b := by
  induction h with
  | ret => exact h2
  | draw hr _ ih => exact .draw hr (ih h2)
theorem Tr.All.bind {α β : Type} {t : Tr α} {g : α → Tr β} {P : α → Prop} {Q : β → Prop} (h : t.All P) (h2 : ∀ a, P a → (g a).All Q) : (t.bind g).All Q := by
  induction h with
  | ret h => exact h2 _ h
  | draw _ ih => exact .draw fun r hr => ih r hr
theorem Tr.All.mono {α : Type} {t : Tr α} {P Q : α → Prop} (h : t.All P) (h2 : ∀ a, P a → Q a) : t.All Q := by
  induction h with
  | ret h => exact .ret (h2 _ h)
  | draw _ ih => exact .draw fun r hr => ih r hr

/-! ### values -/
inductive U where
  | non | bl (b : Bool) | int (i : Int) | str (s : Tx) | tup (xs : List U) | lst (xs : List U)
  | ob (c : Nat) (ns : List String) (vs : List U) | exn (c : Nat) (fs : List U) | bag | scr (ns : List Int)
  deriving Inhabited
/-- shared values; an own list; an own object -/
inductive O where
  | sh (v : U) | ol (xs : List U) | oo (c : Nat) (ns : List String) (ps : List O)
  deriving Inhabited
mutual
def O.toU : O → U
  | .sh v => v
  | .ol xs => .lst xs
  | .oo c ns ps => .ob c ns (O.toUs ps)
def O.toUs : List O → List U
  | [] => []
  | p :: ps => p.toU :: O.toUs ps
end
abbrev Env := List (Option O)
inductive Out (α : Type) where | ok (a : α) (π : Env) (k : Nat) | exc (x : U) (π : Env) (k : Nat) | no
abbrev PR (α : Type) := Tr (Out α)
def PR.ok {α : Type} (a : α) (π : Env) (k : Nat) : PR α := .ret (.ok a π k)
def PR.no {α : Type} : PR α := .ret .no
def PR.bind {α β : Type} (m : PR α) (f : α → Env → Nat → PR β) : PR β := Tr.bind m fun
  | .ok a π k => f a π k
  | .exc x π k => .ret (.exc x π k)
  | .no => .ret .no
@[simp] theorem PR.bind_ok {α β : Type} (a : α) (π : Env) (k : Nat) (f : α → Env → Nat → PR β) : PR.bind (PR.ok a π k) f = f a π k := (rfl)
@[simp] theorem PR.bind_exc {α β : Type} (x : U) (π : Env) (k : Nat) (f : α → Env → Nat → PR β) : PR.bind (.ret (.exc x π k)) f = .ret (.exc x π k) := (rfl)
def PR.opt {α β : Type} (o : Option α) (f : α → PR β) : PR β := match o with
  | some a => f a
  | none => .no
@[simp] theorem PR.opt_some {α β : Type} (a : α) (f : α → PR β) : PR.opt (some a) f = f a := (rfl)
def PR.req {β : Type} (c : Prop) [Decidable c] (m : PR β) : PR β := if c then m else .no
theorem PR.req_of {β : Type} {c : Prop} [Decidable c] (h : c) (m : PR β) : PR.req c m = m := if_pos h
@[simp] theorem PR.req_true {β : Type} (m : PR β) : PR.req True m = m := if_pos trivial

/-! ### reading -/
def mapO {α β : Type} (f : α → Option β) : List α → Option (List β)
  | [] => some []
  | x :: xs => match f x, mapO f xs with
    | some a, some as => some (a :: as)
    | _, _ => none
def toPy : Nat → U → Option PyData
  | _, .non => some .none
  | _, .bl b => some (.bool b)
  | _, .int i => some (.int i)
  | _, .str s => some (.str (SX.S s))
  | n + 1, .tup xs => (mapO (toPy n) xs).map .tuple
  | n + 1, .lst xs => (mapO (toPy n) xs).map .list
  | _, _ => none
def veq (a b : U) : Option Bool := match toPy DEEP a, toPy DEEP b with
  | some x, some y => some (PyData.eqv x y)
  | _, _ => none
def vtruth : U → Option Bool
  | .non => some false
  | .bl b => some b
  | .int i => some (i != 0)
  | .str s => some (!s.isEmpty)
  | .tup xs => some (!xs.isEmpty)
  | .lst xs => some (!xs.isEmpty)
  | _ => none
/-! ### operations -/
def vif {α : Type} (c : Prop) [Decidable c] (a : α) : Option α := if c then some a else none
def vbin (o : Op) (a b : U) : Option O := match o, a, b with
  | .add, .int i, .int j => some (.sh (.int (i + j)))
  | .add, .str s, .str t => vif (s.length + t.length ≤ LIM) (.sh (.str (s ++ t)))
  | .add, .tup s, .tup t => vif (s.length + t.length ≤ LIM) (.sh (.tup (s ++ t)))
  | .add, .lst s, .lst t => vif (s.length + t.length ≤ LIM) (.ol (s ++ t))
  | .sub, .int i, .int j => some (.sh (.int (i - j)))
  | .mul, .int i, .int j => vif (i.natAbs < 2 ^ 64 ∨ j.natAbs < 2 ^ 64) (.sh (.int (i * j)))
  | .mul, .tup s, .int k => vif (s ≠ [] ∧ 2 ≤ k ∧ k ≤ 1000 ∧ s.length ≤ 1000) (.sh (.tup (List.replicate k.toNat s).flatten))
  | .mul, .lst s, .int k => vif (0 ≤ k ∧ k ≤ 100000 ∧ s.length * k.toNat ≤ LIM) (.ol (List.replicate k.toNat s).flatten)
  | .fdiv, .int i, .int j => vif (0 < j ∧ j < 1073741824) (.sh (.int (i / j)))
  | .mod, .int i, .int j => vif (0 < j) (.sh (.int (i % j)))
  | .pow, .int i, .int j => vif (0 ≤ j ∧ j ≤ 1000000 ∧ i.natAbs < 2 ^ 64) (.sh (.int (i ^ j.toNat)))
  | _, _, _ => none
def uflat : U → Bool
  | .non => true | .bl _ => true | .int _ => true | .str _ => true | _ => false
def ueqF : U → U → Bool
  | .non, .non => true
  | .bl a, .bl b => a == b
  | .bl a, .int b => (if a then 1 else 0) == b
  | .int a, .bl b => a == (if b then 1 else 0)
  | .int a, .int b => a == b
  | .str a, .str b => a == b
  | _, _ => false
def vin (x y : U) : Option Bool := match x, y with
  | .str s, .str t => some (subTx t s)
  | x, .tup ys => vif (uflat x = true ∧ ys.all uflat = true) (ys.any fun y => ueqF y x)
  | x, .lst ys => vif (uflat x = true ∧ ys.all uflat = true) (ys.any fun y => ueqF y x)
  | _, _ => none
def uisNon : U → Bool | .non => true | _ => false
def vcmp (o : Cm) (a b : U) : Option Bool := match o with
  | .eq => veq a b
  | .ne => (veq a b).map (!·)
  | .lt => match a, b with | .int i, .int j => some (decide (i < j)) | _, _ => none
  | .le => match a, b with | .int i, .int j => some (decide (i ≤ j)) | _, _ => none
  | .gt => match a, b with | .int i, .int j => some (decide (j < i)) | _, _ => none
  | .ge => match a, b with | .int i, .int j => some (decide (j ≤ i)) | _, _ => none
  | .isin => vin a b
  | .notin => (vin a b).map (!·)
  | .is => match b with | .non => some (uisNon a) | .bl y => (match a with | .bl x => some (decide (x = y)) | _ => none) | _ => none
  | .isnot => match b with | .non => some (!uisNon a) | .bl y => (match a with | .bl x => some (!decide (x = y)) | _ => none) | _ => none
def vidx (a b : U) : Option U := match a, b with
  | .str s, .int i => (atI s i).map fun c => .str [c]
  | .tup xs, .int i => atI xs i
  | .lst xs, .int i => atI xs i
  | _, _ => none
def vslc (a : U) (lo hi : Option Int) : Option O := match a with
  | .str s => some (.sh (.str (cut s lo hi)))
  | .tup xs => some (.sh (.tup (cut xs lo hi)))
  | .lst xs => some (.ol (cut xs lo hi))
  | _ => none
def uInts : List U → Option (List Int)
  | [] => some []
  | .int i :: r => (uInts r).map (i :: ·)
  | _ => none
def uStrs : List U → Option (List Tx)
  | [] => some []
  | .str i :: r => (uStrs r).map (i :: ·)
  | _ => none
def uBls : List U → Option (List Bool)
  | [] => some []
  | .bl i :: r => (uBls r).map (i :: ·)
  | _ => none
def vblt (b : Bf) (vs : List U) : Option O := match b, vs with
  | .len, [.str s] => some (.sh (.int s.length))
  | .len, [.tup xs] => some (.sh (.int xs.length))
  | .len, [.lst xs] => some (.sh (.int xs.length))
  | .len, [.scr ns] => some (.sh (.int ns.length))
  | .abs, [.int i] => some (.sh (.int (if i < 0 then -i else i)))
  | .max2, [.int i, .int j] => some (.sh (.int (if j > i then j else i)))
  | .min2, [.int i, .int j] => some (.sh (.int (if j < i then j else i)))
  | .int1, [.int i] => some (.sh (.int i))
  | .int1, [.bl k] => some (.sh (.int (if k then 1 else 0)))
  | .int1, [.str s] => (PySem.intText? (SX.S s)).bind fun n => vif (s.length ≤ 640) (.sh (.int n))
  | .int2, [.str s, .int i] => vif (i = 16 ∧ s ≠ [] ∧ s.length ≤ 640 ∧ s.all hexB = true) (.sh (.int (L2.Hx.hexNum s : Nat)))
  | .repr, [v] => (toPy DEEP v).bind fun p => vif (p.showable = true ∧ p.shown.length ≤ LIM) (.sh (.str p.shown.cps.toList))
  | .list1, [.tup xs] => some (.ol xs)
  | .list1, [.lst xs] => some (.ol xs)
  | .tuple1, [.tup xs] => some (.sh (.tup xs))
  | .tuple1, [.lst xs] => some (.sh (.tup xs))
  | .all1, [.lst xs] => (uBls xs).map fun bs => .sh (.bl (bs.all id))
  | .any1, [.lst xs] => (uBls xs).map fun bs => .sh (.bl (bs.any id))
  | _, _ => none
def vty : U → Ty → Option Bool
  | .non, .int | .non, .bool | .non, .str | .non, .list | .non, .tuple => some false
  | .bl _, .int | .bl _, .bool => some true
  | .bl _, .str | .bl _, .list | .bl _, .tuple => some false
  | .int _, .int => some true
  | .int _, .bool | .int _, .str | .int _, .list | .int _, .tuple => some false
  | .str _, .str => some true
  | .str _, .int | .str _, .bool | .str _, .list | .str _, .tuple => some false
  | .tup _, .tuple => some true
  | .tup _, .int | .tup _, .bool | .tup _, .list | .tup _, .str => some false
  | .lst _, .list => some true
  | .lst _, .int | .lst _, .bool | .lst _, .str | .lst _, .tuple => some false
  | .ob c _ _, .own c' => some (decide (c = c'))
  | .ob _ _ _, .int | .ob _ _ _, .bool | .ob _ _ _, .str | .ob _ _ _, .tuple | .ob _ _ _, .list => some false
  | .non, .own _ | .bl _, .own _ | .int _, .own _ | .str _, .own _ | .tup _, .own _ | .lst _, .own _ => some false
  | _, _ => none
def visi (v : U) : List Ty → Option Bool
  | [] => some false
  | t :: ts => match vty v t with
    | some true => some true
    | some false => visi v ts
    | none => none
/-- methods of texts -/
def vmth (m : Mt) (o : U) (vs : List U) : Option O := match m, o, vs with
  | .strip, .str s, [.str t] => some (.sh (.str (stripS s t)))
  | .lower, .str s, [] => vif (s.length ≤ 5592405) (.sh (.str (s.map PyProof.Rows.lo1)))
  | .upper, .str s, [] => vif (s.length ≤ 5592405) (.sh (.str (s.map PyProof.Rows.up1)))
  | .split, .str s, [.str t] => vif (t ≠ [] ∧ s.length + 2 ≤ LIM) (.ol ((TL.spl t 0 [] s).map .str))
  | .partition, .str s, [.str t] => vif (t ≠ []) (.sh (match TL.par t [] s with
      | some (a, b) => .tup [.str a, .str t, .str b]
      | none => .tup [.str s, .str [], .str []]))
  | .join, .str s, [.tup xs] => (uStrs xs).bind fun ts => vif ((ts.map List.length).sum + ts.length * s.length ≤ LIM) (.sh (.str (TL.joinL s ts)))
  | .join, .str s, [.lst xs] => (uStrs xs).bind fun ts => vif ((ts.map List.length).sum + ts.length * s.length ≤ LIM) (.sh (.str (TL.joinL s ts)))
  | .find, .str s, [.str t] => some (.sh (.int (PySem.Txt.find (SX.S s) (SX.S t))))
  | .count, .str s, [.str t] => some (.sh (.int (PySem.Txt.count (SX.S s) (SX.S t))))
  | .index, .str s, [.str t] => (PySem.Builtin.Str.occurrences (SX.S s) (SX.S t) 0 (SX.S s).length 1).head?.map fun i => .sh (.int (i : Nat))
  | _, _, _ => none
/-- methods that change a list: the answer, the list behind it -/
def vlm (m : Mt) (xs : List U) (vs : List U) : Option (U × List U) := match m, vs with
  | .append, [v] => vif (xs.length < LIM) (.non, xs ++ [v])
  | .pop, [] => (xs[xs.length - 1]?).map fun d => (d, xs.dropLast)
  | _, _ => none
def vaug (o : Op) (a b : U) : Option U := match o, a, b with
  | .add, .int i, .int j => some (.int (i + j))
  | .add, .str s, .str t => vif (s.length + t.length ≤ LIM) (.str (s ++ t))
  | .sub, .int i, .int j => some (.int (i - j))
  | _, _, _ => none

/-! ### constants -/
mutual
def dU : D → Option U
  | .non => some .non
  | .bl b => some (.bl b)
  | .int i => some (.int i)
  | .str s => some (.str s)
  | .tup xs => (dUs xs).map .tup
  | _ => none
def dUs : List D → Option (List U)
  | [] => some []
  | x :: xs => match dU x, dUs xs with
    | some a, some as => some (a :: as)
    | _, _ => none
end
def Kd.toU : Kd → U
  | .non => .non
  | .bl b => .bl b
  | .int i => .int i
  | .str s => .str s

/-! ### the configuration; calls -/
inductive FO where | ok (p : O) (outs : List O) (k : Nat) | exc (x : U) (outs : List O) (k : Nat) | no
structure PCfg where
  call : Nat → List O → Nat → Tr FO
  g : Glo
  /-- the parameters of a def that are handed in and out -/
  mu : Nat → List Nat
  /-- the names of methods and properties that leave what is owned as it is -/
  qm : String → Bool
  /-- the slots of this frame that are handed out -/
  fm : List Nat
def getO (π : Env) (i : Nat) : Option O := match π[i]? with
  | some (some p) => some p
  | _ => none
/-- an argument: a shared value, or a slot whose value is handed in and out -/
abbrev Ar := Sum U Nat
def argA (as : List Ar) : Sum Nat Kd → Option Ar
  | .inl i => as[i]?
  | .inr k => some (.inl k.toU)
def takeA : List Ar → Env → Option (List O × Env)
  | [], π => some ([], π)
  | .inl u :: as, π => (takeA as π).map fun r => (.sh u :: r.1, r.2)
  | .inr i :: as, π => match getO π i with
    | some p => (takeA as (π.set i none)).map fun r => (p :: r.1, r.2)
    | none => none
def putA : List Nat → List O → Env → Env
  | i :: is, p :: ps, π => (putA is ps π).set i (some p)
  | _, _, π => π
def muIx (as : List Ar) : Nat → List Nat → Option (List Nat)
  | _, [] => some []
  | _, p :: ps => match as[p]? with
    | some (.inr i) => (muIx as 0 ps).map (i :: ·)
    | _ => none
def inrs : List Ar → Nat
  | [] => 0
  | .inl _ :: as => inrs as
  | .inr _ :: as => inrs as + 1
def callO (C : PCfg) (f : Nat) (as : List Ar) (π : Env) (k : Nat) : PR O :=
  PR.req (inrs as = (C.mu f).length) (PR.opt (muIx as 0 (C.mu f)) fun is => PR.opt (takeA as π) fun r => Tr.bind (C.call f r.1 k) fun
    | .ok p outs k' => .ret (.ok p (putA is outs r.2) k')
    | .exc x outs k' => .ret (.exc x (putA is outs r.2) k')
    | .no => .ret .no)
/-- a call of shared values alone -/
def callU (C : PCfg) (f : Nat) (us : List U) (π : Env) (k : Nat) : PR O := PR.req (C.mu f = []) (Tr.bind (C.call f (us.map .sh) k) fun
    | .ok p _ k' => .ret (.ok p π k')
    | .exc x _ k' => .ret (.exc x π k')
    | .no => .ret .no)
/-- which arguments are handed in and out, by what the parameters take -/
def muA (mu : List Nat) (perm : List (Sum Nat Kd)) : List Nat := mu.filterMap fun (p : Nat) => match (perm[p]? : Option (Sum Nat Kd)) with
  | some (.inl a) => some a
  | _ => none
/-- the same behind a receiver -/
def muM (mu : List Nat) (perm : List (Sum Nat Kd)) : List Nat := mu.filterMap fun (p : Nat) => match p with
  | 0 => none
  | p + 1 => match (perm[p]? : Option (Sum Nat Kd)) with
    | some (.inl a) => some a
    | _ => none
/-- a new object, frozen as soon as it is made -/
def unew (C : PCfg) (c : Nat) (cs : List Ar) (π : Env) (k : Nat) : PR O := PR.opt (C.g.meth c "__init__") fun f => PR.req (C.mu f = [0] ∧ inrs cs = 0)
  (PR.opt (takeA cs []) fun r => Tr.bind (C.call f (.oo c [] [] :: r.1) k) fun
    | .ok (.sh .non) [o] k' => .ret (.ok o π k')
    | .exc x _ k' => .ret (.exc x π k')
    | _ => .ret .no)
def ucls : U → Option Nat
  | .ob c _ _ => some c
  | _ => none
def utoB (m : PR O) (n : Bool) : PR Bool := m.bind fun p π k => match p with
  | .sh (.bl b) => .ok (b != n) π k
  | _ => .no
def ulook (f : String) : List String → List U → Option U
  | n :: ns, v :: vs => if n = f then some v else ulook f ns vs
  | _, _ => none
def ufld (C : PCfg) (v : U) (f : String) (π : Env) (k : Nat) : PR O := match v with
  | .ob c ns vs => (match C.g.prop c f with
    | some p => callU C p [.ob c ns vs] π k
    | none => PR.opt (ulook f ns vs) fun u => .ok (.sh u) π k)
  | .exn c fs => PR.opt (C.g.exf c f) fun i => PR.opt fs[i]? fun u => .ok (.sh u) π k
  | _ => .no
def ubin (C : PCfg) (o : Op) (x y : U) (fy : Bool) (π : Env) (k : Nat) : PR O := match ucls x with
  | some c => (match o with
    | .add => PR.req (fy = true) (PR.opt (C.g.meth c "__add__") fun f => callU C f [x, y] π k)
    | _ => .no)
  | none => PR.opt (vbin o x y) fun p => .ok p π k
def ucmp (C : PCfg) (o : Cm) (x y : U) (fx fy : Bool) (π : Env) (k : Nat) : PR Bool := match o with
  | .eq => (match ucls x with
    | some c => PR.req (fy = true) (PR.opt (C.g.meth c "__eq__") fun f => utoB (callU C f [x, y] π k) false)
    | none => PR.opt (vcmp .eq x y) fun b => .ok b π k)
  | .ne => (match ucls x with
    | some c => PR.req (fy = true) (PR.opt (C.g.meth c "__eq__") fun f => utoB (callU C f [x, y] π k) true)
    | none => PR.opt (vcmp .ne x y) fun b => .ok b π k)
  | .isin => (match ucls y with
    | some c => PR.req (fx = true) (PR.opt (C.g.meth c "__contains__") fun f => utoB (callU C f [y, x] π k) false)
    | none => PR.opt (vcmp .isin x y) fun b => .ok b π k)
  | .notin => (match ucls y with
    | some c => PR.req (fx = true) (PR.opt (C.g.meth c "__contains__") fun f => utoB (callU C f [y, x] π k) true)
    | none => PR.opt (vcmp .notin x y) fun b => .ok b π k)
  | o => PR.opt (vcmp o x y) fun b => .ok b π k
def uidx (C : PCfg) (x y : U) (π : Env) (k : Nat) : PR O := match ucls x with
  | some c => PR.opt (C.g.meth c "__getitem__") fun f => callU C f [x, y] π k
  | none => PR.opt (vidx x y) fun u => .ok (.sh u) π k
def ublt (C : PCfg) (b : Bf) (vs : List U) (π : Env) (k : Nat) : PR O := match vs with
  | [x] => (match ucls x with
    | some c => PR.opt (bltDun b) fun m => PR.opt (C.g.meth c m) fun f => callU C f [x] π k
    | none => PR.opt (vblt b [x]) fun p => .ok p π k)
  | vs => PR.opt (vblt b vs) fun p => .ok p π k
def ucat : List Bool → List U → Option (List U)
  | [], [] => some []
  | true :: st, .tup xs :: ds => (ucat st ds).map (xs ++ ·)
  | true :: st, .lst xs :: ds => (ucat st ds).map (xs ++ ·)
  | false :: st, d :: ds => (ucat st ds).map (d :: ·)
  | _, _ => none
/-- an own object's fields -/
def olook (f : String) : List String → List O → Option O
  | n :: ns, v :: vs => if n = f then some v else olook f ns vs
  | _, _ => none
def oput (f : String) (p : O) : List String → List O → List String × List O
  | n :: ns, v :: vs => if n = f then (n :: ns, p :: vs) else (n :: (oput f p ns vs).1, v :: (oput f p ns vs).2)
  | _, _ => ([f], [p])

/-! ### places -/
inductive Pl where | v (i : Nat) | f (i : Nat) (f : String)
  deriving DecidableEq
def plc : E → Option Pl
  | .var i => some (.v i)
  | .fld (.var i) f => some (.f i f)
  | _ => none
def getP (π : Env) : Pl → Option O
  | .v i => getO π i
  | .f i f => match getO π i with
    | some (.oo _ ns ps) => olook f ns ps
    | _ => none
def setP (π : Env) (pl : Pl) (p : O) : Env := match pl with
  | .v i => π.set i (some p)
  | .f i f => match getO π i with
    | some (.oo c ns ps) => π.set i (some (.oo c (oput f p ns ps).1 (oput f p ns ps).2))
    | _ => π
/-- own classes' fields that are no properties -/
def plOk (C : PCfg) (π : Env) : Pl → Bool
  | .v _ => true
  | .f i f => match getO π i with
    | some (.oo c _ _) => (C.g.prop c f).isNone
    | _ => false
/-- the list that is owned at a place -/
def ownL (C : PCfg) (π : Env) (e : E) : Option (Pl × List U) := match plc e with
  | some pl => if plOk C π pl then (match getP π pl with
    | some (.ol xs) => some (pl, xs)
    | _ => none) else none
  | none => none
/-- an operand that is only looked at; q: what follows leaves all as it is -/
def obs (C : PCfg) (q : Bool) (e : E) (m : PR O) (π : Env) (k : Nat) : PR U := match (if q then ownL C π e else none) with
  | some (_, xs) => .ok (.lst xs) π k
  | none => m.bind fun p π1 k1 => .ok p.toU π1 k1

/-- is what is looked at no own list -/
def obF (C : PCfg) (q : Bool) (e : E) (π : Env) : Bool := (if q then ownL C π e else none).isNone

/-! ### what leaves the owned as it is -/
mutual
def quiet (C : PCfg) : E → Bool
  | .bin _ a b => quiet C a && quiet C b
  | .neg a => quiet C a
  | .not a => quiet C a
  | .bop _ es => quiets C es
  | .ite c a b => quiet C c && quiet C a && quiet C b
  | .cmp _ a b => quiet C a && quiet C b
  | .chain _ _ a b c => quiet C a && quiet C b && quiet C c
  | .tup es => quiets C es
  | .lst es => quiets C es
  | .idx a b => quiet C a && quiet C b
  | .slc a lo hi => quiet C a && quiets C lo && quiets C hi
  | .fld a f => C.qm f && quiet C a
  | .call f es => (C.mu f).isEmpty && quiets C es
  | .callk f es ks _ _ => (C.mu f).isEmpty && quiets C es && quiets C ks
  | .new _ es ks _ _ => quiets C es && quiets C ks
  | .mcall a m es ks _ _ => C.qm m && quiet C a && quiets C es && quiets C ks
  | .fmt es => quiets C es
  | .cat _ es _ => quiets C es
  | .blt _ es => quiets C es
  | .isi a _ _ => quiet C a
  | .mth m o es => !m.ofList && quiet C o && quiets C es
  | .comp elt _ _ it cond _ => quiet C elt && quietI C it && quiets C cond
  | _ => true
def quiets (C : PCfg) : Es → Bool
  | .nil => true
  | .cons e es => quiet C e && quiets C es
def quietI (C : PCfg) : It → Bool
  | .val e => quiet C e
  | .rng es => quiets C es
  | .enm e => quiet C e
  | .zip a b => quiet C a && quiet C b
end

/-! ### walks -/
def enumU (i : Nat) : List U → List U
  | [] => []
  | x :: xs => .tup [.int i, x] :: enumU (i + 1) xs
def zipU : List U → List U → List U
  | x :: xs, y :: ys => .tup [x, y] :: zipU xs ys
  | _, _ => []
def uwalk : U → Option (List U)
  | .tup xs => some xs
  | .str s => some (s.map fun c => .str [c])
  | .lst xs => some xs
  | _ => none
def setAllU (π : Env) : List Nat → List U → Env
  | i :: is, d :: ds => setAllU (π.set i (some (.sh d))) is ds
  | _, _ => π
def setAllO (π : Env) : List Nat → List O → Env
  | i :: is, d :: ds => setAllO (π.set i (some d)) is ds
  | _, _ => π
def utarget (tg : List Nat) (tup : Bool) (d : U) (π : Env) : Option Env := match tup with
  | false => match tg with
    | [i] => some (π.set i (some (.sh d)))
    | _ => none
  | true => match d with
    | .tup ds => if ds.length = tg.length then some (setAllU π tg ds) else none
    | .lst ds => if ds.length = tg.length then some (setAllU π tg ds) else none
    | _ => none
def uwipe (π : Env) : List Nat → Env
  | [] => π
  | v :: vs => (uwipe π vs).set v none
def pComp (f : U → Env → Nat → PR (Option U)) : List U → Env → Nat → PR (List U)
  | [], π, k => .ok [] π k
  | x :: xs, π, k => (f x π k).bind fun y π1 k1 => (pComp f xs π1 k1).bind fun ys π2 k2 => .ok (y.toList ++ ys) π2 k2
/-- within a comprehension nothing is raised -/
def noExc {α : Type} (m : PR α) : PR α := Tr.bind m fun
  | .ok a π k => .ret (.ok a π k)
  | _ => .ret .no
@[simp] theorem noExc_ok {α : Type} (a : α) (π : Env) (k : Nat) : noExc (PR.ok a π k) = PR.ok a π k := (rfl)
/-- a receiver of a method: an own object's slot, or a shared object -/
def recvO (π : Env) : E → Option (Nat × Nat)
  | .var i => match getO π i with
    | some (.oo c _ _) => some (i, c)
    | _ => none
  | _ => none
def recvU (m : PR O) : PR (Nat × U) := m.bind fun p π k => match p.toU with
  | .ob c ns vs => .ok (c, .ob c ns vs) π k
  | _ => .no

mutual
def pvE (C : PCfg) : E → Env → Nat → PR O
  | .non, π, k => .ok (.sh .non) π k
  | .bl b, π, k => .ok (.sh (.bl b)) π k
  | .int i, π, k => .ok (.sh (.int i)) π k
  | .str s, π, k => .ok (.sh (.str s)) π k
  | .var i, π, k => PR.opt (getO π i) fun p => .ok (.sh p.toU) (π.set i (some (.sh p.toU))) k
  | .glo g, π, k => PR.opt ((C.g.c g).bind dU) fun u => .ok (.sh u) π k
  | .bin o a b, π, k => (obs C (quiet C b) a (pvE C a π k) π k).bind fun x π1 k1 => (obs C true b (pvE C b π1 k1) π1 k1).bind fun y π2 k2 => ubin C o x y (obF C true b π1) π2 k2
  | .neg a, π, k => (pvE C a π k).bind fun p π1 k1 => match p with
    | .sh (.int i) => .ok (.sh (.int (-i))) π1 k1
    | _ => .no
  | .not a, π, k => (obs C true a (pvE C a π k) π k).bind fun x π1 k1 => PR.opt (vtruth x) fun b => .ok (.sh (.bl (!b))) π1 k1
  | .bop c es, π, k => pvB C c es π k
  | .ite c a b, π, k => (obs C true c (pvE C c π k) π k).bind fun t π1 k1 => PR.opt (vtruth t) fun x => if x then pvE C a π1 k1 else pvE C b π1 k1
  | .cmp o a b, π, k => (obs C (quiet C b) a (pvE C a π k) π k).bind fun x π1 k1 => (obs C true b (pvE C b π1 k1) π1 k1).bind fun y π2 k2 => (ucmp C o x y (obF C (quiet C b) a π) (obF C true b π1) π2 k2).bind fun b π3 k3 => .ok (.sh (.bl b)) π3 k3
  | .chain o p a b c, π, k => (pvE C a π k).bind fun x π1 k1 => (pvE C b π1 k1).bind fun y π2 k2 => (ucmp C o x.toU y.toU true true π2 k2).bind fun t π3 k3 =>
      if t then (obs C true c (pvE C c π3 k3) π3 k3).bind fun z π4 k4 => (ucmp C p y.toU z true (obF C true c π3) π4 k4).bind fun b π5 k5 => .ok (.sh (.bl b)) π5 k5 else .ok (.sh (.bl false)) π3 k3
  | .tup es, π, k => (pvEs C es π k).bind fun vs π1 k1 => PR.req (vs.length ≤ LIM) (.ok (.sh (.tup vs)) π1 k1)
  | .lst es, π, k => (pvEs C es π k).bind fun vs π1 k1 => PR.req (vs.length ≤ LIM) (.ok (.ol vs) π1 k1)
  | .idx a b, π, k => (obs C (quiet C b) a (pvE C a π k) π k).bind fun x π1 k1 => (pvE C b π1 k1).bind fun y π2 k2 => uidx C x y.toU π2 k2
  | .slc a lo hi, π, k => (obs C (quiets C lo && quiets C hi) a (pvE C a π k) π k).bind fun x π1 k1 => (pvO C lo π1 k1).bind fun l π2 k2 => (pvO C hi π2 k2).bind fun h π3 k3 => PR.opt (vslc x l h) fun p => .ok p π3 k3
  | .fld a f, π, k => match recvO π a with
    | some (i, c) => (match C.g.prop c f with
      | some p => PR.req (C.qm f = true → C.mu p = []) (callO C p [.inr i] π k)
      | none => PR.opt (getP π (.f i f)) fun q => .ok (.sh q.toU) (setP π (.f i f) (.sh q.toU)) k)
    | none => (pvE C a π k).bind fun p π1 k1 => ufld C p.toU f π1 k1
  | .call f es, π, k => (pvA C (C.mu f) 0 es π k).bind fun as π1 k1 => callO C f as π1 k1
  | .callk f es ks _ perm, π, k => (pvA C (muA (C.mu f) perm) 0 es π k).bind fun as π1 k1 => (pvA C (muA (C.mu f) perm) as.length ks π1 k1).bind fun bs π2 k2 =>
      PR.opt (perm.mapM (argA (as ++ bs))) fun cs => callO C f cs π2 k2
  | .new c es ks _ perm, π, k => (pvEs C es π k).bind fun as π1 k1 => (pvEs C ks π1 k1).bind fun bs π2 k2 =>
      PR.opt (perm.mapM (argA ((as ++ bs).map .inl))) fun cs => unew C c cs π2 k2
  | .mcall a m es ks _ perm, π, k => match recvO π a with
    | some (i, c) => PR.opt (C.g.meth c m) fun f => PR.req (C.qm m = true → C.mu f = []) ((pvA C (muM (C.mu f) perm) 0 es π k).bind fun as π1 k1 => (pvA C (muM (C.mu f) perm) as.length ks π1 k1).bind fun bs π2 k2 =>
      PR.opt (perm.mapM (argA (as ++ bs))) fun cs => callO C f (.inr i :: cs) π2 k2)
    | none => (recvU (pvE C a π k)).bind fun r π0 k0 => PR.opt (C.g.meth r.1 m) fun f => PR.req (C.qm m = true → C.mu f = []) ((pvA C (muM (C.mu f) perm) 0 es π0 k0).bind fun as π1 k1 => (pvA C (muM (C.mu f) perm) as.length ks π1 k1).bind fun bs π2 k2 =>
      PR.opt (perm.mapM (argA (as ++ bs))) fun cs => callO C f (.inl r.2 :: cs) π2 k2)
  | .fmt es, π, k => (pvEs C es π k).bind fun vs π1 k1 => PR.opt (uStrs vs) fun ts => PR.req (ts.flatten.length ≤ LIM) (.ok (.sh (.str ts.flatten)) π1 k1)
  | .cat tp es st, π, k => (pvEs C es π k).bind fun vs π1 k1 => PR.opt (ucat st vs) fun xs => PR.req (xs.length ≤ LIM) (if tp then .ok (.sh (.tup xs)) π1 k1 else .ok (.ol xs) π1 k1)
  | .blt b es, π, k => match es with
    | .cons a .nil => (obs C true a (pvE C a π k) π k).bind fun x π1 k1 => ublt C b [x] π1 k1
    | es => (pvEs C es π k).bind fun vs π1 k1 => ublt C b vs π1 k1
  | .isi a ts _, π, k => (obs C true a (pvE C a π k) π k).bind fun x π1 k1 => PR.opt (visi x ts) fun b => .ok (.sh (.bl b)) π1 k1
  | .mth m o es, π, k => if m.ofList then
      PR.opt (ownL C π o) fun _ => PR.req (quiets C es = true) ((pvEs C es π k).bind fun vs π1 k1 => PR.opt (ownL C π1 o) fun r => PR.opt (vlm m r.2 vs) fun q => .ok (.sh q.1) (setP π1 r.1 (.ol q.2)) k1)
    else (pvE C o π k).bind fun p π1 k1 => match p.toU with
      | .str s => (match es with
        | .cons a .nil => (obs C true a (pvE C a π1 k1) π1 k1).bind fun x π2 k2 => PR.opt (vmth m (.str s) [x]) fun q => .ok q π2 k2
        | es => (pvEs C es π1 k1).bind fun vs π2 k2 => PR.opt (vmth m (.str s) vs) fun q => .ok q π2 k2)
      | _ => .no
  | .comp elt tg tp it cond own, π, k => (pvI C it π k).bind fun w π1 k1 => PR.req (w.length < FUEL ∧ w.length ≤ LIM ∧ (tg.all fun i => (own.map (·.2)).contains i) = true)
      ((pComp (fun d π2 k2 => PR.opt (utarget tg tp d (uwipe π2 (own.map (·.2)))) fun π3 => (noExc ((pvC C cond π3 k2).bind fun t π4 k4 => if t then (pvE C elt π4 k4).bind fun y π5 k5 => .ok (some y.toU) π5 k5 else .ok none π4 k4)).bind fun y π6 k6 => .ok y (uwipe π6 (own.map (·.2))) k6)
        w (uwipe π1 (own.map (·.2))) k1).bind fun ys π2 k2 => .ok (.ol ys) π2 k2)
/-- values, frozen -/
def pvEs (C : PCfg) : Es → Env → Nat → PR (List U)
  | .nil, π, k => .ok [] π k
  | .cons e es, π, k => (pvE C e π k).bind fun x π1 k1 => (pvEs C es π1 k1).bind fun xs π2 k2 => .ok (x.toU :: xs) π2 k2
/-- arguments; mu: the places, counted from j, that are handed in and out -/
def pvA (C : PCfg) (mu : List Nat) (j : Nat) : Es → Env → Nat → PR (List Ar)
  | .nil, π, k => .ok [] π k
  | .cons e es, π, k => if mu.contains j then (match e with
      | .var i => PR.opt (getO π i) fun _ => (pvA C mu (j + 1) es π k).bind fun xs π2 k2 => .ok (.inr i :: xs) π2 k2
      | _ => .no)
    else (pvE C e π k).bind fun x π1 k1 => (pvA C mu (j + 1) es π1 k1).bind fun xs π2 k2 => .ok (.inl x.toU :: xs) π2 k2
/-- values that stay owned -/
def pvQs (C : PCfg) : Es → Env → Nat → PR (List O)
  | .nil, π, k => .ok [] π k
  | .cons e es, π, k => (pvE C e π k).bind fun x π1 k1 => (pvQs C es π1 k1).bind fun xs π2 k2 => .ok (x :: xs) π2 k2
def pvO (C : PCfg) : Es → Env → Nat → PR (Option Int)
  | .nil, π, k => .ok none π k
  | .cons e _, π, k => (pvE C e π k).bind fun x π1 k1 => match x with
    | .sh (.int i) => .ok (some i) π1 k1
    | _ => .no
def pvC (C : PCfg) : Es → Env → Nat → PR Bool
  | .nil, π, k => .ok true π k
  | .cons e _, π, k => (obs C true e (pvE C e π k) π k).bind fun t π1 k1 => PR.opt (vtruth t) fun b => .ok b π1 k1
def pvB (C : PCfg) (c : Bool) : Es → Env → Nat → PR O
  | .nil, _, _ => .no
  | .cons e .nil, π, k => pvE C e π k
  | .cons e (.cons e2 es), π, k => (pvE C e π k).bind fun x π1 k1 => PR.opt (vtruth x.toU) fun t => if t = c then pvB C c (.cons e2 es) π1 k1 else .ok x π1 k1
def pvI (C : PCfg) : It → Env → Nat → PR (List U)
  | .val e, π, k => (pvE C e π k).bind fun p π1 k1 => PR.opt (uwalk p.toU) fun w => .ok w π1 k1
  | .rng es, π, k => (pvEs C es π k).bind fun vs π1 k1 => match vs with
    | [.int j] => PR.req (j < 2 ^ 62 ∧ -(2 ^ 62) ≤ j) (.ok ((List.range j.toNat).map fun (i : Nat) => .int (0 + (i : Int))) π1 k1)
    | [.int i, .int j] => PR.req ((-(2 ^ 62) ≤ i ∧ i < 2 ^ 62) ∧ -(2 ^ 62) ≤ j ∧ j < 2 ^ 62) (.ok ((List.range (j - i).toNat).map fun (t : Nat) => .int (i + (t : Int))) π1 k1)
    | _ => .no
  | .enm e, π, k => (pvE C e π k).bind fun p π1 k1 => PR.opt (uwalk p.toU) fun w => .ok (enumU 0 w) π1 k1
  | .zip a b, π, k => (pvE C a π k).bind fun p π1 k1 => (pvE C b π1 k1).bind fun q π2 k2 => match p.toU, q.toU with
    | .lst xs, .lst ys => .ok (zipU xs ys) π2 k2
    | _, _ => .no
end
end Cl

/-! part U2 -/
/-! Cl: the second evaluator: statements, defs. -/
namespace Cl
inductive SO where
  | next (π : Env) (k : Nat) | ret (p : O) (π : Env) (k : Nat) | brk (π : Env) (k : Nat) | cont (π : Env) (k : Nat)
  | exc (x : U) (π : Env) (k : Nat) | no
abbrev PS := Tr SO
def PS.next (π : Env) (k : Nat) : PS := .ret (.next π k)
def PS.no : PS := .ret .no
def PR.at {α : Type} (m : PR α) (f : α → Env → Nat → PS) : PS := Tr.bind m fun
  | .ok a π k => f a π k
  | .exc x π k => .ret (.exc x π k)
  | .no => .ret .no
@[simp] theorem PR.at_ok {α : Type} (a : α) (π : Env) (k : Nat) (f : α → Env → Nat → PS) : PR.at (PR.ok a π k) f = f a π k := (rfl)
@[simp] theorem PR.at_exc {α : Type} (x : U) (π : Env) (k : Nat) (f : α → Env → Nat → PS) : PR.at (.ret (.exc x π k)) f = .ret (.exc x π k) := (rfl)
def PS.opt {α : Type} (o : Option α) (f : α → PS) : PS := match o with
  | some a => f a
  | none => .no
@[simp] theorem PS.opt_some {α : Type} (a : α) (f : α → PS) : PS.opt (some a) f = f a := (rfl)
def PS.req (c : Prop) [Decidable c] (m : PS) : PS := if c then m else .no
theorem PS.req_of {c : Prop} [Decidable c] (h : c) (m : PS) : PS.req c m = m := if_pos h
@[simp] theorem PS.req_true (m : PS) : PS.req True m = m := if_pos trivial
def PS.seq (m : PS) (f : Env → Nat → PS) : PS := Tr.bind m fun
  | .next π k => f π k
  | o => .ret o
@[simp] theorem PS.seq_next (π : Env) (k : Nat) (f : Env → Nat → PS) : PS.seq (PS.next π k) f = f π k := (rfl)
@[simp] theorem PS.seq_ret (p : O) (π : Env) (k : Nat) (f : Env → Nat → PS) : PS.seq (.ret (.ret p π k)) f = .ret (.ret p π k) := (rfl)
@[simp] theorem PS.seq_brk (π : Env) (k : Nat) (f : Env → Nat → PS) : PS.seq (.ret (.brk π k)) f = .ret (.brk π k) := (rfl)
@[simp] theorem PS.seq_cont (π : Env) (k : Nat) (f : Env → Nat → PS) : PS.seq (.ret (.cont π k)) f = .ret (.cont π k) := (rfl)
@[simp] theorem PS.seq_exc (x : U) (π : Env) (k : Nat) (f : Env → Nat → PS) : PS.seq (.ret (.exc x π k)) f = .ret (.exc x π k) := (rfl)
def uexOk : List U → Bool
  | [.int i] => decide (i.natAbs < 1000000000000)
  | [.str s] => decide (s.length ≤ 1000000)
  | _ => false
def pFor (f : U → Env → Nat → PS) (fg : List Nat) : List U → Env → Nat → PS
  | [], π, k => .next π k
  | x :: xs, π, k => Tr.bind (f x π k) fun
    | .next π1 k1 => pFor f fg xs (uwipe π1 fg) k1
    | .cont π1 k1 => pFor f fg xs (uwipe π1 fg) k1
    | .brk π1 k1 => PS.next π1 k1
    | o => .ret o
def pWhile (c : Env → Nat → PR Bool) (f : Env → Nat → PS) (fg : List Nat) : Nat → Env → Nat → PS
  | 0, _, _ => .no
  | n + 1, π, k => (c π k).at fun b π1 k1 => match b with
    | false => .next π1 k1
    | true => Tr.bind (f π1 k1) fun
      | .next π2 k2 => pWhile c f fg n (uwipe π2 fg) k2
      | .cont π2 k2 => pWhile c f fg n (uwipe π2 fg) k2
      | .brk π2 k2 => PS.next π2 k2
      | o => .ret o
def uleave (slot : Option Nat) (m : PS) : PS := Tr.bind m fun
  | .next π k => PS.next (match slot with | some i => π.set i none | none => π) k
  | .brk π k => .ret (.brk (match slot with | some i => π.set i none | none => π) k)
  | .cont π k => .ret (.cont (match slot with | some i => π.set i none | none => π) k)
  | .ret d π k => .ret (.ret d π k)
  | _ => PS.no
mutual
def uX : XE → List U → Option U
  | .cst k, _ => some k.toU
  | .fld, fs => match fs with
    | [d] => some d
    | _ => none
  | .tup xs, fs => (uXs xs fs).map .tup
def uXs : List XE → List U → Option (List U)
  | [], _ => some []
  | x :: xs, fs => match uX x fs, uXs xs fs with
    | some d, some ds => some (d :: ds)
    | _, _ => none
end
def ucatch (c i : Nat) (x : XE) (m : PS) : PS := Tr.bind m fun
  | .exc e π k => match e with
    | .exn c' fs => if c' = c then (if i < π.length then PS.opt (uX x fs) fun d => .ret (.ret (.sh d) π k) else PS.no) else .ret (.exc (.exn c' fs) π k)
    | _ => PS.no
  | o => .ret o
def fmOk (C : PCfg) (is : List Nat) : Bool := is.all fun i => !C.fm.contains i
/-- x += y -/
def paug (C : PCfg) (i : Nat) (o : Op) (y : U) (π : Env) (k : Nat) : PS := match getO π i with
  | some (.ol xs) => (match o, y with
    | .add, .lst ys => PS.req (xs.length + ys.length ≤ LIM) (.next (π.set i (some (.ol (xs ++ ys)))) k)
    | _, _ => .no)
  | some (.sh v) => PS.req (fmOk C [i] = true) (PS.opt (vaug o v y) fun u => .next (π.set i (some (.sh u))) k)
  | _ => .no
def paugf (C : PCfg) (i : Nat) (f : String) (o : Op) (y : U) (π : Env) (k : Nat) : PS := match getP π (.f i f) with
  | some (.ol xs) => (match o, y with
    | .add, .lst ys => PS.req (xs.length + ys.length ≤ LIM) (.next (setP π (.f i f) (.ol (xs ++ ys))) k)
    | _, _ => .no)
  | some (.sh v) => PS.opt (vaug o v y) fun u => .next (setP π (.f i f) (.sh u)) k
  | _ => .no
def isVar : E → Option Nat
  | .var i => some i
  | _ => none
mutual
def pvS (C : PCfg) : St → Env → Nat → PS
  | .set i e, π, k => PS.req (fmOk C [i] = true) ((pvE C e π k).at fun p π1 k1 => .next (π1.set i (some p)) k1)
  | .sets is e, π, k => PS.req (fmOk C is = true) ((pvE C e π k).at fun p π1 k1 => PS.opt (utarget is true p.toU π1) fun π2 => .next π2 k1)
  | .par is es, π, k => PS.req (fmOk C is = true) ((pvQs C es π k).at fun ps π1 k1 => PS.req (ps.length = is.length) (.next (setAllO π1 is ps) k1))
  | .aug i o e, π, k => PS.opt (getO π i) fun _ => (obs C true e (pvE C e π k) π k).at fun y π1 k1 => paug C i o y π1 k1
  | .setf o f e, π, k => PS.opt (isVar o) fun i => (pvE C e π k).at fun p π1 k1 => match getO π1 i with
    | some (.oo c ns ps) => PS.req (C.g.prop c f = none) (.next (π1.set i (some (.oo c (oput f p ns ps).1 (oput f p ns ps).2))) k1)
    | _ => .no
  | .augf o f op e, π, k => PS.opt (isVar o) fun i => PS.req (quiet C e = true ∧ plOk C π (.f i f) = true) (PS.opt (getP π (.f i f)) fun _ => (obs C true e (pvE C e π k) π k).at fun y π1 k1 => paugf C i f op y π1 k1)
  | .seti o j e, π, k => PS.opt (isVar o) fun i => PS.opt (getO π i) fun _ => ((pvE C e π k).at fun p π1 k1 => (pvE C j π1 k1).at fun q π2 k2 => PS.opt (ownL C π2 o) fun r => match q with
    | .sh (.int t) => PS.opt (L2.ixN r.2.length t) fun n => .next (setP π2 r.1 (.ol (r.2.set n p.toU))) k2
    | _ => .no)
  | .expr e, π, k => (pvE C e π k).at fun _ π1 k1 => .next π1 k1
  | .ret e, π, k => match isVar e with
    | some i => PS.opt (getO π i) fun p => .ret (.ret p (π.set i none) k)
    | none => (pvE C e π k).at fun p π1 k1 => .ret (.ret p π1 k1)
  | .retn, π, k => .ret (.ret (.sh .non) π k)
  | .ifs c a b, π, k => (obs C true c (pvE C c π k) π k).at fun t π1 k1 => PS.opt (vtruth t) fun x => if x then pvSs C a π1 k1 else pvSs C b π1 k1
  | .whl c fg b, π, k => pWhile (fun π k => (obs C true c (pvE C c π k) π k).bind fun t π1 k1 => PR.opt (vtruth t) fun x => .ok x π1 k1) (pvSs C b) fg FUEL π k
  | .forr tg tp it fg b, π, k => PS.req (fmOk C tg = true) ((pvI C it π k).at fun w π1 k1 => PS.req (w.length < FUEL) (pFor (fun d π k => PS.opt (utarget tg tp d π) fun π2 => pvSs C b π2 k) fg w (uwipe π1 fg) k1))
  | .raise c es, π, k => (pvEs C es π k).at fun vs π1 k1 => PS.req (uexOk vs = true) (.ret (.exc (.exn c vs) π1 k1))
  | .tryx b hs, π, k => Tr.bind (pvSs C b π k) fun
    | .exc x π1 k1 => (match x with
      | .exn c fs => pvH C c (.exn c fs) hs π1 k1
      | _ => PS.no)
    | o => .ret o
  | .tryr b c i x, π, k => ucatch c i x (pvSs C b π k)
  | .pass, π, k => .next π k
  | .brk, π, k => .ret (.brk π k)
  | .cont, π, k => .ret (.cont π k)
def pvSs (C : PCfg) : Ss → Env → Nat → PS
  | .nil, π, k => .next π k
  | .cons s .nil, π, k => pvS C s π k
  | .cons s (.cons s2 ss), π, k => (pvS C s π k).seq fun π1 k1 => pvSs C (.cons s2 ss) π1 k1
def pvH (C : PCfg) (c : Nat) (x : U) : Hs → Env → Nat → PS
  | .nil, π, k => .ret (.exc x π k)
  | .cons cs slot b hs, π, k => if cs.contains c then PS.req (fmOk C slot.toList = true) (uleave slot (pvSs C b (match slot with | some i => π.set i (some (.sh x)) | none => π) k)) else pvH C c x hs π k
end
/-- the two defs that the laws draw with -/
structure Ax where
  bag : Option Nat := none
  take : Option Nat := none
def pbag (ps : List O) (k : Nat) : Tr FO := match ps with
  | [.sh (.scr ns), .sh (.int i)] => if 0 ≤ i ∧ i < 1048576 then .ret (.ok (.sh .bag) [] k) else .ret .no
  | _ => .ret .no
def ptake (ps : List O) (k : Nat) : Tr FO := match ps with
  | [.sh .bag, .sh (.int m)] => if 0 < m ∧ m < 1073741824 ∧ k < 1152921504606846976 then .draw m.toNat fun r => .ret (.ok (.sh (.int (r : Nat))) [] (k + 1)) else .ret .no
  | _ => .ret .no
def outsOf (mu : List Nat) (π : Env) : Option (List O) := mapO (getO π) mu
def ffin (mu : List Nat) (p : O) (π : Env) (k : Nat) : Tr FO := match outsOf mu π with
  | some outs => .ret (.ok p outs k)
  | none => .ret .no
def ffex (mu : List Nat) (x : U) (π : Env) (k : Nat) : Tr FO := match outsOf mu π with
  | some outs => .ret (.exc x outs k)
  | none => .ret .no
def prun (P : Nat → Option Fn) (G : Glo) (mu : Nat → List Nat) (qm : String → Bool) (X : Ax) : Nat → Nat → List O → Nat → Tr FO
  | 0, _, _, _ => .ret .no
  | n + 1, f, ps, k => if X.bag = some f then pbag ps k else if X.take = some f then ptake ps k else match P f with
    | none => .ret .no
    | some F => if ps.length = F.np then Tr.bind (pvSs ⟨prun P G mu qm X n, G, mu, qm, mu f⟩ F.body (ps.map some ++ List.replicate (F.ns - F.np) none) k) fun
        | .next π k1 => ffin (mu f) (.sh .non) π k1
        | .ret p π k1 => ffin (mu f) p π k1
        | .exc x π k1 => ffex (mu f) x π k1
        | _ => .ret .no
      else .ret .no
end Cl

/-! part U3 -/
/-! Cl: what the second evaluator's values are in a store. -/
namespace Cl
open PySem (PyData)
structure Wd where
  F : Nat → Prop
  B : Nat → Prop
mutual
def Vw (w : Wd) (S : Sto) : U → D → Prop
  | .non, d => d = .non
  | .bl b, d => d = .bl b
  | .int i, d => d = .int i
  | .str s, d => d = .str s
  | .tup xs, d => ∃ ds, d = .tup ds ∧ Vws w S xs ds
  | .lst xs, d => ∃ n ds, d = .ref n ∧ w.F n ∧ S[n]? = some (.lst ds) ∧ Vws w S xs ds
  | .ob c ns vs, d => ∃ n gs, d = .ref n ∧ w.F n ∧ S[n]? = some (.ins c gs) ∧ gs.map (·.1) = ns ∧ Vws w S vs (gs.map (·.2))
  | .exn c fs, d => ∃ ds, d = .exn c ds ∧ Vws w S fs ds
  | .bag, d => ∃ n, d = .ref n ∧ w.B n
  | .scr ns, d => ∃ n, d = .ref n ∧ w.F n ∧ S[n]? = some (.scr ns)
def Vws (w : Wd) (S : Sto) : List U → List D → Prop
  | [], ds => ds = []
  | x :: xs, ds => ∃ e es, ds = e :: es ∧ Vw w S x e ∧ Vws w S xs es
end
mutual
def Ow (w : Wd) (S : Sto) : O → D → List Nat → Prop
  | .sh v, d, W => W = [] ∧ Vw w S v d
  | .ol xs, d, W => ∃ n ds, d = .ref n ∧ W = [n] ∧ S[n]? = some (.lst ds) ∧ Vws w S xs ds
  | .oo c ns ps, d, W => ∃ n gs W', d = .ref n ∧ W = n :: W' ∧ S[n]? = some (.ins c gs) ∧ gs.map (·.1) = ns ∧ Ows w S ps (gs.map (·.2)) W'
def Ows (w : Wd) (S : Sto) : List O → List D → List Nat → Prop
  | [], ds, W => ds = [] ∧ W = []
  | p :: ps, ds, W => ∃ d es W1 W2, ds = d :: es ∧ W = W1 ++ W2 ∧ Ow w S p d W1 ∧ Ows w S ps es W2
end
def Ews (w : Wd) (S : Sto) : Env → Sg → List Nat → Prop
  | [], σ, W => σ = [] ∧ W = []
  | none :: π, σ, W => ∃ x σ', σ = x :: σ' ∧ Ews w S π σ' W
  | some p :: π, σ, W => ∃ d σ' W1 W2, σ = some d :: σ' ∧ W = W1 ++ W2 ∧ Ow w S p d W1 ∧ Ews w S π σ' W2
def BagA (S : Sto) (n k : Nat) : Prop := ∃ d s c : Int, S[n]? = some (.lst [.int d, .int s, .int c]) ∧ 0 ≤ d ∧ 0 ≤ s ∧ s < 2 ^ 62 ∧ 0 ≤ c ∧ c ≤ k
structure Good (w : Wd) (S : Sto) (W : List Nat) (k : Nat) : Prop where
  nd : W.Nodup
  own : ∀ n, n ∈ W → n < S.length ∧ ¬ w.F n ∧ ¬ w.B n
  fz : ∀ n, w.F n → n < S.length ∧ ¬ w.B n
  bg : ∀ n, w.B n → BagA S n k
def Fresh (W : List Nat) (S : Sto) (W' : List Nat) : Prop := ∀ n, n ∈ W' → n ∈ W ∨ S.length ≤ n
structure Step (w : Wd) (S : Sto) (w' : Wd) (S' : Sto) (W : List Nat) (q : Bool) : Prop where
  le : S.length ≤ S'.length
  keep : ∀ n, n < S.length → (q = true ∨ n ∉ W) → ¬ w.B n → S'[n]? = S[n]?
  F : ∀ n, w.F n → w'.F n
  B : ∀ n, w.B n → w'.B n
  newF : ∀ n, w'.F n → w.F n ∨ n ∈ W ∨ S.length ≤ n
  newB : ∀ n, w'.B n → w.B n ∨ S.length ≤ n
variable {w w' w1 w2 : Wd} {S S' S1 S2 : Sto} {W W' W1 W2 : List Nat} {k k' : Nat} {q q' : Bool}
theorem Step.refl : Step w S w S W q := ⟨Nat.le_refl _, fun _ _ _ _ => rfl, fun _ h => h, fun _ h => h, fun _ h => .inl h, fun _ h => .inl h⟩
theorem Step.trans (a : Step w S w1 S1 W q) (b : Step w1 S1 w2 S2 W1 q') (f : Fresh W S W1) (hq : q = true → q' = true) : Step w S w2 S2 W q := by
  refine ⟨Nat.le_trans a.le b.le, fun n hn hm hb => ?_, fun n h => b.F n (a.F n h), fun n h => b.B n (a.B n h), fun n h => ?_, fun n h => ?_⟩
  · rw [b.keep n (Nat.lt_of_lt_of_le hn a.le) ?_ ?_, a.keep n hn hm hb]
    · rcases hm with hm | hm
      · exact .inl (hq hm)
      · refine .inr fun h => ?_
        rcases f n h with h | h
        · exact hm h
        · omega
    · intro h
      rcases a.newB n h with h | h
      · exact hb h
      · omega
  · rcases b.newF n h with h | h | h
    · exact a.newF n h
    · rcases f n h with h | h
      · exact .inr (.inl h)
      · exact .inr (.inr h)
    · exact .inr (.inr (Nat.le_trans a.le h))
  · rcases b.newB n h with h | h
    · exact a.newB n h
    · exact .inr (Nat.le_trans a.le h)
theorem Step.weaken (a : Step w S w1 S1 W q) (hW : ∀ n, n ∈ W → n ∈ W2) (hq : q' = true → q = true) : Step w S w1 S1 W2 q' := by
  refine ⟨a.le, fun n hn hm hb => a.keep n hn ?_ hb, a.F, a.B, fun n h => ?_, a.newB⟩
  · rcases hm with hm | hm
    · exact .inl (hq hm)
    · exact .inr fun h => hm (hW n h)
  · rcases a.newF n h with h | h | h
    · exact .inl h
    · exact .inr (.inl (hW n h))
    · exact .inr (.inr h)
theorem Fresh.trans {W W1 W2 : List Nat} (a : Fresh W S W1) (b : Fresh W1 S1 W2) (h : S.length ≤ S1.length) : Fresh W S W2 := fun n hn => (b n hn).elim (a n) fun h' => .inr (Nat.le_trans h h')
theorem Fresh.refl : Fresh W S W := fun _ h => .inl h

/-! ### carried on -/
/-- what stays from one store to the next -/
structure Kr (w : Wd) (S : Sto) (w' : Wd) (S' : Sto) : Prop where
  F : ∀ n, w.F n → w'.F n
  B : ∀ n, w.B n → w'.B n
  keep : ∀ n, w.F n → S'[n]? = S[n]?
theorem getQ_eq {n : Nat} (h : S'[n]? = S[n]?) : getQ S' n = getQ S n := by unfold getQ; rw [h]
mutual
theorem Vw.mono (h : Kr w S w' S') : ∀ {u : U} {d : D}, Vw w S u d → Vw w' S' u d
  | .non, _, e => e
  | .bl _, _, e => e
  | .int _, _, e => e
  | .str _, _, e => e
  | .tup xs, d, ⟨ds, e, g⟩ => ⟨ds, e, Vws.mono h g⟩
  | .lst xs, d, ⟨n, ds, e, f, a, g⟩ => ⟨n, ds, e, h.F n f, (h.keep n f).trans a, Vws.mono h g⟩
  | .ob c ns vs, d, ⟨n, gs, e, f, a, b, g⟩ => ⟨n, gs, e, h.F n f, (h.keep n f).trans a, b, Vws.mono h g⟩
  | .exn c fs, d, ⟨ds, e, g⟩ => ⟨ds, e, Vws.mono h g⟩
  | .bag, d, ⟨n, e, f⟩ => ⟨n, e, h.B n f⟩
  | .scr ns, d, ⟨n, e, f, a⟩ => ⟨n, e, h.F n f, (h.keep n f).trans a⟩
theorem Vws.mono (h : Kr w S w' S') : ∀ {us : List U} {ds : List D}, Vws w S us ds → Vws w' S' us ds
  | [], _, e => e
  | x :: xs, _, ⟨e, es, a, b, c⟩ => ⟨e, es, a, Vw.mono h b, Vws.mono h c⟩
end
mutual
theorem Ow.mono (h : Kr w S w' S') : ∀ {p : O} {d : D} {W : List Nat}, (∀ n, n ∈ W → S'[n]? = S[n]?) → Ow w S p d W → Ow w' S' p d W
  | .sh v, _, _, _, ⟨a, b⟩ => ⟨a, Vw.mono h b⟩
  | .ol xs, _, _, k, ⟨n, ds, a, b, c, d⟩ => ⟨n, ds, a, b, (k n (by rw [b]; simp)).trans c, Vws.mono h d⟩
  | .oo c ns ps, _, _, k, ⟨n, gs, W', a, b, e, f, g⟩ => ⟨n, gs, W', a, b, (k n (by rw [b]; simp)).trans e, f, Ows.mono h (fun m hm => k m (by rw [b]; simp [hm])) g⟩
theorem Ows.mono (h : Kr w S w' S') : ∀ {ps : List O} {ds : List D} {W : List Nat}, (∀ n, n ∈ W → S'[n]? = S[n]?) → Ows w S ps ds W → Ows w' S' ps ds W
  | [], _, _, _, e => e
  | p :: ps, _, _, k, ⟨d, es, W1, W2, a, b, c, g⟩ => ⟨d, es, W1, W2, a, b, Ow.mono h (fun m hm => k m (by rw [b]; simp [hm])) c, Ows.mono h (fun m hm => k m (by rw [b]; simp [hm])) g⟩
end
theorem Ews.mono (h : Kr w S w' S') : ∀ {π : Env} {σ : Sg} {W : List Nat}, (∀ n, n ∈ W → S'[n]? = S[n]?) → Ews w S π σ W → Ews w' S' π σ W
  | [], _, _, _, e => e
  | none :: π, _, _, k, ⟨x, σ', a, b⟩ => ⟨x, σ', a, Ews.mono h k b⟩
  | some p :: π, _, _, k, ⟨d, σ', W1, W2, a, b, c, g⟩ => ⟨d, σ', W1, W2, a, b, Ow.mono h (fun m hm => k m (by rw [b]; simp [hm])) c, Ews.mono h (fun m hm => k m (by rw [b]; simp [hm])) g⟩
/-- from a step -/
theorem Step.kr (a : Step w S w' S' W q) (g : Good w S W k) : Kr w S w' S' := ⟨a.F, a.B, fun n hn => a.keep n (g.fz n hn).1 (.inr fun h => (g.own n h).2.1 hn) (g.fz n hn).2⟩
theorem Step.kr2 (a : Step w S w' S' W q) (g : Good w S (W2 ++ W) k) : Kr w S w' S' := ⟨a.F, a.B, fun n hn => a.keep n (g.fz n hn).1 (.inr fun h => (g.own n (by simp [h])).2.1 hn) (g.fz n hn).2⟩
/-- what a step does not own stays -/
theorem Step.other (a : Step w S w' S' W q) (g : Good w S (W2 ++ W) k) : ∀ n, n ∈ W2 → S'[n]? = S[n]? := fun n hn => by
  have o := g.own n (by simp [hn])
  refine a.keep n o.1 (.inr fun h => ?_) o.2.2
  exact (List.nodup_append.mp g.nd).2.2 n hn n h rfl

/-! ### freezing -/
def Wd.add (w : Wd) (W : List Nat) : Wd := ⟨fun n => w.F n ∨ n ∈ W, w.B⟩
theorem add_kr (W : List Nat) : Kr w S (w.add W) S := ⟨fun _ h => .inl h, fun _ h => h, fun _ _ => rfl⟩
theorem add_kr2 (h : ∀ n, n ∈ W1 → n ∈ W2) : Kr (w.add W1) S (w.add W2) S := ⟨fun n e => e.elim .inl fun e => .inr (h n e), fun _ h => h, fun _ _ => rfl⟩
mutual
theorem Ow.freeze : ∀ {p : O} {d : D} {W : List Nat}, Ow w S p d W → Vw (w.add W) S p.toU d
  | .sh v, _, W, ⟨a, b⟩ => Vw.mono (add_kr W) b
  | .ol xs, _, W, ⟨n, ds, a, b, c, d⟩ => ⟨n, ds, a, .inr (by rw [b]; simp), c, Vws.mono (add_kr W) d⟩
  | .oo c ns ps, _, W, ⟨n, gs, W', a, b, e, f, g⟩ => ⟨n, gs, a, .inr (by rw [b]; simp), e, f, Vws.mono (add_kr2 (by rw [b]; intro m hm; simp [hm])) (Ows.freeze g)⟩
theorem Ows.freeze : ∀ {ps : List O} {ds : List D} {W : List Nat}, Ows w S ps ds W → Vws (w.add W) S (O.toUs ps) ds
  | [], _, _, ⟨a, _⟩ => a
  | p :: ps, _, W, ⟨d, es, W1, W2, a, b, c, g⟩ => ⟨d, es, a, Vw.mono (add_kr2 (by rw [b]; intro m hm; simp [hm])) (Ow.freeze c), Vws.mono (add_kr2 (by rw [b]; intro m hm; simp [hm])) (Ows.freeze g)⟩
end
theorem Good.freeze (g : Good w S (W1 ++ W2) k) : Good (w.add W1) S W2 k := by
  refine ⟨(List.nodup_append.mp g.nd).2.1, fun n hn => ?_, fun n hn => ?_, g.bg⟩
  · have o := g.own n (by simp [hn])
    refine ⟨o.1, fun h => ?_, o.2.2⟩
    rcases h with h | h
    · exact o.2.1 h
    · exact (List.nodup_append.mp g.nd).2.2 n h n hn rfl
  · rcases hn with h | h
    · exact g.fz n h
    · have o := g.own n (by simp [h])
      exact ⟨o.1, o.2.2⟩
theorem Step.freeze (h : ∀ n, n ∈ W1 → n ∈ W) : Step w S (w.add W1) S W q := ⟨Nat.le_refl _, fun _ _ _ _ => rfl, fun _ h => .inl h, fun _ h => h, fun n e => e.elim .inl fun e => .inr (.inl (h n e)), fun _ h => .inl h⟩
theorem Good.perm (g : Good w S W k) (h : W.Perm W') : Good w S W' k := ⟨h.nodup_iff.mp g.nd, fun n hn => g.own n (h.mem_iff.mpr hn), g.fz, g.bg⟩
theorem Good.sub (g : Good w S W k) (h : W'.Sublist W) : Good w S W' k := ⟨h.nodup g.nd, fun n hn => g.own n (h.subset hn), g.fz, g.bg⟩
theorem Good.right (g : Good w S (W1 ++ W2) k) : Good w S W2 k := g.sub (List.sublist_append_right _ _)
theorem Good.left (g : Good w S (W1 ++ W2) k) : Good w S W1 k := g.sub (List.sublist_append_left _ _)

/-! ### a slot -/
theorem Ews.len : ∀ {π : Env} {σ : Sg} {W : List Nat}, Ews w S π σ W → σ.length = π.length
  | [], _, _, h => by rw [h.1]; rfl
  | none :: π, _, _, ⟨x, σ', a, b⟩ => by rw [a, List.length_cons, List.length_cons, Ews.len b]
  | some p :: π, _, _, ⟨d, σ', W1, W2, a, b, c, g⟩ => by rw [a, List.length_cons, List.length_cons, Ews.len g]
/-- a slot's value, and the rest -/
theorem Ews.slot : ∀ {π : Env} {σ : Sg} {W : List Nat} {i : Nat} {p : O}, Ews w S π σ W → getO π i = some p →
    ∃ d Wp R, σ[i]? = some (some d) ∧ W.Perm (Wp ++ R) ∧ Ow w S p d Wp ∧ Ews w S (π.set i none) σ R
  | [], _, _, i, p, _, e => by unfold getO at e; simp at e
  | none :: π, _, W, i, p, ⟨x, σ', a, b⟩, e => by
    cases i with
    | zero => unfold getO at e; simp at e
    | succ i =>
      have e' : getO π i = some p := by unfold getO at e ⊢; simpa using e
      obtain ⟨d, Wp, R, h1, h2, h3, h4⟩ := Ews.slot b e'
      exact ⟨d, Wp, R, by rw [a]; simpa using h1, h2, h3, ⟨x, σ', a, h4⟩⟩
  | some p0 :: π, _, W, i, p, ⟨d, σ', W1, W2, a, b, c, g⟩, e => by
    cases i with
    | zero =>
      have e' : p0 = p := by unfold getO at e; simpa using e
      subst e'
      exact ⟨d, W1, W2, by rw [a]; rfl, by rw [b], c, ⟨some d, σ', a, g⟩⟩
    | succ i =>
      have e' : getO π i = some p := by unfold getO at e ⊢; simpa using e
      obtain ⟨d', Wp, R, h1, h2, h3, h4⟩ := Ews.slot g e'
      refine ⟨d', Wp, W1 ++ R, by rw [a]; simpa using h1, ?_, h3, ⟨d, σ', W1, R, a, rfl, c, h4⟩⟩
      rw [b]
      exact (List.Perm.append_left W1 h2).trans (by rw [← List.append_assoc, ← List.append_assoc]; exact List.Perm.append_right R List.perm_append_comm)
/-- an empty slot is filled -/
theorem Ews.fill : ∀ {π : Env} {σ : Sg} {W Wp : List Nat} {i : Nat} {p : O} {d : D}, Ews w S (π.set i none) σ W → i < π.length → Ow w S p d Wp → ∃ W', W'.Perm (Wp ++ W) ∧ Ews w S (π.set i (some p)) (σ.set i (some d)) W'
  | [], _, _, _, i, p, d, _, h, _ => by simp at h
  | o :: π, σ, W, Wp, 0, p, d, e, _, c => by
    obtain ⟨x, σ', a, b⟩ := e
    exact ⟨Wp ++ W, .refl _, d, σ', Wp, W, by rw [a]; rfl, rfl, c, b⟩
  | none :: π, σ, W, Wp, i + 1, p, d, e, h, c => by
    obtain ⟨x, σ', a, b⟩ := e
    obtain ⟨W', h1, h2⟩ := Ews.fill (i := i) b (by simpa using h) c
    exact ⟨W', h1, x, σ'.set i (some d), by rw [a]; rfl, h2⟩
  | some p0 :: π, σ, W, Wp, i + 1, p, d, e, h, c => by
    obtain ⟨d0, σ', W1, W2, a, b, c0, g⟩ := e
    obtain ⟨W', h1, h2⟩ := Ews.fill (i := i) g (by simpa using h) c
    refine ⟨W1 ++ W', ?_, d0, σ'.set i (some d), W1, W', by rw [a]; rfl, rfl, c0, h2⟩
    rw [b]
    refine (List.Perm.append_left W1 h1).trans ?_
    rw [← List.append_assoc, ← List.append_assoc]
    exact List.Perm.append_right W2 List.perm_append_comm
/-- the same, where the store's slot holds it already -/
theorem Ews.back : ∀ {π : Env} {σ : Sg} {W Wp : List Nat} {i : Nat} {p : O} {d : D}, Ews w S (π.set i none) σ W → σ[i]? = some (some d) → i < π.length → Ow w S p d Wp → ∃ W', W'.Perm (Wp ++ W) ∧ Ews w S (π.set i (some p)) σ W' := by
  intro π σ W Wp i p d e hs h c
  obtain ⟨W', h1, h2⟩ := Ews.fill e h c
  have : σ.set i (some d) = σ := by
    apply List.ext_getElem?
    intro j
    by_cases hj : i = j
    · subst hj
      rw [List.getElem?_set_self (List.getElem?_eq_some_iff.mp hs).1, hs]
    · rw [List.getElem?_set_ne hj]
  rw [this] at h2
  exact ⟨W', h1, h2⟩
/-- any slot is forgotten -/
theorem Ews.drop : ∀ {π : Env} {σ : Sg} {W : List Nat} (i : Nat), Ews w S π σ W → ∃ R, R.Sublist W ∧ Ews w S (π.set i none) σ R
  | [], σ, W, i, e => ⟨W, .refl _, e⟩
  | none :: π, σ, W, i, ⟨x, σ', a, b⟩ => by
    cases i with
    | zero => exact ⟨W, .refl _, x, σ', a, b⟩
    | succ i =>
      obtain ⟨R, h1, h2⟩ := Ews.drop i b
      exact ⟨R, h1, x, σ', a, h2⟩
  | some p0 :: π, σ, W, i, ⟨d, σ', W1, W2, a, b, c, g⟩ => by
    cases i with
    | zero => exact ⟨W2, by rw [b]; exact List.sublist_append_right _ _, some d, σ', a, g⟩
    | succ i =>
      obtain ⟨R, h1, h2⟩ := Ews.drop i g
      exact ⟨W1 ++ R, by rw [b]; exact List.Sublist.append (.refl _) h1, d, σ', W1, R, a, rfl, c, h2⟩
/-- an empty slot's content in the store does not matter -/
theorem Ews.free : ∀ {π : Env} {σ : Sg} {W : List Nat} {i : Nat} (x : Option D), Ews w S (π.set i none) σ W → Ews w S (π.set i none) (σ.set i x) W
  | [], σ, W, i, x, e => by obtain ⟨a, b⟩ := e; exact ⟨by rw [a]; rfl, b⟩
  | o :: π, σ, W, 0, x, e => by
    obtain ⟨y, σ', a, b⟩ := e
    exact ⟨x, σ', by rw [a]; rfl, b⟩
  | none :: π, σ, W, i + 1, x, e => by
    obtain ⟨y, σ', a, b⟩ := e
    exact ⟨y, σ'.set i x, by rw [a]; rfl, Ews.free (i := i) x b⟩
  | some p0 :: π, σ, W, i + 1, x, e => by
    obtain ⟨d0, σ', W1, W2, a, b, c0, g⟩ := e
    exact ⟨d0, σ'.set i x, W1, W2, by rw [a]; rfl, b, c0, Ews.free (i := i) x g⟩
theorem getO_lt {π : Env} {i : Nat} {p : O} (h : getO π i = some p) : i < π.length := by
  unfold getO at h
  cases e : π[i]? with
  | none => rw [e] at h; cases h
  | some o => exact (List.getElem?_eq_some_iff.mp e).1
/-- a slot gets another value -/
theorem Ews.put {π : Env} {σ : Sg} {Wp : List Nat} {i : Nat} {p : O} {d : D} (e : Ews w S π σ W) (c : Ow w S p d Wp) : ∃ W', Ews w S (π.set i (some p)) (σ.set i (some d)) W' ∧ ∃ R, R.Sublist (Wp ++ W) ∧ W'.Perm R := by
  obtain ⟨R, h1, h2⟩ := Ews.drop i e
  by_cases h : i < π.length
  · obtain ⟨W', a, b⟩ := Ews.fill h2 h c
    exact ⟨W', b, _, List.Sublist.append (.refl _) h1, a⟩
  · refine ⟨W, ?_, W, List.sublist_append_right _ _, .refl _⟩
    rw [List.set_eq_of_length_le (by omega), List.set_eq_of_length_le (by rw [e.len]; omega)]
    exact e
end Cl

/-! part U4 -/
/-! Cl: the second evaluator follows the first: results, binding, freezing, looking. -/
namespace Cl
open PySem (PyData)
abbrev Pay (α β : Type) := Wd → Sto → α → β → List Nat → Prop
def RelO {α β : Type} (Rp : Pay α β) (w : Wd) (S : Sto) (W : List Nat) (q : Bool) (σ : Sg) (m : R β) : Out α → Prop
  | .no => True
  | .ok a π' k' => ∃ b S' w' Wp W', m = .ok b S' ∧ Step w S w' S' W q ∧ Rp w' S' a b Wp ∧ Ews w' S' π' σ W' ∧ Good w' S' (Wp ++ W') k' ∧ Fresh W S (Wp ++ W')
  | .exc x π' k' => ∃ d S' w' W', m = .exc d S' ∧ Step w S w' S' W q ∧ Vw w' S' x d ∧ Ews w' S' π' σ W' ∧ Good w' S' W' k' ∧ Fresh W S W'
def RelE {α β : Type} (Rp : Pay α β) (w : Wd) (S : Sto) (W : List Nat) (q : Bool) (σ : Sg) (m : R β) (t : PR α) : Prop := ∃ o, t.Has o ∧ RelO Rp w S W q σ m o
variable {w w' w1 w2 : Wd} {S S' S1 S2 : Sto} {W W' W1 W2 Wp : List Nat} {k k' : Nat} {q q' : Bool} {σ : Sg} {π : Env}
variable {α β γ δ : Type} {Rp : Pay α β} {Rq : Pay γ δ} {m : R β} {t : PR α}
theorem rel_no : RelE Rp w S W q σ m (PR.no : PR α) := ⟨_, .ret, trivial⟩
theorem rel_ok {a : α} {b : β} (c : Rp w S a b Wp) (e : Ews w S π σ W) (g : Good w S (Wp ++ W) k) (f : Fresh W2 S (Wp ++ W)) : RelE Rp w S W2 q σ (.ok b S) (PR.ok a π k) :=
  ⟨_, .ret, b, S, w, Wp, W, rfl, .refl, c, e, g, f⟩
theorem RelE.weaken (h : RelE Rp w S W q σ m t) (hW : ∀ n, n ∈ W → n ∈ W2) (hq : q' = true → q = true) : RelE Rp w S W2 q' σ m t := by
  obtain ⟨o, h1, h2⟩ := h
  refine ⟨o, h1, ?_⟩
  cases o with
  | no => trivial
  | ok a π k =>
    obtain ⟨b, S', w', Wp, W', e, s, r, v, g, f⟩ := h2
    exact ⟨b, S', w', Wp, W', e, s.weaken hW hq, r, v, g, fun n hn => (f n hn).elim (fun z => .inl (hW n z)) .inr⟩
  | exc x π k =>
    obtain ⟨d, S', w', W', e, s, r, v, g, f⟩ := h2
    exact ⟨d, S', w', W', e, s.weaken hW hq, r, v, g, fun n hn => (f n hn).elim (fun z => .inl (hW n z)) .inr⟩
theorem RelE.qq (h : RelE Rp w S W q σ m t) (hq : q' = true → q = true) : RelE Rp w S W q' σ m t := h.weaken (fun _ h => h) hq
theorem RelE.bind {f : β → Sto → R δ} {g : α → Env → Nat → PR γ} (h : RelE Rp w S W q σ m t)
    (h2 : ∀ a b w1 S1 Wp W1 π1 k1, Step w S w1 S1 W q → Fresh W S (Wp ++ W1) → Rp w1 S1 a b Wp → Ews w1 S1 π1 σ W1 → Good w1 S1 (Wp ++ W1) k1 → RelE Rq w1 S1 (Wp ++ W1) q σ (f b S1) (g a π1 k1)) :
    RelE Rq w S W q σ (m.bind f) (PR.bind t g) := by
  obtain ⟨o, h1, h3⟩ := h
  cases o with
  | no => exact ⟨_, .bind h1 .ret, trivial⟩
  | ok a π k =>
    obtain ⟨b, S1, w1, Wp, W1, e, s, r, v, gd, fr⟩ := h3
    subst e
    obtain ⟨o2, k1, k2⟩ := h2 a b w1 S1 Wp W1 π k s fr r v gd
    refine ⟨o2, .bind h1 k1, ?_⟩
    rw [R.bind_ok]
    cases o2 with
    | no => trivial
    | ok c π2 k2' =>
      obtain ⟨b2, S2, w2, Wp2, W2, e2, s2, r2, v2, gd2, fr2⟩ := k2
      exact ⟨b2, S2, w2, Wp2, W2, e2, s.trans s2 fr (fun h => h), r2, v2, gd2, fr.trans fr2 s.le⟩
    | exc x π2 k2' =>
      obtain ⟨d, S2, w2, W2, e2, s2, r2, v2, gd2, fr2⟩ := k2
      exact ⟨d, S2, w2, W2, e2, s.trans s2 fr (fun h => h), r2, v2, gd2, fr.trans fr2 s.le⟩
  | exc x π k =>
    obtain ⟨d, S1, w1, W1, e, s, r, v, gd, fr⟩ := h3
    subst e
    exact ⟨.exc x π k, .bind h1 .ret, d, S1, w1, W1, rfl, s, r, v, gd, fr⟩
theorem RelE.opt {o : Option α} {f : α → PR γ} {m : R δ} (h : ∀ a, o = some a → RelE Rq w S W q σ m (f a)) : RelE Rq w S W q σ m (PR.opt o f) := by
  cases o with
  | none => exact rel_no
  | some a => exact h a rfl
theorem RelE.req {c : Prop} [Decidable c] {m : R δ} {r : PR γ} (h : c → RelE Rq w S W q σ m r) : RelE Rq w S W q σ m (PR.req c r) := by
  unfold PR.req
  split
  · exact h ‹_›
  · exact rel_no
/-- payloads that last -/
def Pay.Mono (q : Bool) (Rp : Pay α β) : Prop := ∀ {w S w' S' a b Wp}, Rp w S a b Wp → Kr w S w' S' → (∀ n, n < S.length → ¬ w.B n → (q = true ∨ n ∈ Wp) → S'[n]? = S[n]?) → (∀ n, n < S.length → w'.B n → w.B n) → (∀ n, n ∈ Wp → n < S.length ∧ ¬ w.B n) → Rp w' S' a b Wp
def PairP (Rp : Pay α β) (Rq : Pay γ δ) : Pay (α × γ) (β × δ) := fun w S x y W => ∃ W1 W2, W = W1 ++ W2 ∧ Rp w S x.1 y.1 W1 ∧ Rq w S x.2 y.2 W2
theorem Good.join {k1 : Nat} (gd : Good w S (Wp ++ W) k) (s : Step w S w1 S1 W q) (g : Good w1 S1 W1 k1) (f : Fresh W S W1) : Good w1 S1 (Wp ++ W1) k1 := by
  refine ⟨List.nodup_append.mpr ⟨(List.nodup_append.mp gd.nd).1, g.nd, fun x hx y hy e => ?_⟩, fun n hn => ?_, g.fz, g.bg⟩
  · subst e
    rcases f x hy with h | h
    · exact (List.nodup_append.mp gd.nd).2.2 x hx x h rfl
    · have := (gd.own x (by simp [hx])).1
      omega
  · rcases List.mem_append.mp hn with hn | hn
    · have o := gd.own n (by simp [hn])
      have hnW : n ∉ W := fun h => (List.nodup_append.mp gd.nd).2.2 n hn n h rfl
      refine ⟨Nat.lt_of_lt_of_le o.1 s.le, fun h => ?_, fun h => ?_⟩
      · rcases s.newF n h with h | h | h
        · exact o.2.1 h
        · exact hnW h
        · omega
      · rcases s.newB n h with h | h
        · exact o.2.2 h
        · omega
    · exact g.own n hn
/-- something is held while another thing is reckoned -/
theorem RelE.frame {a : α} {b : β} {m : R δ} {r : PR γ} (hm : Pay.Mono q Rp) (hp : Rp w S a b Wp) (gd : Good w S (Wp ++ W) k) (h : RelE Rq w S W q σ m r) {ε ζ : Type} {Rz : Pay ε ζ} {f : δ → Sto → R ζ} {g : γ → Env → Nat → PR ε}
    (h2 : ∀ c d w1 S1 Wq W1 π1 k1, Step w S w1 S1 W q → Rp w1 S1 a b Wp → Rq w1 S1 c d Wq → Ews w1 S1 π1 σ W1 → Good w1 S1 (Wp ++ (Wq ++ W1)) k1 → Fresh (Wp ++ W) S (Wp ++ (Wq ++ W1)) → RelE Rz w1 S1 (Wp ++ (Wq ++ W1)) q σ (f d S1) (g c π1 k1)) :
    RelE Rz w S (Wp ++ W) q σ (m.bind f) (PR.bind r g) := by
  have frk : ∀ {S1 : Sto} {W1 : List Nat}, Fresh W S W1 → Fresh (Wp ++ W) S (Wp ++ W1) := by
    intro S1 W1 f n hn
    rcases List.mem_append.mp hn with hn | hn
    · exact .inl (by simp [hn])
    · exact (f n hn).elim (fun z => .inl (by simp [z])) .inr
  obtain ⟨o, h1, h3⟩ := h
  cases o with
  | no => exact ⟨_, .bind h1 .ret, trivial⟩
  | exc x π k =>
    obtain ⟨d, S1, w1, W1, e, s, r, v, gd1, fr⟩ := h3
    subst e
    refine ⟨.exc x π k, .bind h1 .ret, d, S1, w1, W1, rfl, s.weaken (fun n hn => by simp [hn]) (fun h => h), r, v, gd1, fun n hn => ?_⟩
    exact (fr n hn).elim (fun z => .inl (by simp [z])) .inr
  | ok c π1 k1 =>
    obtain ⟨d, S1, w1, Wq, W1, e, s, r, v, gd1, fr⟩ := h3
    subst e
    have kr := s.kr2 gd
    have hp1 : Rp w1 S1 a b Wp := hm hp kr (fun n hn hb hh => by
      rcases hh with hh | hh
      · exact s.keep n hn (.inl hh) hb
      · exact s.other gd n hh) (fun n hn hb => by
      rcases s.newB n hb with h | h
      · exact h
      · omega) fun n hn => ⟨(gd.own n (by simp [hn])).1, (gd.own n (by simp [hn])).2.2⟩
    have g2 := gd.join s gd1 fr
    have f2 := frk (S1 := S1) fr
    obtain ⟨o2, k1', k2⟩ := h2 c d w1 S1 Wq W1 π1 k1 s hp1 r v g2 f2
    refine ⟨o2, .bind h1 k1', ?_⟩
    rw [R.bind_ok]
    have s' : Step w S w1 S1 (Wp ++ W) q := s.weaken (fun n hn => by simp [hn]) (fun h => h)
    cases o2 with
    | no => trivial
    | ok c2 π2 k2' =>
      obtain ⟨b2, S2, w2, Wp2, W2, e2, s2, r2, v2, gd2, fr2⟩ := k2
      exact ⟨b2, S2, w2, Wp2, W2, e2, s'.trans s2 f2 (fun h => h), r2, v2, gd2, f2.trans fr2 s.le⟩
    | exc x π2 k2' =>
      obtain ⟨d, S2, w2, W2, e2, s2, r2, v2, gd2, fr2⟩ := k2
      exact ⟨d, S2, w2, W2, e2, s'.trans s2 f2 (fun h => h), r2, v2, gd2, f2.trans fr2 s.le⟩

/-! ### payloads -/
def OwP : Pay O D := fun w S p d Wp => Ow w S p d Wp
def VwP : Pay U D := fun w S u d Wp => Wp = [] ∧ Vw w S u d
def VwsP : Pay (List U) (List D) := fun w S u d Wp => Wp = [] ∧ Vws w S u d
def OwsP : Pay (List O) (List D) := fun w S u d Wp => Ows w S u d Wp
def EqP {α : Type} : Pay α α := fun _ _ a b Wp => Wp = [] ∧ a = b
/-- seen from above: an own list's items are shared -/
def Tv (w : Wd) (S : Sto) (u : U) (d : D) : Prop := ∃ n xs ds, u = .lst xs ∧ d = .ref n ∧ S[n]? = some (.lst ds) ∧ Vws w S xs ds ∧ ¬ w.B n
def Lv (w : Wd) (S : Sto) (u : U) (d : D) : Prop := Vw w S u d ∨ Tv w S u d
def ObP (q fl : Bool) : Pay U D := fun w S u d Wp => Wp = [] ∧ (Vw w S u d ∨ (q = true ∧ fl = false ∧ Tv w S u d))
theorem OwP.mono : Pay.Mono q OwP := fun h kr k _ b => Ow.mono kr (fun n hn => k n (b n hn).1 (b n hn).2 (.inr hn)) h
theorem OwsP.mono : Pay.Mono q OwsP := fun h kr k _ b => Ows.mono kr (fun n hn => k n (b n hn).1 (b n hn).2 (.inr hn)) h
theorem VwP.mono : Pay.Mono q VwP := fun h kr _ _ _ => ⟨h.1, Vw.mono kr h.2⟩
theorem VwsP.mono : Pay.Mono q VwsP := fun h kr _ _ _ => ⟨h.1, Vws.mono kr h.2⟩
theorem EqP.mono : Pay.Mono q (EqP (α := α)) := fun h _ _ _ _ => h
theorem Tv.mono {u : U} {d : D} (h : Tv w S u d) (kr : Kr w S w' S') (k : ∀ n, n < S.length → ¬ w.B n → S'[n]? = S[n]?) (b : ∀ n, n < S.length → w'.B n → w.B n) : Tv w' S' u d := by
  obtain ⟨n, xs, ds, h1, h2, h3, h4, h5⟩ := h
  have hl : n < S.length := (List.getElem?_eq_some_iff.mp h3).1
  exact ⟨n, xs, ds, h1, h2, (k n hl h5).trans h3, Vws.mono kr h4, fun h => h5 (b n hl h)⟩
theorem ObP.mono {fl : Bool} : Pay.Mono q (ObP q fl) := fun h kr k b _ => ⟨h.1, h.2.elim (fun z => .inl (Vw.mono kr z)) fun z => .inr ⟨z.1, z.2.1, z.2.2.mono kr (fun n hn hb => k n hn hb (.inl z.1)) b⟩⟩
end Cl

/-! part U5 -/
/-! Cl: the second evaluator follows the first: places. -/
namespace Cl
open PySem (PyData)
variable {w w' w1 w2 : Wd} {S S' S1 S2 : Sto} {W W' W1 W2 Wp : List Nat} {k k' : Nat} {q q' qr : Bool} {σ : Sg} {π : Env}
variable {α β γ δ : Type} {Rp : Pay α β} {Rq : Pay γ δ} {m : R β} {t : PR α}
theorem bind_eta (m : R β) : (m.bind fun b S => .ok b S) = m := by cases m <;> rfl
theorem RelE.post {g : α → Env → Nat → PR γ} {Rq : Pay γ β} (h : RelE Rp w S W q σ m t)
    (h2 : ∀ a b w1 S1 Wp W1 π1 k1, Step w S w1 S1 W q → Fresh W S (Wp ++ W1) → Rp w1 S1 a b Wp → Ews w1 S1 π1 σ W1 → Good w1 S1 (Wp ++ W1) k1 → RelE Rq w1 S1 (Wp ++ W1) q σ (.ok b S1) (g a π1 k1)) :
    RelE Rq w S W q σ m (PR.bind t g) := by
  have := RelE.bind (f := fun b S => .ok b S) h h2
  rwa [bind_eta] at this
theorem rel_freeze {p : O} {d : D} (c : Ow w S p d Wp) (e : Ews w S π σ W) (g : Good w S (Wp ++ W) k) : RelE VwP w S (Wp ++ W) q σ (.ok d S) (PR.ok p.toU π k) := by
  refine ⟨_, .ret, d, S, w.add Wp, [], W, rfl, .freeze (fun n hn => by simp [hn]), ⟨rfl, c.freeze⟩, Ews.mono (add_kr Wp) (fun _ _ => rfl) e, g.freeze, fun n hn => .inl (by simpa using .inr hn)⟩
theorem RelE.freeze {m : R D} {t : PR O} (h : RelE OwP w S W q σ m t) : RelE VwP w S W q σ m (t.bind fun p π k => .ok p.toU π k) := h.post fun a b w1 S1 Wp W1 π1 k1 _ _ c e g => rel_freeze c e g
/-! ### fields -/
theorem fl_get {f : String} {p : O} : ∀ {ns : List String} {ps : List O} {gs : List (String × D)} {W : List Nat}, olook f ns ps = some p → gs.map (·.1) = ns → Ows w S ps (gs.map (·.2)) W →
    ∃ d Wq R, gs.lookup f = some d ∧ W.Perm (Wq ++ R) ∧ Ow w S p d Wq ∧ (∀ p', (oput f p' ns ps).1 = ns) ∧ ∀ w' S' p' W', Kr w S w' S' → (∀ n, n ∈ R → S'[n]? = S[n]?) → Ow w' S' p' d W' → ∃ W3, W3.Perm (W' ++ R) ∧ Ows w' S' (oput f p' ns ps).2 (gs.map (·.2)) W3
  | [], _, _, _, h, _, _ => by unfold olook at h; cases h
  | _ :: _, [], _, _, h, _, _ => by unfold olook at h; cases h
  | n :: ns, v :: vs, [], _, h, e, _ => by cases e
  | n :: ns, v :: vs, (g, d0) :: gs, W, h, e, o => by
    obtain ⟨d, es, W1, W2, a, b, c, r⟩ := o
    have e1 : g = n := by simpa using (List.cons.inj e).1
    have e2 : gs.map (·.1) = ns := (List.cons.inj e).2
    have a1 : d0 = d := by simpa using (List.cons.inj a).1
    have a2 : gs.map (·.2) = es := (List.cons.inj a).2
    subst e1 a1
    unfold olook at h
    by_cases hf : g = f
    · rw [if_pos hf] at h
      cases h
      subst hf
      refine ⟨d0, W1, W2, by simp [List.lookup], by rw [b], c, fun p' => by simp [oput], fun w' S' p' W' kr kp c' => ⟨W' ++ W2, .refl _, ?_⟩⟩
      simp only [oput, if_true, List.map_cons]
      rw [a2]
      exact ⟨d0, es, W', W2, rfl, rfl, c', Ows.mono kr kp r⟩
    · rw [if_neg hf] at h
      rw [← a2] at r
      obtain ⟨d', Wq, R, h1, h2, h3, h4, h5⟩ := fl_get h e2 r
      refine ⟨d', Wq, W1 ++ R, ?_, ?_, h3, fun p' => by simp [oput, hf, h4 p'], fun w' S' p' W' kr kp c' => ?_⟩
      · have : (f == g) = false := by simp; exact fun h => hf h.symm
        simp [List.lookup, this, h1]
      · rw [b]
        exact (List.Perm.append_left W1 h2).trans (by rw [← List.append_assoc, ← List.append_assoc]; exact List.Perm.append_right R List.perm_append_comm)
      · obtain ⟨W3, p3, o3⟩ := h5 w' S' p' W' kr (fun n hn => kp n (by simp [hn])) c'
        refine ⟨W1 ++ W3, ?_, ?_⟩
        · refine (List.Perm.append_left W1 p3).trans ?_
          rw [← List.append_assoc, ← List.append_assoc]
          exact List.Perm.append_right R List.perm_append_comm
        · simp only [oput, hf, if_false, List.map_cons]
          exact ⟨d0, _, W1, W3, rfl, rfl, Ow.mono kr (fun n hn => kp n (by simp [hn])) c, o3⟩
theorem fl_put {f : String} {p : O} {d : D} : ∀ {ns : List String} {ps : List O} {gs : List (String × D)} {W Wp : List Nat}, gs.map (·.1) = ns → Ows w S ps (gs.map (·.2)) W → Ow w S p d Wp →
    (putF f d gs).map (·.1) = (oput f p ns ps).1 ∧ ∃ W3 R, Ows w S (oput f p ns ps).2 ((putF f d gs).map (·.2)) W3 ∧ R.Sublist (Wp ++ W) ∧ W3.Perm R
  | ns, ps, [], W, Wp, e, o, c => by
    have e' : ns = [] := by simpa using e.symm
    subst e'
    refine ⟨by simp [putF, oput], Wp, Wp, ?_, List.sublist_append_left _ _, .refl _⟩
    simp only [putF, oput, List.map_cons, List.map_nil]
    exact ⟨d, [], Wp, [], rfl, by simp, c, rfl, rfl⟩
  | [], _, (g, d0) :: gs, W, Wp, e, o, c => by cases e
  | n :: ns, [], (g, d0) :: gs, W, Wp, e, o, c => by
    have := o.1
    cases this
  | n :: ns, v :: vs, (g, d0) :: gs, W, Wp, e, o, c => by
    obtain ⟨d', es, W1, W2, a, b, c0, r⟩ := o
    have e1 : g = n := by simpa using (List.cons.inj e).1
    have e2 : gs.map (·.1) = ns := (List.cons.inj e).2
    have a1 : d0 = d' := by simpa using (List.cons.inj a).1
    have a2 : gs.map (·.2) = es := (List.cons.inj a).2
    subst e1 a1
    by_cases hf : g = f
    · subst hf
      refine ⟨by simp [putF, oput, e2], Wp ++ W2, Wp ++ W2, ?_, ?_, .refl _⟩
      · simp only [putF, oput, if_true, List.map_cons]
        rw [a2]
        exact ⟨d, es, Wp, W2, rfl, rfl, c, r⟩
      · rw [b]
        exact List.Sublist.append (.refl _) (List.sublist_append_right _ _)
    · rw [← a2] at r
      obtain ⟨h1, W3, R, h2, h3, h4⟩ := fl_put (f := f) e2 r c
      have hm : (putF f d ((g, d0) :: gs)) = (g, d0) :: putF f d gs := by simp [putF, hf]
      have ho : oput f p (g :: ns) (v :: vs) = (g :: (oput f p ns vs).1, v :: (oput f p ns vs).2) := by simp [oput, hf]
      rw [hm, ho]
      obtain ⟨A, B, rfl, hA, hB⟩ := List.sublist_append_iff.mp h3
      refine ⟨by simp [h1], W1 ++ W3, A ++ (W1 ++ B), ⟨d0, _, W1, W3, rfl, rfl, c0, h2⟩, ?_, (List.Perm.append_left W1 h4).trans ?_⟩
      · rw [b]
        exact List.Sublist.append hA (List.Sublist.append (.refl _) hB)
      · rw [← List.append_assoc, ← List.append_assoc]
        exact List.Perm.append_right B List.perm_append_comm
/-! ### places -/
theorem pl_get {Cs : Cfg} {C : PCfg} {e : E} {pl : Pl} {p : O} (hg : Cs.g = C.g) (hv : Ews w S π σ W) (he : plc e = some pl) (hk : plOk C π pl = true) (hp : getP π pl = some p) :
    ∃ d Wp R, evE Cs e σ S = .ok d S ∧ W.Perm (Wp ++ R) ∧ Ow w S p d Wp ∧ (∀ S', (∀ n, n ∈ W → S'[n]? = S[n]?) → evE Cs e σ S' = .ok d S') ∧ ∀ w' S' p' W', Kr w S w' S' → (∀ n, n ∈ R → S'[n]? = S[n]?) → Ow w' S' p' d W' → ∃ W2, W2.Perm (W' ++ R) ∧ Ews w' S' (setP π pl p') σ W2 := by
  cases pl with
  | v i =>
    have ee : e = .var i := by
      unfold plc at he
      split at he
      · cases he; rfl
      · cases he
      · cases he
    subst ee
    obtain ⟨d, Wp, R, h1, h2, h3, h4⟩ := hv.slot hp
    refine ⟨d, Wp, R, ?_, h2, h3, fun S' _ => ?_, fun w' S' p' W' kr kp c => ?_⟩
    · unfold evE
      rw [h1]
    · unfold evE
      rw [h1]
    · obtain ⟨W3, a, b⟩ := Ews.back (Ews.mono kr kp h4) h1 (getO_lt hp) c
      exact ⟨W3, a, b⟩
  | f i f =>
    have ee : e = .fld (.var i) f := by
      unfold plc at he
      split at he
      · cases he
      · cases he; rfl
      · cases he
    subst ee
    unfold getP at hp
    unfold plOk at hk
    dsimp only at hp hk
    cases ho : getO π i with
    | none => rw [ho] at hp; cases hp
    | some o =>
      rw [ho] at hp hk
      cases o with
      | sh _ => cases hp
      | ol _ => cases hp
      | oo c ns ps =>
        dsimp only at hp hk
        obtain ⟨d0, Wo, R0, h1, h2, h3, h4⟩ := hv.slot ho
        obtain ⟨n, gs, W', a, b, e1, e2, e3⟩ := h3
        subst a b
        obtain ⟨d, Wq, R, g1, g2, g3, g4, g5⟩ := fl_get hp e2 e3
        have ev : ∀ S', S'[n]? = S[n]? → evE Cs (.fld (.var i) f) σ S' = .ok d S' := by
          intro S' hS
          have hn : C.g.prop c f = none := by simpa using hk
          unfold evE
          unfold evE
          rw [h1]
          simp only [Cl.R.bind_ok]
          unfold fldGet
          simp only [hS, e1, hg, hn, g1, Cl.R.opt_some]
        refine ⟨d, Wq, n :: R ++ R0, ev S rfl, ?_, g3, fun S' hS => ev S' (hS n (by simp [h2.mem_iff])), fun w' S' p' W2 kr kp c' => ?_⟩
        · refine h2.trans ?_
          rw [List.cons_append, List.cons_append]
          refine (List.Perm.cons n ((List.Perm.append_right R0 g2).trans (by rw [List.append_assoc]))).trans ?_
          exact List.perm_middle.symm
        · obtain ⟨W3, p3, o3⟩ := g5 w' S' p' W2 kr (fun m hm => kp m (by simp [hm])) c'
          have hn : S'[n]? = S[n]? := kp n (by simp)
          obtain ⟨W4, p4, o4⟩ := Ews.back (p := .oo c (oput f p' ns ps).1 (oput f p' ns ps).2) (Wp := n :: W3) (Ews.mono kr (fun m hm => kp m (by simp [hm])) h4) h1 (getO_lt ho) ⟨n, gs, W3, rfl, rfl, hn.trans e1, by rw [e2, g4], o3⟩
          refine ⟨W4, p4.trans ?_, ?_⟩
          · rw [List.cons_append, List.cons_append]
            refine (List.Perm.cons n ((List.Perm.append_right R0 p3).trans (by rw [List.append_assoc]))).trans ?_
            exact List.perm_middle.symm
          · unfold setP
            dsimp only
            rw [ho]
            exact o4
theorem ownL_some {C : PCfg} {e : E} {pl : Pl} {xs : List U} (h : ownL C π e = some (pl, xs)) : plc e = some pl ∧ plOk C π pl = true ∧ getP π pl = some (.ol xs) := by
  unfold ownL at h
  cases hp : plc e with
  | none => rw [hp] at h; cases h
  | some pl' =>
    rw [hp] at h
    dsimp only at h
    cases hk : plOk C π pl' with
    | false => rw [hk] at h; cases h
    | true =>
      rw [hk, if_pos rfl] at h
      split at h
      · rename_i ys hg
        cases h
        exact ⟨rfl, hk, hg⟩
      · cases h
/-- what is only looked at -/
theorem rel_obs {Cs : Cfg} {C : PCfg} {e : E} {t : PR O} (hg : Cs.g = C.g) (hv : Ews w S π σ W) (gd : Good w S W k) (h : RelE OwP w S W q σ (evE Cs e σ S) t) : RelE (ObP qr (obF C qr e π)) w S W q σ (evE Cs e σ S) (obs C qr e t π k) := by
  unfold obs obF
  cases ho : (if qr = true then ownL C π e else none) with
  | none =>
    refine h.post fun a b w1 S1 Wp W1 π1 k1 _ _ c e g => ?_
    obtain ⟨o, h1, h2⟩ := rel_freeze (q := q) c e g
    refine ⟨o, h1, ?_⟩
    cases o with
    | no => trivial
    | ok a' π' k' =>
      obtain ⟨b, S', w', Wp, W', e, s, r, v⟩ := h2
      exact ⟨b, S', w', Wp, W', e, s, ⟨r.1, .inl r.2⟩, v⟩
    | exc x π' k' => exact h2
  | some r =>
    cases qr with
    | false => cases ho
    | true =>
      obtain ⟨pl, xs⟩ := r
      obtain ⟨a, b, c⟩ := ownL_some (show ownL C π e = some (pl, xs) from ho)
      obtain ⟨d, Wp, R, h1, h2, h3, _, _⟩ := pl_get hg hv a b c
      rw [h1]
      refine rel_ok (Wp := []) ⟨rfl, .inr ⟨rfl, rfl, ?_⟩⟩ hv gd .refl
      obtain ⟨n, ds, e1, e2, e3, e4⟩ := h3
      exact ⟨n, xs, ds, rfl, e1, e3, e4, (gd.own n (h2.mem_iff.mpr (by rw [e2]; simp))).2.2⟩
end Cl

/-! part U6 -/
/-! Cl: the second evaluator follows the first: operations. -/
namespace Cl
open PySem (PyData)
variable {w w' w1 w2 : Wd} {S S' S1 S2 : Sto} {W W' W1 W2 Wp : List Nat} {k k' : Nat} {q q' qr : Bool} {σ : Sg} {π : Env}
theorem qL {n : Nat} {ds : List D} (h : S[n]? = some (.lst ds)) : getQ S n = some ds := by unfold getQ; rw [h]
theorem lL {n : Nat} {ds : List D} (h : S[n]? = some (.lst ds)) : getL S n = some ds := by unfold getL; rw [h]
theorem Vw.lv {u : U} {d : D} (h : Vw w S u d) : Lv w S u d := .inl h
/-- a list, seen from above -/
theorem lv_lst {xs : List U} {d : D} (h : Lv w S (.lst xs) d) : ∃ n ds, d = .ref n ∧ S[n]? = some (.lst ds) ∧ Vws w S xs ds := by
  rcases h with h | h
  · obtain ⟨n, ds, a, _, b, c⟩ := h
    exact ⟨n, ds, a, b, c⟩
  · obtain ⟨n, xs', ds, e, a, b, c, _⟩ := h
    cases e
    exact ⟨n, ds, a, b, c⟩
theorem lv_vw {u : U} {d : D} (h : Lv w S u d) (hu : ∀ xs, u ≠ .lst xs) : Vw w S u d := by
  rcases h with h | h
  · exact h
  · obtain ⟨n, xs', ds, e, _⟩ := h
    exact absurd e (hu _)
theorem Vws.len : ∀ {us : List U} {ds : List D}, Vws w S us ds → ds.length = us.length
  | [], _, h => by rw [show _ = [] from h]; rfl
  | u :: us, _, ⟨e, es, a, b, c⟩ => by rw [a, List.length_cons, List.length_cons, Vws.len c]
theorem Vws.get : ∀ {us : List U} {ds : List D}, Vws w S us ds → ∀ {i : Nat} {u : U}, us[i]? = some u → ∃ d, ds[i]? = some d ∧ Vw w S u d
  | [], _, _, i, u, h => by simp at h
  | x :: us, _, ⟨e, es, a, b, c⟩, 0, u, h => by
    have : x = u := by simpa using h
    subst this
    exact ⟨e, by rw [a]; rfl, b⟩
  | x :: us, _, ⟨e, es, a, b, c⟩, i + 1, u, h => by
    obtain ⟨d, h1, h2⟩ := Vws.get c (i := i) (by simpa using h)
    exact ⟨d, by rw [a]; simpa using h1, h2⟩
theorem Vws.app : ∀ {us : List U} {ds : List D} {us2 : List U} {ds2 : List D}, Vws w S us ds → Vws w S us2 ds2 → Vws w S (us ++ us2) (ds ++ ds2)
  | [], _, us2, ds2, h, h2 => by rw [show _ = [] from h]; exact h2
  | x :: us, _, us2, ds2, ⟨e, es, a, b, c⟩, h2 => ⟨e, es ++ ds2, by rw [a]; rfl, b, Vws.app c h2⟩
theorem Vws.drop : ∀ (n : Nat) {us : List U} {ds : List D}, Vws w S us ds → Vws w S (us.drop n) (ds.drop n)
  | 0, us, ds, h => by simpa using h
  | n + 1, [], _, h => by rw [show _ = [] from h]; simp; exact (rfl : ([] : List D) = [])
  | n + 1, x :: us, _, ⟨e, es, a, b, c⟩ => by rw [a]; simpa using Vws.drop n c
theorem Vws.take : ∀ (n : Nat) {us : List U} {ds : List D}, Vws w S us ds → Vws w S (us.take n) (ds.take n)
  | 0, us, ds, h => by simp; exact (rfl : ([] : List D) = [])
  | n + 1, [], _, h => by rw [show _ = [] from h]; simp; exact (rfl : ([] : List D) = [])
  | n + 1, x :: us, _, ⟨e, es, a, b, c⟩ => by rw [a]; exact ⟨e, _, by simp, b, Vws.take n c⟩
theorem Vws.cut {us : List U} {ds : List D} (h : Vws w S us ds) (lo hi : Option Int) : Vws w S (Cl.cut us lo hi) (Cl.cut ds lo hi) := by
  unfold Cl.cut
  rw [h.len]
  exact Vws.take _ (Vws.drop _ h)
theorem Vws.rep {us : List U} {ds : List D} (h : Vws w S us ds) : ∀ n : Nat, Vws w S (List.replicate n us).flatten (List.replicate n ds).flatten
  | 0 => by simp; exact (rfl : ([] : List D) = [])
  | n + 1 => by simpa [List.replicate_succ] using Vws.app h (Vws.rep h n)
theorem Vws.strs : ∀ ts : List Tx, Vws w S (ts.map .str) (ts.map .str)
  | [] => rfl
  | t :: ts => ⟨.str t, _, rfl, rfl, Vws.strs ts⟩
theorem Vws.dropLast {us : List U} {ds : List D} (h : Vws w S us ds) : Vws w S us.dropLast ds.dropLast := by
  rw [List.dropLast_eq_take, List.dropLast_eq_take, h.len]
  exact Vws.take _ h
theorem Vws.set : ∀ {us : List U} {ds : List D} {n : Nat} {u : U} {d : D}, Vws w S us ds → Vw w S u d → Vws w S (us.set n u) (ds.set n d)
  | [], _, n, u, d, h, _ => by rw [show _ = [] from h]; exact (rfl : ([] : List D) = [])
  | x :: us, _, 0, u, d, ⟨e, es, a, b, c⟩, h2 => by rw [a]; exact ⟨d, es, rfl, h2, c⟩
  | x :: us, _, n + 1, u, d, ⟨e, es, a, b, c⟩, h2 => by rw [a]; exact ⟨e, _, rfl, b, Vws.set c h2⟩
/-! ### reading -/
theorem mapO_rd {n : Nat} (ih : ∀ {u : U} {d : D} {x : PyData}, Vw w S u d → toPy n u = some x → rd S n d = some x) : ∀ {us : List U} {ds : List D} {xs : List PyData}, Vws w S us ds → mapO (toPy n) us = some xs → rdL (rd S n) ds = some xs
  | [], _, _, h, e => by rw [show _ = [] from h]; exact e
  | u :: us, _, xs, ⟨d, es, a, b, c⟩, e => by
    unfold mapO at e
    cases h1 : toPy n u with
    | none => rw [h1] at e; cases e
    | some x =>
      cases h2 : mapO (toPy n) us with
      | none => rw [h1, h2] at e; cases e
      | some ys =>
        rw [h1, h2] at e
        cases e
        rw [a]
        unfold rdL
        rw [ih b h1, mapO_rd ih c h2]
theorem toPy_rd : ∀ {n : Nat} {u : U} {d : D} {x : PyData}, Vw w S u d → toPy n u = some x → rd S n d = some x
  | n, .non, _, _, h, e => by rw [show _ = D.non from h]; cases n <;> exact e
  | n, .bl b, _, _, h, e => by rw [show _ = D.bl b from h]; cases n <;> exact e
  | n, .int i, _, _, h, e => by rw [show _ = D.int i from h]; cases n <;> exact e
  | n, .str s, _, _, h, e => by rw [show _ = D.str s from h]; cases n <;> exact e
  | n + 1, .tup xs, _, _, ⟨ds, a, b⟩, e => by
    rw [a]
    obtain ⟨ys, h1, h2⟩ := Option.map_eq_some_iff.mp (show (mapO (toPy n) xs).map PyData.tuple = _ from e)
    show (rdL (rd S n) ds).map PyData.tuple = _
    rw [mapO_rd toPy_rd b h1, ← h2]
    rfl
  | n + 1, .lst xs, _, _, ⟨m, ds, a, _, c, b⟩, e => by
    rw [a]
    obtain ⟨ys, h1, h2⟩ := Option.map_eq_some_iff.mp (show (mapO (toPy n) xs).map PyData.list = _ from e)
    show (match getQ S m with
      | some xs => (rdL (rd S n) xs).map PyData.list
      | none => none) = _
    rw [qL c]
    dsimp only
    rw [mapO_rd toPy_rd b h1, ← h2]
    rfl
  | 0, .tup _, _, _, _, e => by cases e
  | 0, .lst _, _, _, _, e => by cases e
  | 0, .ob _ _ _, _, _, _, e => by cases e
  | 0, .exn _ _, _, _, _, e => by cases e
  | 0, .bag, _, _, _, e => by cases e
  | 0, .scr _, _, _, _, e => by cases e
  | n + 1, .ob _ _ _, _, _, _, e => by cases e
  | n + 1, .exn _ _, _, _, _, e => by cases e
  | n + 1, .bag, _, _, _, e => by cases e
  | n + 1, .scr _, _, _, _, e => by cases e
theorem lv_rd {n : Nat} {u : U} {d : D} {x : PyData} (h : Lv w S u d) (e : toPy n u = some x) : rd S n d = some x := by
  cases u with
  | lst xs =>
    obtain ⟨m, ds, a, b, c⟩ := lv_lst h
    cases n with
    | zero => cases e
    | succ n =>
      rw [a]
      obtain ⟨ys, h1, h2⟩ := Option.map_eq_some_iff.mp (show (mapO (toPy n) xs).map PyData.list = _ from e)
      show (match getQ S m with
        | some xs => (rdL (rd S n) xs).map PyData.list
        | none => none) = _
      rw [qL b]
      dsimp only
      rw [mapO_rd toPy_rd c h1, ← h2]
      rfl
  | _ => exact toPy_rd (lv_vw h (by intro xs; simp)) e
theorem veq_ok {a b : U} {da db : D} {t : Bool} (ha : Lv w S a da) (hb : Lv w S b db) (e : veq a b = some t) : eqD S da db = some t := by
  unfold veq at e
  cases h1 : toPy DEEP a with
  | none => rw [h1] at e; cases e
  | some x =>
    cases h2 : toPy DEEP b with
    | none => rw [h1, h2] at e; cases e
    | some y =>
      rw [h1, h2] at e
      unfold eqD
      rw [lv_rd ha h1, lv_rd hb h2]
      exact e
theorem vif_some {α : Type} {c : Prop} [Decidable c] {a b : α} (h : vif c a = some b) : c ∧ a = b := by
  unfold vif at h
  split at h
  · exact ⟨‹_›, by simpa using h⟩
  · cases h
theorem isEmpty_eq {us : List U} {ds : List D} (h : Vws w S us ds) : ds.isEmpty = us.isEmpty := by
  have := h.len
  cases us <;> cases ds <;> simp_all
theorem vtruth_ok {u : U} {d : D} {t : Bool} (h : Lv w S u d) (e : vtruth u = some t) : truth S d = some t := by
  cases u with
  | lst xs =>
    obtain ⟨n, ds, a, b, c⟩ := lv_lst h
    rw [a]
    show (getQ S n).map (fun xs => !xs.isEmpty) = _
    rw [qL b, Option.map_some, isEmpty_eq c]
    exact e
  | non => rw [show d = .non from lv_vw h (by intro xs; simp)]; exact e
  | bl b => rw [show d = .bl b from lv_vw h (by intro xs; simp)]; exact e
  | int b => rw [show d = .int b from lv_vw h (by intro xs; simp)]; exact e
  | str b => rw [show d = .str b from lv_vw h (by intro xs; simp)]; exact e
  | tup xs =>
    obtain ⟨ds, a, c⟩ := lv_vw h (by intro xs; simp)
    rw [a]
    show some (!ds.isEmpty) = _
    rw [isEmpty_eq c]
    exact e
  | _ => cases e
/-! ### new values -/
/-- an operation that changes nothing: a value without an owner, or a new list -/
def NewR (w : Wd) (S : Sto) (m : R D) (p : O) : Prop := (∃ u d, p = .sh u ∧ m = .ok d S ∧ Vw w S u d) ∨ ∃ xs ds, p = .ol xs ∧ m = ins1 S (.lst ds) ∧ Vws w S xs ds
theorem new_kr (o : List Ob) (g : ∀ n, w.F n → n < S.length) : Kr w S w (S ++ o) := ⟨fun _ h => h, fun _ h => h, fun n h => List.getElem?_append_left (g n h)⟩
theorem rel_new_list {xs : List U} {ds : List D} (c : Vws w S xs ds) (hv : Ews w S π σ W) (gd : Good w S (W2 ++ W) k) : RelE OwP w S (W2 ++ W) q σ (ins1 S (.lst ds)) (PR.ok (.ol xs) π k) := by
  have kr : Kr w S w (S ++ [.lst ds]) := new_kr _ fun n h => (gd.fz n h).1
  refine ⟨_, .ret, .ref S.length, S ++ [.lst ds], w, [S.length], W, rfl, ⟨by simp, fun n hn _ _ => List.getElem?_append_left hn, fun _ h => h, fun _ h => h, fun _ h => .inl h, fun _ h => .inl h⟩, ⟨S.length, ds, rfl, rfl, by simp, Vws.mono kr c⟩, Ews.mono kr (fun n hn => List.getElem?_append_left (gd.own n (by simp [hn])).1) hv, ?_, fun n hn => ?_⟩
  · have g2 := gd.right
    refine ⟨List.nodup_cons.mpr ⟨fun h => ?_, g2.nd⟩, fun n hn => ?_, fun n h => ⟨?_, (gd.fz n h).2⟩, fun n h => ?_⟩
    · have := (g2.own _ h).1
      omega
    · rcases List.mem_cons.mp hn with h | h
      · subst h
        refine ⟨by simp, fun h => ?_, fun h => ?_⟩
        · have := (gd.fz _ h).1
          omega
        · obtain ⟨_, _, _, e, _⟩ := gd.bg _ h
          have := (List.getElem?_eq_some_iff.mp e).1
          omega
      · have o := g2.own n h
        exact ⟨by simp; omega, o.2⟩
    · have := (gd.fz n h).1
      simp
      omega
    · obtain ⟨d, s, c, e, r⟩ := gd.bg n h
      exact ⟨d, s, c, by rw [List.getElem?_append_left (List.getElem?_eq_some_iff.mp e).1]; exact e, r⟩
  · rcases List.mem_cons.mp hn with h | h
    · exact .inr (by omega)
    · exact .inl (List.mem_append.mpr (.inr h))
theorem NewR.rel {m : R D} {p : O} (h : NewR w S m p) (hv : Ews w S π σ W) (gd : Good w S (W2 ++ W) k) : RelE OwP w S (W2 ++ W) q σ m (PR.ok p π k) := by
  rcases h with ⟨u, d, a, b, c⟩ | ⟨xs, ds, a, b, c⟩
  · subst a b
    exact rel_ok (Wp := []) ⟨rfl, c⟩ hv gd.right (fun n hn => .inl (by simp at hn; simp [hn]))
  · subst a b
    exact rel_new_list c hv gd
theorem NewR.sh {m : R D} {u : U} {d : D} (h : m = .ok d S) (c : Vw w S u d) : NewR w S m (.sh u) := .inl ⟨u, d, rfl, h, c⟩
theorem NewR.ol {m : R D} {xs : List U} {ds : List D} (h : m = ins1 S (.lst ds)) (c : Vws w S xs ds) : NewR w S m (.ol xs) := .inr ⟨xs, ds, rfl, h, c⟩
theorem lv_int {i : Int} {d : D} (h : Lv w S (.int i) d) : d = .int i := lv_vw h (by intro xs; simp)
theorem lv_str {i : Tx} {d : D} (h : Lv w S (.str i) d) : d = .str i := lv_vw h (by intro xs; simp)
theorem lv_bl {i : Bool} {d : D} (h : Lv w S (.bl i) d) : d = .bl i := lv_vw h (by intro xs; simp)
theorem lv_non {d : D} (h : Lv w S .non d) : d = .non := lv_vw h (by intro xs; simp)
theorem lv_tup {xs : List U} {d : D} (h : Lv w S (.tup xs) d) : ∃ ds, d = .tup ds ∧ Vws w S xs ds := lv_vw h (by intro xs; simp)
theorem lv_scr {ns : List Int} {d : D} (h : Lv w S (.scr ns) d) : ∃ n, d = .ref n ∧ S[n]? = some (.scr ns) := by
  obtain ⟨n, a, _, b⟩ := lv_vw h (by intro xs; simp)
  exact ⟨n, a, b⟩
theorem ne_nil_of {us : List U} {ds : List D} (h : Vws w S us ds) (e : us ≠ []) : ds ≠ [] := by
  intro z
  subst z
  have := h.len
  cases us with
  | nil => exact e rfl
  | cons _ _ => cases this
theorem vbin_ok {o : Op} {a b : U} {da db : D} {p : O} (ha : Lv w S a da) (hb : Lv w S b db) (e : vbin o a b = some p) : NewR w S (binop o da db S) p := by
  unfold vbin at e
  split at e
  · cases e; rw [lv_int ha, lv_int hb]; exact .sh rfl rfl
  · obtain ⟨c, rfl⟩ := vif_some e; rw [lv_str ha, lv_str hb]; exact .sh (R.req_of c _) rfl
  · obtain ⟨c, rfl⟩ := vif_some e
    obtain ⟨ds, rfl, v⟩ := lv_tup ha
    obtain ⟨ds2, rfl, v2⟩ := lv_tup hb
    exact .sh (R.req_of (by rw [v.len, v2.len]; exact c) _) ⟨_, rfl, v.app v2⟩
  · obtain ⟨c, rfl⟩ := vif_some e
    obtain ⟨n, ds, rfl, a1, v⟩ := lv_lst ha
    obtain ⟨n2, ds2, rfl, a2, v2⟩ := lv_lst hb
    refine .ol ?_ (v.app v2)
    show R.opt (getL S n) _ = _
    rw [lL a1, R.opt_some, lL a2, R.opt_some, R.req_of (by rw [v.len, v2.len]; exact c)]
  · cases e; rw [lv_int ha, lv_int hb]; exact .sh rfl rfl
  · obtain ⟨c, rfl⟩ := vif_some e; rw [lv_int ha, lv_int hb]; exact .sh (R.req_of c _) rfl
  · obtain ⟨c, rfl⟩ := vif_some e
    obtain ⟨ds, rfl, v⟩ := lv_tup ha
    rw [lv_int hb]
    exact .sh (R.req_of ⟨ne_nil_of v c.1, c.2.1, c.2.2.1, by rw [v.len]; exact c.2.2.2⟩ _) ⟨_, rfl, v.rep _⟩
  · obtain ⟨c, rfl⟩ := vif_some e
    obtain ⟨n, ds, rfl, a1, v⟩ := lv_lst ha
    rw [lv_int hb]
    refine .ol ?_ (v.rep _)
    show R.opt (getL S n) _ = _
    rw [lL a1, R.opt_some, R.req_of (by rw [v.len]; exact c)]
  · obtain ⟨c, rfl⟩ := vif_some e; rw [lv_int ha, lv_int hb]; exact .sh (R.req_of c _) rfl
  · obtain ⟨c, rfl⟩ := vif_some e; rw [lv_int ha, lv_int hb]; exact .sh (R.req_of c _) rfl
  · obtain ⟨c, rfl⟩ := vif_some e; rw [lv_int ha, lv_int hb]; exact .sh (R.req_of c _) rfl
  · cases e
theorem flat_ok {u : U} {d : D} (h : Vw w S u d) (e : uflat u = true) : flat d = true := by
  cases u with
  | non => rw [show d = .non from h]; rfl
  | bl b => rw [show d = .bl b from h]; rfl
  | int b => rw [show d = .int b from h]; rfl
  | str b => rw [show d = .str b from h]; rfl
  | _ => cases e
theorem eqF_ok {u v : U} {d e : D} (h : Vw w S u d) (g : Vw w S v e) (e1 : uflat u = true) (e2 : uflat v = true) : eqF d e = ueqF u v := by
  cases u with
  | non => rw [show d = .non from h]; cases v with
    | non => rw [show e = .non from g]; rfl
    | bl b => rw [show e = .bl b from g]; rfl
    | int b => rw [show e = .int b from g]; rfl
    | str b => rw [show e = .str b from g]; rfl
    | _ => cases e2
  | bl a => rw [show d = .bl a from h]; cases v with
    | non => rw [show e = .non from g]; rfl
    | bl b => rw [show e = .bl b from g]; rfl
    | int b => rw [show e = .int b from g]; rfl
    | str b => rw [show e = .str b from g]; rfl
    | _ => cases e2
  | int a => rw [show d = .int a from h]; cases v with
    | non => rw [show e = .non from g]; rfl
    | bl b => rw [show e = .bl b from g]; rfl
    | int b => rw [show e = .int b from g]; rfl
    | str b => rw [show e = .str b from g]; rfl
    | _ => cases e2
  | str a => rw [show d = .str a from h]; cases v with
    | non => rw [show e = .non from g]; rfl
    | bl b => rw [show e = .bl b from g]; rfl
    | int b => rw [show e = .int b from g]; rfl
    | str b => rw [show e = .str b from g]; rfl
    | _ => cases e2
  | _ => cases e1
theorem flats_ok : ∀ {us : List U} {ds : List D}, Vws w S us ds → us.all uflat = true → ds.all flat = true
  | [], _, h, _ => by rw [show _ = [] from h]; rfl
  | u :: us, _, ⟨d, es, a, b, c⟩, e => by
    rw [List.all_cons, Bool.and_eq_true] at e
    rw [a, List.all_cons, flat_ok b e.1, flats_ok c e.2]
    rfl
theorem anyF_ok {u : U} {x : D} (h : Vw w S u x) (hu : uflat u = true) : ∀ {us : List U} {ds : List D}, Vws w S us ds → us.all uflat = true → (ds.any fun y => eqF y x) = us.any fun y => ueqF y u
  | [], _, h, _ => by rw [show _ = [] from h]; rfl
  | v :: us, _, ⟨d, es, a, b, c⟩, e => by
    rw [List.all_cons, Bool.and_eq_true] at e
    rw [a, List.any_cons, List.any_cons, eqF_ok b h e.1 hu, anyF_ok h hu c e.2]
theorem in_tup {S : Sto} {x : D} {ds : List D} {t : Bool} (h1 : flat x = true) (h2 : ds.all flat = true) (h3 : (ds.any fun y => eqF y x) = t) : inF S x (.tup ds) = some t := by
  have : inF S x (.tup ds) = if flat x && ds.all flat then some (ds.any fun y => eqF y x) else none := by cases x <;> rfl
  rw [this, h1, h2, h3]
  rfl
theorem in_lst {S : Sto} {x : D} {n : Nat} {ds : List D} {t : Bool} (hn : S[n]? = some (.lst ds)) (h1 : flat x = true) (h2 : ds.all flat = true) (h3 : (ds.any fun y => eqF y x) = t) : inF S x (.ref n) = some t := by
  have : inF S x (.ref n) = match getQ S n with
    | some ys => if flat x && ys.all flat then some (ys.any fun y => eqF y x) else none
    | none => none := by cases x <;> rfl
  rw [this, qL hn]
  dsimp only
  rw [h1, h2, h3]
  rfl
theorem vin_ok {a b : U} {da db : D} {t : Bool} (ha : Lv w S a da) (hb : Lv w S b db) (e : vin a b = some t) : inF S da db = some t := by
  unfold vin at e
  split at e
  · rw [lv_str ha, lv_str hb]; exact e
  · obtain ⟨⟨c1, c2⟩, c3⟩ := vif_some e
    obtain ⟨ds, rfl, v⟩ := lv_tup hb
    have h := lv_vw ha (by intro xs z; rw [z] at c1; cases c1)
    exact in_tup (flat_ok h c1) (flats_ok v c2) ((anyF_ok h c1 v c2).trans c3)
  · obtain ⟨⟨c1, c2⟩, c3⟩ := vif_some e
    obtain ⟨n, ds, rfl, a1, v⟩ := lv_lst hb
    have h := lv_vw ha (by intro xs z; rw [z] at c1; cases c1)
    exact in_lst a1 (flat_ok h c1) (flats_ok v c2) ((anyF_ok h c1 v c2).trans c3)
  · cases e
theorem isNon_ok {u : U} {d : D} (h : Lv w S u d) : isNon d = uisNon u := by
  cases u with
  | lst xs => obtain ⟨n, ds, a, _⟩ := lv_lst h; rw [a]; rfl
  | non => rw [lv_non h]; rfl
  | bl b => rw [lv_bl h]; rfl
  | int b => rw [lv_int h]; rfl
  | str b => rw [lv_str h]; rfl
  | tup xs => obtain ⟨ds, a, c⟩ := lv_tup h; rw [a]; rfl
  | ob c ns vs => obtain ⟨n, ds, a, _⟩ := lv_vw h (by intro xs; simp); rw [a]; rfl
  | exn c vs => obtain ⟨ds, a, _⟩ := lv_vw h (by intro xs; simp); rw [a]; rfl
  | bag => obtain ⟨n, a, _⟩ := lv_vw h (by intro xs; simp); rw [a]; rfl
  | scr ns => obtain ⟨n, a, _⟩ := lv_scr h; rw [a]; rfl
theorem vcmp_ok {o : Cm} {a b : U} {da db : D} {t : Bool} (ha : Lv w S a da) (hb : Lv w S b db) (e : vcmp o a b = some t) : cmpop o da db S = some t := by
  cases o with
  | eq => exact veq_ok ha hb e
  | ne =>
    obtain ⟨x, h1, h2⟩ := Option.map_eq_some_iff.mp (show (veq a b).map (!·) = _ from e)
    show (eqD S da db).map _ = _
    rw [veq_ok ha hb h1, ← h2]
    rfl
  | lt => unfold vcmp at e; dsimp only at e; split at e; · rw [lv_int ha, lv_int hb]; exact e
          · cases e
  | le => unfold vcmp at e; dsimp only at e; split at e; · rw [lv_int ha, lv_int hb]; exact e
          · cases e
  | gt => unfold vcmp at e; dsimp only at e; split at e; · rw [lv_int ha, lv_int hb]; exact e
          · cases e
  | ge => unfold vcmp at e; dsimp only at e; split at e; · rw [lv_int ha, lv_int hb]; exact e
          · cases e
  | isin => exact vin_ok ha hb e
  | notin =>
    obtain ⟨x, h1, h2⟩ := Option.map_eq_some_iff.mp (show (vin a b).map (!·) = _ from e)
    show (inF S da db).map _ = _
    rw [vin_ok ha hb h1, ← h2]
    rfl
  | is =>
    unfold vcmp at e
    dsimp only at e
    split at e
    · rw [lv_non hb]; show some (isNon da) = _; rw [isNon_ok ha]; exact e
    · split at e
      · rw [lv_bl ha, lv_bl hb]; exact e
      · cases e
    · cases e
  | isnot =>
    unfold vcmp at e
    dsimp only at e
    split at e
    · rw [lv_non hb]; show some (!isNon da) = _; rw [isNon_ok ha]; exact e
    · split at e
      · rw [lv_bl ha, lv_bl hb]; exact e
      · cases e
    · cases e
theorem atI_ok {us : List U} {ds : List D} {i : Int} {u : U} (h : Vws w S us ds) (e : atI us i = some u) : ∃ d, atI ds i = some d ∧ Vw w S u d := by
  unfold atI L2.atI at e ⊢
  rw [h.len]
  cases hx : L2.ixN us.length i with
  | none => rw [hx] at e; cases e
  | some j =>
    rw [hx] at e
    exact h.get e
theorem vidx_ok {a b u : U} {da db : D} (ha : Lv w S a da) (hb : Lv w S b db) (e : vidx a b = some u) : ∃ d, index da db S = .ok d S ∧ Vw w S u d := by
  unfold vidx at e
  split at e
  · obtain ⟨c, h1, rfl⟩ := Option.map_eq_some_iff.mp e
    rw [lv_str ha, lv_int hb]
    refine ⟨.str [c], ?_, rfl⟩
    show R.opt _ _ = _
    rw [h1]
    rfl
  · obtain ⟨ds, rfl, v⟩ := lv_tup ha
    rw [lv_int hb]
    obtain ⟨d, h1, h2⟩ := atI_ok v e
    refine ⟨d, ?_, h2⟩
    show R.opt _ _ = _
    rw [h1]
    rfl
  · obtain ⟨n, ds, rfl, a1, v⟩ := lv_lst ha
    rw [lv_int hb]
    obtain ⟨d, h1, h2⟩ := atI_ok v e
    refine ⟨d, ?_, h2⟩
    show R.opt (getQ S n) _ = _
    rw [qL a1, R.opt_some, h1]
    rfl
  · cases e
theorem vslc_ok {a : U} {da : D} {lo hi : Option Int} {p : O} (ha : Lv w S a da) (e : vslc a lo hi = some p) : NewR w S (slice da lo hi S) p := by
  unfold vslc at e
  split at e
  · cases e; rw [lv_str ha]; exact .sh rfl rfl
  · cases e
    obtain ⟨ds, rfl, v⟩ := lv_tup ha
    exact .sh rfl ⟨_, rfl, v.cut _ _⟩
  · cases e
    obtain ⟨n, ds, rfl, a1, v⟩ := lv_lst ha
    refine .ol ?_ (v.cut lo hi)
    show R.opt (getQ S n) _ = _
    rw [qL a1, R.opt_some]
  · cases e
theorem strs_ok : ∀ {us : List U} {ds : List D} {ts : List Tx}, Vws w S us ds → uStrs us = some ts → asStrs ds = some ts
  | [], _, _, h, e => by rw [show _ = [] from h]; exact e
  | u :: us, _, ts, ⟨d, es, a, b, c⟩, e => by
    cases u with
    | str s =>
      rw [a, show d = .str s from b]
      obtain ⟨ys, h1, h2⟩ := Option.map_eq_some_iff.mp (show (uStrs us).map _ = _ from e)
      show (asStrs es).map _ = _
      rw [strs_ok c h1, ← h2]
      rfl
    | _ => cases e
theorem bls_ok : ∀ {us : List U} {ds : List D} {ts : List Bool}, Vws w S us ds → uBls us = some ts → asBls ds = some ts
  | [], _, _, h, e => by rw [show _ = [] from h]; exact e
  | u :: us, _, ts, ⟨d, es, a, b, c⟩, e => by
    cases u with
    | bl s =>
      rw [a, show d = .bl s from b]
      obtain ⟨ys, h1, h2⟩ := Option.map_eq_some_iff.mp (show (uBls us).map _ = _ from e)
      show (asBls es).map _ = _
      rw [bls_ok c h1, ← h2]
      rfl
    | _ => cases e
end Cl

/-! part U7 -/
/-! Cl: the second evaluator follows the first: built-ins, methods, walks. -/
namespace Cl
open PySem (PyData)
variable {w w' w1 w2 : Wd} {S S' S1 S2 : Sto} {W W' W1 W2 Wp : List Nat} {k k' : Nat} {q q' qr : Bool} {σ : Sg} {π : Env}
def Lvs (w : Wd) (S : Sto) : List U → List D → Prop
  | [], ds => ds = []
  | x :: xs, ds => ∃ e es, ds = e :: es ∧ Lv w S x e ∧ Lvs w S xs es
theorem Vws.lvs : ∀ {us : List U} {ds : List D}, Vws w S us ds → Lvs w S us ds
  | [], _, h => h
  | u :: us, _, ⟨e, es, a, b, c⟩ => ⟨e, es, a, b.lv, Vws.lvs c⟩
theorem lvs1 {a : U} {ds : List D} (h : Lvs w S [a] ds) : ∃ d, ds = [d] ∧ Lv w S a d := by
  obtain ⟨e, es, h1, h2, h3⟩ := h
  have : es = [] := h3
  subst this
  exact ⟨e, h1, h2⟩
theorem lvs2 {a b : U} {ds : List D} (h : Lvs w S [a, b] ds) : ∃ d e, ds = [d, e] ∧ Lv w S a d ∧ Lv w S b e := by
  obtain ⟨e, es, h1, h2, h3⟩ := h
  obtain ⟨f, h4, h5⟩ := lvs1 h3
  subst h4
  exact ⟨e, f, h1, h2, h5⟩
theorem vblt_ok {b : Bf} {us : List U} {ds : List D} {p : O} (h : Lvs w S us ds) (e : vblt b us = some p) : NewR w S (blt b ds S) p := by
  unfold vblt at e
  split at e
  · cases e; obtain ⟨d, rfl, l⟩ := lvs1 h; rw [lv_str l]; exact .sh rfl rfl
  · cases e; obtain ⟨d, rfl, l⟩ := lvs1 h; obtain ⟨ds, rfl, v⟩ := lv_tup l
    refine .sh (d := .int ds.length) rfl ?_
    rw [v.len]; rfl
  · cases e; obtain ⟨d, rfl, l⟩ := lvs1 h; obtain ⟨n, ds, rfl, a, v⟩ := lv_lst l
    refine .sh (d := .int ds.length) ?_ ?_
    · show R.opt (getQ S n) _ = _
      rw [qL a]; rfl
    · rw [v.len]; rfl
  · cases e; obtain ⟨d, rfl, l⟩ := lvs1 h; obtain ⟨n, rfl, a⟩ := lv_scr l
    refine .sh (d := .int _) ?_ rfl
    show R.opt (getQ S n) _ = _
    unfold getQ
    rw [a]
    simp
  · cases e; obtain ⟨d, rfl, l⟩ := lvs1 h; rw [lv_int l]; exact .sh rfl rfl
  · cases e; obtain ⟨d, d2, rfl, l, l2⟩ := lvs2 h; rw [lv_int l, lv_int l2]; exact .sh rfl rfl
  · cases e; obtain ⟨d, d2, rfl, l, l2⟩ := lvs2 h; rw [lv_int l, lv_int l2]; exact .sh rfl rfl
  · cases e; obtain ⟨d, rfl, l⟩ := lvs1 h; rw [lv_int l]; exact .sh rfl rfl
  · cases e; obtain ⟨d, rfl, l⟩ := lvs1 h; rw [lv_bl l]; exact .sh rfl rfl
  · obtain ⟨d, rfl, l⟩ := lvs1 h
    obtain ⟨x, h1, h2⟩ := Option.bind_eq_some_iff.mp e
    obtain ⟨c, rfl⟩ := vif_some h2
    rw [lv_str l]
    refine .sh (d := .int _) ?_ rfl
    show R.opt (PySem.intText? _) _ = _
    rw [h1, R.opt_some, R.req_of c]
  · obtain ⟨d, d2, rfl, l, l2⟩ := lvs2 h
    obtain ⟨c, rfl⟩ := vif_some e
    rw [lv_str l, lv_int l2]
    exact .sh (R.req_of c _) rfl
  · obtain ⟨d, rfl, l⟩ := lvs1 h
    obtain ⟨x, h1, h2⟩ := Option.bind_eq_some_iff.mp e
    obtain ⟨c, rfl⟩ := vif_some h2
    refine .sh (d := .str _) ?_ rfl
    show R.opt (rd S DEEP d) _ = _
    rw [lv_rd l h1, R.opt_some, R.req_of c]
  · cases e; obtain ⟨d, rfl, l⟩ := lvs1 h; obtain ⟨ds, rfl, v⟩ := lv_tup l; exact .ol rfl v
  · cases e; obtain ⟨d, rfl, l⟩ := lvs1 h; obtain ⟨n, ds, rfl, a, v⟩ := lv_lst l
    refine .ol ?_ v
    show R.opt (getQ S n) _ = _
    rw [qL a]; rfl
  · cases e; obtain ⟨d, rfl, l⟩ := lvs1 h; obtain ⟨ds, rfl, v⟩ := lv_tup l; exact .sh rfl ⟨ds, rfl, v⟩
  · cases e; obtain ⟨d, rfl, l⟩ := lvs1 h; obtain ⟨n, ds, rfl, a, v⟩ := lv_lst l
    refine .sh (d := .tup ds) ?_ ⟨ds, rfl, v⟩
    show R.opt (getQ S n) _ = _
    rw [qL a]; rfl
  · obtain ⟨d, rfl, l⟩ := lvs1 h
    obtain ⟨bs, h1, rfl⟩ := Option.map_eq_some_iff.mp e
    obtain ⟨n, ds, rfl, a, v⟩ := lv_lst l
    refine .sh (d := .bl _) ?_ rfl
    show R.opt (getQ S n) _ = _
    rw [qL a, R.opt_some, bls_ok v h1]; rfl
  · obtain ⟨d, rfl, l⟩ := lvs1 h
    obtain ⟨bs, h1, rfl⟩ := Option.map_eq_some_iff.mp e
    obtain ⟨n, ds, rfl, a, v⟩ := lv_lst l
    refine .sh (d := .bl _) ?_ rfl
    show R.opt (getQ S n) _ = _
    rw [qL a, R.opt_some, bls_ok v h1]; rfl
  · cases e
theorem vty_ok {u : U} {d : D} {t : Ty} {x : Bool} (h : Lv w S u d) (e : vty u t = some x) : hasTyS S d t = some x := by
  cases u with
  | lst xs => obtain ⟨n, ds, rfl, a, v⟩ := lv_lst h; unfold hasTyS; dsimp only; rw [a]; cases t <;> exact e
  | non => rw [lv_non h]; cases t <;> exact e
  | bl b => rw [lv_bl h]; cases t <;> exact e
  | int b => rw [lv_int h]; cases t <;> exact e
  | str b => rw [lv_str h]; cases t <;> exact e
  | tup xs => obtain ⟨ds, rfl, c⟩ := lv_tup h; cases t <;> exact e
  | ob c ns vs => obtain ⟨n, ds, rfl, _, a, v⟩ := lv_vw h (by intro xs; simp); unfold hasTyS; dsimp only; rw [a]; cases t <;> exact e
  | exn c vs => cases t <;> cases e
  | bag => cases t <;> cases e
  | scr ns => cases t <;> cases e
theorem visi_ok {u : U} {d : D} {x : Bool} (h : Lv w S u d) : ∀ {ts : List Ty}, visi u ts = some x → isiAny S d ts = some x
  | [], e => e
  | t :: ts, e => by
    unfold visi at e
    unfold isiAny
    cases h1 : vty u t with
    | none => rw [h1] at e; cases e
    | some y =>
      rw [vty_ok h h1]
      rw [h1] at e
      cases y with
      | true => exact e
      | false => exact visi_ok h e
theorem vmth_ok {m : Mt} {u : U} {d : D} {us : List U} {ds : List D} {p : O} (h : Lv w S u d) (g : Lvs w S us ds) (e : vmth m u us = some p) : NewR w S (mth m d ds S) p := by
  unfold vmth at e
  split at e
  · cases e; obtain ⟨d2, rfl, l⟩ := lvs1 g; rw [lv_str h, lv_str l]; exact .sh rfl rfl
  · obtain ⟨c, rfl⟩ := vif_some e; rw [show ds = [] from g, lv_str h]; exact .sh (R.req_of c _) rfl
  · obtain ⟨c, rfl⟩ := vif_some e; rw [show ds = [] from g, lv_str h]; exact .sh (R.req_of c _) rfl
  · obtain ⟨c, rfl⟩ := vif_some e; obtain ⟨d2, rfl, l⟩ := lvs1 g; rw [lv_str h, lv_str l]; exact .ol (R.req_of c _) (Vws.strs _)
  · obtain ⟨c, rfl⟩ := vif_some e; obtain ⟨d2, rfl, l⟩ := lvs1 g; rw [lv_str h, lv_str l]
    rename_i s t
    cases hp : TL.par t [] s with
    | none => exact .sh ((R.req_of c _).trans (by dsimp only; rw [hp])) ⟨_, rfl, _, _, rfl, rfl, _, _, rfl, rfl, _, _, rfl, rfl, rfl⟩
    | some r => exact .sh ((R.req_of c _).trans (by dsimp only; rw [hp])) ⟨_, rfl, _, _, rfl, rfl, _, _, rfl, rfl, _, _, rfl, rfl, rfl⟩
  · obtain ⟨d2, rfl, l⟩ := lvs1 g
    obtain ⟨ts, h1, h2⟩ := Option.bind_eq_some_iff.mp e
    obtain ⟨c, rfl⟩ := vif_some h2
    obtain ⟨es, rfl, v⟩ := lv_tup l
    rw [lv_str h]
    refine .sh (d := .str _) ?_ rfl
    show R.opt (asStrs es) _ = _
    rw [strs_ok v h1, R.opt_some, R.req_of c]
  · obtain ⟨d2, rfl, l⟩ := lvs1 g
    obtain ⟨ts, h1, h2⟩ := Option.bind_eq_some_iff.mp e
    obtain ⟨c, rfl⟩ := vif_some h2
    obtain ⟨n, es, rfl, a, v⟩ := lv_lst l
    rw [lv_str h]
    refine .sh (d := .str _) ?_ rfl
    show R.opt ((getQ S n).map _) _ = _
    rw [qL a, Option.map_some, R.opt_some]
    dsimp only
    rw [strs_ok v h1, R.opt_some, R.req_of c]
  · cases e; obtain ⟨d2, rfl, l⟩ := lvs1 g; rw [lv_str h, lv_str l]; exact .sh rfl rfl
  · cases e; obtain ⟨d2, rfl, l⟩ := lvs1 g; rw [lv_str h, lv_str l]; exact .sh rfl rfl
  · obtain ⟨d2, rfl, l⟩ := lvs1 g
    obtain ⟨i, h1, rfl⟩ := Option.map_eq_some_iff.mp e
    rw [lv_str h, lv_str l]
    refine .sh (d := .int _) ?_ rfl
    show R.opt (PySem.Builtin.Str.occurrences _ _ _ _ _).head? _ = _
    rw [h1, R.opt_some]
  · cases e
/-! ### constants -/
mutual
theorem dU_ok : ∀ {d : D} {u : U}, dU d = some u → Vw w S u d
  | .non, u, e => by cases e; rfl
  | .bl b, u, e => by cases e; rfl
  | .int b, u, e => by cases e; rfl
  | .str b, u, e => by cases e; rfl
  | .tup xs, u, e => by
    obtain ⟨us, h1, rfl⟩ := Option.map_eq_some_iff.mp (show (dUs xs).map U.tup = _ from e)
    exact ⟨xs, rfl, dUs_ok h1⟩
  | .ref _, u, e => by cases e
  | .exn _ _, u, e => by cases e
theorem dUs_ok : ∀ {ds : List D} {us : List U}, dUs ds = some us → Vws w S us ds
  | [], us, e => by cases e; rfl
  | d :: ds, us, e => by
    unfold dUs at e
    cases h1 : dU d with
    | none => rw [h1] at e; cases e
    | some u =>
      cases h2 : dUs ds with
      | none => rw [h1, h2] at e; cases e
      | some vs =>
        rw [h1, h2] at e
        cases e
        exact ⟨d, ds, rfl, dU_ok h1, dUs_ok h2⟩
end
theorem kd_ok (x : Kd) : Vw w S x.toU x.toD := by cases x <;> rfl
/-! ### walks -/
/-- a walk over fixed items -/
def WalkR (w : Wd) (S : Sto) (wk : Wk) (us : List U) : Prop := ∃ ds, Vws w S us ds ∧ ∀ S', (∀ n, w.F n → S'[n]? = S[n]?) → ∀ i, wk.at i S' = some ds[i]?
def WalkP : Pay (List U) Wk := fun w S us wk Wp => Wp = [] ∧ WalkR w S wk us
theorem WalkR.mono {wk : Wk} {us : List U} (h : WalkR w S wk us) (kr : Kr w S w' S') : WalkR w' S' wk us := by
  obtain ⟨ds, v, h⟩ := h
  exact ⟨ds, Vws.mono kr v, fun S2 k i => h S2 (fun n hn => (k n (kr.F n hn)).trans (kr.keep n hn)) i⟩
theorem WalkP.mono : Pay.Mono q WalkP := fun h kr _ _ _ => ⟨h.1, h.2.mono kr⟩
theorem walk_ok {u : U} {d : D} {us : List U} (h : Vw w S u d) (e : uwalk u = some us) : ∃ wk, walk d S = .ok wk S ∧ WalkR w S wk us := by
  unfold uwalk at e
  split at e
  · cases e
    obtain ⟨ds, rfl, v⟩ := h
    exact ⟨.fix ds, rfl, ds, v, fun _ _ _ => rfl⟩
  · cases e
    rw [show d = .str _ from h]
    rename_i s
    refine ⟨.fix (s.map fun c => .str [c]), rfl, s.map fun c => .str [c], ?_, fun _ _ _ => rfl⟩
    have := Vws.strs (w := w) (S := S) (s.map fun c => [c])
    rw [List.map_map, List.map_map] at this
    exact this
  · cases e
    obtain ⟨n, ds, rfl, f, a, v⟩ := h
    refine ⟨.lst n, ?_, ds, v, fun S' k i => ?_⟩
    · show R.opt (getQ S n) _ = _
      rw [qL a]
      rfl
    · show (getQ S' n).map _ = _
      rw [qL ((k n f).trans a)]
      rfl
  · cases e
theorem rng_ok (lo : Int) (n : Nat) : WalkR w S (.rng lo n) ((List.range n).map fun (i : Nat) => .int (lo + (i : Int))) := by
  refine ⟨(List.range n).map fun (i : Nat) => .int (lo + (i : Int)), ?_, fun S' _ i => ?_⟩
  · have : ∀ l : List Nat, Vws w S (l.map fun (i : Nat) => U.int (lo + (i : Int))) (l.map fun (i : Nat) => D.int (lo + (i : Int))) := by
      intro l
      induction l with
      | nil => rfl
      | cons a l ih => exact ⟨_, _, rfl, rfl, ih⟩
    exact this _
  · show some _ = some _
    congr 1
    by_cases h : i < n
    · rw [if_pos h]
      simp [h]
    · rw [if_neg h]
      simp [h]
end Cl

/-! part U8 -/
/-! Cl: the second evaluator follows the first: calls. -/
namespace Cl
open PySem (PyData)
variable {w w' w1 w2 : Wd} {S S' S1 S2 : Sto} {W W' W1 W2 Wp Wa Wb : List Nat} {k k' : Nat} {q q' qr : Bool} {σ : Sg} {π : Env}
def RelF (w : Wd) (S : Sto) (W : List Nat) (ms : List D) (m : R D) : FO → Prop
  | .no => True
  | .ok p outs k' => ∃ d S' w' Wp Wo, m = .ok d S' ∧ Step w S w' S' W false ∧ Ow w' S' p d Wp ∧ Ows w' S' outs ms Wo ∧ Good w' S' (Wp ++ Wo) k' ∧ Fresh W S (Wp ++ Wo)
  | .exc x outs k' => ∃ d S' w' Wo, m = .exc d S' ∧ Step w S w' S' W false ∧ Vw w' S' x d ∧ Ows w' S' outs ms Wo ∧ Good w' S' Wo k' ∧ Fresh W S Wo
def SimF (Cs : Cfg) (C : PCfg) : Prop := ∀ f ps ds w S W k, Ows w S ps ds W → Good w S W k → ∃ o, (C.call f ps k).Has o ∧ RelF w S W ((C.mu f).map fun j => ds.getD j .non) (Cs.call f ds S) o
theorem Good.mem (g : Good w S W k) (hn : W'.Nodup) (hs : ∀ n, n ∈ W' → n ∈ W) : Good w S W' k := ⟨hn, fun n h => g.own n (hs n h), g.fz, g.bg⟩
/-- a step on few, seen on more -/
theorem Step.nil (s : Step w S w' S' [] q') : Step w S w' S' W q := ⟨s.le, fun n hn _ hb => s.keep n hn (.inr (by simp)) hb, s.F, s.B, fun n h => (s.newF n h).elim .inl fun h => h.elim (fun h => by simp at h) fun h => .inr (.inr h), s.newB⟩
theorem Vws.ows : ∀ {us : List U} {ds : List D}, Vws w S us ds → Ows w S (us.map .sh) ds []
  | [], _, h => ⟨h, rfl⟩
  | u :: us, _, ⟨e, es, a, b, c⟩ => ⟨e, es, [], [], a, rfl, ⟨rfl, b⟩, Vws.ows c⟩
theorem rel_callU {Cs : Cfg} {C : PCfg} {f : Nat} {us : List U} {ds : List D} (hF : SimF Cs C) (v : Vws w S us ds) (hv : Ews w S π σ W) (gd : Good w S (W2 ++ W) k) : RelE OwP w S (W2 ++ W) q σ (Cs.call f ds S) (callU C f us π k) := by
  unfold callU
  refine .req fun hm => ?_
  obtain ⟨o, h1, h2⟩ := hF f (us.map .sh) ds w S [] k v.ows (gd.sub (List.nil_sublist _))
  rw [hm] at h2
  have gd0 : Good w S ((W2 ++ W) ++ []) k := by simpa using gd
  cases o with
  | no => exact ⟨_, .bind h1 .ret, trivial⟩
  | ok p outs k' =>
    obtain ⟨d, S', w', Wp, Wo, e, s, c, o, g, f⟩ := h2
    have hWo : Wo = [] := by
      cases outs with
      | nil => exact o.2
      | cons p ps =>
        obtain ⟨d, es, _, _, a, _⟩ := o
        cases a
    subst hWo
    have g2 := gd0.join s g f
    have s' : Step w S w' S' (W2 ++ W) q := s.nil
    refine ⟨_, .bind h1 .ret, d, S', w', Wp, W, e, s', c, Ews.mono (s.kr2 gd0) (fun n hn => s.other gd0 n (by simp [hn])) hv, ?_, fun n hn => ?_⟩
    · rw [List.append_nil] at g2
      refine (g2.perm List.perm_append_comm).sub (List.Sublist.append (.refl _) (List.sublist_append_right _ _))
    · rcases List.mem_append.mp hn with h | h
      · exact (f n (by simp [h])).elim (fun z => by simp at z) .inr
      · exact .inl (by simp [h])
  | exc x outs k' =>
    obtain ⟨d, S', w', Wo, e, s, c, o, g, f⟩ := h2
    have hWo : Wo = [] := by
      cases outs with
      | nil => exact o.2
      | cons p ps =>
        obtain ⟨d, es, _, _, a, _⟩ := o
        cases a
    subst hWo
    have g2 := gd0.join s g f
    refine ⟨_, .bind h1 .ret, d, S', w', W, e, s.nil, c, Ews.mono (s.kr2 gd0) (fun n hn => s.other gd0 n (by simp [hn])) hv, ?_, fun n hn => .inl (by simp [hn])⟩
    rw [List.append_nil] at g2
    exact g2.sub (List.sublist_append_right _ _)
/-! ### arguments -/
def Ars (w : Wd) (S : Sto) (σ : Sg) : List Ar → List D → Prop
  | [], ds => ds = []
  | .inl u :: as, ds => ∃ e es, ds = e :: es ∧ Vw w S u e ∧ Ars w S σ as es
  | .inr i :: as, ds => ∃ e es, ds = e :: es ∧ σ[i]? = some (some e) ∧ Ars w S σ as es
theorem Ars.mono (kr : Kr w S w' S') : ∀ {as : List Ar} {ds : List D}, Ars w S σ as ds → Ars w' S' σ as ds
  | [], _, h => h
  | .inl u :: as, _, ⟨e, es, a, b, c⟩ => ⟨e, es, a, Vw.mono kr b, Ars.mono kr c⟩
  | .inr i :: as, _, ⟨e, es, a, b, c⟩ => ⟨e, es, a, b, Ars.mono kr c⟩
def ArsP (σ : Sg) : Pay (List Ar) (List D) := fun w S as ds Wp => Wp = [] ∧ Ars w S σ as ds
theorem ArsP.mono : Pay.Mono q (ArsP σ) := fun h kr _ _ _ => ⟨h.1, Ars.mono kr h.2⟩
theorem Ars.len : ∀ {as : List Ar} {ds : List D}, Ars w S σ as ds → ds.length = as.length
  | [], _, h => by rw [show _ = [] from h]; rfl
  | .inl u :: as, _, ⟨e, es, a, b, c⟩ => by rw [a, List.length_cons, List.length_cons, Ars.len c]
  | .inr i :: as, _, ⟨e, es, a, b, c⟩ => by rw [a, List.length_cons, List.length_cons, Ars.len c]
theorem Ars.app : ∀ {as bs : List Ar} {ds es : List D}, Ars w S σ as ds → Ars w S σ bs es → Ars w S σ (as ++ bs) (ds ++ es)
  | [], _, _, _, h, h2 => by rw [show _ = [] from h]; exact h2
  | .inl u :: as, _, _, es2, ⟨e, es, a, b, c⟩, h2 => ⟨e, es ++ es2, by rw [a]; rfl, b, Ars.app c h2⟩
  | .inr i :: as, _, _, es2, ⟨e, es, a, b, c⟩, h2 => ⟨e, es ++ es2, by rw [a]; rfl, b, Ars.app c h2⟩
theorem Vws.ars : ∀ {us : List U} {ds : List D}, Vws w S us ds → Ars w S σ (us.map .inl) ds
  | [], _, h => h
  | u :: us, _, ⟨e, es, a, b, c⟩ => ⟨e, es, a, b, Vws.ars c⟩
/-- one argument -/
def Ar1 (w : Wd) (S : Sto) (σ : Sg) : Ar → D → Prop
  | .inl u, e => Vw w S u e
  | .inr i, e => σ[i]? = some (some e)
theorem Ars.get : ∀ {as : List Ar} {ds : List D} {i : Nat} {a : Ar}, Ars w S σ as ds → as[i]? = some a → ∃ d, ds[i]? = some d ∧ Ar1 w S σ a d
  | [], _, i, a, _, e => by simp at e
  | .inl u :: as, _, 0, a, ⟨e, es, h, b, c⟩, x => by
    have : Sum.inl u = a := by simpa using x
    subst this
    exact ⟨e, by rw [h]; rfl, b⟩
  | .inr u :: as, _, 0, a, ⟨e, es, h, b, c⟩, x => by
    have : Sum.inr u = a := by simpa using x
    subst this
    exact ⟨e, by rw [h]; rfl, b⟩
  | .inl u :: as, _, i + 1, a, ⟨e, es, h, b, c⟩, x => by
    obtain ⟨d, h1, h2⟩ := Ars.get c (i := i) (by simpa using x)
    exact ⟨d, by rw [h]; simpa using h1, h2⟩
  | .inr u :: as, _, i + 1, a, ⟨e, es, h, b, c⟩, x => by
    obtain ⟨d, h1, h2⟩ := Ars.get c (i := i) (by simpa using x)
    exact ⟨d, by rw [h]; simpa using h1, h2⟩
theorem Ars.cons {a : Ar} {d : D} {as : List Ar} {ds : List D} (h : Ar1 w S σ a d) (h2 : Ars w S σ as ds) : Ars w S σ (a :: as) (d :: ds) := by
  cases a with
  | inl u => exact ⟨d, ds, rfl, h, h2⟩
  | inr i => exact ⟨d, ds, rfl, h, h2⟩
theorem perm_ok {as : List Ar} {ds : List D} (h : Ars w S σ as ds) : ∀ {perm : List (Sum Nat Kd)} {cs : List Ar}, perm.mapM (argA as) = some cs → ∃ es, perm.mapM (argOf ds) = some es ∧ Ars w S σ cs es
  | [], cs, e => by
    have : cs = [] := by simpa using e.symm
    subst this
    exact ⟨[], rfl, rfl⟩
  | x :: perm, cs, e => by
    rw [List.mapM_cons] at e
    obtain ⟨a, h1, h2⟩ := Option.bind_eq_some_iff.mp e
    obtain ⟨bs, h3, h4⟩ := Option.bind_eq_some_iff.mp h2
    cases h4
    obtain ⟨es, h5, h6⟩ := perm_ok h h3
    have : ∃ d, argOf ds x = some d ∧ Ar1 w S σ a d := by
      cases x with
      | inl i => exact h.get h1
      | inr c =>
        cases h1
        exact ⟨c.toD, rfl, kd_ok c⟩
    obtain ⟨d, h7, h8⟩ := this
    refine ⟨d :: es, ?_, .cons h8 h6⟩
    rw [List.mapM_cons, h7]
    show (perm.mapM (argOf ds)).bind _ = _
    rw [h5]
    rfl
def IxR (σ : Sg) : List Nat → List D → Prop
  | [], es => es = []
  | i :: is, es => ∃ e es', es = e :: es' ∧ σ[i]? = some (some e) ∧ IxR σ is es'
theorem muIx_ok {as : List Ar} {ds : List D} (h : Ars w S σ as ds) : ∀ {ps is : List Nat}, muIx as 0 ps = some is → IxR σ is (ps.map fun j => ds.getD j .non)
  | [], is, e => by
    have : is = [] := by simpa [muIx] using e.symm
    subst this
    rfl
  | p :: ps, is, e => by
    unfold muIx at e
    cases h1 : as[p]? with
    | none => rw [h1] at e; cases e
    | some a =>
      rw [h1] at e
      cases a with
      | inl u => cases e
      | inr i =>
        obtain ⟨js, h2, rfl⟩ := Option.map_eq_some_iff.mp e
        obtain ⟨d, h3, h4⟩ := h.get h1
        refine ⟨d, _, ?_, h4, muIx_ok h h2⟩
        rw [List.map_cons, List.getD_eq_getElem?_getD, h3]
        rfl
theorem take_ok : ∀ {as : List Ar} {ds : List D} {π π1 : Env} {W : List Nat} {ps : List O}, Ars w S σ as ds → Ews w S π σ W → takeA as π = some (ps, π1) → ∃ Wa R, W.Perm (Wa ++ R) ∧ Ows w S ps ds Wa ∧ Ews w S π1 σ R ∧ (inrs as = 0 → Wa = [] ∧ π1 = π)
  | [], _, π, π1, W, ps, h, hv, e => by
    cases e
    exact ⟨[], W, .refl _, ⟨h, rfl⟩, hv, fun _ => ⟨rfl, rfl⟩⟩
  | .inl u :: as, _, π, π1, W, ps, ⟨d, es, a, b, c⟩, hv, e => by
    obtain ⟨r, h1, h2⟩ := Option.map_eq_some_iff.mp (show (takeA as π).map _ = _ from e)
    cases h2
    obtain ⟨Wa, R, p, o, v, z⟩ := take_ok c hv (show takeA as π = some (r.1, r.2) from h1)
    exact ⟨Wa, R, p, ⟨d, es, [], Wa, a, rfl, ⟨rfl, b⟩, o⟩, v, z⟩
  | .inr i :: as, _, π, π1, W, ps, ⟨d, es, a, b, c⟩, hv, e => by
    unfold takeA at e
    cases h0 : getO π i with
    | none => rw [h0] at e; cases e
    | some p0 =>
      rw [h0] at e
      obtain ⟨r, h1, h2⟩ := Option.map_eq_some_iff.mp (show (takeA as (π.set i none)).map _ = _ from e)
      cases h2
      obtain ⟨d0, Wq, R0, g1, g2, g3, g4⟩ := hv.slot h0
      rw [b] at g1
      cases g1
      obtain ⟨Wa, R, p, o, v, z⟩ := take_ok c g4 (show takeA as (π.set i none) = some (r.1, r.2) from h1)
      refine ⟨Wq ++ Wa, R, g2.trans ?_, ⟨d, es, Wq, Wa, a, rfl, g3, o⟩, v, fun h => by cases h⟩
      rw [List.append_assoc]
      exact List.Perm.append_left Wq p
theorem putA_len : ∀ (is : List Nat) (ps : List O) (π : Env), (putA is ps π).length = π.length
  | [], _, _ => by unfold putA; rfl
  | _ :: _, [], _ => by unfold putA; rfl
  | i :: is, p :: ps, π => by unfold putA; rw [List.length_set, putA_len is ps π]
theorem put_ok : ∀ {is : List Nat} {es : List D} {outs : List O} {π : Env} {R Wo : List Nat}, IxR σ is es → Ows w S outs es Wo → Ews w S π σ R → ∃ W3, Ews w S (putA is outs π) σ W3 ∧ (∀ n, n ∈ W3 → n ∈ Wo ++ R) ∧ ((Wo ++ R).Nodup → W3.Nodup)
  | [], _, outs, π, R, Wo, h, o, v => by
    refine ⟨R, ?_, fun n hn => by simp [hn], fun h => (List.nodup_append.mp h).2.1⟩
    cases outs <;> exact v
  | i :: is, _, [], π, R, Wo, ⟨e, es, a, b, c⟩, o, v => by
    rw [a] at o
    have := o.1
    cases this
  | i :: is, _, p :: ps, π, R, Wo, ⟨e, es, a, b, c⟩, o, v => by
    rw [a] at o
    obtain ⟨d, es', W1, W2, a1, a2, a3, a4⟩ := o
    cases a1
    obtain ⟨W3, h1, h2, h3⟩ := put_ok c a4 v
    obtain ⟨R4, h4, h5⟩ := Ews.drop i h1
    have hi : i < (putA is ps π).length := by
      rw [← h1.len]
      exact (List.getElem?_eq_some_iff.mp b).1
    obtain ⟨W5, h6, h7⟩ := Ews.back h5 b hi a3
    refine ⟨W5, h7, fun n hn => ?_, fun h => h6.nodup_iff.mpr ?_⟩
    · rcases List.mem_append.mp (h6.mem_iff.mp hn) with z | z
      · rw [a2]; simp [z]
      · rw [a2]
        have := h2 n (h4.subset z)
        simp at this ⊢
        exact .inr this
    · rw [a2, List.append_assoc] at h
      have hh := List.nodup_append.mp h
      exact List.nodup_append.mpr ⟨hh.1, h4.nodup (h3 hh.2.1), fun x hx y hy => hh.2.2 x hx y (h2 y (h4.subset hy))⟩

theorem rel_callO {Cs : Cfg} {C : PCfg} {f : Nat} {as : List Ar} {ds : List D} (hF : SimF Cs C) (hq : q = true → C.mu f = []) (ha : Ars w S σ as ds) (hv : Ews w S π σ W) (gd : Good w S (W2 ++ W) k) : RelE OwP w S (W2 ++ W) q σ (Cs.call f ds S) (callO C f as π k) := by
  unfold callO
  refine .req fun hi => .opt fun is his => .opt fun r hr => ?_
  obtain ⟨ps, π1⟩ := r
  obtain ⟨Wa, R, hp, ho, hv1, hz⟩ := take_ok ha hv hr
  have ix := muIx_ok ha his
  have gp : Good w S ((W2 ++ R) ++ Wa) k := by
    refine gd.perm ?_
    refine (List.Perm.append_left W2 (hp.trans List.perm_append_comm)).trans ?_
    rw [List.append_assoc]
  obtain ⟨o, h1, h2⟩ := hF f ps ds w S Wa k ho gp.right
  have stp : ∀ {w' S'}, Step w S w' S' Wa false → Step w S w' S' (W2 ++ W) q := by
    intro w' S' s
    cases q with
    | false => exact s.weaken (fun n hn => by simp [hp.mem_iff, hn]) (fun h => h)
    | true =>
      have hm := hq rfl
      rw [hm] at hi
      have := (hz hi).1
      subst this
      exact s.nil
  have frs : ∀ {Wx : List Nat}, Fresh Wa S Wx → Fresh (W2 ++ W) S Wx := fun f n hn => (f n hn).elim (fun z => .inl (by simp [hp.mem_iff, z])) .inr
  cases o with
  | no => exact ⟨_, .bind h1 .ret, trivial⟩
  | ok p outs k' =>
    obtain ⟨d, S', w', Wp, Wo, e, s, c, o, g, f⟩ := h2
    have g2 := gp.join s g f
    obtain ⟨W3, v3, m3, n3⟩ := put_ok ix o (Ews.mono (s.kr gp.right) (fun n hn => s.other gp n (by simp [hn])) hv1)
    refine ⟨_, .bind h1 .ret, d, S', w', Wp, W3, e, stp s, c, v3, ?_, fun n hn => ?_⟩
    · have nd := g2.nd
      have n1 := List.nodup_append.mp nd
      have n2 := List.nodup_append.mp n1.2.1
      have n0 := List.nodup_append.mp n1.1
      refine g2.mem ?_ fun n hn => ?_
      · refine List.nodup_append.mpr ⟨n2.1, n3 (List.nodup_append.mpr ⟨n2.2.1, n0.2.1, fun x hx y hy e => n1.2.2 y (by simp [hy]) x (by simp [hx]) e.symm⟩), fun x hx y hy e => ?_⟩
        rcases List.mem_append.mp (m3 y hy) with z | z
        · exact n2.2.2 x hx y z e
        · exact n1.2.2 y (by simp [z]) x (by simp [hx]) e.symm
      · rcases List.mem_append.mp hn with z | z
        · simp [z]
        · rcases List.mem_append.mp (m3 n z) with t | t <;> simp [t]
    · rcases List.mem_append.mp hn with z | z
      · exact frs f n (by simp [z])
      · rcases List.mem_append.mp (m3 n z) with t | t
        · exact frs f n (by simp [t])
        · exact .inl (by simp [hp.mem_iff, t])
  | exc x outs k' =>
    obtain ⟨d, S', w', Wo, e, s, c, o, g, f⟩ := h2
    have g2 := gp.join s g f
    obtain ⟨W3, v3, m3, n3⟩ := put_ok ix o (Ews.mono (s.kr gp.right) (fun n hn => s.other gp n (by simp [hn])) hv1)
    refine ⟨_, .bind h1 .ret, d, S', w', W3, e, stp s, c, v3, ?_, fun n hn => ?_⟩
    · have nd := g2.nd
      have n1 := List.nodup_append.mp nd
      have n0 := List.nodup_append.mp n1.1
      refine g2.mem (n3 (List.nodup_append.mpr ⟨n1.2.1, n0.2.1, fun x hx y hy e => n1.2.2 y (by simp [hy]) x hx e.symm⟩)) fun n hn => ?_
      rcases List.mem_append.mp (m3 n hn) with t | t <;> simp [t]
    · rcases List.mem_append.mp (m3 n hn) with t | t
      · exact frs f n t
      · exact .inl (by simp [hp.mem_iff, t])
theorem Vws.inrs_zero : ∀ {cs : List Ar} {ds : List D}, inrs cs = 0 → Ars w S σ cs ds → Ars w S [] cs ds
  | [], _, _, h => h
  | .inl u :: cs, _, z, ⟨e, es, a, b, c⟩ => ⟨e, es, a, b, Vws.inrs_zero z c⟩
  | .inr u :: cs, _, z, ⟨e, es, a, b, c⟩ => by cases z
theorem alloc_good {o : Ob} (gd : Good w S W k) : Good w (S ++ [o]) (S.length :: W) k := by
  refine ⟨List.nodup_cons.mpr ⟨fun h => ?_, gd.nd⟩, fun n hn => ?_, fun n h => ⟨?_, (gd.fz n h).2⟩, fun n h => ?_⟩
  · have := (gd.own _ h).1
    omega
  · rcases List.mem_cons.mp hn with h | h
    · subst h
      refine ⟨by simp, fun h => ?_, fun h => ?_⟩
      · have := (gd.fz _ h).1
        omega
      · obtain ⟨_, _, _, e, _⟩ := gd.bg _ h
        have := (List.getElem?_eq_some_iff.mp e).1
        omega
    · have o := gd.own n h
      exact ⟨by simp; omega, o.2⟩
  · have := (gd.fz n h).1
    simp
    omega
  · obtain ⟨d, s, c, e, r⟩ := gd.bg n h
    exact ⟨d, s, c, by rw [List.getElem?_append_left (List.getElem?_eq_some_iff.mp e).1]; exact e, r⟩
theorem rel_new {Cs : Cfg} {C : PCfg} {c : Nat} {cs : List Ar} {ds : List D} (hg : Cs.g = C.g) (hF : SimF Cs C) (ha : Ars w S σ cs ds) (hv : Ews w S π σ W) (gd : Good w S (W2 ++ W) k) : RelE OwP w S (W2 ++ W) q σ (newD Cs c ds S) (unew C c cs π k) := by
  unfold unew newD
  rw [hg]
  refine .opt fun f hf => .req fun hm => .opt fun r hr => ?_
  rw [hf, R.opt_some]
  obtain ⟨ps, π0⟩ := r
  have kr0 : Kr w S w (S ++ [.ins c []]) := new_kr _ fun n h => (gd.fz n h).1
  obtain ⟨Wa, R, hp, ho, hv1, hz⟩ := take_ok (W := []) (π := []) (Vws.inrs_zero hm.2 ha) ⟨rfl, rfl⟩ hr
  have hz' := (hz hm.2).1
  subst hz'
  have ho' : Ows w (S ++ [.ins c []]) (.oo c [] [] :: ps) (.ref S.length :: ds) [S.length] := ⟨_, _, [S.length], [], rfl, by simp, ⟨S.length, [], [], rfl, rfl, by simp, rfl, rfl, rfl⟩, Ows.mono kr0 (fun n hn => by simp at hn) ho⟩
  have ga : Good w (S ++ [.ins c []]) ((W2 ++ W) ++ [S.length]) k := (alloc_good gd).perm (by
    rw [show S.length :: (W2 ++ W) = [S.length] ++ (W2 ++ W) from rfl]
    exact List.perm_append_comm)
  have s0 : Step w S w (S ++ [.ins c []]) (W2 ++ W) q := ⟨by simp, fun n hn _ _ => List.getElem?_append_left hn, fun _ h => h, fun _ h => h, fun _ h => .inl h, fun _ h => .inl h⟩
  have stp : ∀ {w' S'}, Step w (S ++ [.ins c []]) w' S' [S.length] false → Step w S w' S' (W2 ++ W) q := by
    intro w' S' s
    refine ⟨Nat.le_trans s0.le s.le, fun n hn hh hb => ?_, s.F, s.B, fun n h => ?_, fun n h => ?_⟩
    · rw [s.keep n (by simp; omega) (.inr (by simp; omega)) hb, List.getElem?_append_left hn]
    · rcases s.newF n h with h | h | h
      · exact .inl h
      · exact .inr (.inr (by simp at h; omega))
      · exact .inr (.inr (by simp at h; omega))
    · rcases s.newB n h with h | h
      · exact .inl h
      · exact .inr (by simp at h; omega)
  have hvm : ∀ {w' S'}, Step w (S ++ [.ins c []]) w' S' [S.length] false → Ews w' S' π σ W := by
    intro w' S' s
    refine Ews.mono (s.kr2 ga) (fun n hn => s.other ga n (by simp [hn])) (Ews.mono kr0 (fun n hn => ?_) hv)
    exact List.getElem?_append_left (gd.own n (by simp [hn])).1
  have fresh1 : ∀ {Wx : List Nat}, Fresh [S.length] (S ++ [.ins c []]) Wx → ∀ n, n ∈ Wx → S.length ≤ n := fun f n hn => by
    rcases f n hn with h | h
    · simp at h; omega
    · simp at h; omega
  obtain ⟨o, h1, h2⟩ := hF f _ _ w _ [S.length] k ho' ga.right
  rw [hm.1] at h2
  cases o with
  | no => exact ⟨_, .bind h1 .ret, trivial⟩
  | exc x outs k' =>
    obtain ⟨d, S', w', Wo, e, s, c', o, g, f⟩ := h2
    have g2 := ga.join s g f
    refine ⟨_, .bind h1 .ret, d, S', w', W, ?_, stp s, c', hvm s, (g2.left).right, fun n hn => .inl (by simp [hn])⟩
    rw [e]
    rfl
  | ok p outs k' =>
    obtain ⟨d, S', w', Wp, Wo, e, s, c', o, g, f⟩ := h2
    cases p with
    | sh u =>
      cases u with
      | non =>
        cases outs with
        | nil => exact ⟨_, .bind h1 .ret, trivial⟩
        | cons o1 outs =>
          cases outs with
          | cons _ _ => exact ⟨_, .bind h1 .ret, trivial⟩
          | nil =>
            have e2 : d = .non := c'.2
            have e3 : Wp = [] := c'.1
            subst e2 e3
            obtain ⟨d1, es, W1, W2', a1, a2, a3, a4⟩ := o
            have a1' : d1 = .ref S.length := by
              have := (List.cons.inj a1).1
              exact this.symm
            subst a1'
            have e4 : W2' = [] := a4.2
            subst e4
            rw [List.append_nil] at a2
            subst a2
            have g2 := ga.join s (show Good w' S' Wo k' from g) (show Fresh _ _ Wo from f)
            refine ⟨_, .bind h1 .ret, .ref S.length, S', w', Wo, W, ?_, stp s, a3, hvm s, ?_, fun n hn => ?_⟩
            · rw [e]
              rfl
            · refine (g2.perm List.perm_append_comm).sub (List.Sublist.append (.refl _) (List.sublist_append_right _ _))
            · rcases List.mem_append.mp hn with z | z
              · exact .inr (fresh1 f n z)
              · exact .inl (by simp [z])
      | _ => exact ⟨_, .bind h1 .ret, trivial⟩
    | _ => exact ⟨_, .bind h1 .ret, trivial⟩
end Cl

/-! part U9 -/
/-! Cl: the second evaluator follows the first: expressions. -/
namespace Cl
open PySem (PyData)
variable {w w' w1 w2 : Wd} {S S' S1 S2 : Sto} {W W' W1 W2 Wp Wa Wb : List Nat} {k k' : Nat} {q q' qr : Bool} {σ : Sg} {π : Env}
theorem Tr.bind_assoc {α β γ : Type} (t : Tr α) (f : α → Tr β) (g : β → Tr γ) : (t.bind f).bind g = t.bind fun a => (f a).bind g := by
  induction t with
  | ret a => rfl
  | draw m h ih => simp only [Tr.bind]; congr 1; funext r; exact ih r
theorem PR.bind_assoc {α β γ : Type} (t : PR α) (f : α → Env → Nat → PR β) (g : β → Env → Nat → PR γ) : PR.bind (PR.bind t f) g = PR.bind t fun a π k => PR.bind (f a π k) g := by
  unfold PR.bind
  rw [Tr.bind_assoc]
  congr 1
  funext o
  cases o <;> rfl
theorem RelE.bindF {γ δ : Type} {Rq : Pay γ δ} {m : R D} {t : PR O} {f : D → Sto → R δ} {g : U → Env → Nat → PR γ} (h : RelE OwP w S W q σ m t)
    (h2 : ∀ u d w1 S1 W1 π1 k1, Step w S w1 S1 W q → Fresh W S W1 → Vw w1 S1 u d → Ews w1 S1 π1 σ W1 → Good w1 S1 W1 k1 → RelE Rq w1 S1 W1 q σ (f d S1) (g u π1 k1)) :
    RelE Rq w S W q σ (m.bind f) (PR.bind t fun p π k => g p.toU π k) := by
  have := RelE.bind (f := f) (g := g) h.freeze fun a b w1 S1 Wp W1 π1 k1 s fr c e gd => by
    obtain ⟨c1, c2⟩ := c
    subst c1
    exact h2 a b w1 S1 W1 π1 k1 s fr c2 e gd
  rw [PR.bind_assoc] at this
  exact this
theorem ObP.step {fl : Bool} {u : U} {d : D} {Wp : List Nat} (h : ObP q fl w S u d Wp) (s : Step w S w' S' W q) (gd : Good w S W k) : ObP q fl w' S' u d Wp := by
  obtain ⟨h1, h2⟩ := h
  refine ⟨h1, h2.elim (fun z => .inl (Vw.mono (s.kr gd) z)) fun z => .inr ⟨z.1, z.2.1, z.2.2.mono (s.kr gd) (fun n hn hb => s.keep n hn (.inl z.1) hb) fun n hn hb => ?_⟩⟩
  rcases s.newB n hb with h | h
  · exact h
  · omega
theorem ObP.lv {fl : Bool} {u : U} {d : D} {Wp : List Nat} (h : ObP q fl w S u d Wp) : Lv w S u d := h.2.elim .inl fun z => .inr z.2.2
theorem ObP.vw {fl : Bool} {u : U} {d : D} {Wp : List Nat} (h : ObP q fl w S u d Wp) (e : fl = true) : Vw w S u d := h.2.elim (fun z => z) fun z => by rw [e] at z; cases z.2.1
theorem cls_none {u : U} {d : D} (h : Lv w S u d) (gd : Good w S W k) (e : ucls u = none) : insCls S d = none := by
  cases u with
  | lst xs => obtain ⟨n, ds, rfl, a, v⟩ := lv_lst h; unfold insCls; dsimp only; rw [a]
  | non => rw [lv_non h]; rfl
  | bl b => rw [lv_bl h]; rfl
  | int b => rw [lv_int h]; rfl
  | str b => rw [lv_str h]; rfl
  | tup xs => obtain ⟨ds, rfl, c⟩ := lv_tup h; rfl
  | ob c ns vs => cases e
  | exn c vs => obtain ⟨ds, rfl, _⟩ := lv_vw h (by intro xs; simp); rfl
  | bag =>
    obtain ⟨n, rfl, b⟩ := lv_vw h (by intro xs; simp)
    obtain ⟨_, _, _, e, _⟩ := gd.bg n b
    unfold insCls; dsimp only; rw [e]
  | scr ns => obtain ⟨n, rfl, a⟩ := lv_scr h; unfold insCls; dsimp only; rw [a]
theorem ucls_some {u : U} {c : Nat} (e : ucls u = some c) : ∃ ns vs, u = .ob c ns vs := by
  cases u with
  | ob c' ns vs => cases e; exact ⟨ns, vs, rfl⟩
  | _ => cases e
theorem cls_some {u : U} {d : D} {c : Nat} (h : Lv w S u d) (e : ucls u = some c) : Vw w S u d ∧ insCls S d = some c := by
  obtain ⟨ns, vs, rfl⟩ := ucls_some e
  have h' := lv_vw h (by intro xs; simp)
  refine ⟨h', ?_⟩
  obtain ⟨n, gs, rfl, _, a, _⟩ := h'
  unfold insCls; dsimp only; rw [a]
theorem vws2 {a b : U} {x y : D} (h : Vw w S a x) (h2 : Vw w S b y) : Vws w S [a, b] [x, y] := ⟨_, _, rfl, h, _, _, rfl, h2, rfl⟩
theorem vws1 {a : U} {x : D} (h : Vw w S a x) : Vws w S [a] [x] := ⟨_, _, rfl, h, rfl⟩
theorem rel_ok0 {α β : Type} {Rp : Pay α β} {a : α} {b : β} (c : Rp w S a b []) (e : Ews w S π σ W) (g : Good w S W k) : RelE Rp w S W q σ (.ok b S) (PR.ok a π k) := rel_ok (Wp := []) c e g .refl
theorem NewR.rel0 {m : R D} {p : O} (h : NewR w S m p) (hv : Ews w S π σ W) (gd : Good w S W k) : RelE OwP w S W q σ m (PR.ok p π k) := NewR.rel (W2 := []) h hv gd
theorem rel_callU0 {Cs : Cfg} {C : PCfg} {f : Nat} {us : List U} {ds : List D} (hF : SimF Cs C) (v : Vws w S us ds) (hv : Ews w S π σ W) (gd : Good w S W k) : RelE OwP w S W q σ (Cs.call f ds S) (callU C f us π k) := rel_callU (W2 := []) hF v hv gd
theorem rel_toB {m : R D} {t : PR O} (b : Bool) (h : RelE OwP w S W q σ m t) : RelE EqP w S W q σ (toB m b) (utoB t b) := by
  unfold toB utoB
  refine h.bind fun p d w1 S1 Wp W1 π1 k1 s fr c e gd => ?_
  cases p with
  | sh u =>
    cases u with
    | bl x =>
      obtain ⟨c1, c2⟩ := c
      subst c1
      rw [show d = .bl x from c2]
      exact rel_ok0 ⟨rfl, rfl⟩ e gd
    | _ => exact rel_no
  | _ => exact rel_no
section
variable {Cs : Cfg} {C : PCfg}
theorem rel_ubin {o : Op} {x y : U} {dx dy : D} {fy : Bool} (hg : Cs.g = C.g) (hF : SimF Cs C) (hx : Lv w S x dx) (hy : Lv w S y dy) (hfy : fy = true → Vw w S y dy) (hv : Ews w S π σ W) (gd : Good w S W k) : RelE OwP w S W q σ (binopD Cs o dx dy S) (ubin C o x y fy π k) := by
  unfold ubin binopD
  cases hc : ucls x with
  | none =>
    rw [cls_none hx gd hc]
    exact .opt fun p hp => (vbin_ok hx hy hp).rel0 hv gd
  | some c =>
    obtain ⟨hx', hc'⟩ := cls_some hx hc
    rw [hc', hg]
    cases o with
    | add =>
      refine .req fun hf => .opt fun f hm => ?_
      dsimp only
      rw [hm, R.opt_some]
      exact rel_callU0 hF (vws2 hx' (hfy hf)) hv gd
    | _ => exact rel_no
theorem rel_ucmp {o : Cm} {x y : U} {dx dy : D} {fx fy : Bool} (hg : Cs.g = C.g) (hF : SimF Cs C) (hx : Lv w S x dx) (hy : Lv w S y dy) (hfx : fx = true → Vw w S x dx) (hfy : fy = true → Vw w S y dy) (hv : Ews w S π σ W) (gd : Good w S W k) : RelE EqP w S W q σ (cmpD Cs o dx dy S) (ucmp C o x y fx fy π k) := by
  have plain : ∀ o', RelE EqP w S W q σ (R.opt (cmpop o' dx dy S) fun b => R.ok b S) (PR.opt (vcmp o' x y) fun b => PR.ok b π k) := fun o' => .opt fun b hb => by
    rw [vcmp_ok hx hy hb, R.opt_some]
    exact rel_ok0 ⟨rfl, rfl⟩ hv gd
  cases o with
  | eq =>
    unfold ucmp cmpD
    dsimp only
    cases hc : ucls x with
    | none => rw [cls_none hx gd hc]; exact plain .eq
    | some c =>
      obtain ⟨hx', hc'⟩ := cls_some hx hc
      rw [hc', hg]
      exact .req fun hf => .opt fun f hm => by
        dsimp only
        rw [hm, R.opt_some]
        exact rel_toB _ (rel_callU0 hF (vws2 hx' (hfy hf)) hv gd)
  | ne =>
    unfold ucmp cmpD
    dsimp only
    cases hc : ucls x with
    | none => rw [cls_none hx gd hc]; exact plain .ne
    | some c =>
      obtain ⟨hx', hc'⟩ := cls_some hx hc
      rw [hc', hg]
      exact .req fun hf => .opt fun f hm => by
        dsimp only
        rw [hm, R.opt_some]
        exact rel_toB _ (rel_callU0 hF (vws2 hx' (hfy hf)) hv gd)
  | isin =>
    unfold ucmp cmpD
    dsimp only
    cases hc : ucls y with
    | none => rw [cls_none hy gd hc]; exact plain .isin
    | some c =>
      obtain ⟨hy', hc'⟩ := cls_some hy hc
      rw [hc', hg]
      exact .req fun hf => .opt fun f hm => by
        dsimp only
        rw [hm, R.opt_some]
        exact rel_toB _ (rel_callU0 hF (vws2 hy' (hfx hf)) hv gd)
  | notin =>
    unfold ucmp cmpD
    dsimp only
    cases hc : ucls y with
    | none => rw [cls_none hy gd hc]; exact plain .notin
    | some c =>
      obtain ⟨hy', hc'⟩ := cls_some hy hc
      rw [hc', hg]
      exact .req fun hf => .opt fun f hm => by
        dsimp only
        rw [hm, R.opt_some]
        exact rel_toB _ (rel_callU0 hF (vws2 hy' (hfx hf)) hv gd)
  | lt => exact plain .lt
  | le => exact plain .le
  | gt => exact plain .gt
  | ge => exact plain .ge
  | is => exact plain .is
  | isnot => exact plain .isnot
theorem rel_uidx {x y : U} {dx dy : D} (hg : Cs.g = C.g) (hF : SimF Cs C) (hx : Lv w S x dx) (hy : Vw w S y dy) (hv : Ews w S π σ W) (gd : Good w S W k) : RelE OwP w S W q σ (indexD Cs dx dy S) (uidx C x y π k) := by
  unfold uidx indexD
  cases hc : ucls x with
  | none =>
    rw [cls_none hx gd hc]
    exact .opt fun u hp => by
      obtain ⟨d, h1, h2⟩ := vidx_ok hx hy.lv hp
      dsimp only
      rw [h1]
      exact rel_ok0 ⟨rfl, h2⟩ hv gd
  | some c =>
    obtain ⟨hx', hc'⟩ := cls_some hx hc
    rw [hc', hg]
    exact .opt fun f hm => by
      dsimp only
      rw [hm, R.opt_some]
      exact rel_callU0 hF (vws2 hx' hy) hv gd
theorem rel_ublt1 {b : Bf} {x : U} {dx : D} (hg : Cs.g = C.g) (hF : SimF Cs C) (hx : Lv w S x dx) (hv : Ews w S π σ W) (gd : Good w S W k) : RelE OwP w S W q σ (bltD Cs b [dx] S) (ublt C b [x] π k) := by
  unfold ublt bltD
  dsimp only
  cases hc : ucls x with
  | none =>
    rw [cls_none hx gd hc]
    exact .opt fun p hp => (vblt_ok (show Lvs w S [x] [dx] from ⟨dx, [], rfl, hx, rfl⟩) hp).rel0 hv gd
  | some c =>
    obtain ⟨hx', hc'⟩ := cls_some hx hc
    rw [hc', hg]
    exact .opt fun m hm => .opt fun f hf => by
      dsimp only
      rw [hm, R.opt_some, hf, R.opt_some]
      exact rel_callU0 hF (vws1 hx') hv gd
theorem rel_ublt {b : Bf} {us : List U} {ds : List D} (hg : Cs.g = C.g) (hF : SimF Cs C) (h : Vws w S us ds) (hv : Ews w S π σ W) (gd : Good w S W k) : RelE OwP w S W q σ (bltD Cs b ds S) (ublt C b us π k) := by
  cases us with
  | nil => rw [show ds = [] from h]; exact .opt fun p hp => (vblt_ok (show Lvs w S [] [] from rfl) hp).rel0 hv gd
  | cons u us =>
    obtain ⟨d, es, rfl, h1, h2⟩ := h
    cases us with
    | nil =>
      rw [show es = [] from h2]
      exact rel_ublt1 hg hF h1.lv hv gd
    | cons v us =>
      obtain ⟨d2, es2, rfl, h3, h4⟩ := h2
      exact .opt fun p hp => (vblt_ok (Vws.lvs (show Vws w S (u :: v :: us) (d :: d2 :: es2) from ⟨d, _, rfl, h1, d2, es2, rfl, h3, h4⟩)) hp).rel0 hv gd
theorem ulook_ok {f : String} : ∀ {ns : List String} {vs : List U} {gs : List (String × D)} {u : U}, ulook f ns vs = some u → gs.map (·.1) = ns → Vws w S vs (gs.map (·.2)) → ∃ d, gs.lookup f = some d ∧ Vw w S u d
  | [], _, _, _, h, _, _ => by unfold ulook at h; cases h
  | _ :: _, [], _, _, h, _, _ => by unfold ulook at h; cases h
  | n :: ns, v :: vs, [], _, h, e, _ => by cases e
  | n :: ns, v :: vs, (g, d0) :: gs, u, h, e, o => by
    obtain ⟨d, es, a, b, c⟩ := o
    have e1 : g = n := by simpa using (List.cons.inj e).1
    have e2 : gs.map (·.1) = ns := (List.cons.inj e).2
    have a1 : d0 = d := by simpa using (List.cons.inj a).1
    have a2 : gs.map (·.2) = es := (List.cons.inj a).2
    subst e1 a1
    unfold ulook at h
    by_cases hf : g = f
    · rw [if_pos hf] at h
      cases h
      subst hf
      exact ⟨d0, by simp [List.lookup], b⟩
    · rw [if_neg hf] at h
      rw [← a2] at c
      obtain ⟨d', h1, h2⟩ := ulook_ok h e2 c
      refine ⟨d', ?_, h2⟩
      have : (f == g) = false := by simp; exact fun h => hf h.symm
      simp [List.lookup, this, h1]
theorem rel_ufld {u : U} {d : D} {f : String} (hg : Cs.g = C.g) (hF : SimF Cs C) (hx : Vw w S u d) (hv : Ews w S π σ W) (gd : Good w S W k) : RelE OwP w S W q σ (fldGet Cs d f S) (ufld C u f π k) := by
  cases u with
  | ob c ns vs =>
    have hx0 := hx
    obtain ⟨n, gs, rfl, hf, a, b, v⟩ := hx
    unfold ufld fldGet
    dsimp only
    rw [a, hg]
    dsimp only
    cases hp : C.g.prop c f with
    | some p => exact rel_callU0 hF (vws1 hx0) hv gd
    | none =>
      exact .opt fun u hu => by
        obtain ⟨d, h1, h2⟩ := ulook_ok hu b v
        dsimp only
        rw [h1, R.opt_some]
        exact rel_ok0 ⟨rfl, h2⟩ hv gd
  | exn c fs =>
    obtain ⟨ds, rfl, v⟩ := hx
    unfold ufld fldGet
    dsimp only
    rw [hg]
    exact .opt fun i hi => .opt fun u hu => by
      obtain ⟨d, h1, h2⟩ := v.get hu
      rw [hi, R.opt_some, h1, R.opt_some]
      exact rel_ok0 ⟨rfl, h2⟩ hv gd
  | _ => exact rel_no
theorem cat_ok : ∀ {st : List Bool} {us xs : List U} {ds : List D}, Vws w S us ds → ucat st us = some xs → ∃ es, catAll S st ds = some es ∧ Vws w S xs es
  | [], [], xs, ds, h, e => by
    rw [show ds = [] from h]
    cases e
    exact ⟨[], rfl, rfl⟩
  | true :: st, u :: us, xs, _, ⟨d, es, a, b, c⟩, e => by
    cases u with
    | tup ys =>
      obtain ⟨zs, h1, rfl⟩ := Option.map_eq_some_iff.mp (show (ucat st us).map _ = _ from e)
      obtain ⟨ds, rfl, v⟩ := b
      obtain ⟨es2, h2, h3⟩ := cat_ok c h1
      refine ⟨ds ++ es2, ?_, v.app h3⟩
      rw [a]
      show (catAll S st es).map _ = _
      rw [h2]
      rfl
    | lst ys =>
      obtain ⟨zs, h1, rfl⟩ := Option.map_eq_some_iff.mp (show (ucat st us).map _ = _ from e)
      obtain ⟨n, ds, rfl, _, hn, v⟩ := b
      obtain ⟨es2, h2, h3⟩ := cat_ok c h1
      refine ⟨ds ++ es2, ?_, v.app h3⟩
      rw [a]
      show (match getQ S n with
        | some xs => (catAll S st es).map (xs ++ ·)
        | none => none) = _
      rw [qL hn]
      dsimp only
      rw [h2]
      rfl
    | _ => cases e
  | false :: st, u :: us, xs, _, ⟨d, es, a, b, c⟩, e => by
    obtain ⟨zs, h1, rfl⟩ := Option.map_eq_some_iff.mp (show (ucat st us).map _ = _ from (by unfold ucat at e; exact e))
    obtain ⟨es2, h2, h3⟩ := cat_ok c h1
    refine ⟨d :: es2, ?_, d, es2, rfl, b, h3⟩
    rw [a]
    unfold catAll
    rw [h2]
    rfl
  | [], _ :: _, xs, ds, h, e => by cases e
  | true :: _, [], xs, ds, h, e => by cases e
  | false :: _, [], xs, ds, h, e => by cases e
theorem recvO_some {a : E} {i c : Nat} (h : recvO π a = some (i, c)) : a = .var i ∧ ∃ ns ps, getO π i = some (.oo c ns ps) := by
  unfold recvO at h
  split at h
  · rename_i j
    cases ho : getO π j with
    | none => rw [ho] at h; cases h
    | some o =>
      rw [ho] at h
      cases o with
      | oo c' ns ps => cases h; exact ⟨rfl, ns, ps, ho⟩
      | _ => cases h
  · cases h
end
end Cl

/-! part U10 -/
/-! Cl: the second evaluator follows the first: slots, targets, comprehensions. -/
namespace Cl
open PySem (PyData)
variable {w w' w1 w2 : Wd} {S S' S1 S2 : Sto} {W W' W1 W2 W3 Wp Wa Wb : List Nat} {k k' : Nat} {q q' qr : Bool} {σ σ' : Sg} {π : Env}
structure Sub (W' W : List Nat) : Prop where
  mem : ∀ n, n ∈ W' → n ∈ W
  nd : W.Nodup → W'.Nodup
theorem Sub.refl : Sub W W := ⟨fun _ h => h, fun h => h⟩
theorem Sub.trans (a : Sub W1 W2) (b : Sub W2 W3) : Sub W1 W3 := ⟨fun n h => b.mem n (a.mem n h), fun h => a.nd (b.nd h)⟩
theorem Sub.of {R : List Nat} (h : R.Sublist W) (p : W'.Perm R) : Sub W' W := ⟨fun n hn => h.subset (p.mem_iff.mp hn), fun hn => p.nodup_iff.mpr (h.nodup hn)⟩
theorem Sub.app (A : List Nat) (h : Sub W' W) : Sub (A ++ W') (A ++ W) := by
  refine ⟨fun n hn => ?_, fun hn => ?_⟩
  · rcases List.mem_append.mp hn with z | z
    · simp [z]
    · simp [h.mem n z]
  · have := List.nodup_append.mp hn
    exact List.nodup_append.mpr ⟨this.1, h.nd this.2.1, fun x hx y hy => this.2.2 x hx y (h.mem y hy)⟩
theorem Good.subs (g : Good w S W k) (h : Sub W' W) : Good w S W' k := g.mem (h.nd g.nd) h.mem
theorem Sub.fresh {A : List Nat} (h : Sub W' W) : Fresh (A ++ W) S (A ++ W') := fun n hn => .inl ((Sub.app A h).mem n hn)
theorem Ews.agree : ∀ {π : Env} {σ σ' : Sg} {W : List Nat}, Ews w S π σ W → σ'.length = σ.length → (∀ i, i < π.length → getO π i ≠ none → σ'[i]? = σ[i]?) → Ews w S π σ' W
  | [], σ, σ', W, ⟨a, b⟩, hl, _ => ⟨by rw [a] at hl; simpa using hl, b⟩
  | none :: π, σ, σ', W, ⟨x, σ1, a, b⟩, hl, h => by
    rw [a] at hl
    cases σ' with
    | nil => cases hl
    | cons y σ2 =>
      refine ⟨y, σ2, rfl, Ews.agree b (by simpa using hl) fun i hi hn => ?_⟩
      have := h (i + 1) (by simpa using hi) (by unfold getO at hn ⊢; simpa using hn)
      rw [a] at this
      simpa using this
  | some p :: π, σ, σ', W, ⟨d, σ1, W1, W2, a, b, c, g⟩, hl, h => by
    rw [a] at hl
    cases σ' with
    | nil => cases hl
    | cons y σ2 =>
      have h0 := h 0 (by simp) (by unfold getO; simp)
      rw [a] at h0
      have h0' : y = some d := by simpa using h0
      subst h0'
      refine ⟨d, σ2, W1, W2, rfl, b, c, Ews.agree g (by simpa using hl) fun i hi hn => ?_⟩
      have := h (i + 1) (by simpa using hi) (by unfold getO at hn ⊢; simpa using hn)
      rw [a] at this
      simpa using this
theorem getO_set_none {π : Env} {i j : Nat} : getO (π.set i none) j = if i = j then none else getO π j := by
  unfold getO
  by_cases h : i = j
  · subst h
    rw [if_pos rfl]
    by_cases hl : i < π.length
    · rw [List.getElem?_set_self hl]
    · rw [List.getElem?_eq_none (by simp; omega)]
  · rw [if_neg h, List.getElem?_set_ne h]
theorem uwipe_len (π : Env) : ∀ l : List Nat, (uwipe π l).length = π.length
  | [] => rfl
  | v :: vs => by unfold uwipe; rw [List.length_set, uwipe_len π vs]
theorem wipe_len (σ : Sg) : ∀ l : List Nat, (wipe σ l).length = σ.length
  | [] => rfl
  | v :: vs => by unfold wipe; rw [List.length_set, wipe_len σ vs]
theorem uwipe_get {π : Env} {i : Nat} : ∀ {l : List Nat}, getO (uwipe π l) i ≠ none → i ∉ l
  | [], _ => by simp
  | v :: vs, h => by
    unfold uwipe at h
    rw [getO_set_none] at h
    by_cases e : v = i
    · rw [if_pos e] at h
      exact absurd rfl h
    · rw [if_neg e] at h
      have := uwipe_get h
      simp [this]
      exact fun z => e z.symm
theorem wipe_gets {σ : Sg} {i : Nat} : ∀ {l : List Nat}, i ∉ l → (wipe σ l)[i]? = σ[i]?
  | [], _ => rfl
  | v :: vs, h => by
    simp at h
    unfold wipe
    rw [List.getElem?_set_ne (fun e => h.1 e.symm), wipe_gets h.2]
theorem Ews.wipe1 : ∀ {l : List Nat}, Ews w S π σ W → ∃ R, Sub R W ∧ Ews w S (uwipe π l) σ R
  | [], h => ⟨W, .refl, h⟩
  | v :: vs, h => by
    obtain ⟨R, h1, h2⟩ := Ews.wipe1 (l := vs) h
    obtain ⟨R2, h3, h4⟩ := Ews.drop v h2
    exact ⟨R2, (Sub.of h3 (.refl _)).trans h1, h4⟩
theorem Ews.set1 {i : Nat} {p : O} {d : D} (h : Ews w S π σ W) (c : Ow w S p d Wp) : ∃ W', Ews w S (π.set i (some p)) (σ.set i (some d)) W' ∧ Sub W' (Wp ++ W) := by
  obtain ⟨W', a, R, b, c⟩ := h.put (i := i) c
  exact ⟨W', a, Sub.of b c⟩
theorem setAll_ok : ∀ {is : List Nat} {us : List U} {ds : List D} {π : Env} {σ : Sg} {W : List Nat}, Vws w S us ds → Ews w S π σ W → ∃ W', Ews w S (setAllU π is us) (setAll σ is ds) W' ∧ Sub W' W
  | [], us, ds, π, σ, W, _, h => ⟨W, by unfold setAllU setAll; exact h, .refl⟩
  | i :: is, [], ds, π, σ, W, v, h => by
    rw [show ds = [] from v]
    exact ⟨W, by unfold setAllU setAll; exact h, .refl⟩
  | i :: is, u :: us, _, π, σ, W, ⟨d, es, a, b, c⟩, h => by
    rw [a]
    obtain ⟨W1, h1, h2⟩ := h.set1 (i := i) (p := .sh u) (Wp := []) ⟨rfl, b⟩
    obtain ⟨W2, h3, h4⟩ := setAll_ok (is := is) c h1
    exact ⟨W2, by unfold setAllU setAll; exact h3, h4.trans h2⟩
theorem setAllO_ok : ∀ {is : List Nat} {ps : List O} {ds : List D} {π : Env} {σ : Sg} {W Wp : List Nat}, Ows w S ps ds Wp → Ews w S π σ W → ∃ W', Ews w S (setAllO π is ps) (setAll σ is ds) W' ∧ Sub W' (Wp ++ W)
  | [], ps, ds, π, σ, W, Wp, _, h => ⟨W, by unfold setAllO setAll; exact h, Sub.of (List.sublist_append_right _ _) (.refl _)⟩
  | i :: is, [], ds, π, σ, W, Wp, v, h => by
    rw [v.1]
    exact ⟨W, by unfold setAllO setAll; exact h, Sub.of (List.sublist_append_right _ _) (.refl _)⟩
  | i :: is, u :: us, _, π, σ, W, Wp, ⟨d, es, W1, W2, a, b, c, g⟩, h => by
    rw [a]
    obtain ⟨W3, h1, h2⟩ := h.set1 (i := i) c
    obtain ⟨W4, h3, h4⟩ := setAllO_ok (is := is) g h1
    refine ⟨W4, by unfold setAllO setAll; exact h3, h4.trans ((Sub.app W2 h2).trans ⟨fun n hn => ?_, fun hn => ?_⟩)⟩
    · rw [b]; simp at hn ⊢; rcases hn with z | z | z <;> simp [z]
    · rw [b] at hn
      refine (List.Perm.nodup_iff ?_).mp hn
      rw [← List.append_assoc]
      exact List.Perm.append_right W List.perm_append_comm
theorem setAll_len : ∀ {is : List Nat} {ds : List D} {σ : Sg}, (setAll σ is ds).length = σ.length
  | [], _, _ => by unfold setAll; rfl
  | _ :: _, [], _ => by unfold setAll; rfl
  | i :: is, d :: ds, σ => by unfold setAll; rw [setAll_len, List.length_set]
theorem setAll_get {j : Nat} : ∀ {is : List Nat} {ds : List D} {σ : Sg}, j ∉ is → (setAll σ is ds)[j]? = σ[j]?
  | [], _, _, _ => by unfold setAll; rfl
  | _ :: _, [], _, _ => by unfold setAll; rfl
  | i :: is, d :: ds, σ, h => by
    simp at h
    unfold setAll
    rw [setAll_get h.2, List.getElem?_set_ne (fun e => h.1 e.symm)]
theorem target_ok {tg : List Nat} {tp : Bool} {u : U} {d : D} {π3 : Env} (v : Vw w S u d) (h : Ews w S π σ W) (e : utarget tg tp u π = some π3) : ∃ σ3 W', target tg tp d σ S = some σ3 ∧ Ews w S π3 σ3 W' ∧ Sub W' W ∧ σ3.length = σ.length ∧ ∀ j, j ∉ tg → σ3[j]? = σ[j]? := by
  unfold utarget at e
  cases tp with
  | false =>
    dsimp only at e
    split at e
    · cases e
      rename_i i
      obtain ⟨W', h1, h2⟩ := h.set1 (i := i) (p := .sh u) (Wp := []) ⟨rfl, v⟩
      exact ⟨_, W', rfl, h1, h2, by simp, fun j hj => by simp at hj; exact List.getElem?_set_ne (fun e => hj e.symm)⟩
    · cases e
  | true =>
    dsimp only at e
    split at e
    · split at e
      · cases e
        rename_i us hl
        obtain ⟨ds, rfl, v'⟩ := v
        obtain ⟨W', h1, h2⟩ := setAll_ok (is := tg) v' h
        refine ⟨_, W', ?_, h1, h2, setAll_len, fun j hj => setAll_get hj⟩
        unfold target
        dsimp only
        rw [if_pos (by rw [v'.len]; exact hl)]
      · cases e
    · split at e
      · cases e
        rename_i us hl
        obtain ⟨n, ds, rfl, _, hn, v'⟩ := v
        obtain ⟨W', h1, h2⟩ := setAll_ok (is := tg) v' h
        refine ⟨_, W', ?_, h1, h2, setAll_len, fun j hj => setAll_get hj⟩
        unfold target
        dsimp only
        rw [qL hn]
        dsimp only
        rw [if_pos (by rw [v'.len]; exact hl)]
      · cases e
    · cases e
/-! ### comprehensions -/
def OptP : Pay (Option U) (Option D) := fun w S a b Wp => Wp = [] ∧ match a, b with
  | none, none => True
  | some u, some d => Vw w S u d
  | _, _ => False
/-- an outcome that is no exception -/
def RelN {α β : Type} (Rp : Pay α β) (w : Wd) (S : Sto) (W : List Nat) (q : Bool) (σ : Sg) (m : R β) (t : PR α) : Prop := ∃ o, t.Has o ∧ RelO Rp w S W q σ m o ∧ ∀ x π k, o ≠ .exc x π k
theorem comp_rel {f : D → Sto → R (Option D)} {g : U → Env → Nat → PR (Option U)} {wk : Wk} {all : List D} {w0 : Wd} {S0 : Sto}
    (hat : ∀ S', (∀ n, w0.F n → S'[n]? = S0[n]?) → ∀ i, wk.at i S' = some all[i]?)
    (hb : ∀ u d w S W π k, Vw w S u d → Ews w S π σ W → Good w S W k → RelN OptP w S W q σ (f d S) (g u π k)) :
    ∀ (us : List U) (ds : List D) (i n : Nat) (accU : List U) (accD : List D) (w : Wd) (S : Sto) (W : List Nat) (π : Env) (k : Nat), all.drop i = ds → Vws w S us ds → Kr w0 S0 w S → Ews w S π σ W → Good w S W k → Vws w S accU accD → accD.length ≤ i → i + ds.length ≤ LIM → ds.length < n →
      RelE VwsP w S W q σ (compLoop f wk n i accD S) ((pComp g us π k).bind fun ys π2 k2 => .ok (accU ++ ys) π2 k2)
  | [], ds, i, n, accU, accD, w, S, W, π, k, hd, v, kr, hv, gd, va, ha, hl, hn => by
    rw [show ds = [] from v] at hd hn
    cases n with
    | zero => simp at hn
    | succ n =>
      unfold compLoop pComp
      rw [hat S (fun n hn => kr.keep n hn) i]
      have : all[i]? = none := by
        have := List.drop_eq_nil_iff.mp hd
        exact List.getElem?_eq_none this
      rw [this, R.opt_some, PR.bind_ok, List.append_nil]
      exact rel_ok0 ⟨rfl, va⟩ hv gd
  | u :: us, _, i, n, accU, accD, w, S, W, π, k, hd, ⟨d, es, a, b, c⟩, kr, hv, gd, va, ha, hl, hn => by
    subst a
    cases n with
    | zero => simp at hn
    | succ n =>
      have h0 : all[i]? = some d := by
        have : (all.drop i)[0]? = some d := by rw [hd]; rfl
        simpa using this
      have h1 : all.drop (i + 1) = es := by
        have : (all.drop i).drop 1 = es := by rw [hd]; rfl
        simpa [List.drop_drop, Nat.add_comm] using this
      have step : compLoop f wk (n + 1) i accD S = match f d S with
        | .ok none S1 => compLoop f wk n (i + 1) accD S1
        | .ok (some y) S1 => R.req (accD.length < LIM) (compLoop f wk n (i + 1) (accD ++ [y]) S1)
        | .exc _ _ => .no
        | .no => .no := by
        rw [compLoop, hat S (fun n hn => kr.keep n hn) i, h0, R.opt_some]
        try rfl
      have eq2 : (PR.bind (pComp g (u :: us) π k) fun ys π2 k2 => PR.ok (accU ++ ys) π2 k2) = PR.bind (g u π k) fun y π1 k1 => PR.bind (pComp g us π1 k1) fun ys π2 k2 => PR.ok (accU ++ (y.toList ++ ys)) π2 k2 := by
        rw [pComp, PR.bind_assoc]
        congr 1
        funext y π1 k1
        rw [PR.bind_assoc]
        rfl
      rw [step, eq2]
      obtain ⟨o, ho, hr, hx⟩ := hb u d w S W π k b hv gd
      cases o with
      | no => exact ⟨_, .bind ho .ret, trivial⟩
      | exc x π' k' => exact absurd rfl (hx x π' k')
      | ok y π1 k1 =>
        obtain ⟨yd, S1, w1, Wp, W1, e, s, c1, v1, g1, f1⟩ := hr
        obtain ⟨c0, c1⟩ := c1
        subst c0
        have kr1 := s.kr gd
        have kr2 : Kr w0 S0 w1 S1 := ⟨fun n h => kr1.F n (kr.F n h), fun n h => kr1.B n (kr.B n h), fun n h => (kr1.keep n (kr.F n h)).trans (kr.keep n h)⟩
        simp only [List.length_cons] at hl hn
        have fin : ∀ {m t}, RelE VwsP w1 S1 W1 q σ m t → RelE VwsP w S W q σ m t := by
          intro m t h
          obtain ⟨o2, k1, k2⟩ := h
          refine ⟨o2, k1, ?_⟩
          cases o2 with
          | no => trivial
          | ok c2 π2 k2' =>
            obtain ⟨b2, S2, w2, Wp2, W2, e2, s2, r2, v2, gd2, fr2⟩ := k2
            exact ⟨b2, S2, w2, Wp2, W2, e2, s.trans s2 f1 (fun h => h), r2, v2, gd2, f1.trans fr2 s.le⟩
          | exc x π2 k2' =>
            obtain ⟨d, S2, w2, W2, e2, s2, r2, v2, gd2, fr2⟩ := k2
            exact ⟨d, S2, w2, W2, e2, s.trans s2 f1 (fun h => h), r2, v2, gd2, f1.trans fr2 s.le⟩
        have glue : ∀ {m t}, RelE VwsP w S W q σ m t → (t = PR.bind (pComp g us π1 k1) fun ys π2 k2 => PR.ok (accU ++ (y.toList ++ ys)) π2 k2) → RelE VwsP w S W q σ m (PR.bind (g u π k) fun y π1 k1 => PR.bind (pComp g us π1 k1) fun ys π2 k2 => PR.ok (accU ++ (y.toList ++ ys)) π2 k2) := by
          intro m t h e
          obtain ⟨o2, k1', k2⟩ := h
          subst e
          exact ⟨o2, .bind ho k1', k2⟩
        rw [e]
        cases y with
        | none =>
          cases yd with
          | some _ => exact c1.elim
          | none =>
            dsimp only
            refine glue (fin (comp_rel hat hb us es (i + 1) n accU accD w1 S1 W1 π1 k1 h1 (Vws.mono kr1 c) kr2 v1 g1 (Vws.mono kr1 va) (by omega) (by omega) (by omega))) rfl
        | some yu =>
          cases yd with
          | none => exact c1.elim
          | some yd =>
            dsimp only
            rw [R.req_of (by omega)]
            refine glue (fin (comp_rel hat hb us es (i + 1) n (accU ++ [yu]) (accD ++ [yd]) w1 S1 W1 π1 k1 h1 (Vws.mono kr1 c) kr2 v1 g1 (Vws.app (Vws.mono kr1 va) (vws1 c1)) (by simp; omega) (by omega) (by omega))) ?_
            congr 1
            funext ys π2 k2
            simp
theorem RelN.of_noExc {α β : Type} {Rp : Pay α β} {m : R β} {t : PR α} (h : RelE Rp w S W q σ m t) : RelN Rp w S W q σ m (noExc t) := by
  obtain ⟨o, h1, h2⟩ := h
  cases o with
  | no => exact ⟨.no, .bind h1 .ret, trivial, fun _ _ _ h => by cases h⟩
  | ok a π k => exact ⟨.ok a π k, .bind h1 .ret, h2, fun _ _ _ h => by cases h⟩
  | exc x π k => exact ⟨.no, .bind h1 .ret, trivial, fun _ _ _ h => by cases h⟩
end Cl

/-! part U11 -/
/-! Cl: the second evaluator follows the first: expressions, by induction. -/
namespace Cl
open PySem (PyData)
variable {Cs : Cfg} {C : PCfg}
theorem and_q {a b : Bool} : ((a && b) = true → a = true) ∧ ((a && b) = true → b = true) := ⟨fun h => by rw [Bool.and_eq_true] at h; exact h.1, fun h => by rw [Bool.and_eq_true] at h; exact h.2⟩
/-- a turn of a comprehension -/
theorem turn_rel {w : Wd} {S : Sto} {W : List Nat} {q : Bool} {σ : Sg} {π : Env} {k : Nat} {tg : List Nat} {tp : Bool} {own : List Nat} {u : U} {d : D} {Y : Sg → Sto → R (Option D)} {X : Env → PR (Option U)}
    (htg : (tg.all fun i => own.contains i) = true) (v : Vw w S u d) (hv : Ews w S π σ W) (gd : Good w S W k) (h : ∀ {σ3 π3 W3}, Ews w S π3 σ3 W3 → Good w S W3 k → RelE OptP w S W3 q σ3 (Y σ3 S) (X π3)) :
    RelN OptP w S W q σ (R.opt (target tg tp d (wipe σ own) S) fun σ2 => Y σ2 S) (PR.opt (utarget tg tp u (uwipe π own)) fun π3 => (noExc (X π3)).bind fun y π6 k6 => .ok y (uwipe π6 own) k6) := by
  cases ht : utarget tg tp u (uwipe π own) with
  | none => exact ⟨.no, .ret, trivial, fun _ _ _ h => by cases h⟩
  | some π3 =>
    obtain ⟨R0, sb, v0⟩ := Ews.wipe1 (l := own) hv
    have v0' : Ews w S (uwipe π own) (wipe σ own) R0 := v0.agree (wipe_len σ own) fun i _ hi => wipe_gets (uwipe_get hi)
    obtain ⟨σ3, W3, h1, h2, h3, h4, h5⟩ := target_ok v v0' ht
    rw [h1, R.opt_some, PR.opt_some]
    have sb3 := h3.trans sb
    obtain ⟨o, k1, k2, k3⟩ := RelN.of_noExc (h h2 (gd.subs sb3))
    cases o with
    | no => exact ⟨.no, .bind k1 .ret, trivial, fun _ _ _ h => by cases h⟩
    | exc x π k => exact absurd rfl (k3 x π k)
    | ok y π6 k6 =>
      obtain ⟨b, S', w', Wp, W', e, s, r, v1, g1, f1⟩ := k2
      obtain ⟨R1, sb1, v2⟩ := Ews.wipe1 (l := own) v1
      have v3 : Ews w' S' (uwipe π6 own) σ R1 := v2.agree (by rw [h4, wipe_len]) fun i _ hi => by
        have hi' := uwipe_get hi
        rw [h5 i ?_, wipe_gets hi']
        intro hm
        exact hi' (by have := List.all_eq_true.mp htg i hm; simpa using this)
      refine ⟨.ok y (uwipe π6 own) k6, .bind k1 .ret, ⟨b, S', w', Wp, R1, e, s.weaken sb3.mem (fun h => h), r, v3, g1.subs (Sub.app Wp sb1), fun n hn => ?_⟩, fun _ _ _ h => by cases h⟩
      rcases f1 n ((Sub.app Wp sb1).mem n hn) with z | z
      · exact .inl (sb3.mem n z)
      · exact .inr z
theorem evEs_one {Cs : Cfg} (a : E) (σ : Sg) (S : Sto) : evEs Cs (.cons a .nil) σ S = (evE Cs a σ S).bind fun x S1 => .ok [x] S1 := by
  rw [evEs]
  congr 1
theorem ow_truth {w : Wd} {S : Sto} {W : List Nat} {p : O} {d : D} {t : Bool} (h : Ow w S p d W) (e : vtruth p.toU = some t) : truth S d = some t := by
  cases p with
  | sh u => exact vtruth_ok h.2.lv e
  | ol xs =>
    obtain ⟨n, ds, rfl, _, a, v⟩ := h
    show (getQ S n).map _ = _
    rw [qL a, Option.map_some, isEmpty_eq v]
    exact e
  | oo c ns ps => cases e
theorem vlm_ok {w : Wd} {S : Sto} {m : Mt} {n : Nat} {xs ys us : List U} {ds vs : List D} {r : U} (h : S[n]? = some (.lst ds)) (v : Vws w S xs ds) (g : Vws w S us vs) (e : vlm m xs us = some (r, ys)) :
    ∃ rd ds', mth m (.ref n) vs S = .ok rd (S.set n (.lst ds')) ∧ Vw w S r rd ∧ Vws w S ys ds' := by
  unfold vlm at e
  split at e
  · obtain ⟨c, e2⟩ := vif_some e
    cases e2
    obtain ⟨d, es, rfl, h1, h2⟩ := g
    rw [show es = [] from h2]
    refine ⟨.non, ds ++ [d], ?_, rfl, v.app (vws1 h1)⟩
    show R.opt ((getL S n).map _) _ = _
    rw [lL h, Option.map_some, R.opt_some, R.req_of (by dsimp only; rw [v.len]; exact c)]
  · obtain ⟨u, h1, e2⟩ := Option.map_eq_some_iff.mp e
    cases e2
    rw [show vs = [] from g]
    obtain ⟨d, h2, h3⟩ := v.get h1
    refine ⟨d, ds.dropLast, ?_, h3, v.dropLast⟩
    show R.opt ((getL S n).map _) _ = _
    rw [lL h, Option.map_some, R.opt_some]
    dsimp only
    rw [v.len, h2, R.opt_some]
  · cases e
theorem enum_ok {w : Wd} {S : Sto} : ∀ {us : List U} {ds : List D} (i : Nat), Vws w S us ds → Vws w S (enumU i us) (enumD i ds)
  | [], _, i, h => by rw [show _ = [] from h]; rfl
  | u :: us, _, i, ⟨d, es, a, b, c⟩ => by
    rw [a]
    exact ⟨.tup [.int i, d], _, rfl, ⟨_, rfl, vws2 rfl b⟩, enum_ok (i + 1) c⟩
def zipD : List D → List D → List D
  | x :: xs, y :: ys => .tup [x, y] :: zipD xs ys
  | _, _ => []
theorem zip_ok {w : Wd} {S : Sto} : ∀ {us vs : List U} {ds es : List D}, Vws w S us ds → Vws w S vs es → Vws w S (zipU us vs) (zipD ds es)
  | [], _, _, _, h, _ => by rw [show _ = [] from h]; rfl
  | u :: us, [], ds, es, _, h => by
    have h' : es = [] := h
    subst h'
    show zipD ds [] = []
    cases ds <;> rfl
  | u :: us, v :: vs, _, _, ⟨d, ds, a, b, c⟩, ⟨e, es, a2, b2, c2⟩ => by
    rw [a, a2]
    exact ⟨.tup [d, e], _, rfl, ⟨_, rfl, vws2 b b2⟩, zip_ok c c2⟩
theorem zipD_get : ∀ {xs ys : List D} (i : Nat), (zipD xs ys)[i]? = match xs[i]?, ys[i]? with
    | some x, some y => some (.tup [x, y])
    | _, _ => none
  | [], ys, i => by simp [zipD]
  | x :: xs, [], i => by
    simp [zipD]
  | x :: xs, y :: ys, 0 => by simp [zipD]
  | x :: xs, y :: ys, i + 1 => by simpa [zipD] using zipD_get (xs := xs) (ys := ys) i
/-- a method that changes a list -/
theorem lm_rel {w : Wd} {S : Sto} {W : List Nat} {k : Nat} {σ : Sg} {π : Env} {m : Mt} {o : E} {es : Es} {b : Bool} (hg : Cs.g = C.g) (hv : Ews w S π σ W) (gd : Good w S W k) (hm : m.ofList = true)
    (h : quiets C es = true → RelE VwsP w S W true σ (evEs Cs es σ S) (pvEs C es π k)) :
    RelE OwP w S W (!m.ofList && quiet C o && b) σ ((evE Cs o σ S).bind fun x S1 => R.req (recv m x S1 = true) ((evEs Cs es σ S1).bind fun vs S2 => mth m x vs S2))
      (PR.opt (ownL C π o) fun _ => PR.req (quiets C es = true) ((pvEs C es π k).bind fun vs π1 k1 => PR.opt (ownL C π1 o) fun r => PR.opt (vlm m r.2 vs) fun q => .ok (.sh q.1) (setP π1 r.1 (.ol q.2)) k1)) := by
  refine .opt fun r0 hr0 => .req fun hq => ?_
  obtain ⟨pl, xs0⟩ := r0
  obtain ⟨a0, b0, c0⟩ := ownL_some hr0
  obtain ⟨d, Wp, R, h1, h2, h3, h4, _⟩ := pl_get hg hv a0 b0 c0
  rw [h1, Cl.R.bind_ok]
  obtain ⟨n0, ds0, e1, e2, e3, _⟩ := h3
  subst e1
  rw [Cl.R.req_of (by simp [recv, hm, qL e3])]
  have hf : (!m.ofList && quiet C o && b) = false := by rw [hm]; rfl
  rw [hf]
  refine RelE.qq (q' := false) (q := false) ?_ (fun h => h)
  obtain ⟨oc, k1, k2⟩ := h hq
  cases oc with
  | no => exact ⟨_, .bind k1 .ret, trivial⟩
  | exc x π1 k1' =>
    obtain ⟨d, S1, w1, W1, e, s, c, v1, g1, f1⟩ := k2
    exact ⟨_, .bind k1 .ret, d, S1, w1, W1, by rw [e]; rfl, s.weaken (fun _ h => h) (fun h => by cases h), c, v1, g1, f1⟩
  | ok us π1 k1' =>
    obtain ⟨vs, S1, w1, Wq, W1, e, s, c, v1, g1, f1⟩ := k2
    obtain ⟨c1, c2⟩ := c
    subst c1
    have s' : Step w S w1 S1 W false := s.weaken (fun _ h => h) (fun h => by cases h)
    have fin : RelE OwP w1 S1 W1 false σ (mth m (.ref n0) vs S1) (PR.opt (ownL C π1 o) fun r => PR.opt (vlm m r.2 us) fun q => .ok (.sh q.1) (setP π1 r.1 (.ol q.2)) k1') := by
      refine .opt fun r hr => .opt fun q2 hq2 => ?_
      obtain ⟨pl1, xs⟩ := r
      obtain ⟨a1, b1, c1⟩ := ownL_some hr
      obtain ⟨d1, Wp1, R1, h5, h6, h7, _, h9⟩ := pl_get hg v1 a1 b1 c1
      have hd : d1 = .ref n0 := by
        have := h4 S1 fun n hn => s.keep n (gd.own n hn).1 (.inl rfl) (gd.own n hn).2.2
        rw [h5] at this
        cases this
        rfl
      subst hd
      obtain ⟨n, ds, e4, e5, e6, e7⟩ := h7
      cases e4
      subst e5
      obtain ⟨r, ys⟩ := q2
      obtain ⟨rd, ds', e8, e9, e10⟩ := vlm_ok e6 e7 c2 hq2
      have g1' : Good w1 S1 W1 k1' := g1
      have hnW : n0 ∈ W1 := by simp [h6.mem_iff]
      have own := g1'.own n0 hnW
      have ne : ∀ n, n ≠ n0 → (S1.set n0 (.lst ds'))[n]? = S1[n]? := fun n h => List.getElem?_set_ne (fun e => h e.symm)
      have kr : Kr w1 S1 w1 (S1.set n0 (.lst ds')) := ⟨fun _ h => h, fun _ h => h, fun n hn => ne n fun e => by subst e; exact own.2.1 hn⟩
      have nd := (h6.nodup_iff.mp g1'.nd)
      obtain ⟨W2, p2, v2⟩ := h9 w1 (S1.set n0 (.lst ds')) (.ol ys) [n0] kr (fun n hn => ne n fun e => by
        subst e
        exact (List.nodup_append.mp nd).2.2 n (by simp) n hn rfl) ⟨n0, ds', rfl, rfl, List.getElem?_set_self own.1, Vws.mono kr e10⟩
      have pp : W2.Perm W1 := p2.trans h6.symm
      refine ⟨_, .ret, rd, S1.set n0 (.lst ds'), w1, [], W2, e8, ⟨by simp, fun n hn hh hb => ?_, fun _ h => h, fun _ h => h, fun _ h => .inl h, fun _ h => .inl h⟩, ⟨rfl, Vw.mono kr e9⟩, v2, ?_, fun n hn => .inl (pp.mem_iff.mp (by simpa using hn))⟩
      · rcases hh with hh | hh
        · cases hh
        · exact ne n fun e => by subst e; exact hh hnW
      · refine ⟨pp.symm.nodup_iff.mp g1'.nd, fun n hn => ?_, fun n hn => ?_, fun n hn => ?_⟩
        · have := g1'.own n (pp.mem_iff.mp (by simpa using hn))
          exact ⟨by simpa using this.1, this.2⟩
        · exact ⟨by simpa using (g1'.fz n hn).1, (g1'.fz n hn).2⟩
        · obtain ⟨a, b, c, e, r⟩ := g1'.bg n hn
          exact ⟨a, b, c, by rw [ne n fun z => by subst z; exact own.2.2 hn]; exact e, r⟩
    obtain ⟨o2, k3, k4⟩ := fin
    refine ⟨o2, .bind k1 k3, ?_⟩
    rw [e, Cl.R.bind_ok]
    cases o2 with
    | no => trivial
    | ok c2 π2 k2' =>
      obtain ⟨b2, S2, w2, Wp2, W2, e2, s2, r2, v2, gd2, fr2⟩ := k4
      exact ⟨b2, S2, w2, Wp2, W2, e2, s'.trans s2 f1 (fun h => h), r2, v2, gd2, f1.trans fr2 s.le⟩
    | exc x π2 k2' =>
      obtain ⟨d, S2, w2, W2, e2, s2, r2, v2, gd2, fr2⟩ := k4
      exact ⟨d, S2, w2, W2, e2, s'.trans s2 f1 (fun h => h), r2, v2, gd2, f1.trans fr2 s.le⟩
theorem enumD_get : ∀ {ds : List D} (j i : Nat), (enumD j ds)[i]? = ds[i]?.map fun x => .tup [.int (j + i : Nat), x]
  | [], j, i => by simp [enumD]
  | d :: ds, j, 0 => by simp [enumD]
  | d :: ds, j, i + 1 => by
    have := enumD_get (ds := ds) (j + 1) i
    simp only [enumD, List.getElem?_cons_succ, this]
    rw [show j + 1 + i = j + (i + 1) by omega]
mutual
theorem simE (hg : Cs.g = C.g) (hF : SimF Cs C) : ∀ (e : E) {w : Wd} {S : Sto} {W : List Nat} {k : Nat} {σ : Sg} {π : Env}, Ews w S π σ W → Good w S W k → RelE OwP w S W (quiet C e) σ (evE Cs e σ S) (pvE C e π k)
  | .non, w, S, W, k, σ, π, hv, gd => rel_ok0 ⟨rfl, rfl⟩ hv gd
  | .bl b, w, S, W, k, σ, π, hv, gd => rel_ok0 ⟨rfl, rfl⟩ hv gd
  | .int b, w, S, W, k, σ, π, hv, gd => rel_ok0 ⟨rfl, rfl⟩ hv gd
  | .str b, w, S, W, k, σ, π, hv, gd => rel_ok0 ⟨rfl, rfl⟩ hv gd
  | .var i, w, S, W, k, σ, π, hv, gd => by
    unfold evE pvE
    refine .opt fun p hp => ?_
    obtain ⟨d, Wp, R, h1, h2, h3, h4⟩ := hv.slot hp
    rw [h1]
    have hfz := h3.freeze
    obtain ⟨W3, h5, h6⟩ := Ews.back (p := .sh p.toU) (Wp := []) (Ews.mono (add_kr Wp) (fun _ _ => rfl) h4) h1 (getO_lt hp) ⟨rfl, hfz⟩
    refine ⟨_, .ret, d, S, w.add Wp, [], W3, rfl, .freeze (fun n hn => by simp [h2.mem_iff, hn]), ⟨rfl, hfz⟩, h6, ?_, fun n hn => ?_⟩
    · exact ((gd.perm h2).freeze).perm h5.symm
    · exact .inl (by have := h5.mem_iff.mp hn; simp at this; simp [h2.mem_iff, this])
  | .glo g, w, S, W, k, σ, π, hv, gd => by
    unfold evE pvE
    rw [hg]
    refine .opt fun u hu => ?_
    obtain ⟨d, h1, h2⟩ := Option.bind_eq_some_iff.mp hu
    rw [h1, R.opt_some]
    exact rel_ok0 ⟨rfl, dU_ok h2⟩ hv gd
  | .bin o a b, w, S, W, k, σ, π, hv, gd => by
    unfold evE quiet pvE
    refine ((rel_obs hg hv gd (simE hg hF a hv gd)).qq and_q.1).bind fun x dx w1 S1 Wp W1 π1 k1 s fr c v1 g1 => ?_
    have c0 : Wp = [] := c.1
    subst c0
    refine RelE.qq (q := quiet C b) ?_ and_q.2
    refine (rel_obs hg v1 g1 (simE hg hF b v1 g1)).bind fun y dy w2 S2 Wq W2 π2 k2 s2 fr2 c2 v2 g2 => ?_
    have c20 : Wq = [] := c2.1
    subst c20
    have cx := c.step s2 g1
    exact rel_ubin hg hF cx.lv c2.lv c2.vw v2 g2
  | .neg a, w, S, W, k, σ, π, hv, gd => by
    unfold evE quiet pvE
    refine (simE hg hF a hv gd).bind fun p d w1 S1 Wp W1 π1 k1 s fr c v1 g1 => ?_
    cases p with
    | sh u =>
      cases u with
      | int i =>
        obtain ⟨c1, c2⟩ := c
        subst c1
        rw [show d = .int i from c2]
        exact rel_ok0 ⟨rfl, rfl⟩ v1 g1
      | _ => exact rel_no
    | _ => exact rel_no
  | .not a, w, S, W, k, σ, π, hv, gd => by
    unfold evE quiet pvE
    refine (rel_obs hg hv gd (simE hg hF a hv gd)).bind fun x dx w1 S1 Wp W1 π1 k1 s fr c v1 g1 => ?_
    have c0 : Wp = [] := c.1
    subst c0
    refine .opt fun b hb => ?_
    rw [vtruth_ok c.lv hb, R.opt_some]
    exact rel_ok0 ⟨rfl, rfl⟩ v1 g1
  | .bop c es, w, S, W, k, σ, π, hv, gd => by
    unfold evE quiet pvE
    exact simB hg hF c es hv gd
  | .ite c a b, w, S, W, k, σ, π, hv, gd => by
    unfold evE quiet pvE
    refine ((rel_obs hg hv gd (simE hg hF c hv gd)).qq (fun h => and_q.1 (and_q.1 h))).bind fun x dx w1 S1 Wp W1 π1 k1 s fr c v1 g1 => ?_
    have c0 : Wp = [] := c.1
    subst c0
    refine .opt fun t ht => ?_
    rw [vtruth_ok c.lv ht, R.opt_some]
    cases t with
    | true => exact (simE hg hF a v1 g1).qq (fun h => and_q.2 (and_q.1 h))
    | false => exact (simE hg hF b v1 g1).qq (fun h => and_q.2 h)
  | .cmp o a b, w, S, W, k, σ, π, hv, gd => by
    unfold evE quiet pvE
    refine ((rel_obs hg hv gd (simE hg hF a hv gd)).qq and_q.1).bind fun x dx w1 S1 Wp W1 π1 k1 s fr c v1 g1 => ?_
    have c0 : Wp = [] := c.1
    subst c0
    refine RelE.qq (q := quiet C b) ?_ and_q.2
    refine (rel_obs hg v1 g1 (simE hg hF b v1 g1)).bind fun y dy w2 S2 Wq W2 π2 k2 s2 fr2 c2 v2 g2 => ?_
    have c20 : Wq = [] := c2.1
    subst c20
    have cx := c.step s2 g1
    refine (rel_ucmp hg hF cx.lv c2.lv cx.vw c2.vw v2 g2).bind fun t t2 w3 S3 Wr W3 π3 k3 s3 fr3 c3 v3 g3 => ?_
    obtain ⟨c4, c5⟩ := c3
    subst c4 c5
    exact rel_ok0 ⟨rfl, rfl⟩ v3 g3
  | .chain o p a b c, w, S, W, k, σ, π, hv, gd => by
    unfold evE quiet pvE
    refine ((simE hg hF a hv gd).qq (fun h => and_q.1 (and_q.1 h))).bindF (g := fun x π1 k1 => (pvE C b π1 k1).bind fun y π2 k2 => (ucmp C o x y.toU true true π2 k2).bind fun t π3 k3 =>
      if t then (obs C true c (pvE C c π3 k3) π3 k3).bind fun z π4 k4 => (ucmp C p y.toU z true (obF C true c π3) π4 k4).bind fun b π5 k5 => PR.ok (O.sh (U.bl b)) π5 k5 else PR.ok (O.sh (U.bl false)) π3 k3) fun x dx w1 S1 W1 π1 k1 s fr cx v1 g1 => ?_
    refine ((simE hg hF b v1 g1).qq (fun h => and_q.2 (and_q.1 h))).bindF (g := fun y π2 k2 => (ucmp C o x y true true π2 k2).bind fun t π3 k3 =>
      if t then (obs C true c (pvE C c π3 k3) π3 k3).bind fun z π4 k4 => (ucmp C p y z true (obF C true c π3) π4 k4).bind fun b π5 k5 => PR.ok (O.sh (U.bl b)) π5 k5 else PR.ok (O.sh (U.bl false)) π3 k3) fun y dy w2 S2 W2 π2 k2 s2 fr2 cy v2 g2 => ?_
    have cx2 := Vw.mono (s2.kr g1) cx
    refine (rel_ucmp hg hF cx2.lv cy.lv (fun _ => cx2) (fun _ => cy) v2 g2).bind fun t t2 w3 S3 Wr W3 π3 k3 s3 fr3 c3 v3 g3 => ?_
    obtain ⟨c4, c5⟩ := c3
    subst c4 c5
    cases t with
    | false => exact rel_ok0 ⟨rfl, rfl⟩ v3 g3
    | true =>
      have cy3 := Vw.mono (s3.kr g2) cy
      refine ((rel_obs hg v3 g3 (simE hg hF c v3 g3)).qq (fun h => and_q.2 h)).bind fun z dz w4 S4 Wq W4 π4 k4 s4 fr4 cz v4 g4 => ?_
      have c20 : Wq = [] := cz.1
      subst c20
      have cy4 := Vw.mono (s4.kr g3) cy3
      refine (rel_ucmp hg hF cy4.lv cz.lv (fun _ => cy4) cz.vw v4 g4).bind fun t t2 w5 S5 Wr W5 π5 k5 s5 fr5 c5 v5 g5 => ?_
      obtain ⟨c6, c7⟩ := c5
      subst c6 c7
      exact rel_ok0 ⟨rfl, rfl⟩ v5 g5
  | .tup es, w, S, W, k, σ, π, hv, gd => by
    unfold evE quiet pvE
    refine (simEs hg hF es hv gd).bind fun us ds w1 S1 Wp W1 π1 k1 s fr c v1 g1 => ?_
    obtain ⟨c1, c2⟩ := c
    subst c1
    refine .req fun hl => ?_
    rw [R.req_of (by rw [c2.len]; exact hl)]
    exact rel_ok0 ⟨rfl, ds, rfl, c2⟩ v1 g1
  | .lst es, w, S, W, k, σ, π, hv, gd => by
    unfold evE quiet pvE
    refine (simEs hg hF es hv gd).bind fun us ds w1 S1 Wp W1 π1 k1 s fr c v1 g1 => ?_
    obtain ⟨c1, c2⟩ := c
    subst c1
    refine .req fun hl => ?_
    rw [R.req_of (by rw [c2.len]; exact hl)]
    exact rel_new_list (W2 := []) c2 v1 g1
  | .idx a b, w, S, W, k, σ, π, hv, gd => by
    unfold evE quiet pvE
    refine ((rel_obs hg hv gd (simE hg hF a hv gd)).qq and_q.1).bind fun x dx w1 S1 Wp W1 π1 k1 s fr c v1 g1 => ?_
    have c0 : Wp = [] := c.1
    subst c0
    refine RelE.qq (q := quiet C b) ?_ and_q.2
    refine (simE hg hF b v1 g1).bindF (g := fun y π2 k2 => uidx C x y π2 k2) fun y dy w2 S2 W2 π2 k2 s2 fr2 cy v2 g2 => ?_
    have cx := c.step s2 g1
    exact rel_uidx hg hF cx.lv cy v2 g2
  | .slc a lo hi, w, S, W, k, σ, π, hv, gd => by
    unfold evE quiet pvE
    refine ((rel_obs hg hv gd (simE hg hF a hv gd)).qq (fun h => and_q.1 (and_q.1 h))).bind fun x dx w1 S1 Wp W1 π1 k1 s fr c v1 g1 => ?_
    have c0 : Wp = [] := c.1
    subst c0
    refine RelE.qq (q := quiets C lo && quiets C hi) ?_ (fun h => by rw [Bool.and_eq_true] at h; rw [Bool.and_eq_true]; exact ⟨and_q.2 h.1, h.2⟩)
    refine ((simO hg hF lo v1 g1).qq and_q.1).bind fun l l2 w2 S2 Wq W2 π2 k2 s2 fr2 c2 v2 g2 => ?_
    obtain ⟨c3, c4⟩ := c2
    subst c3 c4
    have cx := c.step s2 g1
    refine ((simO hg hF hi v2 g2).qq and_q.2).bind fun h h2 w3 S3 Wr W3 π3 k3 s3 fr3 c3 v3 g3 => ?_
    obtain ⟨c5, c6⟩ := c3
    subst c5 c6
    have cx3 := cx.step s3 g2
    exact .opt fun p hp => (vslc_ok cx3.lv hp).rel0 v3 g3
  | .fld a f, w, S, W, k, σ, π, hv, gd => by
    unfold pvE quiet
    cases hr : recvO π a with
    | none =>
      unfold evE
      exact ((simE hg hF a hv gd).qq and_q.2).bindF (g := fun u π1 k1 => ufld C u f π1 k1) fun u d w1 S1 W1 π1 k1 s fr c v1 g1 => rel_ufld hg hF c v1 g1
    | some r =>
      obtain ⟨i, c⟩ := r
      obtain ⟨rfl, ns, ps, ho⟩ := recvO_some hr
      dsimp only
      cases hp : C.g.prop c f with
      | some p =>
        obtain ⟨d0, Wo, R0, h1, h2, h3, h4⟩ := hv.slot ho
        have h3' := h3
        obtain ⟨n, gs, W', a, b, e1, e2, e3⟩ := h3
        subst a
        refine .req fun hq => ?_
        unfold evE evE
        rw [h1]
        rw [Cl.R.bind_ok]
        unfold fldGet
        dsimp only
        rw [e1, hg]
        dsimp only
        rw [hp]
        exact rel_callO (W2 := []) hF (fun h => hq (and_q.1 h)) (show Ars w S σ [.inr i] [.ref n] from ⟨_, _, rfl, h1, rfl⟩) hv gd
      | none =>
        refine .opt fun o hq => ?_
        have hk : plOk C π (.f i f) = true := by
          unfold plOk
          dsimp only
          rw [ho]
          dsimp only
          rw [hp]
          rfl
        obtain ⟨d, Wp, R, h1, h2, h3, _, h4⟩ := pl_get (e := .fld (.var i) f) hg hv rfl hk hq
        rw [h1]
        obtain ⟨W3, h5, h6⟩ := h4 (w.add Wp) S (.sh o.toU) [] (add_kr Wp) (fun _ _ => rfl) ⟨rfl, h3.freeze⟩
        refine ⟨_, .ret, d, S, w.add Wp, [], W3, rfl, .freeze (fun n hn => by simp [h2.mem_iff, hn]), ⟨rfl, h3.freeze⟩, h6, ?_, fun n hn => ?_⟩
        · exact ((gd.perm h2).freeze).perm h5.symm
        · exact .inl (by have := h5.mem_iff.mp hn; simp at this; simp [h2.mem_iff, this])
  | .call f es, w, S, W, k, σ, π, hv, gd => by
    unfold evE quiet pvE
    refine ((simA hg hF (C.mu f) es 0 hv gd).qq and_q.2).bind fun as ds w1 S1 Wp W1 π1 k1 s fr c v1 g1 => ?_
    obtain ⟨c1, c2⟩ := c
    subst c1
    exact rel_callO (W2 := []) hF (fun h => List.isEmpty_iff.mp (and_q.1 h)) c2 v1 g1
  | .callk f es ks nm perm, w, S, W, k, σ, π, hv, gd => by
    unfold evE quiet pvE
    refine ((simA hg hF (muA (C.mu f) perm) es 0 hv gd).qq (fun h => and_q.2 (and_q.1 h))).bind fun as ds w1 S1 Wp W1 π1 k1 s fr c v1 g1 => ?_
    obtain ⟨c1, c2⟩ := c
    subst c1
    refine ((simA hg hF (muA (C.mu f) perm) ks as.length v1 g1).qq (fun h => and_q.2 h)).bind fun bs es w2 S2 Wq W2 π2 k2 s2 fr2 c3 v2 g2 => ?_
    obtain ⟨c4, c5⟩ := c3
    subst c4
    refine .opt fun cs hcs => ?_
    obtain ⟨fs, h1, h2⟩ := perm_ok ((Ars.mono (s2.kr g1) c2).app c5) hcs
    rw [h1, R.opt_some]
    exact rel_callO (W2 := []) hF (fun h => List.isEmpty_iff.mp (and_q.1 (and_q.1 h))) h2 v2 g2
  | .new c es ks nm perm, w, S, W, k, σ, π, hv, gd => by
    unfold evE quiet pvE
    refine ((simEs hg hF es hv gd).qq and_q.1).bind fun as ds w1 S1 Wp W1 π1 k1 s fr c v1 g1 => ?_
    obtain ⟨c1, c2⟩ := c
    subst c1
    refine ((simEs hg hF ks v1 g1).qq and_q.2).bind fun bs es w2 S2 Wq W2 π2 k2 s2 fr2 c3 v2 g2 => ?_
    obtain ⟨c4, c5⟩ := c3
    subst c4
    refine .opt fun cs hcs => ?_
    obtain ⟨fs, h1, h2⟩ := perm_ok (σ := σ) (((Vws.mono (s2.kr g1) c2).app c5).ars) hcs
    rw [h1, R.opt_some]
    exact rel_new (W2 := []) hg hF h2 v2 g2
  | .mcall a m es ks nm perm, w, S, W, k, σ, π, hv, gd => by
    unfold pvE quiet
    cases hr : recvO π a with
    | none =>
      unfold evE
      refine RelE.bind (Rp := fun w S r d Wp => Wp = [] ∧ Vw w S r.2 d ∧ ucls r.2 = some r.1) ?_ ?_
      · unfold recvU
        refine RelE.post ((simE hg hF a hv gd).qq (fun h => and_q.2 (and_q.1 (and_q.1 h)))) fun p d w1 S1 Wp W1 π1 k1 s fr c v1 g1 => ?_
        obtain ⟨o, h1, h2⟩ := rel_freeze (q := (C.qm m && quiet C a && quiets C es && quiets C ks)) c v1 g1
        cases hu : p.toU with
        | ob c' ns vs =>
          rw [hu] at h1
          refine ⟨_, .ret, ?_⟩
          cases h1
          obtain ⟨b, S', w', Wp', W', e, s', r, v', g', f'⟩ := h2
          exact ⟨b, S', w', Wp', W', e, s', ⟨r.1, r.2, rfl⟩, v', g', f'⟩
        | _ => exact rel_no
      · intro r d w0 S0 Wp W0 π0 k0 s fr c v0 g0
        obtain ⟨c1, c2, c3⟩ := c
        subst c1
        obtain ⟨cx, cc⟩ := cls_some c2.lv c3
        rw [cc, R.opt_some, hg]
        refine .opt fun f hf => ?_
        rw [hf, R.opt_some]
        refine .req fun hq => ?_
        refine ((simA hg hF (muM (C.mu f) perm) es 0 v0 g0).qq (fun h => and_q.2 (and_q.1 h))).bind fun as ds w1 S1 Wp W1 π1 k1 s fr c v1 g1 => ?_
        obtain ⟨c4, c5⟩ := c
        subst c4
        refine ((simA hg hF (muM (C.mu f) perm) ks as.length v1 g1).qq (fun h => and_q.2 h)).bind fun bs es w2 S2 Wq W2 π2 k2 s2 fr2 c6 v2 g2 => ?_
        obtain ⟨c7, c8⟩ := c6
        subst c7
        refine .opt fun cs hcs => ?_
        obtain ⟨fs, h1, h2⟩ := perm_ok ((Ars.mono (s2.kr g1) c5).app c8) hcs
        rw [h1, R.opt_some]
        exact rel_callO (W2 := []) hF (fun h => hq (and_q.1 (and_q.1 (and_q.1 h)))) (show Ars w2 S2 σ (.inl r.2 :: cs) (d :: fs) from ⟨_, _, rfl, Vw.mono (s2.kr g1) (Vw.mono (s.kr g0) c2), h2⟩) v2 g2
    | some r =>
      obtain ⟨i, c⟩ := r
      obtain ⟨rfl, ns, ps, ho⟩ := recvO_some hr
      obtain ⟨d0, Wo, R0, h1, h2, h3, h4⟩ := hv.slot ho
      obtain ⟨n, gs, W', a, b, e1, e2, e3⟩ := h3
      subst a
      have hc : insCls S (.ref n) = some c := by unfold insCls; dsimp only; rw [e1]
      unfold evE evE
      rw [h1]
      rw [Cl.R.bind_ok, hc, Cl.R.opt_some, hg]
      refine .opt fun f hf => ?_
      rw [hf, R.opt_some]
      refine .req fun hq => ?_
      refine ((simA hg hF (muM (C.mu f) perm) es 0 hv gd).qq (fun h => and_q.2 (and_q.1 h))).bind fun as ds w1 S1 Wp W1 π1 k1 s fr c v1 g1 => ?_
      obtain ⟨c4, c5⟩ := c
      subst c4
      refine ((simA hg hF (muM (C.mu f) perm) ks as.length v1 g1).qq (fun h => and_q.2 h)).bind fun bs es w2 S2 Wq W2 π2 k2 s2 fr2 c6 v2 g2 => ?_
      obtain ⟨c7, c8⟩ := c6
      subst c7
      refine .opt fun cs hcs => ?_
      obtain ⟨fs, h5, h6⟩ := perm_ok ((Ars.mono (s2.kr g1) c5).app c8) hcs
      rw [h5, R.opt_some]
      exact rel_callO (W2 := []) hF (fun h => hq (and_q.1 (and_q.1 (and_q.1 h)))) (show Ars w2 S2 σ (.inr i :: cs) (.ref n :: fs) from ⟨_, _, rfl, h1, h6⟩) v2 g2
  | .fmt es, w, S, W, k, σ, π, hv, gd => by
    unfold evE quiet pvE
    refine (simEs hg hF es hv gd).bind fun us ds w1 S1 Wp W1 π1 k1 s fr c v1 g1 => ?_
    obtain ⟨c1, c2⟩ := c
    subst c1
    refine .opt fun ts hts => .req fun hl => ?_
    rw [strs_ok c2 hts, R.opt_some, R.req_of hl]
    exact rel_ok0 ⟨rfl, rfl⟩ v1 g1
  | .cat tp es st, w, S, W, k, σ, π, hv, gd => by
    unfold evE quiet pvE
    refine (simEs hg hF es hv gd).bind fun us ds w1 S1 Wp W1 π1 k1 s fr c v1 g1 => ?_
    obtain ⟨c1, c2⟩ := c
    subst c1
    refine .opt fun xs hxs => .req fun hl => ?_
    obtain ⟨es, h1, h2⟩ := cat_ok c2 hxs
    rw [h1, R.opt_some, R.req_of (by rw [h2.len]; exact hl)]
    cases tp with
    | true => exact rel_ok0 ⟨rfl, es, rfl, h2⟩ v1 g1
    | false => exact rel_new_list (W2 := []) h2 v1 g1
  | .blt b .nil, w, S, W, k, σ, π, hv, gd => by
    unfold evE quiet pvE
    refine (simEs hg hF .nil hv gd).bind fun us ds w1 S1 Wp W1 π1 k1 s fr c v1 g1 => ?_
    obtain ⟨c1, c2⟩ := c
    subst c1
    exact rel_ublt hg hF c2 v1 g1
  | .blt b (.cons a .nil), w, S, W, k, σ, π, hv, gd => by
    have he : evE Cs (.blt b (.cons a .nil)) σ S = (evE Cs a σ S).bind fun x S1 => bltD Cs b [x] S1 := by
      rw [evE, evEs_one, R.bind_assoc]
      rfl
    rw [he]
    unfold quiet quiets quiets pvE
    refine ((rel_obs hg hv gd (simE hg hF a hv gd)).qq and_q.1).bind fun x dx w1 S1 Wp W1 π1 k1 s fr c v1 g1 => ?_
    have c0 : Wp = [] := c.1
    subst c0
    exact rel_ublt1 hg hF c.lv v1 g1
  | .blt b (.cons a (.cons a2 es)), w, S, W, k, σ, π, hv, gd => by
    unfold evE quiet pvE
    refine (simEs hg hF (.cons a (.cons a2 es)) hv gd).bind fun us ds w1 S1 Wp W1 π1 k1 s fr c v1 g1 => ?_
    obtain ⟨c1, c2⟩ := c
    subst c1
    exact rel_ublt hg hF c2 v1 g1
  | .isi a ts _, w, S, W, k, σ, π, hv, gd => by
    unfold evE quiet pvE
    refine (rel_obs hg hv gd (simE hg hF a hv gd)).bind fun x dx w1 S1 Wp W1 π1 k1 s fr c v1 g1 => ?_
    have c0 : Wp = [] := c.1
    subst c0
    refine .opt fun b hb => ?_
    rw [visi_ok c.lv hb, R.opt_some]
    exact rel_ok0 ⟨rfl, rfl⟩ v1 g1
  | .mth m o .nil, w, S, W, k, σ, π, hv, gd => by
    unfold evE quiet pvE
    by_cases hm : m.ofList = true
    · rw [if_pos hm]
      exact lm_rel hg hv gd hm fun hq => (simEs hg hF .nil hv gd).qq fun _ => hq
    · rw [if_neg hm]
      refine ((simE hg hF o hv gd).qq (fun h => and_q.2 (and_q.1 h))).bindF (g := fun u π1 k1 => match u with
        | .str s => (pvEs C .nil π1 k1).bind fun vs π2 k2 => PR.opt (vmth m (.str s) vs) fun q => .ok q π2 k2
        | _ => .no) fun u d w1 S1 W1 π1 k1 s fr c v1 g1 => ?_
      split
      · rw [show d = .str _ from c]
        rw [R.req_of (by simpa [recv] using hm)]
        refine ((simEs hg hF .nil v1 g1).qq and_q.2).bind fun us ds w2 S2 Wp W2 π2 k2 s2 fr2 c2 v2 g2 => ?_
        obtain ⟨c3, c4⟩ := c2
        subst c3
        exact .opt fun p hp => (vmth_ok (show Vw w2 S2 (.str _) (.str _) from rfl).lv c4.lvs hp).rel0 v2 g2
      · exact rel_no
  | .mth m o (.cons a .nil), w, S, W, k, σ, π, hv, gd => by
    unfold evE quiet pvE
    by_cases hm : m.ofList = true
    · rw [if_pos hm]
      exact lm_rel hg hv gd hm fun hq => (simEs hg hF (.cons a .nil) hv gd).qq fun _ => hq
    · rw [if_neg hm]
      refine ((simE hg hF o hv gd).qq (fun h => and_q.2 (and_q.1 h))).bindF (g := fun u π1 k1 => match u with
        | .str s => (obs C true a (pvE C a π1 k1) π1 k1).bind fun x π2 k2 => PR.opt (vmth m (.str s) [x]) fun q => .ok q π2 k2
        | _ => .no) fun u d w1 S1 W1 π1 k1 s fr c v1 g1 => ?_
      split
      · rw [show d = .str _ from c]
        rw [R.req_of (by simpa [recv] using hm)]
        rw [evEs_one, R.bind_assoc]
        refine ((rel_obs hg v1 g1 (simE hg hF a v1 g1)).qq (fun h => and_q.1 (and_q.2 h))).bind fun x dx w2 S2 Wp W2 π2 k2 s2 fr2 c2 v2 g2 => ?_
        have c0 : Wp = [] := c2.1
        subst c0
        rw [R.bind_ok]
        exact .opt fun p hp => (vmth_ok (show Vw w2 S2 (.str _) (.str _) from rfl).lv (show Lvs w2 S2 [x] [dx] from ⟨dx, [], rfl, c2.lv, rfl⟩) hp).rel0 v2 g2
      · exact rel_no
  | .mth m o (.cons a (.cons a2 es)), w, S, W, k, σ, π, hv, gd => by
    unfold evE quiet pvE
    by_cases hm : m.ofList = true
    · rw [if_pos hm]
      exact lm_rel hg hv gd hm fun hq => (simEs hg hF (.cons a (.cons a2 es)) hv gd).qq fun _ => hq
    · rw [if_neg hm]
      refine ((simE hg hF o hv gd).qq (fun h => and_q.2 (and_q.1 h))).bindF (g := fun u π1 k1 => match u with
        | .str s => (pvEs C (.cons a (.cons a2 es)) π1 k1).bind fun vs π2 k2 => PR.opt (vmth m (.str s) vs) fun q => .ok q π2 k2
        | _ => .no) fun u d w1 S1 W1 π1 k1 s fr c v1 g1 => ?_
      split
      · rw [show d = .str _ from c]
        rw [R.req_of (by simpa [recv] using hm)]
        refine ((simEs hg hF (.cons a (.cons a2 es)) v1 g1).qq and_q.2).bind fun us ds w2 S2 Wp W2 π2 k2 s2 fr2 c2 v2 g2 => ?_
        obtain ⟨c3, c4⟩ := c2
        subst c3
        exact .opt fun p hp => (vmth_ok (show Vw w2 S2 (.str _) (.str _) from rfl).lv c4.lvs hp).rel0 v2 g2
      · exact rel_no
  | .comp elt tg tp it cond own, w, S, W, k, σ, π, hv, gd => by
    unfold evE quiet pvE
    refine ((simI hg hF it hv gd).qq (fun h => and_q.2 (and_q.1 h))).bind fun us wk w1 S1 Wp W1 π1 k1 s fr c v1 g1 => ?_
    obtain ⟨c1, ds, c2, c3⟩ := c
    subst c1
    refine .req fun hl => ?_
    obtain ⟨R1, sb, v1'⟩ := Ews.wipe1 (l := own.map (·.2)) v1
    have key := comp_rel (q := (quiet C elt && quietI C it && quiets C cond)) (σ := σ) (S0 := S1) (w0 := w1) (wk := wk) (all := ds)
      (f := fun d S2 => R.opt (target tg tp d (wipe σ (own.map (·.2))) S2) fun σ2 => (evC Cs cond σ2 S2).bind fun k S3 => if k then (evE Cs elt σ2 S3).bind fun y S4 => .ok (some y) S4 else .ok none S3)
      (g := fun d π2 k2 => PR.opt (utarget tg tp d (uwipe π2 (own.map (·.2)))) fun π3 => (noExc ((pvC C cond π3 k2).bind fun t π4 k4 => if t then (pvE C elt π4 k4).bind fun y π5 k5 => .ok (some y.toU) π5 k5 else .ok none π4 k4)).bind fun y π6 k6 => .ok y (uwipe π6 (own.map (·.2))) k6)
      c3 (by
        intro u d w S W π k v hv gd
        refine turn_rel (X := fun π3 => (pvC C cond π3 k).bind fun t π4 k4 => if t then (pvE C elt π4 k4).bind fun y π5 k5 => .ok (some y.toU) π5 k5 else .ok none π4 k4)
          (Y := fun σ2 S2 => (evC Cs cond σ2 S2).bind fun k S3 => if k then (evE Cs elt σ2 S3).bind fun y S4 => .ok (some y) S4 else .ok none S3) hl.2.2 v hv gd ?_
        intro σ3 π3 W3 hv3 gd3
        refine ((simC hg hF cond hv3 gd3).qq (fun h => and_q.2 h)).bind fun t t2 w4 S4 Wq W4 π4 k4 s4 fr4 c4 v4 g4 => ?_
        obtain ⟨c5, c6⟩ := c4
        subst c5 c6
        cases t with
        | false => exact rel_ok0 ⟨rfl, trivial⟩ v4 g4
        | true =>
          refine ((simE hg hF elt v4 g4).qq (fun h => and_q.1 (and_q.1 h))).bindF (g := fun u π5 k5 => .ok (some u) π5 k5) fun u d w5 S5 W5 π5 k5 s5 fr5 c5 v5 g5 => ?_
          exact rel_ok0 ⟨rfl, c5⟩ v5 g5)
      us ds 0 FUEL [] [] w1 S1 R1 (uwipe π1 (own.map (·.2))) k1 (by simp) c2 ⟨fun _ h => h, fun _ h => h, fun _ _ => rfl⟩ v1' (g1.subs sb) rfl (by simp) (by rw [c2.len]; omega) (by rw [c2.len]; exact hl.1)
    have key' := key.weaken (W2 := W1) sb.mem (fun h => h)
    have e0 : ∀ t : PR (List U), (t.bind fun ys π2 k2 => PR.ok ([] ++ ys) π2 k2) = t := by
      intro t
      have : ∀ t : Tr (Out (List U)), (t.bind fun o => match o with | .ok a π k => Tr.ret (Out.ok ([] ++ a) π k) | .exc x π k => .ret (.exc x π k) | .no => .ret .no) = t := by
        intro t
        induction t with
        | ret o => cases o <;> rfl
        | draw m h ih => simp only [Tr.bind]; congr 1; funext r; exact ih r
      refine Eq.trans ?_ (this t)
      unfold PR.bind
      congr 1
      funext o
      cases o <;> rfl
    rw [e0] at key'
    refine key'.bind fun ys zs w2 S2 Wq W2 π2 k2 s2 fr2 c4 v2 g2 => ?_
    obtain ⟨c5, c6⟩ := c4
    subst c5
    exact rel_new_list (W2 := []) c6 v2 g2
theorem simEs (hg : Cs.g = C.g) (hF : SimF Cs C) : ∀ (es : Es) {w : Wd} {S : Sto} {W : List Nat} {k : Nat} {σ : Sg} {π : Env}, Ews w S π σ W → Good w S W k → RelE VwsP w S W (quiets C es) σ (evEs Cs es σ S) (pvEs C es π k)
  | .nil, w, S, W, k, σ, π, hv, gd => rel_ok0 ⟨rfl, rfl⟩ hv gd
  | .cons e es, w, S, W, k, σ, π, hv, gd => by
    unfold evEs pvEs quiets
    refine ((simE hg hF e hv gd).qq and_q.1).bindF (g := fun u π1 k1 => (pvEs C es π1 k1).bind fun xs π2 k2 => .ok (u :: xs) π2 k2) fun x dx w1 S1 W1 π1 k1 s fr cx v1 g1 => ?_
    refine ((simEs hg hF es v1 g1).qq and_q.2).bind fun us ds w2 S2 Wp W2 π2 k2 s2 fr2 c v2 g2 => ?_
    obtain ⟨c1, c2⟩ := c
    subst c1
    exact rel_ok0 ⟨rfl, dx, ds, rfl, Vw.mono (s2.kr g1) cx, c2⟩ v2 g2
theorem simA (hg : Cs.g = C.g) (hF : SimF Cs C) (mu : List Nat) : ∀ (es : Es) (j : Nat) {w : Wd} {S : Sto} {W : List Nat} {k : Nat} {σ : Sg} {π : Env}, Ews w S π σ W → Good w S W k → RelE (ArsP σ) w S W (quiets C es) σ (evEs Cs es σ S) (pvA C mu j es π k)
  | .nil, j, w, S, W, k, σ, π, hv, gd => rel_ok0 ⟨rfl, rfl⟩ hv gd
  | .cons e es, j, w, S, W, k, σ, π, hv, gd => by
    unfold pvA quiets
    by_cases hm : mu.contains j = true
    · rw [if_pos hm]
      cases e with
      | var i =>
        refine .opt fun p0 hp0 => ?_
        obtain ⟨d, Wp, R, h1, h2, h3, h4⟩ := hv.slot hp0
        unfold evEs evE
        rw [h1]
        rw [Cl.R.bind_ok]
        refine ((simA hg hF mu es (j + 1) hv gd).qq and_q.2).bind fun us ds w2 S2 Wp W2 π2 k2 s2 fr2 c v2 g2 => ?_
        obtain ⟨c1, c2⟩ := c
        subst c1
        exact rel_ok0 ⟨rfl, d, ds, rfl, h1, c2⟩ v2 g2
      | _ => exact rel_no
    · rw [if_neg hm]
      unfold evEs
      refine ((simE hg hF e hv gd).qq and_q.1).bindF (g := fun u π1 k1 => (pvA C mu (j + 1) es π1 k1).bind fun xs π2 k2 => .ok (.inl u :: xs) π2 k2) fun x dx w1 S1 W1 π1 k1 s fr cx v1 g1 => ?_
      refine ((simA hg hF mu es (j + 1) v1 g1).qq and_q.2).bind fun us ds w2 S2 Wp W2 π2 k2 s2 fr2 c v2 g2 => ?_
      obtain ⟨c1, c2⟩ := c
      subst c1
      exact rel_ok0 ⟨rfl, dx, ds, rfl, Vw.mono (s2.kr g1) cx, c2⟩ v2 g2
theorem simO (hg : Cs.g = C.g) (hF : SimF Cs C) : ∀ (es : Es) {w : Wd} {S : Sto} {W : List Nat} {k : Nat} {σ : Sg} {π : Env}, Ews w S π σ W → Good w S W k → RelE EqP w S W (quiets C es) σ (evO Cs es σ S) (pvO C es π k)
  | .nil, w, S, W, k, σ, π, hv, gd => rel_ok0 ⟨rfl, rfl⟩ hv gd
  | .cons e es, w, S, W, k, σ, π, hv, gd => by
    unfold evO pvO quiets
    refine ((simE hg hF e hv gd).qq and_q.1).bind fun p d w1 S1 Wp W1 π1 k1 s fr c v1 g1 => ?_
    cases p with
    | sh u =>
      cases u with
      | int i =>
        obtain ⟨c1, c2⟩ := c
        subst c1
        rw [show d = .int i from c2]
        exact rel_ok0 ⟨rfl, rfl⟩ v1 g1
      | _ => exact rel_no
    | _ => exact rel_no
theorem simC (hg : Cs.g = C.g) (hF : SimF Cs C) : ∀ (es : Es) {w : Wd} {S : Sto} {W : List Nat} {k : Nat} {σ : Sg} {π : Env}, Ews w S π σ W → Good w S W k → RelE EqP w S W (quiets C es) σ (evC Cs es σ S) (pvC C es π k)
  | .nil, w, S, W, k, σ, π, hv, gd => rel_ok0 ⟨rfl, rfl⟩ hv gd
  | .cons e es, w, S, W, k, σ, π, hv, gd => by
    unfold evC pvC quiets
    refine ((rel_obs hg hv gd (simE hg hF e hv gd)).qq and_q.1).bind fun x dx w1 S1 Wp W1 π1 k1 s fr c v1 g1 => ?_
    have c0 : Wp = [] := c.1
    subst c0
    refine .opt fun b hb => ?_
    rw [vtruth_ok c.lv hb, R.opt_some]
    exact rel_ok0 ⟨rfl, rfl⟩ v1 g1
theorem simB (hg : Cs.g = C.g) (hF : SimF Cs C) (b : Bool) : ∀ (es : Es) {w : Wd} {S : Sto} {W : List Nat} {k : Nat} {σ : Sg} {π : Env}, Ews w S π σ W → Good w S W k → RelE OwP w S W (quiets C es) σ (evB Cs b es σ S) (pvB C b es π k)
  | .nil, w, S, W, k, σ, π, hv, gd => by unfold pvB; exact rel_no
  | .cons e .nil, w, S, W, k, σ, π, hv, gd => by
    unfold evB pvB quiets
    exact (simE hg hF e hv gd).qq and_q.1
  | .cons e (.cons e2 es), w, S, W, k, σ, π, hv, gd => by
    unfold evB pvB quiets
    refine ((simE hg hF e hv gd).qq and_q.1).bind fun p d w1 S1 Wp W1 π1 k1 s fr c v1 g1 => ?_
    refine .opt fun t ht => ?_
    rw [ow_truth c ht, R.opt_some]
    by_cases htb : t = b
    · rw [if_pos htb, if_pos htb]
      exact ((simB hg hF b (.cons e2 es) v1 g1.right).qq and_q.2).weaken (fun n hn => by simp [hn]) (fun h => h)
    · rw [if_neg htb, if_neg htb]
      exact rel_ok c v1 g1 .refl
theorem simI (hg : Cs.g = C.g) (hF : SimF Cs C) : ∀ (it : It) {w : Wd} {S : Sto} {W : List Nat} {k : Nat} {σ : Sg} {π : Env}, Ews w S π σ W → Good w S W k → RelE WalkP w S W (quietI C it) σ (evI Cs it σ S) (pvI C it π k)
  | .val e, w, S, W, k, σ, π, hv, gd => by
    unfold evI pvI quietI
    refine (simE hg hF e hv gd).bindF (g := fun u π1 k1 => PR.opt (uwalk u) fun w => .ok w π1 k1) fun u d w1 S1 W1 π1 k1 s fr c v1 g1 => ?_
    refine .opt fun us hu => ?_
    obtain ⟨wk, h1, h2⟩ := walk_ok c hu
    rw [h1]
    exact rel_ok0 ⟨rfl, h2⟩ v1 g1
  | .rng es, w, S, W, k, σ, π, hv, gd => by
    unfold evI pvI quietI
    refine (simEs hg hF es hv gd).bind fun us ds w1 S1 Wp W1 π1 k1 s fr c v1 g1 => ?_
    obtain ⟨c1, c2⟩ := c
    subst c1
    rcases us with _ | ⟨u1, _ | ⟨u2, _ | ⟨u3, us⟩⟩⟩
    · exact rel_no
    · cases u1 with
      | int j =>
        obtain ⟨d, es, rfl, h1, h2⟩ := c2
        rw [show d = .int _ from h1, show es = [] from h2]
        refine .req fun hc => ?_
        dsimp only
        rw [R.req_of hc]
        exact rel_ok0 ⟨rfl, rng_ok _ _⟩ v1 g1
      | _ => exact rel_no
    · cases u1 with
      | int i =>
        cases u2 with
        | int j =>
          obtain ⟨d, es, rfl, h1, d2, es2, rfl, h2, h3⟩ := c2
          rw [show d = .int _ from h1, show d2 = .int _ from h2, show es2 = [] from h3]
          refine .req fun hc => ?_
          dsimp only
          rw [R.req_of hc]
          exact rel_ok0 ⟨rfl, rng_ok _ _⟩ v1 g1
        | _ => exact rel_no
      | _ => exact rel_no
    · have : (PR.no : PR (List U)) = PR.no := rfl
      cases u1 <;> cases u2 <;> exact rel_no
  | .enm e, w, S, W, k, σ, π, hv, gd => by
    unfold evI pvI quietI
    refine (simE hg hF e hv gd).bindF (g := fun u π1 k1 => PR.opt (uwalk u) fun w => .ok (enumU 0 w) π1 k1) fun u d w1 S1 W1 π1 k1 s fr c v1 g1 => ?_
    refine .opt fun us hu => ?_
    cases u with
    | tup xs =>
      cases hu
      obtain ⟨ds, rfl, v⟩ := c
      exact rel_ok0 ⟨rfl, _, enum_ok 0 v, fun _ _ _ => rfl⟩ v1 g1
    | str s =>
      cases hu
      rw [show d = .str s from c]
      have := Vws.strs (w := w1) (S := S1) (s.map fun c => [c])
      rw [List.map_map, List.map_map] at this
      exact rel_ok0 ⟨rfl, _, enum_ok 0 this, fun _ _ _ => rfl⟩ v1 g1
    | lst xs =>
      cases hu
      obtain ⟨n, ds, rfl, f, a, v⟩ := c
      dsimp only
      rw [qL a, R.opt_some]
      refine rel_ok0 ⟨rfl, _, enum_ok 0 v, fun S' hk i => ?_⟩ v1 g1
      show (getQ S' n).map _ = _
      rw [qL ((hk n f).trans a), Option.map_some, enumD_get]
      simp
    | _ => cases hu
  | .zip a b, w, S, W, k, σ, π, hv, gd => by
    unfold evI pvI quietI
    refine ((simE hg hF a hv gd).qq and_q.1).bindF (g := fun u π1 k1 => (pvE C b π1 k1).bind fun q π2 k2 => match u, q.toU with
      | .lst xs, .lst ys => .ok (zipU xs ys) π2 k2
      | _, _ => .no) fun u d w1 S1 W1 π1 k1 s fr c v1 g1 => ?_
    refine ((simE hg hF b v1 g1).qq and_q.2).bindF (g := fun u2 π2 k2 => match u, u2 with
      | .lst xs, .lst ys => .ok (zipU xs ys) π2 k2
      | _, _ => .no) fun u2 d2 w2 S2 W2 π2 k2 s2 fr2 c2 v2 g2 => ?_
    have c' := Vw.mono (s2.kr g1) c
    cases u with
    | lst xs =>
      cases u2 with
      | lst ys =>
        obtain ⟨n, ds, rfl, f, a, v⟩ := c'
        obtain ⟨n2, ds2, rfl, f2, a2, v2'⟩ := c2
        dsimp only
        rw [qL a, R.opt_some, qL a2, R.opt_some]
        refine rel_ok0 ⟨rfl, _, zip_ok v v2', fun S' hk i => ?_⟩ v2 g2
        show (match getQ S' n, getQ S' n2 with
          | some xs, some ys => some (match xs[i]?, ys[i]? with
            | some x, some y => some (D.tup [x, y])
            | _, _ => none)
          | _, _ => none) = _
        rw [qL ((hk n f).trans a), qL ((hk n2 f2).trans a2)]
        dsimp only
        rw [zipD_get]
      | _ => exact rel_no
    | _ => exact rel_no
end
end Cl

/-! part U12 -/
/-! Cl: the second evaluator follows the first: statements. -/
namespace Cl
open PySem (PyData)
def Fx (fm : List Nat) (σ σ' : Sg) : Prop := σ'.length = σ.length ∧ ∀ j, j ∈ fm → σ'[j]? = σ[j]?
theorem Fx.refl {fm : List Nat} {σ : Sg} : Fx fm σ σ := ⟨rfl, fun _ _ => rfl⟩
theorem Fx.trans {fm : List Nat} {σ σ1 σ2 : Sg} (a : Fx fm σ σ1) (b : Fx fm σ1 σ2) : Fx fm σ σ2 := ⟨b.1.trans a.1, fun j h => (b.2 j h).trans (a.2 j h)⟩
def RelQ (fm : List Nat) (w : Wd) (S : Sto) (W : List Nat) (σ : Sg) (m : RS) : SO → Prop
  | .no => True
  | .next π k => ∃ σ' S' w' W', m = .next σ' S' ∧ Step w S w' S' W false ∧ Ews w' S' π σ' W' ∧ Good w' S' W' k ∧ Fresh W S W' ∧ Fx fm σ σ'
  | .brk π k => ∃ σ' S' w' W', m = .brk σ' S' ∧ Step w S w' S' W false ∧ Ews w' S' π σ' W' ∧ Good w' S' W' k ∧ Fresh W S W' ∧ Fx fm σ σ'
  | .cont π k => ∃ σ' S' w' W', m = .cont σ' S' ∧ Step w S w' S' W false ∧ Ews w' S' π σ' W' ∧ Good w' S' W' k ∧ Fresh W S W' ∧ Fx fm σ σ'
  | .exc x π k => ∃ d σ' S' w' W', m = .exc d σ' S' ∧ Step w S w' S' W false ∧ Vw w' S' x d ∧ Ews w' S' π σ' W' ∧ Good w' S' W' k ∧ Fresh W S W' ∧ Fx fm σ σ'
  | .ret p π k => ∃ d σ' S' w' Wp W', m = .ret d S' ∧ Step w S w' S' W false ∧ Ow w' S' p d Wp ∧ Ews w' S' π σ' W' ∧ Good w' S' (Wp ++ W') k ∧ Fresh W S (Wp ++ W') ∧ Fx fm σ σ'
def RelT (fm : List Nat) (w : Wd) (S : Sto) (W : List Nat) (σ : Sg) (m : RS) (t : PS) : Prop := ∃ o, t.Has o ∧ RelQ fm w S W σ m o
variable {w w' w1 w2 : Wd} {S S' S1 S2 : Sto} {W W' W1 W2 Wp : List Nat} {k k' : Nat} {q q' : Bool} {σ σ' σ1 : Sg} {π : Env} {fm : List Nat}
variable {Cs : Cfg} {C : PCfg}
theorem relT_no {m : RS} : RelT fm w S W σ m PS.no := ⟨_, .ret, trivial⟩
/-- what is reached from a later state is reached from the earlier one -/
theorem RelQ.pre {m : RS} {o : SO} (s : Step w S w1 S1 W false) (f : Fresh W S W1) (x : Fx fm σ σ1) (h : RelQ fm w1 S1 W1 σ1 m o) : RelQ fm w S W σ m o := by
  cases o with
  | no => trivial
  | next π k =>
    obtain ⟨σ', S', w', W', e, s', v, g, fr, fx⟩ := h
    exact ⟨σ', S', w', W', e, s.trans s' f (fun h => h), v, g, f.trans fr s.le, x.trans fx⟩
  | brk π k =>
    obtain ⟨σ', S', w', W', e, s', v, g, fr, fx⟩ := h
    exact ⟨σ', S', w', W', e, s.trans s' f (fun h => h), v, g, f.trans fr s.le, x.trans fx⟩
  | cont π k =>
    obtain ⟨σ', S', w', W', e, s', v, g, fr, fx⟩ := h
    exact ⟨σ', S', w', W', e, s.trans s' f (fun h => h), v, g, f.trans fr s.le, x.trans fx⟩
  | exc y π k =>
    obtain ⟨d, σ', S', w', W', e, s', c, v, g, fr, fx⟩ := h
    exact ⟨d, σ', S', w', W', e, s.trans s' f (fun h => h), c, v, g, f.trans fr s.le, x.trans fx⟩
  | ret p π k =>
    obtain ⟨d, σ', S', w', Wp, W', e, s', c, v, g, fr, fx⟩ := h
    exact ⟨d, σ', S', w', Wp, W', e, s.trans s' f (fun h => h), c, v, g, f.trans fr s.le, x.trans fx⟩
theorem RelT.pre {m : RS} {t : PS} (s : Step w S w1 S1 W false) (f : Fresh W S W1) (x : Fx fm σ σ1) (h : RelT fm w1 S1 W1 σ1 m t) : RelT fm w S W σ m t := h.elim fun o h => ⟨o, h.1, h.2.pre s f x⟩
theorem RelT.wk {m : RS} {t : PS} (h : RelT fm w S W σ m t) (hW : ∀ n, n ∈ W → n ∈ W2) : RelT fm w S W2 σ m t := h.pre .refl (fun n hn => .inl (hW n hn)) .refl
theorem RelE.at {α β : Type} {Rp : Pay α β} {m : R β} {t : PR α} {f : β → Sto → RS} {g : α → Env → Nat → PS} (h : RelE Rp w S W q σ m t)
    (h2 : ∀ a b w1 S1 Wp W1 π1 k1, Step w S w1 S1 W q → Fresh W S (Wp ++ W1) → Rp w1 S1 a b Wp → Ews w1 S1 π1 σ W1 → Good w1 S1 (Wp ++ W1) k1 → RelT fm w1 S1 (Wp ++ W1) σ (f b S1) (g a π1 k1)) :
    RelT fm w S W σ (m.at σ f) (PR.at t g) := by
  obtain ⟨o, h1, h3⟩ := h
  cases o with
  | no => exact ⟨_, .bind h1 .ret, trivial⟩
  | ok a π k =>
    obtain ⟨b, S1, w1, Wp, W1, e, s, r, v, gd, fr⟩ := h3
    subst e
    obtain ⟨o2, k1, k2⟩ := (h2 a b w1 S1 Wp W1 π k s fr r v gd).pre (s.weaken (q' := false) (fun _ h => h) (fun h => by cases h)) fr .refl
    exact ⟨o2, .bind h1 k1, k2⟩
  | exc x π k =>
    obtain ⟨d, S1, w1, W1, e, s, r, v, gd, fr⟩ := h3
    subst e
    exact ⟨.exc x π k, .bind h1 .ret, d, σ, S1, w1, W1, rfl, s.weaken (fun _ h => h) (fun h => by cases h), r, v, gd, fr, .refl⟩
theorem RelE.atF {m : R D} {t : PR O} {f : D → Sto → RS} {g : U → Env → Nat → PS} (h : RelE OwP w S W q σ m t)
    (h2 : ∀ u d w1 S1 W1 π1 k1, Step w S w1 S1 W q → Fresh W S W1 → Vw w1 S1 u d → Ews w1 S1 π1 σ W1 → Good w1 S1 W1 k1 → RelT fm w1 S1 W1 σ (f d S1) (g u π1 k1)) :
    RelT fm w S W σ (m.at σ f) (PR.at t fun p π k => g p.toU π k) := by
  have := RelE.at (fm := fm) (f := f) (g := g) h.freeze fun a b w1 S1 Wp W1 π1 k1 s fr c e gd => by
    obtain ⟨c1, c2⟩ := c
    subst c1
    exact h2 a b w1 S1 W1 π1 k1 s fr c2 e gd
  have e : PR.at (t.bind fun p π k => PR.ok p.toU π k) g = PR.at t fun p π k => g p.toU π k := by
    unfold PR.at PR.bind
    rw [Tr.bind_assoc]
    congr 1
    funext o
    cases o <;> rfl
  rwa [e] at this
theorem RelT.opt {α : Type} {o : Option α} {f : α → PS} {m : RS} (h : ∀ a, o = some a → RelT fm w S W σ m (f a)) : RelT fm w S W σ m (PS.opt o f) := by
  cases o with
  | none => exact relT_no
  | some a => exact h a rfl
theorem RelT.req {c : Prop} [Decidable c] {m : RS} {r : PS} (h : c → RelT fm w S W σ m r) : RelT fm w S W σ m (PS.req c r) := by
  unfold PS.req
  split
  · exact h ‹_›
  · exact relT_no
theorem relT_next {π' : Env} (v : Ews w S π' σ' W') (sb : Sub W' W) (gd : Good w S W k) (x : Fx fm σ σ') : RelT fm w S W σ (.next σ' S) (PS.next π' k) :=
  ⟨_, .ret, σ', S, w, W', rfl, .refl, v, gd.subs sb, fun n hn => .inl (sb.mem n hn), x⟩
theorem RelT.seq {m : RS} {t : PS} {f : Sg → Sto → RS} {g : Env → Nat → PS} (h : RelT fm w S W σ m t) (h2 : ∀ σ1 w1 S1 W1 π1 k1, Ews w1 S1 π1 σ1 W1 → Good w1 S1 W1 k1 → RelT fm w1 S1 W1 σ1 (f σ1 S1) (g π1 k1)) : RelT fm w S W σ (m.seq f) (t.seq g) := by
  obtain ⟨o, h1, h3⟩ := h
  cases o with
  | no => exact ⟨_, .bind h1 .ret, trivial⟩
  | next π k =>
    obtain ⟨σ', S', w', W', e, s', v, g', fr, fx⟩ := h3
    subst e
    obtain ⟨o2, k1, k2⟩ := (h2 σ' w' S' W' π k v g').pre s' fr fx
    exact ⟨o2, .bind h1 k1, k2⟩
  | brk π k =>
    obtain ⟨σ', S', w', W', e, r⟩ := h3
    subst e
    exact ⟨_, .bind h1 .ret, σ', S', w', W', rfl, r⟩
  | cont π k =>
    obtain ⟨σ', S', w', W', e, r⟩ := h3
    subst e
    exact ⟨_, .bind h1 .ret, σ', S', w', W', rfl, r⟩
  | exc y π k =>
    obtain ⟨d, σ', S', w', W', e, r⟩ := h3
    subst e
    exact ⟨_, .bind h1 .ret, d, σ', S', w', W', rfl, r⟩
  | ret p π k =>
    obtain ⟨d, σ', S', w', Wp, W', e, r⟩ := h3
    subst e
    exact ⟨_, .bind h1 .ret, d, σ', S', w', Wp, W', rfl, r⟩
theorem Fx.set {i : Nat} {x : Option D} (h : i ∉ fm) : Fx fm σ (σ.set i x) := ⟨by simp, fun j hj => List.getElem?_set_ne (fun e => h (by rw [e]; exact hj))⟩
theorem Fx.setAll {is : List Nat} {ds : List D} (h : ∀ i, i ∈ is → i ∉ fm) : Fx fm σ (Cl.setAll σ is ds) := ⟨setAll_len, fun j hj => setAll_get fun e => h j e hj⟩
theorem fmOk_mem {is : List Nat} (h : fmOk C is = true) : ∀ i, i ∈ is → i ∉ C.fm := fun i hi hm => by
  have := List.all_eq_true.mp h i hi
  simp at this
  exact this hm
/-! ### loops -/
theorem for_rel {f : D → Sg → Sto → RS} {g : U → Env → Nat → PS} {fg : List Nat} {wk : Wk} {all : List D} {w0 : Wd} {S0 : Sto}
    (hat : ∀ S', (∀ n, w0.F n → S'[n]? = S0[n]?) → ∀ i, wk.at i S' = some all[i]?)
    (hb : ∀ u d w S W σ π k, Vw w S u d → Ews w S π σ W → Good w S W k → RelT fm w S W σ (f d σ S) (g u π k)) :
    ∀ (us : List U) (ds : List D) (i n : Nat) (w : Wd) (S : Sto) (W : List Nat) (σ : Sg) (π : Env) (k : Nat), all.drop i = ds → Vws w S us ds → Kr w0 S0 w S → Ews w S π σ W → Good w S W k → ds.length < n →
      RelT fm w S W σ (forLoop f wk n i σ S) (pFor g fg us π k)
  | [], ds, i, n, w, S, W, σ, π, k, hd, v, kr, hv, gd, hn => by
    rw [show ds = [] from v] at hd hn
    cases n with
    | zero => simp at hn
    | succ n =>
      unfold forLoop pFor
      rw [hat S (fun n hn => kr.keep n hn) i]
      have : all[i]? = none := List.getElem?_eq_none (List.drop_eq_nil_iff.mp hd)
      rw [this, RS.opt_some]
      exact relT_next hv .refl gd .refl
  | u :: us, _, i, n, w, S, W, σ, π, k, hd, ⟨d, es, a, b, c⟩, kr, hv, gd, hn => by
    subst a
    cases n with
    | zero => simp at hn
    | succ n =>
      have h0 : all[i]? = some d := by
        have : (all.drop i)[0]? = some d := by rw [hd]; rfl
        simpa using this
      have h1 : all.drop (i + 1) = es := by
        have : (all.drop i).drop 1 = es := by rw [hd]; rfl
        simpa [List.drop_drop, Nat.add_comm] using this
      have step : forLoop f wk (n + 1) i σ S = match f d σ S with
        | .next σ1 S1 => forLoop f wk n (i + 1) σ1 S1
        | .cont σ1 S1 => forLoop f wk n (i + 1) σ1 S1
        | .brk σ1 S1 => .next σ1 S1
        | r => r := by
        rw [forLoop, hat S (fun n hn => kr.keep n hn) i, h0, RS.opt_some]
        try dsimp only
        try (cases f d σ S <;> rfl)
      rw [step, pFor]
      simp only [List.length_cons] at hn
      have go : ∀ {σ' S' w' W' π' k'}, Step w S w' S' W false → Ews w' S' π' σ' W' → Good w' S' W' k' → Fresh W S W' → Fx fm σ σ' → RelT fm w S W σ (forLoop f wk n (i + 1) σ' S') (pFor g fg us (uwipe π' fg) k') := by
        intro σ' S' w' W' π' k' s' v' g' fr fx
        have kr1 := s'.kr gd
        obtain ⟨R1, sb, v2⟩ := Ews.wipe1 (l := fg) v'
        refine ((for_rel hat hb us es (i + 1) n w' S' R1 σ' (uwipe π' fg) k' h1 (Vws.mono kr1 c) ⟨fun n h => kr1.F n (kr.F n h), fun n h => kr1.B n (kr.B n h), fun n h => (kr1.keep n (kr.F n h)).trans (kr.keep n h)⟩ v2 (g'.subs sb) (by omega)).wk sb.mem).pre s' fr fx
      obtain ⟨o, k1, k2⟩ := hb u d w S W σ π k b hv gd
      cases o with
      | no => exact ⟨_, .bind k1 .ret, trivial⟩
      | next π' k' =>
        obtain ⟨σ', S', w', W', e, s', v, g', fr, fx⟩ := k2
        rw [e]
        obtain ⟨o2, k3, k4⟩ := go s' v g' fr fx
        exact ⟨o2, .bind k1 k3, k4⟩
      | cont π' k' =>
        obtain ⟨σ', S', w', W', e, s', v, g', fr, fx⟩ := k2
        rw [e]
        obtain ⟨o2, k3, k4⟩ := go s' v g' fr fx
        exact ⟨o2, .bind k1 k3, k4⟩
      | brk π' k' =>
        obtain ⟨σ', S', w', W', e, r⟩ := k2
        rw [e]
        exact ⟨_, .bind k1 .ret, σ', S', w', W', rfl, r⟩
      | exc y π' k' =>
        obtain ⟨d, σ', S', w', W', e, r⟩ := k2
        rw [e]
        exact ⟨_, .bind k1 .ret, d, σ', S', w', W', rfl, r⟩
      | ret p π' k' =>
        obtain ⟨d, σ', S', w', Wp, W', e, r⟩ := k2
        rw [e]
        exact ⟨_, .bind k1 .ret, d, σ', S', w', Wp, W', rfl, r⟩
theorem while_rel {c : Sg → Sto → R Bool} {cu : Env → Nat → PR Bool} {f : Sg → Sto → RS} {g : Env → Nat → PS} {fg : List Nat}
    (hc : ∀ w S W σ π k, Ews w S π σ W → Good w S W k → ∃ q, RelE EqP w S W q σ (c σ S) (cu π k))
    (hb : ∀ w S W σ π k, Ews w S π σ W → Good w S W k → RelT fm w S W σ (f σ S) (g π k)) :
    ∀ (n : Nat) (w : Wd) (S : Sto) (W : List Nat) (σ : Sg) (π : Env) (k : Nat), Ews w S π σ W → Good w S W k → RelT fm w S W σ (whileLoop c f n σ S) (pWhile cu g fg n π k)
  | 0, w, S, W, σ, π, k, hv, gd => relT_no
  | n + 1, w, S, W, σ, π, k, hv, gd => by
    unfold whileLoop pWhile
    obtain ⟨q, hcc⟩ := hc w S W σ π k hv gd
    refine hcc.at fun b b2 w1 S1 Wp W1 π1 k1 s fr c1 v1 g1 => ?_
    obtain ⟨c2, c3⟩ := c1
    subst c2 c3
    cases b with
    | false => exact relT_next v1 .refl g1 .refl
    | true =>
      dsimp only
      have go : ∀ {σ' S' w' W' π' k'}, Step w1 S1 w' S' W1 false → Ews w' S' π' σ' W' → Good w' S' W' k' → Fresh W1 S1 W' → Fx fm σ σ' → RelT fm w1 S1 W1 σ (whileLoop c f n σ' S') (pWhile cu g fg n (uwipe π' fg) k') := by
        intro σ' S' w' W' π' k' s' v' g' fr fx
        obtain ⟨R1, sb, v2⟩ := Ews.wipe1 (l := fg) v'
        exact ((while_rel hc hb n w' S' R1 σ' (uwipe π' fg) k' v2 (g'.subs sb)).wk sb.mem).pre s' fr fx
      obtain ⟨o, k1', k2⟩ := hb w1 S1 W1 σ π1 k1 v1 g1
      cases o with
      | no => exact ⟨_, .bind k1' .ret, trivial⟩
      | next π' k' =>
        obtain ⟨σ', S', w', W', e, s', v, g', fr, fx⟩ := k2
        rw [e]
        obtain ⟨o2, k3, k4⟩ := go s' v g' fr fx
        exact ⟨o2, .bind k1' k3, k4⟩
      | cont π' k' =>
        obtain ⟨σ', S', w', W', e, s', v, g', fr, fx⟩ := k2
        rw [e]
        obtain ⟨o2, k3, k4⟩ := go s' v g' fr fx
        exact ⟨o2, .bind k1' k3, k4⟩
      | brk π' k' =>
        obtain ⟨σ', S', w', W', e, r⟩ := k2
        rw [e]
        exact ⟨_, .bind k1' .ret, σ', S', w', W', rfl, r⟩
      | exc y π' k' =>
        obtain ⟨d, σ', S', w', W', e, r⟩ := k2
        rw [e]
        exact ⟨_, .bind k1' .ret, d, σ', S', w', W', rfl, r⟩
      | ret p π' k' =>
        obtain ⟨d, σ', S', w', Wp, W', e, r⟩ := k2
        rw [e]
        exact ⟨_, .bind k1' .ret, d, σ', S', w', Wp, W', rfl, r⟩
end Cl

/-! part U13 -/
/-! Cl: the second evaluator follows the first: statements, by induction. -/
namespace Cl
open PySem (PyData)
variable {w w' w1 w2 : Wd} {S S' S1 S2 : Sto} {W W' W1 W2 Wp : List Nat} {k k' : Nat} {q q' : Bool} {σ σ' σ1 : Sg} {π : Env} {fm : List Nat}
variable {Cs : Cfg} {C : PCfg}
theorem exOk_ok {us : List U} {ds : List D} (v : Vws w S us ds) (h : uexOk us = true) : exOk ds = true := by
  unfold uexOk at h
  split at h
  · obtain ⟨d, es, rfl, h1, h2⟩ := v
    rw [show d = .int _ from h1, show es = [] from h2]
    exact h
  · obtain ⟨d, es, rfl, h1, h2⟩ := v
    rw [show d = .str _ from h1, show es = [] from h2]
    exact h
  · cases h
mutual
theorem evX_ok {us : List U} {ds : List D} (v : Vws w S us ds) : ∀ {x : XE} {u : U}, uX x us = some u → ∃ d, evX x ds = some d ∧ Vw w S u d
  | .cst c, u, h => by
    unfold uX at h
    cases h
    exact ⟨c.toD, by unfold evX; rfl, kd_ok c⟩
  | .fld, u, h => by
    unfold uX at h
    split at h
    · cases h
      obtain ⟨d, es, rfl, h1, h2⟩ := v
      rw [show es = [] from h2]
      exact ⟨d, by unfold evX; rfl, h1⟩
    · cases h
  | .tup xs, u, h => by
    unfold uX at h
    obtain ⟨ys, h1, rfl⟩ := Option.map_eq_some_iff.mp h
    obtain ⟨es, h2, h3⟩ := evXs_ok v h1
    exact ⟨.tup es, by unfold evX; rw [h2]; rfl, es, rfl, h3⟩
theorem evXs_ok {us : List U} {ds : List D} (v : Vws w S us ds) : ∀ {xs : List XE} {vs : List U}, uXs xs us = some vs → ∃ es, evXs xs ds = some es ∧ Vws w S vs es
  | [], vs, h => by
    unfold uXs at h
    cases h
    exact ⟨[], by unfold evXs; rfl, rfl⟩
  | x :: xs, vs, h => by
    unfold uXs at h
    cases h1 : uX x us with
    | none => rw [h1] at h; cases h
    | some u =>
      cases h2 : uXs xs us with
      | none => rw [h1, h2] at h; cases h
      | some us' =>
        rw [h1, h2] at h
        cases h
        obtain ⟨d, h3, h4⟩ := evX_ok v h1
        obtain ⟨es, h5, h6⟩ := evXs_ok v h2
        exact ⟨d :: es, by unfold evXs; rw [h3, h5], d, es, rfl, h4, h6⟩
end
theorem vaug_ok {o : Op} {a b u : U} {da db : D} (ha : Lv w S a da) (hb : Lv w S b db) (e : vaug o a b = some u) : ∃ d, augop o da db S = .ok d S ∧ Vw w S u d := by
  unfold vaug at e
  split at e
  · cases e; rw [lv_int ha, lv_int hb]; exact ⟨_, rfl, rfl⟩
  · obtain ⟨c, rfl⟩ := vif_some e; rw [lv_str ha, lv_str hb]; exact ⟨_, R.req_of c _, rfl⟩
  · cases e; rw [lv_int ha, lv_int hb]; exact ⟨_, rfl, rfl⟩
  · cases e
/-- an owned ref gets other content -/
theorem put_good {n : Nat} {o : Ob} (gd : Good w S W k) (hn : n ∈ W) : Good w (S.set n o) W k ∧ Step w S w (S.set n o) W false ∧ Kr w S w (S.set n o) := by
  have own := gd.own n hn
  have ne : ∀ m, m ≠ n → (S.set n o)[m]? = S[m]? := fun m h => List.getElem?_set_ne (fun e => h e.symm)
  refine ⟨⟨gd.nd, fun m hm => ?_, fun m hm => ?_, fun m hm => ?_⟩, ⟨by simp, fun m hm hh hb => ?_, fun _ h => h, fun _ h => h, fun _ h => .inl h, fun _ h => .inl h⟩, ⟨fun _ h => h, fun _ h => h, fun m hm => ne m fun e => by subst e; exact own.2.1 hm⟩⟩
  · have := gd.own m hm
    exact ⟨by simpa using this.1, this.2⟩
  · exact ⟨by simpa using (gd.fz m hm).1, (gd.fz m hm).2⟩
  · obtain ⟨a, b, c, e, r⟩ := gd.bg m hm
    exact ⟨a, b, c, by rw [ne m fun z => by subst z; exact own.2.2 hm]; exact e, r⟩
  · rcases hh with hh | hh
    · cases hh
    · exact ne m fun e => by subst e; exact hh hn
theorem set_same {i : Nat} {x : Option D} (h : σ[i]? = some x) : σ.set i x = σ := by
  apply List.ext_getElem?
  intro j
  by_cases hj : i = j
  · subst hj
    rw [List.getElem?_set_self (List.getElem?_eq_some_iff.mp h).1, h]
  · rw [List.getElem?_set_ne hj]
/-- o.f = d -/
theorem setf_rel {i c : Nat} {f : String} {p : O} {d x0 : D} {ns : List String} {ps : List O} (hg : Cs.g = C.g) (hv : Ews w S π σ W) (hp : Ow w S p d Wp) (gd : Good w S (Wp ++ W) k) (ho : getO π i = some (.oo c ns ps)) (hx : σ[i]? = some (some x0)) (hn : C.g.prop c f = none) :
    RelT fm w S (Wp ++ W) σ (RS.opt (setField Cs x0 f d S) fun S3 => .next σ S3) (PS.next (π.set i (some (.oo c (oput f p ns ps).1 (oput f p ns ps).2))) k) := by
  obtain ⟨d0, Wo, R0, h1, h2, h3, h4⟩ := hv.slot ho
  rw [hx] at h1
  cases h1
  obtain ⟨n, gs, W', a, b, e1, e2, e3⟩ := h3
  subst a b
  have hm : n ∈ Wp ++ W := by simp [h2.mem_iff]
  have hs : setField Cs (.ref n) f d S = some (S.set n (.ins c (putF f d gs))) := by
    unfold setField
    dsimp only
    rw [e1, hg]
    dsimp only
    rw [hn]
  rw [hs, RS.opt_some]
  obtain ⟨g2, st, kr⟩ := put_good (o := .ins c (putF f d gs)) gd hm
  have nd := List.nodup_append.mp gd.nd
  have nd2 := h2.nodup_iff.mp nd.2.1
  have ne : ∀ m, m ≠ n → (S.set n (.ins c (putF f d gs)))[m]? = S[m]? := fun m h => List.getElem?_set_ne (fun e => h e.symm)
  have hnW : n ∈ W := by simp [h2.mem_iff]
  have nd3 := List.nodup_cons.mp (show (n :: (W' ++ R0)).Nodup from nd2)
  have nW' : n ∉ W' := fun h => nd3.1 (by simp [h])
  have nR : n ∉ R0 := fun h => nd3.1 (by simp [h])
  have nWp : n ∉ Wp := fun h => nd.2.2 n h n hnW rfl
  obtain ⟨q1, W3, R3, q2, q3, q4⟩ := fl_put (f := f) e2 (Ows.mono kr (fun m hm => ne m fun e => nW' (e ▸ hm)) e3) (Ow.mono kr (fun m hm => ne m fun e => nWp (e ▸ hm)) hp)
  obtain ⟨W5, p5, v5⟩ := Ews.back (p := .oo c (oput f p ns ps).1 (oput f p ns ps).2) (Wp := n :: W3) (Ews.mono kr (fun m hm => ne m fun e => nR (e ▸ hm)) h4) hx (getO_lt ho) ⟨n, putF f d gs, W3, rfl, rfl, List.getElem?_set_self (gd.own n hm).1, q1, q2⟩
  have sb : Sub W5 (Wp ++ W) := by
    have s3 := Sub.of q3 q4
    refine ⟨fun m hm => ?_, fun hh => p5.nodup_iff.mpr ?_⟩
    · have := p5.mem_iff.mp hm
      simp at this
      rcases this with z | z | z
      · subst z; simp [hnW]
      · have := s3.mem m z
        simp at this
        rcases this with t | t <;> simp [t, h2.mem_iff]
      · simp [h2.mem_iff, z]
    · have n3 := s3.nd (List.nodup_append.mpr ⟨nd.1, (List.nodup_append.mp nd3.2).1, fun x hx y hy e => nd.2.2 x hx y (by simp [h2.mem_iff, hy]) e⟩)
      have nR2 := List.nodup_append.mp nd3.2
      rw [List.cons_append]
      refine List.nodup_cons.mpr ⟨fun h => ?_, List.nodup_append.mpr ⟨n3, nR2.2.1, fun x hx y hy e => ?_⟩⟩
      · simp at h
        rcases h with z | z
        · have := s3.mem n z
          simp at this
          rcases this with t | t
          · exact nWp t
          · exact nW' t
        · exact nR z
      · have := s3.mem x hx
        simp at this
        rcases this with t | t
        · exact nd.2.2 x t y (by simp [h2.mem_iff, hy]) e
        · exact nR2.2.2 x t y hy e
  refine ⟨_, .ret, σ, _, w, W5, rfl, st, v5, g2.subs sb, fun m hm => .inl (sb.mem m hm), .refl⟩
theorem putF_same {f : String} {d : D} : ∀ {gs : List (String × D)}, gs.lookup f = some d → putF f d gs = gs
  | [], h => by cases h
  | (g, w) :: gs, h => by
    unfold putF
    by_cases hf : g = f
    · subst hf
      rw [if_pos rfl]
      have : w = d := by simpa [List.lookup] using h
      rw [this]
    · rw [if_neg hf, putF_same (by
        have : (f == g) = false := by simp; exact fun h => hf h.symm
        simpa [List.lookup, this] using h)]
/-- x += y -/
theorem aug_rel {i : Nat} {o : Op} {x0 dy : D} {y : U} (hC : C.fm = fm) (hv : Ews w S π σ W) (gd : Good w S W k) (hx : σ[i]? = some (some x0)) (hy : Lv w S y dy) :
    RelT fm w S W σ ((augop o x0 dy S).at σ fun z S2 => .next (σ.set i (some z)) S2) (paug C i o y π k) := by
  unfold paug
  cases ho : getO π i with
  | none => exact relT_no
  | some p =>
    obtain ⟨d0, Wo, R0, h1, h2, h3, h4⟩ := hv.slot ho
    rw [hx] at h1
    cases h1
    cases p with
    | oo c ns ps => exact relT_no
    | sh v =>
      dsimp only
      refine .req fun hf => .opt fun u hu => ?_
      obtain ⟨z, e1, e2⟩ := vaug_ok h3.2.lv hy hu
      rw [e1, R.at_ok]
      obtain ⟨W', v', sb⟩ := hv.set1 (i := i) (p := .sh u) (Wp := []) ⟨rfl, e2⟩
      exact relT_next v' sb gd (.set (by rw [← hC]; exact fmOk_mem hf i (by simp)))
    | ol xs =>
      obtain ⟨n, ds, rfl, b, e1, e2⟩ := h3
      subst b
      dsimp only
      cases o with
      | add =>
        cases y with
        | lst ys =>
          dsimp only
          refine .req fun hl => ?_
          obtain ⟨n2, ds2, rfl, a2, v2⟩ := lv_lst hy
          have ha : augop .add (.ref n) (.ref n2) S = .ok (.ref n) (S.set n (.lst (ds ++ ds2))) := by
            show R.opt (getL S n) _ = _
            rw [lL e1, R.opt_some, lL a2, R.opt_some, R.req_of (by rw [e2.len, v2.len]; exact hl)]
          rw [ha, R.at_ok, set_same hx]
          have hm : n ∈ W := by simp [h2.mem_iff]
          obtain ⟨g2, st, kr⟩ := put_good (o := .lst (ds ++ ds2)) gd hm
          have ne : ∀ m, m ≠ n → (S.set n (.lst (ds ++ ds2)))[m]? = S[m]? := fun m h => List.getElem?_set_ne (fun e => h e.symm)
          have nd2 := h2.nodup_iff.mp gd.nd
          obtain ⟨W5, p5, v5⟩ := Ews.back (p := .ol (xs ++ ys)) (Wp := [n]) (Ews.mono kr (fun m hm => ne m fun e => (List.nodup_append.mp nd2).2.2 n (by simp) m hm e.symm) h4) hx (getO_lt ho) ⟨n, _, rfl, rfl, List.getElem?_set_self (gd.own n hm).1, Vws.mono kr (e2.app v2)⟩
          have pp : W5.Perm W := p5.trans h2.symm
          exact ⟨_, .ret, σ, _, w, W5, rfl, st, v5, g2.perm pp.symm, fun m hm => .inl (pp.mem_iff.mp hm), .refl⟩
        | _ => exact relT_no
      | _ => exact relT_no
theorem simQs (hg : Cs.g = C.g) (hF : SimF Cs C) : ∀ (es : Es) {w : Wd} {S : Sto} {W : List Nat} {k : Nat} {σ : Sg} {π : Env}, Ews w S π σ W → Good w S W k → RelE OwsP w S W false σ (evEs Cs es σ S) (pvQs C es π k)
  | .nil, w, S, W, k, σ, π, hv, gd => rel_ok0 (show OwsP w S [] [] [] from ⟨rfl, rfl⟩) hv gd
  | .cons e es, w, S, W, k, σ, π, hv, gd => by
    unfold evEs pvQs
    refine ((simE hg hF e hv gd).qq (q' := false) (fun h => by cases h)).bind fun p d w1 S1 Wp W1 π1 k1 s fr c v1 g1 => ?_
    refine RelE.frame (Rp := OwP) OwP.mono c g1 (simQs hg hF es v1 g1.right) fun ps ds w2 S2 Wq W2 π2 k2 s2 c2 c3 v2 g2 f2 => ?_
    have g3 : Good w2 S2 ((Wp ++ Wq) ++ W2) k2 := by rw [List.append_assoc]; exact g2
    refine rel_ok (Wp := Wp ++ Wq) (show Ows w2 S2 (p :: ps) (d :: ds) (Wp ++ Wq) from ⟨d, ds, Wp, Wq, rfl, rfl, c2, c3⟩) v2 g3 (fun n hn => .inl (by simpa using hn))
end Cl

/-! part U14 -/
/-! Cl: the second evaluator follows the first: statements, defs. -/
namespace Cl
open PySem (PyData)
variable {Cs : Cfg} {C : PCfg}
theorem isVar_some {e : E} {i : Nat} (h : isVar e = some i) : e = .var i := by
  unfold isVar at h
  split at h
  · cases h; rfl
  · cases h
theorem setSto_same {S : Sto} {n : Nat} {o : Ob} (h : S[n]? = some o) : S.set n o = S := by
  apply List.ext_getElem?
  intro j
  by_cases hj : n = j
  · subst hj
    rw [List.getElem?_set_self (List.getElem?_eq_some_iff.mp h).1, h]
  · rw [List.getElem?_set_ne hj]
theorem augf_rel {w : Wd} {S : Sto} {W : List Nat} {k : Nat} {σ : Sg} {π : Env} {i : Nat} {f : String} {op : Op} {e : E} {fm : List Nat} (hg : Cs.g = C.g) (hv : Ews w S π σ W) (gd : Good w S W k) (hq : quiet C e = true) (hk : plOk C π (.f i f) = true)
    (h : RelE OwP w S W (quiet C e) σ (evE Cs e σ S) (pvE C e π k)) :
    RelT fm w S W σ ((evE Cs (.var i) σ S).at σ fun x S1 => (fldGet Cs x f S1).at σ fun y S2 => (evE Cs e σ S2).at σ fun z S3 => (augop op y z S3).at σ fun w S4 => RS.opt (setField Cs x f w S4) fun S5 => .next σ S5)
      (PS.opt (getP π (.f i f)) fun _ => (obs C true e (pvE C e π k) π k).at fun y π1 k1 => paugf C i f op y π1 k1) := by
  refine .opt fun p0 hp0 => ?_
  obtain ⟨d, Wp, Rr, h1, h2, h3, h4, _⟩ := pl_get (e := .fld (.var i) f) hg hv rfl hk hp0
  -- the object
  have hob : ∃ c ns ps, getO π i = some (.oo c ns ps) ∧ C.g.prop c f = none := by
    unfold plOk at hk
    dsimp only at hk
    cases ho : getO π i with
    | none => rw [ho] at hk; cases hk
    | some o =>
      rw [ho] at hk
      cases o with
      | oo c ns ps => exact ⟨c, ns, ps, rfl, by simpa using hk⟩
      | _ => cases hk
  obtain ⟨c, ns, ps, ho, hpn⟩ := hob
  obtain ⟨d0, Wo, R0, g1, g2, g3, g4⟩ := hv.slot ho
  obtain ⟨n, gs, W', a, b, e1, e2, e3⟩ := g3
  subst a b
  have hn : n ∈ W := by simp [g2.mem_iff]
  have hv0 : evE Cs (.var i) σ S = .ok (.ref n) S := by unfold evE; rw [g1]
  have hfl : ∀ S', S'[n]? = S[n]? → fldGet Cs (.ref n) f S' = R.opt (gs.lookup f) fun d => .ok d S' := by
    intro S' hS
    unfold fldGet
    dsimp only
    rw [hS, e1, hg]
    dsimp only
    rw [hpn]
  have hlk : gs.lookup f = some d := by
    have : evE Cs (.fld (.var i) f) σ S = (evE Cs (.var i) σ S).bind fun x S1 => fldGet Cs x f S1 := (rfl)
    rw [this, hv0, R.bind_ok, hfl S rfl] at h1
    cases hl : gs.lookup f with
    | none => rw [hl] at h1; cases h1
    | some d' => rw [hl] at h1; cases h1; rfl
  rw [hv0, R.at_ok, hfl S rfl, hlk, R.opt_some, R.at_ok]
  rw [hq] at h
  refine (rel_obs hg hv gd h).at fun y dy w1 S1 Wq W1 π1 k1 s fr c2 v1 gd1 => ?_
  have c0 : Wq = [] := c2.1
  subst c0
  have gd1' : Good w1 S1 W1 k1 := gd1
  have keep : ∀ m, m ∈ W → S1[m]? = S[m]? := fun m hm => s.keep m (gd.own m hm).1 (.inl rfl) (gd.own m hm).2.2
  unfold paugf
  cases hp1 : getP π1 (.f i f) with
  | none => exact relT_no
  | some p1 =>
    have hob1 : ∃ c1 ns1 ps1, getO π1 i = some (.oo c1 ns1 ps1) := by
      unfold getP at hp1
      dsimp only at hp1
      cases ho1 : getO π1 i with
      | none => rw [ho1] at hp1; cases hp1
      | some o =>
        rw [ho1] at hp1
        cases o with
        | oo c ns ps => exact ⟨c, ns, ps, rfl⟩
        | _ => cases hp1
    obtain ⟨c1, ns1, ps1, ho1⟩ := hob1
    obtain ⟨dd, Wo1, R1, q1, q2, q3, q4⟩ := v1.slot ho1
    rw [g1] at q1
    cases q1
    obtain ⟨n', gs1, W1', a1, b1, f1, f2, f3⟩ := q3
    cases a1
    have hcc : c1 = c ∧ gs1 = gs := by
      rw [keep n hn, e1] at f1
      cases f1
      exact ⟨rfl, rfl⟩
    obtain ⟨rfl, rfl⟩ := hcc
    have hk1 : plOk C π1 (.f i f) = true := by
      unfold plOk
      dsimp only
      rw [ho1]
      dsimp only
      rw [hpn]
      rfl
    obtain ⟨d1, Wp1, Rr1, r1, r2, r3, _, r5⟩ := pl_get (e := .fld (.var i) f) hg v1 rfl hk1 hp1
    have hd : d1 = d := by
      have := h4 S1 keep
      rw [r1] at this
      cases this
      rfl
    subst hd
    cases p1 with
    | oo c ns ps => exact relT_no
    | sh v =>
      dsimp only
      refine .opt fun u hu => ?_
      obtain ⟨z, t1, t2⟩ := vaug_ok r3.2.lv c2.lv hu
      rw [t1, R.at_ok]
      have := setf_rel (fm := fm) (f := f) (p := .sh u) (d := z) (Wp := []) hg v1 ⟨rfl, t2⟩ gd1 ho1 g1 hpn
      unfold setP
      dsimp only
      rw [ho1]
      exact this
    | ol xs =>
      dsimp only
      cases op with
      | add =>
        cases y with
        | lst ys =>
          dsimp only
          refine .req fun hl => ?_
          obtain ⟨m, ds, rfl, b2, t1, t2⟩ := r3
          subst b2
          obtain ⟨n2, ds2, rfl, a2, v2⟩ := lv_lst c2.lv
          have ha : augop .add (.ref m) (.ref n2) S1 = .ok (.ref m) (S1.set m (.lst (ds ++ ds2))) := by
            show R.opt (getL S1 m) _ = _
            rw [lL t1, R.opt_some, lL a2, R.opt_some, R.req_of (by rw [t2.len, v2.len]; exact hl)]
          rw [ha, R.at_ok]
          have hm : m ∈ W1 := by simp [r2.mem_iff]
          obtain ⟨g2', st, kr⟩ := put_good (o := .lst (ds ++ ds2)) gd1' hm
          have ne : ∀ x, x ≠ m → (S1.set m (.lst (ds ++ ds2)))[x]? = S1[x]? := fun x h => List.getElem?_set_ne (fun e => h e.symm)
          have nm : n ≠ m := by
            intro e
            subst e
            rw [f1] at t1
            cases t1
          have hS : (S1.set m (.lst (ds ++ ds2)))[n]? = some (.ins c1 gs1) := (ne n nm).trans f1
          have hset : setField Cs (.ref n) f (.ref m) (S1.set m (.lst (ds ++ ds2))) = some (S1.set m (.lst (ds ++ ds2))) := by
            unfold setField
            dsimp only
            rw [hS, hg]
            dsimp only
            rw [hpn]
            dsimp only
            rw [putF_same hlk, setSto_same hS]
          rw [hset, RS.opt_some]
          have nd2 := r2.nodup_iff.mp gd1'.nd
          obtain ⟨W5, p5, v5⟩ := r5 w1 (S1.set m (.lst (ds ++ ds2))) (.ol (xs ++ ys)) [m] kr (fun x hx => ne x fun e => (List.nodup_append.mp nd2).2.2 m (by simp) x hx e.symm) ⟨m, _, rfl, rfl, List.getElem?_set_self (gd1'.own m hm).1, Vws.mono kr (t2.app v2)⟩
          have pp : W5.Perm W1 := p5.trans r2.symm
          exact ⟨_, .ret, σ, _, w1, W5, rfl, st, v5, g2'.perm pp.symm, fun x hx => .inl (pp.mem_iff.mp hx), .refl⟩
        | _ => exact relT_no
      | _ => exact relT_no
theorem cond_rel (hg : Cs.g = C.g) (hF : SimF Cs C) (c : E) {w : Wd} {S : Sto} {W : List Nat} {k : Nat} {σ : Sg} {π : Env} (hv : Ews w S π σ W) (gd : Good w S W k) :
    RelE EqP w S W (quiet C c) σ ((evE Cs c σ S).bind fun t S1 => R.opt (truth S1 t) fun k => .ok k S1) ((obs C true c (pvE C c π k) π k).bind fun t π1 k1 => PR.opt (vtruth t) fun x => .ok x π1 k1) := by
  refine (rel_obs hg hv gd (simE hg hF c hv gd)).bind fun x dx w1 S1 Wp W1 π1 k1 s fr c v1 g1 => ?_
  have c0 : Wp = [] := c.1
  subst c0
  refine .opt fun b hb => ?_
  rw [vtruth_ok c.lv hb, R.opt_some]
  exact rel_ok0 ⟨rfl, rfl⟩ v1 g1
theorem RelT.leave_none {fm : List Nat} {w : Wd} {S : Sto} {W : List Nat} {σ : Sg} {m : RS} {t : PS} (h : RelT fm w S W σ m t) : RelT fm w S W σ (leaveSuite none m) (uleave none t) := by
  obtain ⟨o, h1, h2⟩ := h
  cases o with
  | no => exact ⟨_, .bind h1 .ret, trivial⟩
  | exc x π k => exact ⟨.no, .bind h1 .ret, trivial⟩
  | next π k =>
    obtain ⟨σ', S', w', W', e, r⟩ := h2
    exact ⟨_, .bind h1 .ret, σ', S', w', W', by rw [e]; rfl, r⟩
  | brk π k =>
    obtain ⟨σ', S', w', W', e, r⟩ := h2
    exact ⟨_, .bind h1 .ret, σ', S', w', W', by rw [e]; rfl, r⟩
  | cont π k =>
    obtain ⟨σ', S', w', W', e, r⟩ := h2
    exact ⟨_, .bind h1 .ret, σ', S', w', W', by rw [e]; rfl, r⟩
  | ret p π k =>
    obtain ⟨d, σ', S', w', Wp, W', e, r⟩ := h2
    exact ⟨_, .bind h1 .ret, d, σ', S', w', Wp, W', by rw [e]; rfl, r⟩
theorem RelT.leave_some {fm : List Nat} {w : Wd} {S : Sto} {W : List Nat} {σ : Sg} {m : RS} {t : PS} {i : Nat} (hs : i ∉ fm) (h : RelT fm w S W σ m t) : RelT fm w S W σ (leaveSuite (some i) m) (uleave (some i) t) := by
  obtain ⟨o, h1, h2⟩ := h
  cases o with
  | no => exact ⟨_, .bind h1 .ret, trivial⟩
  | exc x π k => exact ⟨.no, .bind h1 .ret, trivial⟩
  | next π k =>
    obtain ⟨σ', S', w', W', e, s, v, g, f, x⟩ := h2
    obtain ⟨R1, a, b⟩ := Ews.drop i v
    have sb := Sub.of a (.refl _)
    exact ⟨_, .bind h1 .ret, _, S', w', R1, by rw [e]; rfl, s, Ews.free none b, g.subs sb, fun n hn => f n (sb.mem n hn), x.trans (.set hs)⟩
  | brk π k =>
    obtain ⟨σ', S', w', W', e, s, v, g, f, x⟩ := h2
    obtain ⟨R1, a, b⟩ := Ews.drop i v
    have sb := Sub.of a (.refl _)
    exact ⟨_, .bind h1 .ret, _, S', w', R1, by rw [e]; rfl, s, Ews.free none b, g.subs sb, fun n hn => f n (sb.mem n hn), x.trans (.set hs)⟩
  | cont π k =>
    obtain ⟨σ', S', w', W', e, s, v, g, f, x⟩ := h2
    obtain ⟨R1, a, b⟩ := Ews.drop i v
    have sb := Sub.of a (.refl _)
    exact ⟨_, .bind h1 .ret, _, S', w', R1, by rw [e]; rfl, s, Ews.free none b, g.subs sb, fun n hn => f n (sb.mem n hn), x.trans (.set hs)⟩
  | ret p π k =>
    obtain ⟨d, σ', S', w', Wp, W', e, r⟩ := h2
    exact ⟨_, .bind h1 .ret, d, σ', S', w', Wp, W', by rw [e]; rfl, r⟩
mutual
theorem simS (hg : Cs.g = C.g) (hF : SimF Cs C) : ∀ (s : St) {w : Wd} {S : Sto} {W : List Nat} {k : Nat} {σ : Sg} {π : Env}, Ews w S π σ W → Good w S W k → RelT C.fm w S W σ (evS Cs s σ S) (pvS C s π k)
  | .set i e, w, S, W, k, σ, π, hv, gd => by
    unfold evS pvS
    refine .req fun hf => (simE hg hF e hv gd).at fun p d w1 S1 Wp W1 π1 k1 s fr c v1 g1 => ?_
    obtain ⟨W', v', sb⟩ := v1.set1 (i := i) c
    exact relT_next v' sb g1 (.set (fmOk_mem hf i (by simp)))
  | .sets is e, w, S, W, k, σ, π, hv, gd => by
    unfold evS pvS
    refine .req fun hf => (simE hg hF e hv gd).atF (g := fun u π1 k1 => PS.opt (utarget is true u π1) fun π2 => .next π2 k1) fun u d w1 S1 W1 π1 k1 s fr c v1 g1 => ?_
    refine .opt fun π2 h2 => ?_
    obtain ⟨σ3, W', h3, h4, h5, h6, h7⟩ := target_ok c v1 h2
    rw [h3, RS.opt_some]
    exact relT_next h4 h5 g1 ⟨h6, fun j hj => h7 j fun z => fmOk_mem hf j z hj⟩
  | .par is es, w, S, W, k, σ, π, hv, gd => by
    unfold evS pvS
    refine .req fun hf => (simQs hg hF es hv gd).at fun ps ds w1 S1 Wp W1 π1 k1 s fr c v1 g1 => ?_
    refine .req fun hl => ?_
    have hlen : ds.length = is.length := by
      have : ∀ {ps : List O} {ds : List D} {W : List Nat}, Ows w1 S1 ps ds W → ds.length = ps.length := by
        intro ps
        induction ps with
        | nil => intro ds W h; rw [h.1]; rfl
        | cons p ps ih =>
          intro ds W h
          obtain ⟨d, es, W1, W2, a, b, c, g⟩ := h
          rw [a, List.length_cons, List.length_cons, ih g]
      rw [this c, hl]
    rw [if_pos hlen]
    obtain ⟨W', v', sb⟩ := setAllO_ok (is := is) c v1
    exact relT_next v' sb g1 (.setAll fun i hi => fmOk_mem hf i hi)
  | .aug i o e, w, S, W, k, σ, π, hv, gd => by
    unfold evS pvS
    refine .opt fun p hp => ?_
    obtain ⟨d, Wp, R1, h1, h2, h3, h4⟩ := hv.slot hp
    rw [h1]
    refine (rel_obs hg hv gd (simE hg hF e hv gd)).at fun y dy w1 S1 Wq W1 π1 k1 s fr c v1 g1 => ?_
    have c0 : Wq = [] := c.1
    subst c0
    exact aug_rel rfl v1 g1 h1 c.lv
  | .setf o f e, w, S, W, k, σ, π, hv, gd => by
    unfold evS pvS
    refine .opt fun i hi => ?_
    have := isVar_some hi
    subst this
    refine (simE hg hF e hv gd).at fun p d w1 S1 Wp W1 π1 k1 s fr c v1 g1 => ?_
    cases ho : getO π1 i with
    | none => exact relT_no
    | some q =>
      cases q with
      | oo cl ns ps =>
        obtain ⟨d0, Wo, R1, h1, h2, h3, h4⟩ := v1.slot ho
        unfold evE
        rw [h1]
        rw [R.at_ok]
        exact .req fun hn => setf_rel hg v1 c g1 ho h1 hn
      | _ => exact relT_no
  | .augf o f op e, w, S, W, k, σ, π, hv, gd => by
    unfold evS pvS
    refine .opt fun i hi => ?_
    have := isVar_some hi
    subst this
    exact .req fun hq => augf_rel hg hv gd hq.1 hq.2 (simE hg hF e hv gd)
  | .seti o j e, w, S, W, k, σ, π, hv, gd => by
    unfold evS pvS
    refine .opt fun i hi => .opt fun p0 hp0 => ?_
    have := isVar_some hi
    subst this
    obtain ⟨x, _, _, hx, _⟩ := hv.slot hp0
    refine (simE hg hF e hv gd).atF (g := fun u π1 k1 => (pvE C j π1 k1).at fun q π2 k2 => PS.opt (ownL C π2 (.var i)) fun r => match q with
      | .sh (.int t) => PS.opt (L2.ixN r.2.length t) fun n => .next (setP π2 r.1 (.ol (r.2.set n u))) k2
      | _ => .no) fun u d w1 S1 W1 π1 k1 s fr c v1 g1 => ?_
    have he : evE Cs (.var i) σ S1 = .ok x S1 := by unfold evE; rw [hx]
    rw [he, R.at_ok]
    refine (simE hg hF j v1 g1).at fun q dq w2 S2 Wq W2 π2 k2 s2 fr2 c2 v2 g2 => ?_
    refine .opt fun r hr => ?_
    obtain ⟨pl, xs⟩ := r
    obtain ⟨a1, b1, c1⟩ := ownL_some hr
    have hpl : pl = .v i := by
      have : plc (.var i) = some (.v i) := rfl
      rw [this] at a1
      cases a1
      rfl
    subst hpl
    cases q with
    | sh uq =>
      cases uq with
      | int t =>
        refine .opt fun n hn => ?_
        obtain ⟨cq1, cq2⟩ := c2
        subst cq1
        rw [show dq = .int t from cq2]
        obtain ⟨d1, Wp1, R1, h5, h6, h7, h8⟩ := v2.slot (show getO π2 i = some (.ol xs) from c1)
        rw [hx] at h5
        cases h5
        obtain ⟨m, ds, rfl, b2, e1, e2⟩ := h7
        subst b2
        have g2' : Good w2 S2 W2 k2 := g2
        have hm : m ∈ W2 := by simp [h6.mem_iff]
        have hset : setItem (.ref m) (.int t) d S2 = some (S2.set m (.lst (ds.set n d))) := by
          unfold setItem
          dsimp only
          rw [lL e1]
          dsimp only
          rw [e2.len, hn]
          rfl
        rw [hset, RS.opt_some]
        obtain ⟨g3, st, kr⟩ := put_good (o := .lst (ds.set n d)) g2' hm
        have ne : ∀ x, x ≠ m → (S2.set m (.lst (ds.set n d)))[x]? = S2[x]? := fun x h => List.getElem?_set_ne (fun e => h e.symm)
        have nd2 := h6.nodup_iff.mp g2'.nd
        have cu := Vw.mono kr (Vw.mono (s2.kr g1) c)
        obtain ⟨W5, p5, v5⟩ := Ews.back (p := .ol (xs.set n u)) (Wp := [m]) (Ews.mono kr (fun x hx => ne x fun e => (List.nodup_append.mp nd2).2.2 m (by simp) x hx e.symm) h8) hx (getO_lt c1) ⟨m, _, rfl, rfl, List.getElem?_set_self (g2'.own m hm).1, Vws.set (Vws.mono kr e2) cu⟩
        have pp : W5.Perm W2 := p5.trans h6.symm
        exact ⟨_, .ret, σ, _, w2, W5, rfl, st, v5, g3.perm pp.symm, fun x hx => .inl (pp.mem_iff.mp hx), .refl⟩
      | _ => exact relT_no
    | _ => exact relT_no
  | .expr e, w, S, W, k, σ, π, hv, gd => by
    unfold evS pvS
    refine (simE hg hF e hv gd).at fun p d w1 S1 Wp W1 π1 k1 s fr c v1 g1 => ?_
    exact relT_next v1 (Sub.of (List.sublist_append_right _ _) (.refl _)) g1 .refl
  | .ret e, w, S, W, k, σ, π, hv, gd => by
    unfold evS pvS
    cases hi : isVar e with
    | some i =>
      have := isVar_some hi
      subst this
      refine .opt fun p hp => ?_
      obtain ⟨d, Wp, R1, h1, h2, h3, h4⟩ := hv.slot hp
      unfold evE
      rw [h1]
      exact ⟨_, .ret, d, σ, S, w, Wp, R1, rfl, .refl, h3, h4, gd.perm h2, fun n hn => .inl (h2.mem_iff.mpr hn), .refl⟩
    | none =>
      refine (simE hg hF e hv gd).at fun p d w1 S1 Wp W1 π1 k1 s fr c v1 g1 => ?_
      exact ⟨_, .ret, d, σ, S1, w1, Wp, W1, rfl, .refl, c, v1, g1, .refl, .refl⟩
  | .retn, w, S, W, k, σ, π, hv, gd => ⟨_, .ret, .non, σ, S, w, [], W, by unfold evS; rfl, .refl, ⟨rfl, rfl⟩, hv, gd, .refl, .refl⟩
  | .ifs c a b, w, S, W, k, σ, π, hv, gd => by
    unfold evS pvS
    refine (rel_obs hg hv gd (simE hg hF c hv gd)).at fun x dx w1 S1 Wp W1 π1 k1 s fr c v1 g1 => ?_
    have c0 : Wp = [] := c.1
    subst c0
    refine .opt fun t ht => ?_
    rw [vtruth_ok c.lv ht, RS.opt_some]
    cases t with
    | true => exact simSs hg hF a v1 g1
    | false => exact simSs hg hF b v1 g1
  | .whl c fg b, w, S, W, k, σ, π, hv, gd => by
    unfold evS pvS
    exact while_rel (fun w S W σ π k hv gd => ⟨_, cond_rel hg hF c hv gd⟩) (fun w S W σ π k hv gd => simSs hg hF b hv gd) FUEL w S W σ π k hv gd
  | .forr tg tp it fg b, w, S, W, k, σ, π, hv, gd => by
    unfold evS pvS
    refine .req fun hf => (simI hg hF it hv gd).at fun us wk w1 S1 Wp W1 π1 k1 s fr c v1 g1 => ?_
    obtain ⟨c1, ds, c2, c3⟩ := c
    subst c1
    refine .req fun hl => ?_
    obtain ⟨R1, sb, v2⟩ := Ews.wipe1 (l := fg) v1
    refine RelT.wk (for_rel c3 (fun u d w S W σ π k v hv gd => ?_) us ds 0 FUEL w1 S1 R1 σ _ k1 (by simp) c2 ⟨fun _ h => h, fun _ h => h, fun _ _ => rfl⟩ v2 (g1.subs sb) (by rw [c2.len]; exact hl)) sb.mem
    refine .opt fun π2 h2 => ?_
    obtain ⟨σ3, W', h3, h4, h5, h6, h7⟩ := target_ok v hv h2
    rw [h3, RS.opt_some]
    exact (simSs hg hF b h4 (gd.subs h5)).pre .refl (fun n hn => .inl (h5.mem n hn)) ⟨h6, fun j hj => h7 j fun z => fmOk_mem hf j z hj⟩
  | .raise c es, w, S, W, k, σ, π, hv, gd => by
    unfold evS pvS
    refine (simEs hg hF es hv gd).at fun us ds w1 S1 Wp W1 π1 k1 s fr c v1 g1 => ?_
    obtain ⟨c1, c2⟩ := c
    subst c1
    refine .req fun hx => ?_
    unfold raiseR
    rw [if_pos (exOk_ok c2 hx)]
    exact ⟨_, .ret, _, σ, S1, w1, W1, rfl, .refl, ⟨ds, rfl, c2⟩, v1, g1, .refl, .refl⟩
  | .tryx b hs, w, S, W, k, σ, π, hv, gd => by
    unfold evS pvS
    obtain ⟨o, h1, h2⟩ := simSs hg hF b hv gd
    cases o with
    | no => exact ⟨_, .bind h1 .ret, trivial⟩
    | next π k =>
      obtain ⟨σ', S', w', W', e, r⟩ := h2
      exact ⟨_, .bind h1 .ret, σ', S', w', W', by rw [e], r⟩
    | brk π k =>
      obtain ⟨σ', S', w', W', e, r⟩ := h2
      exact ⟨_, .bind h1 .ret, σ', S', w', W', by rw [e], r⟩
    | cont π k =>
      obtain ⟨σ', S', w', W', e, r⟩ := h2
      exact ⟨_, .bind h1 .ret, σ', S', w', W', by rw [e], r⟩
    | ret p π k =>
      obtain ⟨d, σ', S', w', Wp, W', e, r⟩ := h2
      exact ⟨_, .bind h1 .ret, d, σ', S', w', Wp, W', by rw [e], r⟩
    | exc x π1 k1 =>
      obtain ⟨d, σ', S', w', W', e, s, c, v, g, f, fx⟩ := h2
      cases x with
      | exn cl fs =>
        obtain ⟨o2, h3, h4⟩ := (simH hg hF cl hs c v g).pre s f fx
        refine ⟨o2, .bind h1 h3, ?_⟩
        rw [e]
        obtain ⟨ds, rfl, _⟩ := c
        exact h4
      | _ => exact ⟨.no, .bind h1 .ret, trivial⟩
  | .tryr b c i x, w, S, W, k, σ, π, hv, gd => by
    unfold evS pvS
    obtain ⟨o, h1, h2⟩ := simSs hg hF b hv gd
    unfold ucatch
    cases o with
    | no => exact ⟨_, .bind h1 .ret, trivial⟩
    | next π k =>
      obtain ⟨σ', S', w', W', e, r⟩ := h2
      exact ⟨_, .bind h1 .ret, σ', S', w', W', by rw [e]; rfl, r⟩
    | brk π k =>
      obtain ⟨σ', S', w', W', e, r⟩ := h2
      exact ⟨_, .bind h1 .ret, σ', S', w', W', by rw [e]; rfl, r⟩
    | cont π k =>
      obtain ⟨σ', S', w', W', e, r⟩ := h2
      exact ⟨_, .bind h1 .ret, σ', S', w', W', by rw [e]; rfl, r⟩
    | ret p π k =>
      obtain ⟨d, σ', S', w', Wp, W', e, r⟩ := h2
      exact ⟨_, .bind h1 .ret, d, σ', S', w', Wp, W', by rw [e]; rfl, r⟩
    | exc y π1 k1 =>
      obtain ⟨d, σ', S', w', W', e, s, c', v, g, f, fx⟩ := h2
      cases y with
      | exn cl fs =>
        have c0 := c'
        obtain ⟨ds, rfl, vd⟩ := c'
        by_cases hc : cl = c
        · by_cases hi : i < π1.length
          · have hr : RelT C.fm w' S' W' σ' (RS.opt (evX x ds) fun d => .ret d S') (PS.opt (uX x fs) fun d => .ret (.ret (.sh d) π1 k1)) := by
              refine .opt fun u hu => ?_
              obtain ⟨d, h3, h4⟩ := evX_ok vd hu
              rw [h3, RS.opt_some]
              exact ⟨_, .ret, d, σ', S', w', [], W', rfl, .refl, ⟨rfl, h4⟩, v, g, .refl, .refl⟩
            obtain ⟨o2, h3, h4⟩ := hr.pre s f fx
            refine ⟨o2, .bind h1 ?_, ?_⟩
            · dsimp only
              rw [if_pos hc, if_pos hi]
              exact h3
            · rw [e]
              unfold catchR
              dsimp only
              rw [if_pos hc, if_pos (by rw [v.len]; exact hi)]
              exact h4
          · refine ⟨.no, .bind h1 ?_, trivial⟩
            dsimp only
            rw [if_pos hc, if_neg hi]
            exact .ret
        · refine ⟨.exc (.exn cl fs) π1 k1, .bind h1 ?_, _, σ', S', w', W', ?_, s, c0, v, g, f, fx⟩
          · dsimp only
            rw [if_neg hc]
            exact .ret
          · rw [e]
            unfold catchR
            dsimp only
            rw [if_neg hc]
      | _ => exact ⟨.no, .bind h1 .ret, trivial⟩
  | .pass, w, S, W, k, σ, π, hv, gd => by
    unfold evS pvS
    exact relT_next hv .refl gd .refl
  | .brk, w, S, W, k, σ, π, hv, gd => by
    unfold evS pvS
    exact ⟨_, .ret, σ, S, w, W, rfl, .refl, hv, gd, .refl, .refl⟩
  | .cont, w, S, W, k, σ, π, hv, gd => by
    unfold evS pvS
    exact ⟨_, .ret, σ, S, w, W, rfl, .refl, hv, gd, .refl, .refl⟩
theorem simSs (hg : Cs.g = C.g) (hF : SimF Cs C) : ∀ (ss : Ss) {w : Wd} {S : Sto} {W : List Nat} {k : Nat} {σ : Sg} {π : Env}, Ews w S π σ W → Good w S W k → RelT C.fm w S W σ (evSs Cs ss σ S) (pvSs C ss π k)
  | .nil, w, S, W, k, σ, π, hv, gd => by
    unfold evSs pvSs
    exact relT_next hv .refl gd .refl
  | .cons s .nil, w, S, W, k, σ, π, hv, gd => by
    unfold evSs pvSs
    exact simS hg hF s hv gd
  | .cons s (.cons s2 ss), w, S, W, k, σ, π, hv, gd => by
    unfold evSs pvSs
    exact (simS hg hF s hv gd).seq fun σ1 w1 S1 W1 π1 k1 v1 g1 => simSs hg hF (.cons s2 ss) v1 g1
theorem simH (hg : Cs.g = C.g) (hF : SimF Cs C) (cl : Nat) : ∀ (hs : Hs) {w : Wd} {S : Sto} {W : List Nat} {k : Nat} {σ : Sg} {π : Env} {x : U} {d : D}, Vw w S x d → Ews w S π σ W → Good w S W k → RelT C.fm w S W σ (evH Cs cl d hs σ S) (pvH C cl x hs π k)
  | .nil, w, S, W, k, σ, π, x, d, c, hv, gd => by
    unfold evH pvH
    exact ⟨_, .ret, d, σ, S, w, W, rfl, .refl, c, hv, gd, .refl, .refl⟩
  | .cons cs slot b hs, w, S, W, k, σ, π, x, d, c, hv, gd => by
    unfold evH pvH
    by_cases hc : cs.contains cl = true
    · rw [if_pos hc, if_pos hc]
      refine .req fun hf => ?_
      cases slot with
      | none => exact (simSs hg hF b hv gd).leave_none
      | some i =>
        have hs : i ∉ C.fm := fmOk_mem hf i (by simp)
        refine RelT.leave_some hs ?_
        obtain ⟨W', v', sb⟩ := hv.set1 (i := i) (p := .sh x) (Wp := []) ⟨rfl, c⟩
        exact (simSs hg hF b v' (gd.subs sb)).pre .refl (fun n hn => .inl (sb.mem n hn)) (.set hs)
    · rw [if_neg hc, if_neg hc]
      exact simH hg hF cl hs c hv gd
end
end Cl

/-! part Py18 -/
/-! Cl: rules to run a term by hand: no program in sight. -/
namespace Cl
section
variable {α β : Type}
theorem R.bind_cg {m m' : R α} {f : α → Sto → R β} (h : m = m') : R.bind m f = R.bind m' f := by rw [h]
theorem R.at_cg {m m' : R α} {σ : Sg} {f : α → Sto → RS} (h : m = m') : R.at m σ f = R.at m' σ f := by rw [h]
theorem R.opt_cg {o o' : Option α} {f : α → R β} (h : o = o') : R.opt o f = R.opt o' f := by rw [h]
theorem RS.opt_cg {o o' : Option α} {f : α → RS} (h : o = o') : RS.opt o f = RS.opt o' f := by rw [h]
theorem RS.seq_cg {m m' : RS} {f : Sg → Sto → RS} (h : m = m') : RS.seq m f = RS.seq m' f := by rw [h]
theorem R.req_cg {c c' : Prop} [i : Decidable c] [j : Decidable c'] {m : R α} (h : c = c') : R.req c m = R.req c' m := by
  subst h
  cases Subsingleton.elim i j
  rfl
end
/-- a slot, read -/
def slotR (o : Option (Option D)) (S : Sto) : R D := match o with
  | some (some d) => .ok d S
  | _ => .no
theorem slotR_ok (d : D) (S : Sto) : slotR (some (some d)) S = .ok d S := (rfl)
/-- a test's two ways -/
def ifR {α : Type} (k : Bool) (a b : R α) : R α := if k then a else b
def ifS (k : Bool) (a b : RS) : RS := if k then a else b
theorem ifR_cg {α : Type} {k k' : Bool} {a b : R α} (h : k = k') : ifR k a b = ifR k' a b := by rw [h]
theorem ifS_cg {k k' : Bool} {a b : RS} (h : k = k') : ifS k a b = ifS k' a b := by rw [h]
theorem ifR_t {α : Type} (a b : R α) : ifR true a b = a := (rfl)
theorem ifR_f {α : Type} (a b : R α) : ifR false a b = b := (rfl)
theorem ifS_t (a b : RS) : ifS true a b = a := (rfl)
theorem ifS_f (a b : RS) : ifS false a b = b := (rfl)
section
variable (C : Cfg) (σ : Sg) (S : Sto)
theorem x_non : evE C .non σ S = .ok .non S := (rfl)
theorem x_bl (b : Bool) : evE C (.bl b) σ S = .ok (.bl b) S := (rfl)
theorem x_int (i : Int) : evE C (.int i) σ S = .ok (.int i) S := (rfl)
theorem x_str (s : Tx) : evE C (.str s) σ S = .ok (.str s) S := (rfl)
theorem x_var (i : Nat) : evE C (.var i) σ S = slotR σ[i]? S := (rfl)
theorem x_glo (g : Nat) : evE C (.glo g) σ S = R.opt (C.g.c g) fun d => .ok d S := (rfl)
theorem x_bin (o : Op) (a b : E) : evE C (.bin o a b) σ S = (evE C a σ S).bind fun x S1 => (evE C b σ S1).bind fun y S2 => binopD C o x y S2 := (rfl)
def negD (x : D) (S : Sto) : R D := match x with
  | .int i => .ok (.int (-i)) S
  | _ => .no
theorem negD_i (i : Int) (S : Sto) : negD (.int i) S = .ok (.int (-i)) S := (rfl)
theorem x_neg (a : E) : evE C (.neg a) σ S = (evE C a σ S).bind negD := (rfl)
theorem x_not (a : E) : evE C (.not a) σ S = (evE C a σ S).bind fun x S1 => R.opt (truth S1 x) fun k => .ok (.bl (!k)) S1 := (rfl)
theorem x_bop (k : Bool) (es : Es) : evE C (.bop k es) σ S = evB C k es σ S := (rfl)
theorem x_bop1 (k : Bool) (e : E) : evB C k (.cons e .nil) σ S = evE C e σ S := (rfl)
theorem x_and (e e2 : E) (es : Es) : evB C true (.cons e (.cons e2 es)) σ S = (evE C e σ S).bind fun x S1 => R.opt (truth S1 x) fun t => ifR t (evB C true (.cons e2 es) σ S1) (.ok x S1) := by
  show (evE C e σ S).bind _ = _
  congr 1
theorem x_or (e e2 : E) (es : Es) : evB C false (.cons e (.cons e2 es)) σ S = (evE C e σ S).bind fun x S1 => R.opt (truth S1 x) fun t => ifR t (.ok x S1) (evB C false (.cons e2 es) σ S1) := by
  show (evE C e σ S).bind _ = _
  congr 1
  funext x S1
  congr 1
  funext t
  cases t <;> rfl
theorem x_ite (c a b : E) : evE C (.ite c a b) σ S = (evE C c σ S).bind fun t S1 => R.opt (truth S1 t) fun k => ifR k (evE C a σ S1) (evE C b σ S1) := (rfl)
theorem x_cmp (o : Cm) (a b : E) : evE C (.cmp o a b) σ S = (evE C a σ S).bind fun x S1 => (evE C b σ S1).bind fun y S2 => (cmpD C o x y S2).bind fun k S3 => .ok (.bl k) S3 := (rfl)
theorem x_tup (es : Es) : evE C (.tup es) σ S = (evEs C es σ S).bind fun vs S1 => R.req (vs.length ≤ LIM) (.ok (.tup vs) S1) := (rfl)
theorem x_lst (es : Es) : evE C (.lst es) σ S = (evEs C es σ S).bind fun vs S1 => R.req (vs.length ≤ LIM) (.ok (.ref S1.length) (S1 ++ [.lst vs])) := (rfl)
theorem x_idx (a b : E) : evE C (.idx a b) σ S = (evE C a σ S).bind fun x S1 => (evE C b σ S1).bind fun y S2 => indexD C x y S2 := (rfl)
theorem x_slc (a : E) (lo hi : Es) : evE C (.slc a lo hi) σ S = (evE C a σ S).bind fun x S1 => (evO C lo σ S1).bind fun l S2 => (evO C hi σ S2).bind fun h S3 => slice x l h S3 := (rfl)
theorem x_call (f : Nat) (es : Es) : evE C (.call f es) σ S = (evEs C es σ S).bind fun vs S1 => C.call f vs S1 := (rfl)
theorem x_callk (f : Nat) (es ks : Es) (names : List String) (perm : List (Sum Nat Kd)) : evE C (.callk f es ks names perm) σ S = (evEs C es σ S).bind fun vs S1 => (evEs C ks σ S1).bind fun zs S2 => R.opt (perm.mapM (argOf (vs ++ zs))) fun as => C.call f as S2 := (rfl)
theorem x_blt (b : Bf) (es : Es) : evE C (.blt b es) σ S = (evEs C es σ S).bind fun vs S1 => bltD C b vs S1 := (rfl)
theorem x_isi (a : E) (ts : List Ty) (b : Bool) : evE C (.isi a ts b) σ S = (evE C a σ S).bind fun x S1 => R.opt (isiAny S1 x ts) fun k => .ok (.bl k) S1 := (rfl)
theorem x_mth (m : Mt) (o : E) (es : Es) : evE C (.mth m o es) σ S = (evE C o σ S).bind fun x S1 => R.req (recv m x S1 = true) ((evEs C es σ S1).bind fun vs S2 => mth m x vs S2) := (rfl)
theorem x_nil : evEs C .nil σ S = .ok [] S := (rfl)
theorem x_cons (e : E) (es : Es) : evEs C (.cons e es) σ S = (evE C e σ S).bind fun x S1 => (evEs C es σ S1).bind fun xs S2 => .ok (x :: xs) S2 := (rfl)
theorem x_o0 : evO C .nil σ S = .ok none S := (rfl)
def intO (x : D) (S : Sto) : R (Option Int) := match x with
  | .int i => .ok (some i) S
  | _ => .no
theorem intO_i (i : Int) (S : Sto) : intO (.int i) S = .ok (some i) S := (rfl)
theorem x_o1 (e : E) (es : Es) : evO C (.cons e es) σ S = (evE C e σ S).bind intO := (rfl)
theorem x_c0 : evC C .nil σ S = .ok true S := (rfl)
theorem x_c1 (e : E) (es : Es) : evC C (.cons e es) σ S = (evE C e σ S).bind fun t S1 => R.opt (truth S1 t) fun k => .ok k S1 := (rfl)
theorem x_val (e : E) : evI C (.val e) σ S = (evE C e σ S).bind fun d S1 => walk d S1 := (rfl)
def rngR (vs : List D) (S1 : Sto) : R Wk := match vs with
    | [.int j] => R.req (j < 2 ^ 62 ∧ -(2 ^ 62) ≤ j) (.ok (.rng 0 j.toNat) S1)
    | [.int i, .int j] => R.req ((-(2 ^ 62) ≤ i ∧ i < 2 ^ 62) ∧ -(2 ^ 62) ≤ j ∧ j < 2 ^ 62) (.ok (.rng i (j - i).toNat) S1)
    | _ => .no
theorem rngR_1 (j : Int) (S : Sto) : rngR [.int j] S = R.req (j < 2 ^ 62 ∧ -(2 ^ 62) ≤ j) (.ok (.rng 0 j.toNat) S) := (rfl)
theorem rngR_2 (i j : Int) (S : Sto) : rngR [.int i, .int j] S = R.req ((-(2 ^ 62) ≤ i ∧ i < 2 ^ 62) ∧ -(2 ^ 62) ≤ j ∧ j < 2 ^ 62) (.ok (.rng i (j - i).toNat) S) := (rfl)
theorem x_rng (es : Es) : evI C (.rng es) σ S = (evEs C es σ S).bind rngR := (rfl)
/-- statements -/
theorem s_set (i : Nat) (e : E) : evS C (.set i e) σ S = (evE C e σ S).at σ fun d S1 => .next (σ.set i (some d)) S1 := (rfl)
theorem s_sets (is : List Nat) (e : E) : evS C (.sets is e) σ S = (evE C e σ S).at σ fun d S1 => RS.opt (target is true d σ S1) fun σ1 => .next σ1 S1 := (rfl)
def parS (is : List Nat) (σ : Sg) (ds : List D) (S : Sto) : RS := if ds.length = is.length then .next (setAll σ is ds) S else .no
theorem s_par (is : List Nat) (es : Es) : evS C (.par is es) σ S = (evEs C es σ S).at σ fun ds S1 => parS is σ ds S1 := (rfl)
theorem parS_2 (i j : Nat) (a b : D) : parS [i, j] σ [a, b] S = .next ((σ.set i (some a)).set j (some b)) S := (rfl)
theorem parS_3 (i j k : Nat) (a b c : D) : parS [i, j, k] σ [a, b, c] S = .next (((σ.set i (some a)).set j (some b)).set k (some c)) S := (rfl)
theorem s_aug (i : Nat) (o : Op) (e : E) : evS C (.aug i o e) σ S = (slotR σ[i]? S).at σ fun x S0 => (evE C e σ S0).at σ fun y S1 => (augop o x y S1).at σ fun z S2 => .next (σ.set i (some z)) S2 := by
  show (match σ[i]? with
    | some (some x) => _
    | _ => _) = _
  unfold slotR
  split <;> rfl
theorem s_seti (o i e : E) : evS C (.seti o i e) σ S = (evE C e σ S).at σ fun v S1 => (evE C o σ S1).at σ fun x S2 => (evE C i σ S2).at σ fun y S3 => RS.opt (setItem x y v S3) fun S4 => .next σ S4 := (rfl)
theorem s_expr (e : E) : evS C (.expr e) σ S = (evE C e σ S).at σ fun _ S1 => .next σ S1 := (rfl)
theorem s_ret (e : E) : evS C (.ret e) σ S = (evE C e σ S).at σ fun d S1 => .ret d S1 := (rfl)
theorem s_retn : evS C .retn σ S = .ret .non S := (rfl)
theorem s_if (c : E) (a b : Ss) : evS C (.ifs c a b) σ S = (evE C c σ S).at σ fun t S1 => RS.opt (truth S1 t) fun k => ifS k (evSs C a σ S1) (evSs C b σ S1) := (rfl)
theorem s_while (c : E) (fg : List Nat) (b : Ss) : evS C (.whl c fg b) σ S = whileLoop (fun σ S => (evE C c σ S).bind fun t S1 => R.opt (truth S1 t) fun k => .ok k S1) (evSs C b) FUEL σ S := (rfl)
theorem s_for (tg : List Nat) (tp : Bool) (it : It) (fg : List Nat) (b : Ss) : evS C (.forr tg tp it fg b) σ S = (evI C it σ S).at σ fun w S1 => forLoop (fun d σ S => RS.opt (target tg tp d σ S) fun σ1 => evSs C b σ1 S) w FUEL 0 σ S1 := (rfl)
/-- a loop's test -/
def whlC (C : Cfg) (c : E) : Sg → Sto → R Bool := fun σ S => (evE C c σ S).bind fun t S1 => R.opt (truth S1 t) fun k => .ok k S1
theorem whlC_ap (c : E) : whlC C c σ S = (evE C c σ S).bind fun t S1 => R.opt (truth S1 t) fun k => .ok k S1 := (rfl)
theorem s_whl (c : E) (fg : List Nat) (b : Ss) : evS C (.whl c fg b) σ S = whileLoop (whlC C c) (evSs C b) FUEL σ S := (rfl)
/-- a loop's turn -/
def forF (C : Cfg) (tg : List Nat) (tp : Bool) (b : Ss) : D → Sg → Sto → RS := fun d σ S => RS.opt (target tg tp d σ S) fun σ1 => evSs C b σ1 S
theorem forF_1 (i : Nat) (b : Ss) (d : D) : forF C [i] false b d σ S = evSs C b (σ.set i (some d)) S := (rfl)
theorem s_forF (tg : List Nat) (tp : Bool) (it : It) (fg : List Nat) (b : Ss) : evS C (.forr tg tp it fg b) σ S = (evI C it σ S).at σ fun w S1 => forLoop (forF C tg tp b) w FUEL 0 σ S1 := (rfl)
/-- a comprehension's turn -/
def compF (C : Cfg) (elt : E) (tg : List Nat) (tp : Bool) (cond : Es) (own : List (String × Nat)) (σ : Sg) : D → Sto → R (Option D) := fun d S2 => R.opt (target tg tp d (wipe σ (own.map (·.2))) S2) fun σ2 =>
  (evC C cond σ2 S2).bind fun k S3 => ifR k ((evE C elt σ2 S3).bind fun y S4 => .ok (some y) S4) (.ok none S3)
theorem x_comp (elt : E) (tg : List Nat) (tp : Bool) (it : It) (cond : Es) (own : List (String × Nat)) : evE C (.comp elt tg tp it cond own) σ S = (evI C it σ S).bind fun w S1 => (compLoop (compF C elt tg tp cond own σ) w FUEL 0 [] S1).bind fun ys S2 => .ok (.ref S2.length) (S2 ++ [.lst ys]) := (rfl)
theorem compF_1 (elt : E) (i : Nat) (own : List (String × Nat)) (d : D) : compF C elt [i] false .nil own σ d S = (evE C elt ((wipe σ (own.map (·.2))).set i (some d)) S).bind fun y S4 => .ok (some y) S4 := (rfl)
theorem compF_c (elt : E) (i : Nat) (c : E) (own : List (String × Nat)) (d : D) : compF C elt [i] false (.cons c .nil) own σ d S = (evC C (.cons c .nil) ((wipe σ (own.map (·.2))).set i (some d)) S).bind fun k S3 => ifR k ((evE C elt ((wipe σ (own.map (·.2))).set i (some d)) S3).bind fun y S4 => .ok (some y) S4) (.ok none S3) := (rfl)
theorem s_pass : evS C .pass σ S = .next σ S := (rfl)
theorem s_brk : evS C .brk σ S = .brk σ S := (rfl)
theorem s_cont : evS C .cont σ S = .cont σ S := (rfl)
theorem s_nil : evSs C .nil σ S = .next σ S := (rfl)
theorem s_one (s : St) : evSs C (.cons s .nil) σ S = evS C s σ S := (rfl)
theorem s_cons (s s2 : St) (ss : Ss) : evSs C (.cons s (.cons s2 ss)) σ S = (evS C s σ S).seq fun σ1 S1 => evSs C (.cons s2 ss) σ1 S1 := (rfl)
/-- operations -/
theorem o_add (i j : Int) : binop .add (.int i) (.int j) S = .ok (.int (i + j)) S := (rfl)
theorem o_sub (i j : Int) : binop .sub (.int i) (.int j) S = .ok (.int (i - j)) S := (rfl)
theorem o_mul (i j : Int) : binop .mul (.int i) (.int j) S = R.req (i.natAbs < 2 ^ 64 ∨ j.natAbs < 2 ^ 64) (.ok (.int (i * j)) S) := (rfl)
theorem o_fdiv (i j : Int) : binop .fdiv (.int i) (.int j) S = R.req (0 < j ∧ j < 1073741824) (.ok (.int (i / j)) S) := (rfl)
theorem o_mod (i j : Int) : binop .mod (.int i) (.int j) S = R.req (0 < j) (.ok (.int (i % j)) S) := (rfl)
theorem o_pow (i j : Int) : binop .pow (.int i) (.int j) S = R.req (0 ≤ j ∧ j ≤ 1000000 ∧ i.natAbs < 2 ^ 64) (.ok (.int (i ^ j.toNat)) S) := (rfl)
theorem o_cat (s t : Tx) : binop .add (.str s) (.str t) S = R.req (s.length + t.length ≤ LIM) (.ok (.str (s ++ t)) S) := (rfl)
theorem o_catT (s t : List D) : binop .add (.tup s) (.tup t) S = R.req (s.length + t.length ≤ LIM) (.ok (.tup (s ++ t)) S) := (rfl)
theorem o_catL (m n : Nat) : binop .add (.ref m) (.ref n) S = R.opt (getL S m) fun s => R.opt (getL S n) fun t => R.req (s.length + t.length ≤ LIM) (.ok (.ref S.length) (S ++ [.lst (s ++ t)])) := (rfl)
theorem o_mulT (s : List D) (k : Int) : binop .mul (.tup s) (.int k) S = R.req (s ≠ [] ∧ 2 ≤ k ∧ k ≤ 1000 ∧ s.length ≤ 1000) (.ok (.tup (List.replicate k.toNat s).flatten) S) := (rfl)
theorem a_add (i j : Int) : augop .add (.int i) (.int j) S = .ok (.int (i + j)) S := (rfl)
theorem a_sub (i j : Int) : augop .sub (.int i) (.int j) S = .ok (.int (i - j)) S := (rfl)
theorem a_cat (s t : Tx) : augop .add (.str s) (.str t) S = R.req (s.length + t.length ≤ LIM) (.ok (.str (s ++ t)) S) := (rfl)
theorem a_catL (m n : Nat) : augop .add (.ref m) (.ref n) S = R.opt (getL S m) fun s => R.opt (getL S n) fun t => R.req (s.length + t.length ≤ LIM) (.ok (.ref m) (S.set m (.lst (s ++ t)))) := (rfl)
theorem c_lt (i j : Int) : cmpop .lt (.int i) (.int j) S = some (decide (i < j)) := (rfl)
theorem c_le (i j : Int) : cmpop .le (.int i) (.int j) S = some (decide (i ≤ j)) := (rfl)
theorem c_gt (i j : Int) : cmpop .gt (.int i) (.int j) S = some (decide (j < i)) := (rfl)
theorem c_ge (i j : Int) : cmpop .ge (.int i) (.int j) S = some (decide (j ≤ i)) := (rfl)
theorem c_eqI (i j : Int) : cmpop .eq (.int i) (.int j) S = some (decide (i = j)) := (rfl)
theorem c_neI (i j : Int) : cmpop .ne (.int i) (.int j) S = some (!decide (i = j)) := (rfl)
theorem SX_inj {s t : Tx} : SX.S s = SX.S t ↔ s = t := by
  constructor
  · intro h
    have := congrArg (fun x : PySem.Str => x.cps.toList) h
    simpa [SX.S] using this
  · rintro rfl
    rfl
theorem c_eqS (s t : Tx) : cmpop .eq (.str s) (.str t) S = some (decide (s = t)) := by
  show some (PySem.PyData.eqv (.str (SX.S s)) (.str (SX.S t))) = _
  have e : PySem.PyData.eqv (.str (SX.S s)) (.str (SX.S t)) = (SX.S s == SX.S t) := by rw [PySem.PyData.eqv]
  rw [e]
  by_cases h : s = t
  · subst h
    rw [decide_eq_true rfl, beq_self_eq_true]
  · rw [decide_eq_false h, beq_eq_false_iff_ne.mpr fun q => h (SX_inj.mp q)]
theorem c_neS (s t : Tx) : cmpop .ne (.str s) (.str t) S = some (!decide (s = t)) := by
  show (eqD S (.str s) (.str t)).map (!·) = _
  rw [show eqD S (.str s) (.str t) = some (decide (s = t)) from c_eqS S s t]
  rfl
theorem c_in (x y : D) : cmpop .isin x y S = inF S x y := (rfl)
theorem c_nin (x y : D) : cmpop .notin x y S = (inF S x y).map (!·) := (rfl)
theorem c_isN (x : D) : cmpop .is x .non S = some (isNon x) := (rfl)
theorem c_isnN (x : D) : cmpop .isnot x .non S = some (!isNon x) := (rfl)
theorem t_bl (b : Bool) : truth S (.bl b) = some b := (rfl)
theorem t_int (i : Int) : truth S (.int i) = some (i != 0) := (rfl)
theorem t_str (s : Tx) : truth S (.str s) = some (!s.isEmpty) := (rfl)
theorem t_tup (s : List D) : truth S (.tup s) = some (!s.isEmpty) := (rfl)
theorem t_non : truth S .non = some false := (rfl)
theorem t_ref (n : Nat) : truth S (.ref n) = (getQ S n).map fun xs => !xs.isEmpty := (rfl)
theorem i_str (s : Tx) (i : Int) : index (.str s) (.int i) S = R.opt (atI s i) fun c => .ok (.str [c]) S := (rfl)
theorem i_tup (s : List D) (i : Int) : index (.tup s) (.int i) S = R.opt (atI s i) fun c => .ok c S := (rfl)
theorem i_ref (m : Nat) (i : Int) : index (.ref m) (.int i) S = R.opt (getQ S m) fun xs => R.opt (atI xs i) fun d => .ok d S := (rfl)
theorem l_str (s : Tx) (lo hi : Option Int) : slice (.str s) lo hi S = .ok (.str (cut s lo hi)) S := (rfl)
theorem l_tup (s : List D) (lo hi : Option Int) : slice (.tup s) lo hi S = .ok (.tup (cut s lo hi)) S := (rfl)
theorem l_ref (m : Nat) (lo hi : Option Int) : slice (.ref m) lo hi S = R.opt (getQ S m) fun xs => .ok (.ref S.length) (S ++ [.lst (cut xs lo hi)]) := (rfl)
theorem b_lenS (s : Tx) : blt .len [.str s] S = .ok (.int s.length) S := (rfl)
theorem b_lenT (s : List D) : blt .len [.tup s] S = .ok (.int s.length) S := (rfl)
theorem b_lenR (m : Nat) : blt .len [.ref m] S = R.opt (getQ S m) fun xs => .ok (.int xs.length) S := (rfl)
theorem b_abs (i : Int) : blt .abs [.int i] S = .ok (.int (if i < 0 then -i else i)) S := (rfl)
theorem b_max (i j : Int) : blt .max2 [.int i, .int j] S = .ok (.int (if j > i then j else i)) S := (rfl)
theorem b_min (i j : Int) : blt .min2 [.int i, .int j] S = .ok (.int (if j < i then j else i)) S := (rfl)
theorem b_int (i : Int) : blt .int1 [.int i] S = .ok (.int i) S := (rfl)
theorem b_intB (i : Bool) : blt .int1 [.bl i] S = .ok (.int (if i then 1 else 0)) S := (rfl)
theorem b_repr (v : D) : blt .repr [v] S = R.opt (rd S DEEP v) fun p => R.req (p.showable = true ∧ p.shown.length ≤ LIM) (.ok (.str p.shown.cps.toList) S) := (rfl)
theorem b_listT (s : List D) : blt .list1 [.tup s] S = .ok (.ref S.length) (S ++ [.lst s]) := (rfl)
theorem b_listR (m : Nat) : blt .list1 [.ref m] S = R.opt (getQ S m) fun xs => .ok (.ref S.length) (S ++ [.lst xs]) := (rfl)
theorem b_tupT (s : List D) : blt .tuple1 [.tup s] S = .ok (.tup s) S := (rfl)
theorem b_tupR (m : Nat) : blt .tuple1 [.ref m] S = R.opt (getQ S m) fun xs => .ok (.tup xs) S := (rfl)
theorem w_tup (s : List D) : walk (.tup s) S = .ok (.fix s) S := (rfl)
theorem w_str (s : Tx) : walk (.str s) S = .ok (.fix (s.map fun c => .str [c])) S := (rfl)
theorem w_ref (m : Nat) : walk (.ref m) S = R.opt (getQ S m) fun _ => .ok (.lst m) S := (rfl)
theorem g_one (i : Nat) (d : D) : target [i] false d σ S = some (σ.set i (some d)) := (rfl)
theorem m_app (m : Nat) (v : D) : mth .append (.ref m) [v] S = R.opt (getL S m) fun xs => R.req (xs.length < LIM) (.ok .non (S.set m (.lst (xs ++ [v])))) := by
  show R.opt ((getL S m).map _) _ = _
  cases getL S m <;> rfl
theorem m_pop (m : Nat) : mth .pop (.ref m) [] S = R.opt (getL S m) fun xs => R.opt (xs[xs.length - 1]?) fun d => .ok d (S.set m (.lst xs.dropLast)) := by
  show R.opt ((getL S m).map _) _ = _
  cases getL S m <;> rfl
theorem r_str (m : Mt) (s : Tx) : recv m (.str s) S = !m.ofList := (rfl)
theorem rs_strip (s : Tx) : (recv .strip (.str s) S = true) = True := eq_true rfl
theorem rs_lower (s : Tx) : (recv .lower (.str s) S = true) = True := eq_true rfl
theorem rs_upper (s : Tx) : (recv .upper (.str s) S = true) = True := eq_true rfl
theorem rs_split (s : Tx) : (recv .split (.str s) S = true) = True := eq_true rfl
theorem rs_partition (s : Tx) : (recv .partition (.str s) S = true) = True := eq_true rfl
theorem rs_join (s : Tx) : (recv .join (.str s) S = true) = True := eq_true rfl
theorem rs_find (s : Tx) : (recv .find (.str s) S = true) = True := eq_true rfl
theorem rs_count (s : Tx) : (recv .count (.str s) S = true) = True := eq_true rfl
theorem r_ref (m : Mt) (n : Nat) : recv m (.ref n) S = (m.ofList && (getQ S n).isSome) := (rfl)
theorem f_int (m : Nat) (k : Int) (v : D) : setItem (.ref m) (.int k) v S = (getL S m).bind fun xs => (L2.ixN xs.length k).map fun j => S.set m (.lst (xs.set j v)) := by
  show (match getL S m with
    | some xs => _
    | none => _) = _
  cases getL S m <;> rfl
end
/-- a call's end -/
def retR (r : RS) : R D := match r with
  | .next _ S => .ok .non S
  | .ret d S => .ok d S
  | .exc x _ S => .exc x S
  | _ => .no
theorem retR_cg {r r' : RS} (h : r = r') : retR r = retR r' := by rw [h]
theorem retR_n (σ : Sg) (S : Sto) : retR (.next σ S) = .ok .non S := (rfl)
theorem retR_r (d : D) (S : Sto) : retR (.ret d S) = .ok d S := (rfl)
theorem retR_x (x : D) (σ : Sg) (S : Sto) : retR (.exc x σ S) = .exc x S := (rfl)
theorem run_ok {P : Nat → Option Fn} {glo : Glo} {n f : Nat} {F : Fn} {vs : List D} {S : Sto} (hf : P f = some F) (hl : vs.length = F.np) :
    run P glo (n + 1) f vs S = retR (evSs ⟨run P glo n, glo⟩ F.body (vs.map some ++ List.replicate (F.ns - F.np) none) S) := by
  show (match P f with
    | none => _
    | some F => _) = _
  rw [hf]
  dsimp only
  rw [if_pos hl]
  rfl
/-! ### the store -/
theorem getL_of {S : Sto} {n : Nat} {xs : List D} (h : S[n]? = some (.lst xs)) : getL S n = some xs := by unfold getL; rw [h]
theorem getQ_of {S : Sto} {n : Nat} {xs : List D} (h : S[n]? = some (.lst xs)) : getQ S n = some xs := by unfold getQ; rw [h]
theorem getQ_scr {S : Sto} {n : Nat} {xs : List Int} (h : S[n]? = some (.scr xs)) : getQ S n = some (xs.map .int) := by unfold getQ; rw [h]
theorem getL_new {S : Sto} {xs : List D} : getL (S ++ [.lst xs]) S.length = some xs := getL_of (by rw [List.getElem?_append_right (Nat.le_refl _)]; simp)
theorem getQ_new {S : Sto} {xs : List D} : getQ (S ++ [.lst xs]) S.length = some xs := getQ_of (by rw [List.getElem?_append_right (Nat.le_refl _)]; simp)
/-- what was there stays, but for the places that b tells -/
structure Kp (S S' : Sto) (b : List Nat) : Prop where
  le : S.length ≤ S'.length
  at_ : ∀ n, n < S.length → n ∉ b → S'[n]? = S[n]?
theorem Kp.refl (S : Sto) : Kp S S [] := ⟨Nat.le_refl _, fun _ _ _ => rfl⟩
theorem Kp.mono {S S' : Sto} {b c : List Nat} (h : Kp S S' b) (i : ∀ n, n ∈ b → n ∈ c) : Kp S S' c := ⟨h.le, fun n hn hc => h.at_ n hn fun q => hc (i n q)⟩
theorem Kp.fresh {S S' : Sto} {b c : List Nat} (h : Kp S S' b) (i : ∀ n, n ∈ b → n < S.length → n ∈ c) : Kp S S' c := ⟨h.le, fun n hn hc => h.at_ n hn fun q => hc (i n q hn)⟩
theorem Kp.trans {S S1 S2 : Sto} {b c : List Nat} (h : Kp S S1 b) (g : Kp S1 S2 c) : Kp S S2 (b ++ c) := ⟨Nat.le_trans h.le g.le, fun n hn hc => by
  rw [g.at_ n (Nat.lt_of_lt_of_le hn h.le) (fun q => hc (List.mem_append_right _ q)), h.at_ n hn fun q => hc (List.mem_append_left _ q)]⟩
theorem Kp.new (S : Sto) (l : Sto) : Kp S (S ++ l) [] := ⟨by simp, fun n hn _ => List.getElem?_append_left hn⟩
theorem Kp.set (S : Sto) (n : Nat) (o : Ob) : Kp S (S.set n o) [n] := ⟨by simp, fun m hm hc => List.getElem?_set_ne (by simpa using fun e => hc (by simp [e]))⟩
theorem Kp.get {S S' : Sto} {b : List Nat} (h : Kp S S' b) {n : Nat} {o : Ob} (e : S[n]? = some o) (hb : n ∉ b) : S'[n]? = some o := (h.at_ n (List.getElem?_eq_some_iff.mp e).1 hb).trans e
/-! ### integers by places -/
theorem atI_nat {α : Type} {xs : List α} {i : Nat} {x : α} (h : xs[i]? = some x) : atI xs (i : Int) = some x := by
  have hl := (List.getElem?_eq_some_iff.mp h).1
  unfold atI L2.atI L2.ixN
  rw [if_pos (by omega), if_pos (by omega)]
  simpa using h
theorem atI_of {α : Type} {xs : List α} {i : Int} (h0 : 0 ≤ i) (h1 : i < xs.length) : ∃ x, atI xs i = some x ∧ xs[i.toNat]? = some x := by
  have hl : i.toNat < xs.length := by omega
  refine ⟨xs[i.toNat], ?_, List.getElem?_eq_getElem hl⟩
  have := atI_nat (xs := xs) (List.getElem?_eq_getElem hl)
  rwa [Int.toNat_of_nonneg h0] at this
/-! ### loops -/
/-- a loop over a range, by an invariant; each turn goes on -/
theorem for_rng {f : D → Sg → Sto → RS} {lo : Int} {n : Nat} {σ : Sg} {S : Sto} (I : Nat → Sg → Sto → Prop) (h0 : I 0 σ S) (hn : n < FUEL)
    (step : ∀ i σ S, i < n → I i σ S → ∃ σ' S', (f (.int (lo + i)) σ S = .next σ' S' ∨ f (.int (lo + i)) σ S = .cont σ' S') ∧ I (i + 1) σ' S') : ∃ σ' S', forLoop f (.rng lo n) FUEL 0 σ S = .next σ' S' ∧ I n σ' S' := by
  have go : ∀ m k i σ S, i + m = n → n < i + k → I i σ S → ∃ σ' S', forLoop f (.rng lo n) k i σ S = .next σ' S' ∧ I n σ' S' := by
    intro m
    induction m with
    | zero =>
      intro k i σ S hm hk hI
      cases k with
      | zero => omega
      | succ k =>
        have e : i = n := by omega
        subst e
        refine ⟨σ, S, ?_, hI⟩
        unfold forLoop
        simp [Wk.at]
    | succ m ih =>
      intro k i σ S hm hk hI
      cases k with
      | zero => omega
      | succ k =>
        obtain ⟨σ1, S1, e, hI1⟩ := step i σ S (by omega) hI
        obtain ⟨σ2, S2, e2, hI2⟩ := ih k (i + 1) σ1 S1 (by omega) (by omega) hI1
        refine ⟨σ2, S2, ?_, hI2⟩
        unfold forLoop
        simp only [Wk.at, if_pos (show i < n by omega), RS.opt_some]
        rcases e with e | e <;> rw [e] <;> exact e2
  exact go n FUEL 0 σ S (by omega) (by omega) h0
/-- over fixed items -/
theorem for_fix {f : D → Sg → Sto → RS} {xs : List D} {σ : Sg} {S : Sto} (I : Nat → Sg → Sto → Prop) (h0 : I 0 σ S) (hn : xs.length < FUEL)
    (step : ∀ i x σ S, xs[i]? = some x → I i σ S → ∃ σ' S', (f x σ S = .next σ' S' ∨ f x σ S = .cont σ' S') ∧ I (i + 1) σ' S') : ∃ σ' S', forLoop f (.fix xs) FUEL 0 σ S = .next σ' S' ∧ I xs.length σ' S' := by
  have go : ∀ m k i σ S, i + m = xs.length → xs.length < i + k → I i σ S → ∃ σ' S', forLoop f (.fix xs) k i σ S = .next σ' S' ∧ I xs.length σ' S' := by
    intro m
    induction m with
    | zero =>
      intro k i σ S hm hk hI
      cases k with
      | zero => omega
      | succ k =>
        have e : i = xs.length := by omega
        subst e
        refine ⟨σ, S, ?_, hI⟩
        unfold forLoop
        simp [Wk.at]
    | succ m ih =>
      intro k i σ S hm hk hI
      cases k with
      | zero => omega
      | succ k =>
        have hl : i < xs.length := by omega
        obtain ⟨σ1, S1, e, hI1⟩ := step i xs[i] σ S (List.getElem?_eq_getElem hl) hI
        obtain ⟨σ2, S2, e2, hI2⟩ := ih k (i + 1) σ1 S1 (by omega) (by omega) hI1
        refine ⟨σ2, S2, ?_, hI2⟩
        unfold forLoop
        simp only [Wk.at, List.getElem?_eq_getElem hl, RS.opt_some]
        rcases e with e | e <;> rw [e] <;> exact e2
  exact go xs.length FUEL 0 σ S (by omega) (by omega) h0
/-- over a list of the store that stays -/
theorem for_lst {f : D → Sg → Sto → RS} {b : Nat} {xs : List D} {σ : Sg} {S : Sto} (I : Nat → Sg → Sto → Prop) (h0 : I 0 σ S) (hq : ∀ i σ S, I i σ S → getQ S b = some xs) (hn : xs.length < FUEL)
    (step : ∀ i x σ S, xs[i]? = some x → I i σ S → ∃ σ' S', (f x σ S = .next σ' S' ∨ f x σ S = .cont σ' S') ∧ I (i + 1) σ' S') : ∃ σ' S', forLoop f (.lst b) FUEL 0 σ S = .next σ' S' ∧ I xs.length σ' S' := by
  have go : ∀ m k i σ S, i + m = xs.length → xs.length < i + k → I i σ S → ∃ σ' S', forLoop f (.lst b) k i σ S = .next σ' S' ∧ I xs.length σ' S' := by
    intro m
    induction m with
    | zero =>
      intro k i σ S hm hk hI
      cases k with
      | zero => omega
      | succ k =>
        have e : i = xs.length := by omega
        subst e
        refine ⟨σ, S, ?_, hI⟩
        unfold forLoop
        simp [Wk.at, hq _ _ _ hI]
    | succ m ih =>
      intro k i σ S hm hk hI
      cases k with
      | zero => omega
      | succ k =>
        have hl : i < xs.length := by omega
        obtain ⟨σ1, S1, e, hI1⟩ := step i xs[i] σ S (List.getElem?_eq_getElem hl) hI
        obtain ⟨σ2, S2, e2, hI2⟩ := ih k (i + 1) σ1 S1 (by omega) (by omega) hI1
        refine ⟨σ2, S2, ?_, hI2⟩
        unfold forLoop
        simp only [Wk.at, hq _ _ _ hI, Option.map_some, List.getElem?_eq_getElem hl, RS.opt_some]
        rcases e with e | e <;> rw [e] <;> exact e2
  exact go xs.length FUEL 0 σ S (by omega) (by omega) h0
/-- a comprehension over a range: each turn gives an element or none -/
theorem comp_rng {f : D → Sto → R (Option D)} {lo : Int} {n : Nat} {S : Sto} (I : Nat → List D → Sto → Prop) (h0 : I 0 [] S) (hn : n < FUEL)
    (step : ∀ i acc S, i < n → acc.length ≤ i → I i acc S → ∃ o S', f (.int (lo + i)) S = .ok o S' ∧ I (i + 1) (acc ++ o.toList) S') (hL : n ≤ LIM) : ∃ ys S', compLoop f (.rng lo n) FUEL 0 [] S = .ok ys S' ∧ ys.length ≤ n ∧ I n ys S' := by
  have go : ∀ m k i acc S, i + m = n → n < i + k → acc.length ≤ i → I i acc S → ∃ ys S', compLoop f (.rng lo n) k i acc S = .ok ys S' ∧ ys.length ≤ n ∧ I n ys S' := by
    intro m
    induction m with
    | zero =>
      intro k i acc S hm hk ha hI
      cases k with
      | zero => omega
      | succ k =>
        have e : i = n := by omega
        subst e
        refine ⟨acc, S, ?_, ha, hI⟩
        unfold compLoop
        simp [Wk.at]
    | succ m ih =>
      intro k i acc S hm hk ha hI
      cases k with
      | zero => omega
      | succ k =>
        obtain ⟨o, S1, e, hI1⟩ := step i acc S (by omega) ha hI
        obtain ⟨ys, S2, e2, hl2, hI2⟩ := ih k (i + 1) (acc ++ o.toList) S1 (by omega) (by omega) (by cases o <;> simp <;> omega) hI1
        refine ⟨ys, S2, ?_, hl2, hI2⟩
        unfold compLoop
        simp only [Wk.at, if_pos (show i < n by omega), R.opt_some, e]
        cases o with
        | none => simpa using e2
        | some y =>
          dsimp only
          rw [R.req_of (by omega)]
          exact e2
  exact go n FUEL 0 [] S (by omega) (by omega) (Nat.zero_le _) h0
end Cl
namespace Cl
/-- a loop by a test: each turn a smaller measure -/
theorem while_to {c : Sg → Sto → R Bool} {f : Sg → Sto → RS} {σ : Sg} {S : Sto} (I : Nat → Sg → Sto → Prop) (Q : Sg → Sto → Prop) {m : Nat} (h0 : I m σ S) (hm : m < FUEL)
    (step : ∀ m σ S, I m σ S → (∃ S', c σ S = .ok false S' ∧ Q σ S') ∨ ∃ S0 σ' S' m', c σ S = .ok true S0 ∧ (f σ S0 = .next σ' S' ∨ f σ S0 = .cont σ' S') ∧ m' < m ∧ I m' σ' S') : ∃ σ' S', whileLoop c f FUEL σ S = .next σ' S' ∧ Q σ' S' := by
  have go : ∀ k m σ S, m < k → I m σ S → ∃ σ' S', whileLoop c f k σ S = .next σ' S' ∧ Q σ' S' := by
    intro k
    induction k with
    | zero => intro m σ S h; omega
    | succ k ih =>
      intro m σ S hk hI
      rcases step m σ S hI with ⟨S', e, q⟩ | ⟨S0, σ', S', m', e, e2, hlt, hI'⟩
      · exact ⟨σ, S', by unfold whileLoop; rw [e]; rfl, q⟩
      · obtain ⟨σ2, S2, e3, q⟩ := ih m' σ' S' (by omega) hI'
        refine ⟨σ2, S2, ?_, q⟩
        unfold whileLoop
        rw [e, R.at_ok]
        rcases e2 with e2 | e2 <;> rw [e2] <;> exact e3
  exact go FUEL m σ S hm h0
end Cl
namespace Cl
/-- nothing of an own class here -/
theorem cls_q {S : Sto} {n : Nat} {xs : List D} (h : getQ S n = some xs) : insCls S (.ref n) = none := by
  unfold getQ at h
  unfold insCls
  dsimp only
  split at h
  · rename_i e; rw [e]
  · rename_i e; rw [e]
  · cases h
section
variable {C : Cfg} {S : Sto}
theorem db_int (o : Op) (i : Int) (y : D) : binopD C o (.int i) y S = binop o (.int i) y S := (rfl)
theorem db_str (o : Op) (i : Tx) (y : D) : binopD C o (.str i) y S = binop o (.str i) y S := (rfl)
theorem db_tup (o : Op) (i : List D) (y : D) : binopD C o (.tup i) y S = binop o (.tup i) y S := (rfl)
theorem dc_lt (x y : D) : cmpD C .lt x y S = R.opt (cmpop .lt x y S) fun k => .ok k S := (rfl)
theorem dc_le (x y : D) : cmpD C .le x y S = R.opt (cmpop .le x y S) fun k => .ok k S := (rfl)
theorem dc_gt (x y : D) : cmpD C .gt x y S = R.opt (cmpop .gt x y S) fun k => .ok k S := (rfl)
theorem dc_ge (x y : D) : cmpD C .ge x y S = R.opt (cmpop .ge x y S) fun k => .ok k S := (rfl)
theorem di_str (i : Tx) (y : D) : indexD C (.str i) y S = index (.str i) y S := (rfl)
theorem di_tup (i : List D) (y : D) : indexD C (.tup i) y S = index (.tup i) y S := (rfl)
theorem di_ref {n : Nat} {xs : List D} (h : getQ S n = some xs) (y : D) : indexD C (.ref n) y S = index (.ref n) y S := by
  unfold indexD
  rw [cls_q h]
theorem dl_int (b : Bf) (i : Int) : bltD C b [.int i] S = blt b [.int i] S := (rfl)
theorem dl_str (b : Bf) (i : Tx) : bltD C b [.str i] S = blt b [.str i] S := (rfl)
theorem dl_ref {n : Nat} {xs : List D} (h : getQ S n = some xs) (b : Bf) : bltD C b [.ref n] S = blt b [.ref n] S := by
  unfold bltD
  dsimp only
  rw [cls_q h]
theorem dl_2 (b : Bf) (x y : D) : bltD C b [x, y] S = blt b [x, y] S := (rfl)
end
end Cl

/-! part Py19 -/
/-! Cl: the bag of a cell: what the laws draw from. -/
namespace Cl
/-- the bag of a cell: two numbers and a count -/
def bagF (m1 c1 c2 m2 : Int) : Fn := ⟨2, 4, .cons (.set 2 (.ite (.cmp .lt (.var 1) (.blt .len (.cons (.var 0) .nil))) (.idx (.var 0) (.var 1)) (.int 0)))
  (.cons (.set 3 (.ite (.cmp .ge (.blt .abs (.cons (.var 2) .nil)) (.bin .pow (.int 10) (.int 18))) (.blt .abs (.cons (.var 2) .nil)) (.int 0)))
  (.cons (.ret (.lst (.cons (.var 3) (.cons (.bin .mod (.bin .pow (.bin .add (.bin .add (.bin .mod (.var 2) (.int m1)) (.bin .mul (.int c1) (.var 1))) (.int c2)) (.int 3)) (.int m2)) (.cons (.int 0) .nil))))) .nil))⟩
def takeF (c1 c2 c3 m1 d m2 : Int) : Fn := ⟨2, 3, .cons (.ifs (.cmp .gt (.idx (.var 0) (.int 0)) (.int 0)) (.cons (.set 2 (.bin .mod (.idx (.var 0) (.int 0)) (.var 1))) (.cons (.seti (.var 0) (.int 0) (.bin .fdiv (.idx (.var 0) (.int 0)) (.var 1))) (.cons (.ret (.var 2)) .nil))) .nil)
  (.cons (.seti (.var 0) (.int 2) (.bin .add (.idx (.var 0) (.int 2)) (.int 1)))
  (.cons (.seti (.var 0) (.int 1) (.bin .mod (.bin .add (.bin .add (.bin .mul (.idx (.var 0) (.int 1)) (.int c1)) (.bin .mul (.bin .mul (.int c2) (.idx (.var 0) (.int 2))) (.idx (.var 0) (.int 2)))) (.int c3)) (.int m1)))
  (.cons (.ret (.bin .mod (.bin .mod (.bin .pow (.bin .fdiv (.idx (.var 0) (.int 1)) (.int d)) (.int 3)) (.int m2)) (.var 1))) .nil)))⟩
def pickF (t : Nat) : Fn := ⟨2, 2, .cons (.ret (.idx (.var 1) (.call t (.cons (.var 0) (.cons (.blt .len (.cons (.var 1) .nil)) .nil))))) .nil⟩
def Bag (S : Sto) (b k : Nat) : Prop := ∃ d s c : Int, S[b]? = some (.lst [.int d, .int s, .int c]) ∧ 0 ≤ d ∧ 0 ≤ s ∧ s < 2 ^ 62 ∧ 0 ≤ c ∧ c ≤ k
theorem Bag.lt {S : Sto} {b k : Nat} (h : Bag S b k) : b < S.length := by
  obtain ⟨d, s, c, e, _⟩ := h
  exact (List.getElem?_eq_some_iff.mp e).1
theorem Bag.keep {S S' : Sto} {b k : Nat} {l : List Nat} (h : Bag S b k) (kp : Kp S S' l) (hb : b ∉ l) : Bag S' b k := by
  obtain ⟨d, s, c, e, r⟩ := h
  exact ⟨d, s, c, kp.get e hb, r⟩
theorem Bag.mono {S : Sto} {b k j : Nat} (h : Bag S b k) (hj : k ≤ j) : Bag S b j := by
  obtain ⟨d, s, c, e, h1, h2, h3, h4, h5⟩ := h
  exact ⟨d, s, c, e, h1, h2, h3, h4, by omega⟩
section
variable {P : Nat → Option Fn} {glo : Glo}
theorem at3_0 (a b c : D) : atI [a, b, c] 0 = some a := rfl
theorem at3_1 (a b c : D) : atI [a, b, c] 1 = some b := rfl
theorem at3_2 (a b c : D) : atI [a, b, c] 2 = some c := rfl
theorem ix3_0 : L2.ixN 3 0 = some 0 := rfl
theorem ix3_1 : L2.ixN 3 1 = some 1 := rfl
theorem ix3_2 : L2.ixN 3 2 = some 2 := rfl
theorem mul_abs (a b : Nat) (x : Int) (h : x.natAbs = a) (hb : a < b) : x.natAbs < b := by omega
theorem bag_run {f n r : Nat} {m1 c1 c2 m2 : Int} (hf : P f = some (bagF m1 c1 c2 m2)) (hm1 : 0 < m1 ∧ m1 < 2 ^ 62) (hc1 : 0 ≤ c1 ∧ c1 < 2 ^ 40) (hc2 : 0 ≤ c2 ∧ c2 < 2 ^ 62) (hm2 : 0 < m2 ∧ m2 < 2 ^ 62) {S : Sto} {ns : List Int} (h0 : S[r]? = some (.scr ns)) {i : Int} (hi : 0 ≤ i ∧ i < 2 ^ 20) :
    ∃ xs, run P glo (n + 1) f [.ref r, .int i] S = .ok (.ref S.length) (S ++ [.lst xs]) ∧ Bag (S ++ [.lst xs]) S.length 0 := by
  have q := getQ_scr h0
  -- the cell
  have cell : ∃ x : Int, ifR (decide (i < ((ns.map D.int).length : Int))) (R.opt (atI (ns.map D.int) i) fun d => .ok d S) (.ok (.int 0) S) = .ok (.int x) S := by
    by_cases hl : i < ((ns.map D.int).length : Int)
    · obtain ⟨x, e1, e2⟩ := atI_of hi.1 hl
      rw [List.getElem?_map] at e2
      obtain ⟨y, _, rfl⟩ := Option.map_eq_some_iff.mp e2
      refine ⟨y, ?_⟩
      rw [decide_eq_true hl, ifR_t, e1, R.opt_some]
    · exact ⟨0, by rw [decide_eq_false hl, ifR_f]⟩
  obtain ⟨x, hx⟩ := cell
  have hp : (10 : Int) ^ (18 : Int).toNat = 1000000000000000000 := by decide +kernel
  have hmul : (c1 * i).natAbs < 2 ^ 62 := by
    have h1 : 0 ≤ c1 * i := Int.mul_nonneg hc1.1 hi.1
    have h2 : c1 * i ≤ 2 ^ 40 * 2 ^ 20 := Int.mul_le_mul (by omega) (by omega) hi.1 (by decide)
    have h3 : (2 : Int) ^ 40 * 2 ^ 20 = 2 ^ 60 := by decide
    omega
  have hmn : 0 ≤ c1 * i := Int.mul_nonneg hc1.1 hi.1
  generalize hy : c1 * i = y at hmul hmn
  have hxm : 0 ≤ x % m1 ∧ x % m1 < m1 := ⟨Int.emod_nonneg _ (by omega), Int.emod_lt_of_pos _ hm1.1⟩
  have hz : (x % m1 + y + c2).natAbs < 2 ^ 64 := by omega
  generalize hw : x % m1 + y + c2 = z at hz
  have ht : (3 : Int).toNat = 3 := rfl
  have hs : 0 ≤ z ^ 3 % m2 ∧ z ^ 3 % m2 < m2 := ⟨Int.emod_nonneg _ (by omega), Int.emod_lt_of_pos _ hm2.1⟩
  have fin : ∀ d : Int, 0 ≤ d → ∃ xs, (R.ok (D.ref S.length) (S ++ [Ob.lst [.int d, .int (z ^ 3 % m2), .int 0]]) : R D) = .ok (.ref S.length) (S ++ [.lst xs]) ∧ Bag (S ++ [.lst xs]) S.length 0 := fun d hd =>
    ⟨_, rfl, d, z ^ 3 % m2, 0, by simp, hd, hs.1, by omega, by omega, by omega⟩
  have habs : 0 ≤ (if x < 0 then -x else x) := by split <;> omega
  have hLIM : (3 : Nat) ≤ LIM := by decide
  have r1 : (c1.natAbs < 2 ^ 64 ∨ i.natAbs < 2 ^ 64) = True := eq_true (by omega)
  have r2 : (0 < m1) = True := eq_true hm1.1
  have r3 : (0 < m2) = True := eq_true hm2.1
  have r4 : ((0 : Int) ≤ 3 ∧ (3 : Int) ≤ 1000000 ∧ z.natAbs < 2 ^ 64) = True := eq_true (by omega)
  have r5 : ((0 : Int) ≤ 18 ∧ (18 : Int) ≤ 1000000 ∧ (10 : Int).natAbs < 2 ^ 64) = True := eq_true (by decide)
  have r6 : (3 ≤ LIM) = True := eq_true (by decide)
  rw [run_ok hf rfl]
  have dr1 := fun (C : Cfg) y => di_ref (C := C) q y
  have dr2 := fun (C : Cfg) b => dl_ref (C := C) q b
  simp only [bagF, dr1, dr2, x_non, x_bl, x_int, x_str, x_var, x_glo, x_bin, x_neg, x_not, x_bop, x_bop1, x_and, x_or, x_ite, x_cmp, x_tup, x_lst, x_idx, x_slc, x_call, x_callk, x_blt, x_isi, x_mth, x_nil, x_cons, x_o0, x_o1, x_c0, x_c1, x_comp, x_val, x_rng, s_set, s_sets, s_par, s_aug, s_seti, s_expr, s_ret, s_retn, s_if, s_forF, s_whl, s_pass, s_brk, s_cont, s_nil, s_one, s_cons, o_add, o_sub, o_mul, o_fdiv, o_mod, o_pow, o_cat, o_catT, o_catL, o_mulT, a_add, a_sub, a_cat, a_catL, c_lt, c_le, c_gt, c_ge, c_eqI, c_neI, c_eqS, c_neS, c_in, c_nin, c_isN, c_isnN, t_bl, t_int, t_str, t_tup, t_non, t_ref, i_str, i_tup, i_ref, l_str, l_tup, l_ref, b_lenS, b_lenT, b_lenR, b_abs, b_max, b_min, b_int, b_intB, b_repr, b_listT, b_listR, b_tupT, b_tupR, w_tup, w_str, w_ref, g_one, m_app, m_pop, rs_strip, rs_lower, rs_upper, rs_split, rs_partition, rs_join, rs_find, rs_count, f_int, retR_n, retR_r, retR_x, slotR_ok, negD_i, intO_i, rngR_1, rngR_2, parS_2, parS_3, ifR_t, ifR_f, ifS_t, ifS_f, R.bind_ok, R.bind_exc, R.at_ok, R.at_exc, R.opt_some, RS.opt_some, R.req_true, RS.seq_next, RS.seq_ret, RS.seq_brk, RS.seq_cont, RS.seq_exc, List.getElem?_cons_zero, List.getElem?_cons_succ, List.set_cons_zero, List.set_cons_succ, List.map_cons, List.map_nil, List.cons_append, List.nil_append, List.replicate, List.length_cons, List.length_nil, Option.map_some, Option.bind_some, Nat.reduceAdd, Nat.reduceSub, Nat.zero_add, eq_self, db_int, db_str, db_tup, dc_lt, dc_le, dc_gt, dc_ge, di_str, di_tup, dl_int, dl_str, dl_2, q]
  simp only [hx, x_non, x_bl, x_int, x_str, x_var, x_glo, x_bin, x_neg, x_not, x_bop, x_bop1, x_and, x_or, x_ite, x_cmp, x_tup, x_lst, x_idx, x_slc, x_call, x_callk, x_blt, x_isi, x_mth, x_nil, x_cons, x_o0, x_o1, x_c0, x_c1, x_comp, x_val, x_rng, s_set, s_sets, s_par, s_aug, s_seti, s_expr, s_ret, s_retn, s_if, s_forF, s_whl, s_pass, s_brk, s_cont, s_nil, s_one, s_cons, o_add, o_sub, o_mul, o_fdiv, o_mod, o_pow, o_cat, o_catT, o_catL, o_mulT, a_add, a_sub, a_cat, a_catL, c_lt, c_le, c_gt, c_ge, c_eqI, c_neI, c_eqS, c_neS, c_in, c_nin, c_isN, c_isnN, t_bl, t_int, t_str, t_tup, t_non, t_ref, i_str, i_tup, i_ref, l_str, l_tup, l_ref, b_lenS, b_lenT, b_lenR, b_abs, b_max, b_min, b_int, b_intB, b_repr, b_listT, b_listR, b_tupT, b_tupR, w_tup, w_str, w_ref, g_one, m_app, m_pop, rs_strip, rs_lower, rs_upper, rs_split, rs_partition, rs_join, rs_find, rs_count, f_int, retR_n, retR_r, retR_x, slotR_ok, negD_i, intO_i, rngR_1, rngR_2, parS_2, parS_3, ifR_t, ifR_f, ifS_t, ifS_f, R.bind_ok, R.bind_exc, R.at_ok, R.at_exc, R.opt_some, RS.opt_some, R.req_true, RS.seq_next, RS.seq_ret, RS.seq_brk, RS.seq_cont, RS.seq_exc, List.getElem?_cons_zero, List.getElem?_cons_succ, List.set_cons_zero, List.set_cons_succ, List.map_cons, List.map_nil, List.cons_append, List.nil_append, List.replicate, List.length_cons, List.length_nil, Option.map_some, Option.bind_some, Nat.reduceAdd, Nat.reduceSub, Nat.zero_add, eq_self, db_int, db_str, db_tup, dc_lt, dc_le, dc_gt, dc_ge, di_str, di_tup, dl_int, dl_str, dl_2, r5, hp]
  by_cases hb : (1000000000000000000 : Int) ≤ (if x < 0 then -x else x)
  · simp only [hb, decide_true, x_non, x_bl, x_int, x_str, x_var, x_glo, x_bin, x_neg, x_not, x_bop, x_bop1, x_and, x_or, x_ite, x_cmp, x_tup, x_lst, x_idx, x_slc, x_call, x_callk, x_blt, x_isi, x_mth, x_nil, x_cons, x_o0, x_o1, x_c0, x_c1, x_comp, x_val, x_rng, s_set, s_sets, s_par, s_aug, s_seti, s_expr, s_ret, s_retn, s_if, s_forF, s_whl, s_pass, s_brk, s_cont, s_nil, s_one, s_cons, o_add, o_sub, o_mul, o_fdiv, o_mod, o_pow, o_cat, o_catT, o_catL, o_mulT, a_add, a_sub, a_cat, a_catL, c_lt, c_le, c_gt, c_ge, c_eqI, c_neI, c_eqS, c_neS, c_in, c_nin, c_isN, c_isnN, t_bl, t_int, t_str, t_tup, t_non, t_ref, i_str, i_tup, i_ref, l_str, l_tup, l_ref, b_lenS, b_lenT, b_lenR, b_abs, b_max, b_min, b_int, b_intB, b_repr, b_listT, b_listR, b_tupT, b_tupR, w_tup, w_str, w_ref, g_one, m_app, m_pop, rs_strip, rs_lower, rs_upper, rs_split, rs_partition, rs_join, rs_find, rs_count, f_int, retR_n, retR_r, retR_x, slotR_ok, negD_i, intO_i, rngR_1, rngR_2, parS_2, parS_3, ifR_t, ifR_f, ifS_t, ifS_f, R.bind_ok, R.bind_exc, R.at_ok, R.at_exc, R.opt_some, RS.opt_some, R.req_true, RS.seq_next, RS.seq_ret, RS.seq_brk, RS.seq_cont, RS.seq_exc, List.getElem?_cons_zero, List.getElem?_cons_succ, List.set_cons_zero, List.set_cons_succ, List.map_cons, List.map_nil, List.cons_append, List.nil_append, List.replicate, List.length_cons, List.length_nil, Option.map_some, Option.bind_some, Nat.reduceAdd, Nat.reduceSub, Nat.zero_add, eq_self, db_int, db_str, db_tup, dc_lt, dc_le, dc_gt, dc_ge, di_str, di_tup, dl_int, dl_str, dl_2, r1, r2, r3, hy, hw, r4, ht, r6]
    exact fin _ habs
  · simp only [hb, decide_false, x_non, x_bl, x_int, x_str, x_var, x_glo, x_bin, x_neg, x_not, x_bop, x_bop1, x_and, x_or, x_ite, x_cmp, x_tup, x_lst, x_idx, x_slc, x_call, x_callk, x_blt, x_isi, x_mth, x_nil, x_cons, x_o0, x_o1, x_c0, x_c1, x_comp, x_val, x_rng, s_set, s_sets, s_par, s_aug, s_seti, s_expr, s_ret, s_retn, s_if, s_forF, s_whl, s_pass, s_brk, s_cont, s_nil, s_one, s_cons, o_add, o_sub, o_mul, o_fdiv, o_mod, o_pow, o_cat, o_catT, o_catL, o_mulT, a_add, a_sub, a_cat, a_catL, c_lt, c_le, c_gt, c_ge, c_eqI, c_neI, c_eqS, c_neS, c_in, c_nin, c_isN, c_isnN, t_bl, t_int, t_str, t_tup, t_non, t_ref, i_str, i_tup, i_ref, l_str, l_tup, l_ref, b_lenS, b_lenT, b_lenR, b_abs, b_max, b_min, b_int, b_intB, b_repr, b_listT, b_listR, b_tupT, b_tupR, w_tup, w_str, w_ref, g_one, m_app, m_pop, rs_strip, rs_lower, rs_upper, rs_split, rs_partition, rs_join, rs_find, rs_count, f_int, retR_n, retR_r, retR_x, slotR_ok, negD_i, intO_i, rngR_1, rngR_2, parS_2, parS_3, ifR_t, ifR_f, ifS_t, ifS_f, R.bind_ok, R.bind_exc, R.at_ok, R.at_exc, R.opt_some, RS.opt_some, R.req_true, RS.seq_next, RS.seq_ret, RS.seq_brk, RS.seq_cont, RS.seq_exc, List.getElem?_cons_zero, List.getElem?_cons_succ, List.set_cons_zero, List.set_cons_succ, List.map_cons, List.map_nil, List.cons_append, List.nil_append, List.replicate, List.length_cons, List.length_nil, Option.map_some, Option.bind_some, Nat.reduceAdd, Nat.reduceSub, Nat.zero_add, eq_self, db_int, db_str, db_tup, dc_lt, dc_le, dc_gt, dc_ge, di_str, di_tup, dl_int, dl_str, dl_2, r1, r2, r3, hy, hw, r4, ht, r6]
    exact fin 0 (Int.le_refl 0)
theorem take_run {f n : Nat} {c1 c2 c3 m1 d m2 : Int} (hf : P f = some (takeF c1 c2 c3 m1 d m2)) (hc1 : 0 ≤ c1 ∧ c1 < 2 ^ 62) (hc2 : 0 ≤ c2 ∧ c2 < 2 ^ 62) (hc3 : 0 ≤ c3) (hm1 : 0 < m1 ∧ m1 < 2 ^ 62) (hd : 0 < d ∧ d < 1073741824) (hm2 : 0 < m2) {S : Sto} {b k : Nat} (hb : Bag S b k) (hk : k < 2 ^ 60)
    {m : Int} (hm : 0 < m ∧ m < 1073741824) : ∃ (r : Int) (xs : List D), run P glo (n + 1) f [.ref b, .int m] S = .ok (.int r) (S.set b (.lst xs)) ∧ 0 ≤ r ∧ r < m ∧ Bag (S.set b (.lst xs)) b (k + 1) := by
  have hlt := hb.lt
  obtain ⟨x, s, c, e, hx, hs, hs2, hc, hck⟩ := hb
  have q := getQ_of e
  have l := getL_of e
  have r1 : (0 < m) = True := eq_true hm.1
  have r2 : (0 < m ∧ m < 1073741824) = True := eq_true hm
  rw [run_ok hf rfl]
  have dr0 := fun (C : Cfg) y => di_ref (C := C) q y
  simp only [takeF, dr0, x_non, x_bl, x_int, x_str, x_var, x_glo, x_bin, x_neg, x_not, x_bop, x_bop1, x_and, x_or, x_ite, x_cmp, x_tup, x_lst, x_idx, x_slc, x_call, x_callk, x_blt, x_isi, x_mth, x_nil, x_cons, x_o0, x_o1, x_c0, x_c1, x_comp, x_val, x_rng, s_set, s_sets, s_par, s_aug, s_seti, s_expr, s_ret, s_retn, s_if, s_forF, s_whl, s_pass, s_brk, s_cont, s_nil, s_one, s_cons, o_add, o_sub, o_mul, o_fdiv, o_mod, o_pow, o_cat, o_catT, o_catL, o_mulT, a_add, a_sub, a_cat, a_catL, c_lt, c_le, c_gt, c_ge, c_eqI, c_neI, c_eqS, c_neS, c_in, c_nin, c_isN, c_isnN, t_bl, t_int, t_str, t_tup, t_non, t_ref, i_str, i_tup, i_ref, l_str, l_tup, l_ref, b_lenS, b_lenT, b_lenR, b_abs, b_max, b_min, b_int, b_intB, b_repr, b_listT, b_listR, b_tupT, b_tupR, w_tup, w_str, w_ref, g_one, m_app, m_pop, rs_strip, rs_lower, rs_upper, rs_split, rs_partition, rs_join, rs_find, rs_count, f_int, retR_n, retR_r, retR_x, slotR_ok, negD_i, intO_i, rngR_1, rngR_2, parS_2, parS_3, ifR_t, ifR_f, ifS_t, ifS_f, R.bind_ok, R.bind_exc, R.at_ok, R.at_exc, R.opt_some, RS.opt_some, R.req_true, RS.seq_next, RS.seq_ret, RS.seq_brk, RS.seq_cont, RS.seq_exc, List.getElem?_cons_zero, List.getElem?_cons_succ, List.set_cons_zero, List.set_cons_succ, List.map_cons, List.map_nil, List.cons_append, List.nil_append, List.replicate, List.length_cons, List.length_nil, Option.map_some, Option.bind_some, Nat.reduceAdd, Nat.reduceSub, Nat.zero_add, eq_self, db_int, db_str, db_tup, dc_lt, dc_le, dc_gt, dc_ge, di_str, di_tup, dl_int, dl_str, dl_2, q, at3_0]
  by_cases h0 : 0 < x
  · simp only [h0, decide_true, dr0, x_non, x_bl, x_int, x_str, x_var, x_glo, x_bin, x_neg, x_not, x_bop, x_bop1, x_and, x_or, x_ite, x_cmp, x_tup, x_lst, x_idx, x_slc, x_call, x_callk, x_blt, x_isi, x_mth, x_nil, x_cons, x_o0, x_o1, x_c0, x_c1, x_comp, x_val, x_rng, s_set, s_sets, s_par, s_aug, s_seti, s_expr, s_ret, s_retn, s_if, s_forF, s_whl, s_pass, s_brk, s_cont, s_nil, s_one, s_cons, o_add, o_sub, o_mul, o_fdiv, o_mod, o_pow, o_cat, o_catT, o_catL, o_mulT, a_add, a_sub, a_cat, a_catL, c_lt, c_le, c_gt, c_ge, c_eqI, c_neI, c_eqS, c_neS, c_in, c_nin, c_isN, c_isnN, t_bl, t_int, t_str, t_tup, t_non, t_ref, i_str, i_tup, i_ref, l_str, l_tup, l_ref, b_lenS, b_lenT, b_lenR, b_abs, b_max, b_min, b_int, b_intB, b_repr, b_listT, b_listR, b_tupT, b_tupR, w_tup, w_str, w_ref, g_one, m_app, m_pop, rs_strip, rs_lower, rs_upper, rs_split, rs_partition, rs_join, rs_find, rs_count, f_int, retR_n, retR_r, retR_x, slotR_ok, negD_i, intO_i, rngR_1, rngR_2, parS_2, parS_3, ifR_t, ifR_f, ifS_t, ifS_f, R.bind_ok, R.bind_exc, R.at_ok, R.at_exc, R.opt_some, RS.opt_some, R.req_true, RS.seq_next, RS.seq_ret, RS.seq_brk, RS.seq_cont, RS.seq_exc, List.getElem?_cons_zero, List.getElem?_cons_succ, List.set_cons_zero, List.set_cons_succ, List.map_cons, List.map_nil, List.cons_append, List.nil_append, List.replicate, List.length_cons, List.length_nil, Option.map_some, Option.bind_some, Nat.reduceAdd, Nat.reduceSub, Nat.zero_add, eq_self, db_int, db_str, db_tup, dc_lt, dc_le, dc_gt, dc_ge, di_str, di_tup, dl_int, dl_str, dl_2, q, l, hm.1, hm.2, and_self, at3_0, ix3_0]
    refine ⟨x % m, _, rfl, Int.emod_nonneg _ (by omega), Int.emod_lt_of_pos _ hm.1, x / m, s, c, ?_, Int.ediv_nonneg hx (by omega), hs, hs2, hc, by omega⟩
    rw [List.getElem?_set_self hlt]
  · have e1 : (S.set b (.lst [.int x, .int s, .int (c + 1)]))[b]? = some (.lst [.int x, .int s, .int (c + 1)]) := List.getElem?_set_self hlt
    have q1 := getQ_of e1
    have l1 := getL_of e1
    have r3 : (s.natAbs < 2 ^ 64 ∨ c1.natAbs < 2 ^ 64) = True := eq_true (by omega)
    have r4 : (c2.natAbs < 2 ^ 64 ∨ (c + 1).natAbs < 2 ^ 64) = True := eq_true (by omega)
    have r5 : ((c2 * (c + 1)).natAbs < 2 ^ 64 ∨ (c + 1).natAbs < 2 ^ 64) = True := eq_true (by omega)
    have r6 : (0 < m1) = True := eq_true hm1.1
    generalize hw : (s * c1 + c2 * (c + 1) * (c + 1) + c3) % m1 = w
    have hw1 : 0 ≤ w ∧ w < m1 := by rw [← hw]; exact ⟨Int.emod_nonneg _ (by omega), Int.emod_lt_of_pos _ hm1.1⟩
    have e2 : ((S.set b (.lst [.int x, .int s, .int (c + 1)])).set b (.lst [.int x, .int w, .int (c + 1)]))[b]? = some (.lst [.int x, .int w, .int (c + 1)]) := List.getElem?_set_self (by simpa using hlt)
    have q2 := getQ_of e2
    have hdv : 0 ≤ w / d ∧ w / d < 2 ^ 62 := ⟨Int.ediv_nonneg hw1.1 (by omega), by
      have := Int.ediv_le_self d hw1.1
      omega⟩
    have r8 : ((0 : Int) ≤ 3 ∧ (3 : Int) ≤ 1000000 ∧ (w / d).natAbs < 2 ^ 64) = True := eq_true (by omega)
    have r9 : (0 < m2) = True := eq_true hm2
    have ht : (3 : Int).toNat = 3 := rfl
    have dr1 := fun (C : Cfg) y => di_ref (C := C) q1 y
    have dr2 := fun (C : Cfg) y => di_ref (C := C) q2 y
    simp only [h0, decide_false, dr0, x_non, x_bl, x_int, x_str, x_var, x_glo, x_bin, x_neg, x_not, x_bop, x_bop1, x_and, x_or, x_ite, x_cmp, x_tup, x_lst, x_idx, x_slc, x_call, x_callk, x_blt, x_isi, x_mth, x_nil, x_cons, x_o0, x_o1, x_c0, x_c1, x_comp, x_val, x_rng, s_set, s_sets, s_par, s_aug, s_seti, s_expr, s_ret, s_retn, s_if, s_forF, s_whl, s_pass, s_brk, s_cont, s_nil, s_one, s_cons, o_add, o_sub, o_mul, o_fdiv, o_mod, o_pow, o_cat, o_catT, o_catL, o_mulT, a_add, a_sub, a_cat, a_catL, c_lt, c_le, c_gt, c_ge, c_eqI, c_neI, c_eqS, c_neS, c_in, c_nin, c_isN, c_isnN, t_bl, t_int, t_str, t_tup, t_non, t_ref, i_str, i_tup, i_ref, l_str, l_tup, l_ref, b_lenS, b_lenT, b_lenR, b_abs, b_max, b_min, b_int, b_intB, b_repr, b_listT, b_listR, b_tupT, b_tupR, w_tup, w_str, w_ref, g_one, m_app, m_pop, rs_strip, rs_lower, rs_upper, rs_split, rs_partition, rs_join, rs_find, rs_count, f_int, retR_n, retR_r, retR_x, slotR_ok, negD_i, intO_i, rngR_1, rngR_2, parS_2, parS_3, ifR_t, ifR_f, ifS_t, ifS_f, R.bind_ok, R.bind_exc, R.at_ok, R.at_exc, R.opt_some, RS.opt_some, R.req_true, RS.seq_next, RS.seq_ret, RS.seq_brk, RS.seq_cont, RS.seq_exc, List.getElem?_cons_zero, List.getElem?_cons_succ, List.set_cons_zero, List.set_cons_succ, List.map_cons, List.map_nil, List.cons_append, List.nil_append, List.replicate, List.length_cons, List.length_nil, Option.map_some, Option.bind_some, Nat.reduceAdd, Nat.reduceSub, Nat.zero_add, eq_self, db_int, db_str, db_tup, dc_lt, dc_le, dc_gt, dc_ge, di_str, di_tup, dl_int, dl_str, dl_2, q, l, at3_2, ix3_2]
    simp only [dr1, x_non, x_bl, x_int, x_str, x_var, x_glo, x_bin, x_neg, x_not, x_bop, x_bop1, x_and, x_or, x_ite, x_cmp, x_tup, x_lst, x_idx, x_slc, x_call, x_callk, x_blt, x_isi, x_mth, x_nil, x_cons, x_o0, x_o1, x_c0, x_c1, x_comp, x_val, x_rng, s_set, s_sets, s_par, s_aug, s_seti, s_expr, s_ret, s_retn, s_if, s_forF, s_whl, s_pass, s_brk, s_cont, s_nil, s_one, s_cons, o_add, o_sub, o_mul, o_fdiv, o_mod, o_pow, o_cat, o_catT, o_catL, o_mulT, a_add, a_sub, a_cat, a_catL, c_lt, c_le, c_gt, c_ge, c_eqI, c_neI, c_eqS, c_neS, c_in, c_nin, c_isN, c_isnN, t_bl, t_int, t_str, t_tup, t_non, t_ref, i_str, i_tup, i_ref, l_str, l_tup, l_ref, b_lenS, b_lenT, b_lenR, b_abs, b_max, b_min, b_int, b_intB, b_repr, b_listT, b_listR, b_tupT, b_tupR, w_tup, w_str, w_ref, g_one, m_app, m_pop, rs_strip, rs_lower, rs_upper, rs_split, rs_partition, rs_join, rs_find, rs_count, f_int, retR_n, retR_r, retR_x, slotR_ok, negD_i, intO_i, rngR_1, rngR_2, parS_2, parS_3, ifR_t, ifR_f, ifS_t, ifS_f, R.bind_ok, R.bind_exc, R.at_ok, R.at_exc, R.opt_some, RS.opt_some, R.req_true, RS.seq_next, RS.seq_ret, RS.seq_brk, RS.seq_cont, RS.seq_exc, List.getElem?_cons_zero, List.getElem?_cons_succ, List.set_cons_zero, List.set_cons_succ, List.map_cons, List.map_nil, List.cons_append, List.nil_append, List.replicate, List.length_cons, List.length_nil, Option.map_some, Option.bind_some, Nat.reduceAdd, Nat.reduceSub, Nat.zero_add, eq_self, db_int, db_str, db_tup, dc_lt, dc_le, dc_gt, dc_ge, di_str, di_tup, dl_int, dl_str, dl_2, q1, l1, at3_1, at3_2, ix3_1, r3, r4, r5, r6, hw]
    simp only [dr2, x_non, x_bl, x_int, x_str, x_var, x_glo, x_bin, x_neg, x_not, x_bop, x_bop1, x_and, x_or, x_ite, x_cmp, x_tup, x_lst, x_idx, x_slc, x_call, x_callk, x_blt, x_isi, x_mth, x_nil, x_cons, x_o0, x_o1, x_c0, x_c1, x_comp, x_val, x_rng, s_set, s_sets, s_par, s_aug, s_seti, s_expr, s_ret, s_retn, s_if, s_forF, s_whl, s_pass, s_brk, s_cont, s_nil, s_one, s_cons, o_add, o_sub, o_mul, o_fdiv, o_mod, o_pow, o_cat, o_catT, o_catL, o_mulT, a_add, a_sub, a_cat, a_catL, c_lt, c_le, c_gt, c_ge, c_eqI, c_neI, c_eqS, c_neS, c_in, c_nin, c_isN, c_isnN, t_bl, t_int, t_str, t_tup, t_non, t_ref, i_str, i_tup, i_ref, l_str, l_tup, l_ref, b_lenS, b_lenT, b_lenR, b_abs, b_max, b_min, b_int, b_intB, b_repr, b_listT, b_listR, b_tupT, b_tupR, w_tup, w_str, w_ref, g_one, m_app, m_pop, rs_strip, rs_lower, rs_upper, rs_split, rs_partition, rs_join, rs_find, rs_count, f_int, retR_n, retR_r, retR_x, slotR_ok, negD_i, intO_i, rngR_1, rngR_2, parS_2, parS_3, ifR_t, ifR_f, ifS_t, ifS_f, R.bind_ok, R.bind_exc, R.at_ok, R.at_exc, R.opt_some, RS.opt_some, R.req_true, RS.seq_next, RS.seq_ret, RS.seq_brk, RS.seq_cont, RS.seq_exc, List.getElem?_cons_zero, List.getElem?_cons_succ, List.set_cons_zero, List.set_cons_succ, List.map_cons, List.map_nil, List.cons_append, List.nil_append, List.replicate, List.length_cons, List.length_nil, Option.map_some, Option.bind_some, Nat.reduceAdd, Nat.reduceSub, Nat.zero_add, eq_self, db_int, db_str, db_tup, dc_lt, dc_le, dc_gt, dc_ge, di_str, di_tup, dl_int, dl_str, dl_2, q2, at3_1, hd.1, hd.2, and_self, r8, hm2, hm.1, ht]
    refine ⟨(w / d) ^ 3 % m2 % m, [.int x, .int w, .int (c + 1)], ?_, Int.emod_nonneg _ (by omega), Int.emod_lt_of_pos _ hm.1, x, w, c + 1, ?_, hx, hw1.1, by omega, by omega, by omega⟩
    · rw [List.set_set]
    · rw [List.getElem?_set_self hlt]
end
end Cl

/-! part U15 -/
/-! Cl: the second evaluator follows the first: defs, by depth. -/
namespace Cl
open PySem (PyData)
variable {w w' w1 w2 : Wd} {S S' S1 S2 : Sto} {W W' W1 W2 Wp : List Nat} {k k' : Nat} {σ : Sg} {π : Env}
/-- the two defs that are drawn with have their text -/
structure AxOk (P : Nat → Option Fn) (X : Ax) (mu : Nat → List Nat) : Prop where
  bag : ∀ f, X.bag = some f → mu f = [] ∧ ∃ m1 c1 c2 m2 : Int, P f = some (bagF m1 c1 c2 m2) ∧ (0 < m1 ∧ m1 < 2 ^ 62) ∧ (0 ≤ c1 ∧ c1 < 2 ^ 40) ∧ (0 ≤ c2 ∧ c2 < 2 ^ 62) ∧ (0 < m2 ∧ m2 < 2 ^ 62)
  take : ∀ f, X.take = some f → mu f = [] ∧ ∃ c1 c2 c3 m1 d m2 : Int, P f = some (takeF c1 c2 c3 m1 d m2) ∧ (0 ≤ c1 ∧ c1 < 2 ^ 62) ∧ (0 ≤ c2 ∧ c2 < 2 ^ 62) ∧ 0 ≤ c3 ∧ (0 < m1 ∧ m1 < 2 ^ 62) ∧ (0 < d ∧ d < 1073741824) ∧ 0 < m2
theorem BagA.mono {n : Nat} (h : BagA S n k) (hk : k ≤ k') : BagA S n k' := by
  obtain ⟨d, s, c, e, h1, h2, h3, h4, h5⟩ := h
  exact ⟨d, s, c, e, h1, h2, h3, h4, by omega⟩
theorem start_ews : ∀ {ps : List O} {ds : List D} {W : List Nat} (n : Nat), Ows w S ps ds W → Ews w S (ps.map some ++ List.replicate n none) (ds.map some ++ List.replicate n none) W
  | [], ds, W, n, h => by
    rw [h.1, h.2]
    show Ews w S (List.replicate n none) (List.replicate n none) []
    induction n with
    | zero => exact ⟨rfl, rfl⟩
    | succ n ih => exact ⟨none, _, rfl, ih⟩
  | p :: ps, _, W, n, ⟨d, es, W1, W2, a, b, c, g⟩ => by
    rw [a, b]
    exact ⟨d, _, W1, W2, rfl, rfl, c, start_ews n g⟩
theorem ows_len : ∀ {ps : List O} {ds : List D} {W : List Nat}, Ows w S ps ds W → ds.length = ps.length
  | [], _, _, h => by rw [h.1]; rfl
  | p :: ps, _, _, ⟨d, es, W1, W2, a, b, c, g⟩ => by rw [a, List.length_cons, List.length_cons, ows_len g]
theorem ows_getD : ∀ {ps : List O} {ds : List D} {W : List Nat}, Ows w S ps ds W → ∀ {j : Nat} {p : O}, ps[j]? = some p → ds[j]? = some (ds.getD j .non)
  | [], _, _, h, j, p, e => by simp at e
  | p :: ps, _, _, ⟨d, es, W1, W2, a, b, c, g⟩, 0, q, e => by rw [a]; rfl
  | p :: ps, _, _, ⟨d, es, W1, W2, a, b, c, g⟩, j + 1, q, e => by
    rw [a]
    have := ows_getD g (j := j) (by simpa using e)
    simpa using this
/-- the values that are handed out -/
theorem outs_ok : ∀ {mu : List Nat} {outs : List O} {π : Env} {W : List Nat} {es : List D}, outsOf mu π = some outs → mu.Nodup → Ews w S π σ W → IxR σ mu es → ∃ Wo R, Ows w S outs es Wo ∧ W.Perm (Wo ++ R)
  | [], outs, π, W, es, h, _, hv, ix => by
    have : outs = [] := by unfold outsOf mapO at h; simpa using h.symm
    subst this
    exact ⟨[], W, ⟨ix, rfl⟩, .refl _⟩
  | j :: mu, outs, π, W, es, h, hnd, hv, ⟨e, es', a, b, c⟩ => by
    unfold outsOf mapO at h
    cases h1 : getO π j with
    | none => rw [h1] at h; cases h
    | some p =>
      cases h2 : mapO (getO π) mu with
      | none => rw [h1, h2] at h; cases h
      | some ps =>
        rw [h1, h2] at h
        cases h
        obtain ⟨d, Wp, R, g1, g2, g3, g4⟩ := hv.slot h1
        rw [b] at g1
        cases g1
        have nj : j ∉ mu := (List.nodup_cons.mp hnd).1
        have h2' : outsOf mu (π.set j none) = some ps := by
          unfold outsOf
          rw [← h2]
          have : ∀ l : List Nat, j ∉ l → mapO (getO (π.set j none)) l = mapO (getO π) l := by
            intro l
            induction l with
            | nil => intro _; rfl
            | cons x l ih =>
              intro hx
              simp at hx
              unfold mapO
              rw [getO_set_none, if_neg hx.1, ih hx.2]
          exact this mu nj
        obtain ⟨Wo, R2, q1, q2⟩ := outs_ok h2' (List.nodup_cons.mp hnd).2 g4 c
        refine ⟨Wp ++ Wo, R2, ⟨_, es', Wp, Wo, a, rfl, g3, q1⟩, g2.trans ?_⟩
        rw [List.append_assoc]
        exact List.Perm.append_left Wp q2
theorem relF_fin {mu : List Nat} {ds ms : List D} {S0 : Sto} {w0 : Wd} {W0 : List Nat} {m : R D} {p : O} {d : D} (hnd : mu.Nodup) (hm : m = .ok d S) (hms : IxR σ mu ms) (s : Step w0 S0 w S W0 false) (c : Ow w S p d Wp) (v : Ews w S π σ W) (g : Good w S (Wp ++ W) k) (f : Fresh W0 S0 (Wp ++ W)) :
    ∃ o, (ffin mu p π k).Has o ∧ RelF w0 S0 W0 ms m o := by
  unfold ffin
  cases ho : outsOf mu π with
  | none => exact ⟨_, .ret, trivial⟩
  | some outs =>
    obtain ⟨Wo, R1, q1, q2⟩ := outs_ok ho hnd v hms
    have sb : Sub (Wp ++ Wo) (Wp ++ W) := Sub.app Wp ⟨fun n hn => by simp [q2.mem_iff, hn], fun h => (List.nodup_append.mp (q2.nodup_iff.mp h)).1⟩
    exact ⟨_, .ret, d, S, w, Wp, Wo, hm, s, c, q1, g.subs sb, fun n hn => f n (sb.mem n hn)⟩
theorem relF_fex {mu : List Nat} {ds ms : List D} {S0 : Sto} {w0 : Wd} {W0 : List Nat} {m : R D} {x : U} {d : D} (hnd : mu.Nodup) (hm : m = .exc d S) (hms : IxR σ mu ms) (s : Step w0 S0 w S W0 false) (c : Vw w S x d) (v : Ews w S π σ W) (g : Good w S W k) (f : Fresh W0 S0 W) :
    ∃ o, (ffex mu x π k).Has o ∧ RelF w0 S0 W0 ms m o := by
  unfold ffex
  cases ho : outsOf mu π with
  | none => exact ⟨_, .ret, trivial⟩
  | some outs =>
    obtain ⟨Wo, R1, q1, q2⟩ := outs_ok ho hnd v hms
    have sb : Sub Wo W := ⟨fun n hn => by simp [q2.mem_iff, hn], fun h => (List.nodup_append.mp (q2.nodup_iff.mp h)).1⟩
    exact ⟨_, .ret, d, S, w, Wo, hm, s, c, q1, g.subs sb, fun n hn => f n (sb.mem n hn)⟩
theorem step_set_bag {b : Nat} {xs : List D} (hb : w.B b) : Step w S w (S.set b (.lst xs)) W false := ⟨by simp, fun n _ _ hn => List.getElem?_set_ne (fun e => hn (by rw [← e]; exact hb)), fun _ h => h, fun _ h => h, fun _ h => .inl h, fun _ h => .inl h⟩
theorem run_sim {P : Nat → Option Fn} {G : Glo} {mu : Nat → List Nat} {qm : String → Bool} {X : Ax} (hX : AxOk P X mu) (hmu : ∀ f, (mu f).Nodup ∧ ∀ F, P f = some F → ∀ j, j ∈ mu f → j < F.np) : ∀ n, SimF ⟨run P G n, G⟩ ⟨prun P G mu qm X n, G, mu, qm, []⟩
  | 0 => fun f ps ds w S W k _ _ => ⟨_, .ret, trivial⟩
  | n + 1 => fun f ps ds w S W k ho gd => by
    have hF : SimF ⟨run P G n, G⟩ ⟨prun P G mu qm X n, G, mu, qm, mu f⟩ := run_sim hX hmu n
    show ∃ o, (prun P G mu qm X (n + 1) f ps k).Has o ∧ RelF w S W ((mu f).map fun j => ds.getD j .non) (run P G (n + 1) f ds S) o
    unfold prun
    by_cases hb : X.bag = some f
    · rw [if_pos hb]
      obtain ⟨hm, m1, c1, c2, m2, hf, b1, b2, b3, b4⟩ := hX.bag f hb
      unfold pbag
      split
      · rename_i ns i
        by_cases hc : 0 ≤ i ∧ i < 1048576
        · rw [if_pos hc]
          obtain ⟨d1, es, Wa, Wb, rfl, rfl, ⟨rfl, hv⟩, d2, es2, Wc, Wd', rfl, rfl, ⟨rfl, hv2⟩, rfl, rfl⟩ := ho
          obtain ⟨r, rfl, fr, hr⟩ := hv
          rw [show d2 = .int i from hv2]
          obtain ⟨xs, e, hbag⟩ := bag_run (glo := G) (n := n) (S := S) (r := r) hf b1 b2 b3 b4 hr ⟨hc.1, by omega⟩
          rw [hm]
          have gd' : Good w S [] k := by simpa using gd
          obtain ⟨x, y, z, e1, t1, t2, t3, t4, t5⟩ := hbag
          refine ⟨_, .ret, .ref S.length, S ++ [.lst xs], ⟨w.F, fun m => w.B m ∨ m = S.length⟩, [], [], e, ⟨by simp, fun m hm _ _ => List.getElem?_append_left hm, fun _ h => h, fun _ h => .inl h, fun _ h => .inl h, fun m h => h.elim .inl fun h => .inr (by omega)⟩, ⟨rfl, _, rfl, .inr rfl⟩, ⟨rfl, rfl⟩, ⟨List.nodup_nil, fun m hm => by simp at hm, fun m hm => ⟨?_, ?_⟩, fun m hm => ?_⟩, fun m hm => by simp at hm⟩
          · have := (gd'.fz m hm).1
            simp
            omega
          · intro h
            rcases h with h | h
            · exact (gd'.fz m hm).2 h
            · have := (gd'.fz m hm).1
              omega
          · rcases hm with h | h
            · obtain ⟨x, y, z, e, r⟩ := gd'.bg m h
              exact ⟨x, y, z, by rw [List.getElem?_append_left (List.getElem?_eq_some_iff.mp e).1]; exact e, r⟩
            · subst h
              exact ⟨x, y, z, e1, t1, t2, t3, t4, by omega⟩
        · rw [if_neg hc]
          exact ⟨_, .ret, trivial⟩
      · exact ⟨_, .ret, trivial⟩
    · rw [if_neg hb]
      by_cases ht : X.take = some f
      · rw [if_pos ht]
        obtain ⟨hm, c1, c2, c3, m1, d, m2, hf, b1, b2, b3, b4, b5, b6⟩ := hX.take f ht
        unfold ptake
        split
        · rename_i m
          by_cases hc : 0 < m ∧ m < 1073741824 ∧ k < 1152921504606846976
          · rw [if_pos hc]
            obtain ⟨d1, es, Wa, Wb, rfl, rfl, ⟨rfl, hv⟩, d2, es2, Wc, Wd', rfl, rfl, ⟨rfl, hv2⟩, rfl, rfl⟩ := ho
            obtain ⟨b, rfl, hB⟩ := hv
            rw [show d2 = .int m from hv2]
            have gd' : Good w S [] k := by simpa using gd
            have hbg := gd'.bg b hB
            obtain ⟨r, xs, e, r0, r1, hbag⟩ := take_run (glo := G) (n := n) hf b1 b2 b3 b4 b5 b6 (show Bag S b k from hbg) (by omega) (m := m) ⟨hc.1, hc.2.1⟩
            rw [hm]
            refine ⟨.ok (.sh (.int (r.toNat : Nat))) [] (k + 1), .draw (r := r.toNat) (by omega) .ret, .int r, S.set b (.lst xs), w, [], [], e, step_set_bag hB, ⟨rfl, ?_⟩, ⟨rfl, rfl⟩, ⟨List.nodup_nil, fun m hm => by simp at hm, fun x hx => ⟨by simpa using (gd'.fz x hx).1, (gd'.fz x hx).2⟩, fun x hx => ?_⟩, fun m hm => by simp at hm⟩
            · show D.int r = .int _
              rw [Int.toNat_of_nonneg r0]
            · by_cases hxb : x = b
              · subst hxb
                exact hbag
              · obtain ⟨y, z, u, e2, r2⟩ := (gd'.bg x hx).mono (Nat.le_succ k)
                exact ⟨y, z, u, by rw [List.getElem?_set_ne (fun e => hxb e.symm)]; exact e2, r2⟩
          · rw [if_neg hc]
            exact ⟨_, .ret, trivial⟩
        · exact ⟨_, .ret, trivial⟩
      · rw [if_neg ht]
        cases hf : P f with
        | none => exact ⟨_, .ret, trivial⟩
        | some F =>
          dsimp only
          by_cases hl : ps.length = F.np
          · rw [if_pos hl]
            have hv := start_ews (F.ns - F.np) ho
            have hlen := ows_len ho
            have run_eq : run P G (n + 1) f ds S = match evSs ⟨run P G n, G⟩ F.body (ds.map some ++ List.replicate (F.ns - F.np) none) S with
              | .next _ S1 => .ok .non S1
              | .ret d S1 => .ok d S1
              | .exc x _ S1 => .exc x S1
              | _ => .no := by
              rw [run, hf]
              dsimp only
              rw [if_pos (hlen.trans hl)]
              try (cases evSs ⟨run P G n, G⟩ F.body (ds.map some ++ List.replicate (F.ns - F.np) none) S <;> rfl)
            rw [run_eq]
            have hix : ∀ {σ' : Sg}, Fx (mu f) (ds.map some ++ List.replicate (F.ns - F.np) none) σ' → IxR σ' (mu f) ((mu f).map fun j => ds.getD j .non) := by
              intro σ' fx
              have : ∀ l : List Nat, (∀ j, j ∈ l → j ∈ mu f) → IxR σ' l (l.map fun j => ds.getD j .non) := by
                intro l
                induction l with
                | nil => intro _; rfl
                | cons j l ih =>
                  intro hj
                  refine ⟨_, _, rfl, ?_, ih fun i hi => hj i (by simp [hi])⟩
                  have hm : j ∈ mu f := hj j (by simp)
                  have hjn : j < F.np := (hmu f).2 F hf j hm
                  rw [fx.2 j hm, List.getElem?_append_left (by simp; omega), List.getElem?_map]
                  have hjp : ∃ p, ps[j]? = some p := ⟨ps[j], List.getElem?_eq_getElem (by omega)⟩
                  obtain ⟨p, hp⟩ := hjp
                  rw [ows_getD ho hp]
                  rfl
              exact this _ fun j h => h
            obtain ⟨o, h1, h2⟩ := simSs (Cs := ⟨run P G n, G⟩) (C := ⟨prun P G mu qm X n, G, mu, qm, mu f⟩) rfl hF F.body hv gd
            cases o with
            | no => exact ⟨_, .bind h1 .ret, trivial⟩
            | brk π k => exact ⟨_, .bind h1 .ret, trivial⟩
            | cont π k => exact ⟨_, .bind h1 .ret, trivial⟩
            | next π k1 =>
              obtain ⟨σ', S', w', W', e, s, v, g, fr, fx⟩ := h2
              rw [e]
              obtain ⟨o2, k1', k2⟩ := relF_fin (ds := ds) (m := .ok .non S') (p := .sh .non) (d := .non) (Wp := []) (hmu f).1 rfl (hix fx) s ⟨rfl, rfl⟩ v g fr
              exact ⟨o2, .bind h1 k1', k2⟩
            | ret p π k1 =>
              obtain ⟨d, σ', S', w', Wp, W', e, s, c, v, g, fr, fx⟩ := h2
              rw [e]
              obtain ⟨o2, k1', k2⟩ := relF_fin (ds := ds) (m := .ok d S') (hmu f).1 rfl (hix fx) s c v g fr
              exact ⟨o2, .bind h1 k1', k2⟩
            | exc x π k1 =>
              obtain ⟨d, σ', S', w', W', e, s, c, v, g, fr, fx⟩ := h2
              rw [e]
              obtain ⟨o2, k1', k2⟩ := relF_fex (ds := ds) (m := .exc d S') (hmu f).1 rfl (hix fx) s c v g fr
              exact ⟨o2, .bind h1 k1', k2⟩
          · rw [if_neg hl]
            exact ⟨_, .ret, trivial⟩
/-- the law's call -/
theorem law_sim {P : Nat → Option Fn} {G : Glo} {mu : Nat → List Nat} {qm : String → Bool} {X : Ax} (hX : AxOk P X mu) (hmu : ∀ f, (mu f).Nodup ∧ ∀ F, P f = some F → ∀ j, j ∈ mu f → j < F.np) {n f : Nat} {ns : List Int}
    (h : (prun P G mu qm X n f [.sh (.scr ns)] 0).All fun o => ∃ outs k, o = .ok (.sh (.bl true)) outs k) : ∃ S', run P G n f [.ref 0] [.scr ns] = .ok (.bl true) S' := by
  obtain ⟨o, h1, h2⟩ := run_sim (G := G) (qm := qm) hX hmu n f [.sh (.scr ns)] [.ref 0] ⟨fun m => m = 0, fun _ => False⟩ [.scr ns] [] 0
    ⟨.ref 0, [], [], [], rfl, rfl, ⟨rfl, 0, rfl, rfl, rfl⟩, rfl, rfl⟩
    ⟨List.nodup_nil, fun m hm => by simp at hm, fun m hm => ⟨by subst hm; simp, fun h => h⟩, fun m hm => hm.elim⟩
  obtain ⟨outs, k, e⟩ := h.has h1
  subst e
  obtain ⟨d, S', w', Wp, Wo, e, s, c, _⟩ := h2
  rw [show d = .bl true from c.2] at e
  exact ⟨S', e⟩
end Cl

/-! part U16 -/
/-! Cl: rules to run a term in the second evaluator. -/
namespace Cl
section
variable {C : PCfg} {π : Env} {k : Nat} {q : Bool} {m : PR O}
def toUR (m : PR O) : PR U := m.bind fun p π1 k1 => .ok p.toU π1 k1
theorem toUR_ok (p : O) (π : Env) (k : Nat) : toUR (PR.ok p π k) = PR.ok p.toU π k := (rfl)
def obV (q : Bool) (o : Option O) (m : PR O) (π : Env) (k : Nat) : PR U := match o with
  | some (.ol xs) => if q then .ok (.lst xs) π k else toUR m
  | _ => toUR m
theorem obV_ol (xs : List U) : obV true (some (.ol xs)) m π k = PR.ok (.lst xs) π k := (rfl)
theorem obV_sh (u : U) : obV q (some (.sh u)) m π k = toUR m := (rfl)
theorem obV_f (o : Option O) : obV false o m π k = toUR m := by unfold obV; split <;> rfl
theorem ob_var (i : Nat) : obs C q (.var i) m π k = obV q (getO π i) m π k := by
  unfold obs ownL plc plOk getP obV
  cases q
  · dsimp only
    cases getO π i with
    | none => rfl
    | some o => cases o <;> rfl
  · dsimp only
    cases getO π i with
    | none => rfl
    | some o => cases o <;> rfl
def ofV (q : Bool) (o : Option O) : Bool := match o with
  | some (.ol _) => !q
  | _ => true
theorem ofV_ol (xs : List U) : ofV true (some (.ol xs)) = false := (rfl)
theorem ofV_sh (u : U) : ofV q (some (.sh u)) = true := (rfl)
theorem ofV_f (o : Option O) : ofV false o = true := by unfold ofV; split <;> rfl
theorem of_var (i : Nat) : obF C q (.var i) π = ofV q (getO π i) := by
  unfold obF ownL plc plOk getP ofV
  cases q
  · dsimp only
    cases getO π i with
    | none => rfl
    | some o => cases o <;> rfl
  · dsimp only
    cases getO π i with
    | none => rfl
    | some o => cases o <;> rfl
/-! what is looked at, by its form -/
theorem ob_non  : obs C q (.non ) m π k = toUR m := by cases q <;> rfl
theorem of_non  : obF C q (.non ) π = true := by cases q <;> rfl
theorem ob_bl (b : Bool) : obs C q (.bl b) m π k = toUR m := by cases q <;> rfl
theorem of_bl (b : Bool) : obF C q (.bl b) π = true := by cases q <;> rfl
theorem ob_int (i : Int) : obs C q (.int i) m π k = toUR m := by cases q <;> rfl
theorem of_int (i : Int) : obF C q (.int i) π = true := by cases q <;> rfl
theorem ob_str (s : Tx) : obs C q (.str s) m π k = toUR m := by cases q <;> rfl
theorem of_str (s : Tx) : obF C q (.str s) π = true := by cases q <;> rfl
theorem ob_glo (g : Nat) : obs C q (.glo g) m π k = toUR m := by cases q <;> rfl
theorem of_glo (g : Nat) : obF C q (.glo g) π = true := by cases q <;> rfl
theorem ob_bin (o : Op) (a b : E) : obs C q (.bin o a b) m π k = toUR m := by cases q <;> rfl
theorem of_bin (o : Op) (a b : E) : obF C q (.bin o a b) π = true := by cases q <;> rfl
theorem ob_neg (a : E) : obs C q (.neg a) m π k = toUR m := by cases q <;> rfl
theorem of_neg (a : E) : obF C q (.neg a) π = true := by cases q <;> rfl
theorem ob_not (a : E) : obs C q (.not a) m π k = toUR m := by cases q <;> rfl
theorem of_not (a : E) : obF C q (.not a) π = true := by cases q <;> rfl
theorem ob_bop (x : Bool) (es : Es) : obs C q (.bop x es) m π k = toUR m := by cases q <;> rfl
theorem of_bop (x : Bool) (es : Es) : obF C q (.bop x es) π = true := by cases q <;> rfl
theorem ob_ite (c a b : E) : obs C q (.ite c a b) m π k = toUR m := by cases q <;> rfl
theorem of_ite (c a b : E) : obF C q (.ite c a b) π = true := by cases q <;> rfl
theorem ob_cmp (o : Cm) (a b : E) : obs C q (.cmp o a b) m π k = toUR m := by cases q <;> rfl
theorem of_cmp (o : Cm) (a b : E) : obF C q (.cmp o a b) π = true := by cases q <;> rfl
theorem ob_chain (o p : Cm) (a b c : E) : obs C q (.chain o p a b c) m π k = toUR m := by cases q <;> rfl
theorem of_chain (o p : Cm) (a b c : E) : obF C q (.chain o p a b c) π = true := by cases q <;> rfl
theorem ob_tup (es : Es) : obs C q (.tup es) m π k = toUR m := by cases q <;> rfl
theorem of_tup (es : Es) : obF C q (.tup es) π = true := by cases q <;> rfl
theorem ob_lst (es : Es) : obs C q (.lst es) m π k = toUR m := by cases q <;> rfl
theorem of_lst (es : Es) : obF C q (.lst es) π = true := by cases q <;> rfl
theorem ob_idx (a b : E) : obs C q (.idx a b) m π k = toUR m := by cases q <;> rfl
theorem of_idx (a b : E) : obF C q (.idx a b) π = true := by cases q <;> rfl
theorem ob_slc (a : E) (lo hi : Es) : obs C q (.slc a lo hi) m π k = toUR m := by cases q <;> rfl
theorem of_slc (a : E) (lo hi : Es) : obF C q (.slc a lo hi) π = true := by cases q <;> rfl
theorem ob_call (f : Nat) (es : Es) : obs C q (.call f es) m π k = toUR m := by cases q <;> rfl
theorem of_call (f : Nat) (es : Es) : obF C q (.call f es) π = true := by cases q <;> rfl
theorem ob_callk (f : Nat) (es ks : Es) (nm : List String) (pm : List (Sum Nat Kd)) : obs C q (.callk f es ks nm pm) m π k = toUR m := by cases q <;> rfl
theorem of_callk (f : Nat) (es ks : Es) (nm : List String) (pm : List (Sum Nat Kd)) : obF C q (.callk f es ks nm pm) π = true := by cases q <;> rfl
theorem ob_new (c : Nat) (es ks : Es) (nm : List String) (pm : List (Sum Nat Kd)) : obs C q (.new c es ks nm pm) m π k = toUR m := by cases q <;> rfl
theorem of_new (c : Nat) (es ks : Es) (nm : List String) (pm : List (Sum Nat Kd)) : obF C q (.new c es ks nm pm) π = true := by cases q <;> rfl
theorem ob_mcall (a : E) (mm : String) (es ks : Es) (nm : List String) (pm : List (Sum Nat Kd)) : obs C q (.mcall a mm es ks nm pm) m π k = toUR m := by cases q <;> rfl
theorem of_mcall (a : E) (m : String) (es ks : Es) (nm : List String) (pm : List (Sum Nat Kd)) : obF C q (.mcall a m es ks nm pm) π = true := by cases q <;> rfl
theorem ob_fmt (es : Es) : obs C q (.fmt es) m π k = toUR m := by cases q <;> rfl
theorem of_fmt (es : Es) : obF C q (.fmt es) π = true := by cases q <;> rfl
theorem ob_cat (tp : Bool) (es : Es) (st : List Bool) : obs C q (.cat tp es st) m π k = toUR m := by cases q <;> rfl
theorem of_cat (tp : Bool) (es : Es) (st : List Bool) : obF C q (.cat tp es st) π = true := by cases q <;> rfl
theorem ob_blt (b : Bf) (es : Es) : obs C q (.blt b es) m π k = toUR m := by cases q <;> rfl
theorem of_blt (b : Bf) (es : Es) : obF C q (.blt b es) π = true := by cases q <;> rfl
theorem ob_isi (a : E) (ts : List Ty) (x : Bool) : obs C q (.isi a ts x) m π k = toUR m := by cases q <;> rfl
theorem of_isi (a : E) (ts : List Ty) (x : Bool) : obF C q (.isi a ts x) π = true := by cases q <;> rfl
theorem ob_mth (mm : Mt) (o : E) (es : Es) : obs C q (.mth mm o es) m π k = toUR m := by cases q <;> rfl
theorem of_mth (m : Mt) (o : E) (es : Es) : obF C q (.mth m o es) π = true := by cases q <;> rfl
theorem ob_comp (e : E) (tg : List Nat) (tp : Bool) (it : It) (cd : Es) (ow : List (String × Nat)) : obs C q (.comp e tg tp it cd ow) m π k = toUR m := by cases q <;> rfl
theorem of_comp (e : E) (tg : List Nat) (tp : Bool) (it : It) (cd : Es) (ow : List (String × Nat)) : obF C q (.comp e tg tp it cd ow) π = true := by cases q <;> rfl
/-! slots -/
theorem g_0 (p : O) (π : Env) : getO (some p :: π) 0 = some p := (rfl)
theorem g_0n (π : Env) : getO (none :: π) 0 = none := (rfl)
theorem g_s (o : Option O) (π : Env) (i : Nat) : getO (o :: π) (i + 1) = getO π i := by unfold getO; rw [List.getElem?_cons_succ]
/-! expressions -/
theorem y_non : pvE C .non π k = PR.ok (.sh .non) π k := (rfl)
theorem y_bl (b : Bool) : pvE C (.bl b) π k = PR.ok (.sh (.bl b)) π k := (rfl)
theorem y_int (i : Int) : pvE C (.int i) π k = PR.ok (.sh (.int i)) π k := (rfl)
theorem y_str (s : Tx) : pvE C (.str s) π k = PR.ok (.sh (.str s)) π k := (rfl)
def varR (o : Option O) (i : Nat) (π : Env) (k : Nat) : PR O := match o with
  | some p => .ok (.sh p.toU) (π.set i (some (.sh p.toU))) k
  | none => .no
theorem varR_s (p : O) (i : Nat) : varR (some p) i π k = PR.ok (.sh p.toU) (π.set i (some (.sh p.toU))) k := (rfl)
theorem y_var (i : Nat) : pvE C (.var i) π k = varR (getO π i) i π k := by
  unfold varR
  rw [pvE]
  cases getO π i <;> rfl
def gloR (o : Option D) (π : Env) (k : Nat) : PR O := PR.opt (o.bind dU) fun u => .ok (.sh u) π k
theorem y_glo (g : Nat) : pvE C (.glo g) π k = gloR (C.g.c g) π k := (rfl)
theorem gloR_int (i : Int) : gloR (some (.int i)) π k = PR.ok (.sh (.int i)) π k := (rfl)
theorem gloR_str (s : Tx) : gloR (some (.str s)) π k = PR.ok (.sh (.str s)) π k := (rfl)
theorem y_bin (o : Op) (a b : E) : pvE C (.bin o a b) π k = (obs C (quiet C b) a (pvE C a π k) π k).bind fun x π1 k1 => (obs C true b (pvE C b π1 k1) π1 k1).bind fun y π2 k2 => ubin C o x y (obF C true b π1) π2 k2 := (rfl)
def negR (p : O) (π : Env) (k : Nat) : PR O := match p with
  | .sh (.int i) => .ok (.sh (.int (-i))) π k
  | _ => .no
theorem negR_i (i : Int) : negR (.sh (.int i)) π k = PR.ok (.sh (.int (-i))) π k := (rfl)
theorem y_neg (a : E) : pvE C (.neg a) π k = (pvE C a π k).bind negR := (rfl)
theorem y_not (a : E) : pvE C (.not a) π k = (obs C true a (pvE C a π k) π k).bind fun x π1 k1 => PR.opt (vtruth x) fun b => .ok (.sh (.bl (!b))) π1 k1 := (rfl)
theorem y_bop (c : Bool) (es : Es) : pvE C (.bop c es) π k = pvB C c es π k := (rfl)
def ifP {α : Type} (c : Bool) (a b : α) : α := match c with
  | true => a
  | false => b
theorem ifP_t {α : Type} (a b : α) : ifP true a b = a := (rfl)
theorem ifP_f {α : Type} (a b : α) : ifP false a b = b := (rfl)
theorem if_ifP {α : Type} (c : Bool) (a b : α) : (if c = true then a else b) = ifP c a b := by cases c <;> rfl
theorem y_and1 (c : Bool) (e : E) : pvB C c (.cons e .nil) π k = pvE C e π k := (rfl)
def bopR (c : Bool) (x : O) (t : Bool) (m : PR O) (π : Env) (k : Nat) : PR O := match t, c with
  | true, true => m
  | false, false => m
  | _, _ => .ok x π k
theorem bopR_tt (x : O) : bopR true x true m π k = m := (rfl)
theorem bopR_ff (x : O) : bopR false x false m π k = m := (rfl)
theorem bopR_tf (x : O) : bopR true x false m π k = PR.ok x π k := (rfl)
theorem bopR_ft (x : O) : bopR false x true m π k = PR.ok x π k := (rfl)
theorem y_and2 (c : Bool) (e e2 : E) (es : Es) : pvB C c (.cons e (.cons e2 es)) π k = (pvE C e π k).bind fun x π1 k1 => PR.opt (vtruth x.toU) fun t => bopR c x t (pvB C c (.cons e2 es) π1 k1) π1 k1 := by
  rw [pvB]
  congr 1
  funext x π1 k1
  congr 1
  funext t
  cases t <;> cases c <;> rfl
theorem y_ite (c a b : E) : pvE C (.ite c a b) π k = (obs C true c (pvE C c π k) π k).bind fun t π1 k1 => PR.opt (vtruth t) fun x => ifP x (pvE C a π1 k1) (pvE C b π1 k1) := by
  rw [pvE]
  congr 1
  funext t π1 k1
  congr 1
  funext x
  cases x <;> rfl
theorem y_cmp (o : Cm) (a b : E) : pvE C (.cmp o a b) π k = (obs C (quiet C b) a (pvE C a π k) π k).bind fun x π1 k1 => (obs C true b (pvE C b π1 k1) π1 k1).bind fun y π2 k2 => (ucmp C o x y (obF C (quiet C b) a π) (obF C true b π1) π2 k2).bind fun b π3 k3 => .ok (.sh (.bl b)) π3 k3 := (rfl)
theorem y_chain (o p : Cm) (a b c : E) : pvE C (.chain o p a b c) π k = (pvE C a π k).bind fun x π1 k1 => (pvE C b π1 k1).bind fun y π2 k2 => (ucmp C o x.toU y.toU true true π2 k2).bind fun t π3 k3 =>
      ifP t ((obs C true c (pvE C c π3 k3) π3 k3).bind fun z π4 k4 => (ucmp C p y.toU z true (obF C true c π3) π4 k4).bind fun b π5 k5 => .ok (.sh (.bl b)) π5 k5) (.ok (.sh (.bl false)) π3 k3) := by
  rw [pvE]
  congr 1
  funext x π1 k1
  congr 1
  funext y π2 k2
  congr 1
  funext t π3 k3
  cases t <;> rfl
theorem y_tup (es : Es) : pvE C (.tup es) π k = (pvEs C es π k).bind fun vs π1 k1 => PR.req (vs.length ≤ LIM) (.ok (.sh (.tup vs)) π1 k1) := (rfl)
theorem y_lst (es : Es) : pvE C (.lst es) π k = (pvEs C es π k).bind fun vs π1 k1 => PR.req (vs.length ≤ LIM) (.ok (.ol vs) π1 k1) := (rfl)
theorem y_idx (a b : E) : pvE C (.idx a b) π k = (obs C (quiet C b) a (pvE C a π k) π k).bind fun x π1 k1 => (pvE C b π1 k1).bind fun y π2 k2 => uidx C x y.toU π2 k2 := (rfl)
theorem y_slc (a : E) (lo hi : Es) : pvE C (.slc a lo hi) π k = (obs C (quiets C lo && quiets C hi) a (pvE C a π k) π k).bind fun x π1 k1 => (pvO C lo π1 k1).bind fun l π2 k2 => (pvO C hi π2 k2).bind fun h π3 k3 => PR.opt (vslc x l h) fun p => .ok p π3 k3 := (rfl)
theorem y_o0 : pvO C .nil π k = PR.ok none π k := (rfl)
def intP (p : O) (π : Env) (k : Nat) : PR (Option Int) := match p with
  | .sh (.int i) => .ok (some i) π k
  | _ => .no
theorem intP_i (i : Int) : intP (.sh (.int i)) π k = PR.ok (some i) π k := (rfl)
theorem y_o1 (e : E) (es : Es) : pvO C (.cons e es) π k = (pvE C e π k).bind intP := (rfl)
theorem y_nil : pvEs C .nil π k = PR.ok [] π k := (rfl)
theorem y_cons (e : E) (es : Es) : pvEs C (.cons e es) π k = (pvE C e π k).bind fun x π1 k1 => (pvEs C es π1 k1).bind fun xs π2 k2 => .ok (x.toU :: xs) π2 k2 := (rfl)
theorem y_qnil : pvQs C .nil π k = PR.ok [] π k := (rfl)
theorem y_qcons (e : E) (es : Es) : pvQs C (.cons e es) π k = (pvE C e π k).bind fun x π1 k1 => (pvQs C es π1 k1).bind fun xs π2 k2 => .ok (x :: xs) π2 k2 := (rfl)
/-! calls of shared values -/
def callR (t : Tr FO) (π : Env) : PR O := Tr.bind t fun
  | .ok p _ k => .ret (.ok p π k)
  | .exc x _ k => .ret (.exc x π k)
  | .no => .ret .no
theorem callR_ok (p : O) (o : List O) (π : Env) (k : Nat) : callR (.ret (.ok p o k)) π = PR.ok p π k := (rfl)
theorem callR_exc (x : U) (o : List O) (π : Env) (k : Nat) : callR (.ret (.exc x o k)) π = .ret (.exc x π k) := (rfl)
theorem pvA_nil : ∀ (es : Es) (j : Nat) (π : Env) (k : Nat), pvA C [] j es π k = (pvEs C es π k).bind fun us π1 k1 => .ok (us.map .inl) π1 k1
  | .nil, j, π, k => by unfold pvA pvEs; rfl
  | .cons e es, j, π, k => by
    unfold pvA pvEs
    rw [if_neg (by simp), PR.bind_assoc]
    congr 1
    funext x π1 k1
    rw [pvA_nil es (j + 1) π1 k1, PR.bind_assoc, PR.bind_assoc]
    rfl
theorem takeA_inl : ∀ (us : List U) (π : Env), takeA (us.map .inl) π = some (us.map .sh, π)
  | [], π => rfl
  | u :: us, π => by
    show (takeA (us.map .inl) π).map _ = _
    rw [takeA_inl us π]
    rfl
theorem inrs_inl : ∀ us : List U, inrs (us.map .inl) = 0
  | [] => rfl
  | u :: us => inrs_inl us
theorem callO_inl {f : Nat} (h : C.mu f = []) (us : List U) : callO C f (us.map .inl) π k = callR (C.call f (us.map .sh) k) π := by
  unfold callO callR
  rw [h, inrs_inl, takeA_inl]
  rfl
theorem y_call {f : Nat} (h : C.mu f = []) (es : Es) : pvE C (.call f es) π k = (pvEs C es π k).bind fun us π1 k1 => callR (C.call f (us.map .sh) k1) π1 := by
  rw [pvE, h, pvA_nil, PR.bind_assoc]
  congr 1
  funext us π1 k1
  exact callO_inl h us
theorem muA_nil (perm : List (Sum Nat Kd)) : muA [] perm = [] := (rfl)
theorem argA_inl (us : List U) : ∀ (perm : List (Sum Nat Kd)) (vs : List U), perm.mapM (fun x => match x with | .inl i => us[i]? | .inr c => some c.toU) = some vs → perm.mapM (argA (us.map .inl)) = some (vs.map .inl)
  | [], vs, h => by
    have : vs = [] := by simpa using h.symm
    subst this
    rfl
  | x :: perm, vs, h => by
    rw [List.mapM_cons] at h ⊢
    obtain ⟨a, h1, h2⟩ := Option.bind_eq_some_iff.mp h
    obtain ⟨bs, h3, h4⟩ := Option.bind_eq_some_iff.mp h2
    cases h4
    have : argA (us.map .inl) x = some (.inl a) := by
      cases x with
      | inl i =>
        show (us.map Sum.inl)[i]? = _
        rw [List.getElem?_map, show us[i]? = some a from h1]
        rfl
      | inr c =>
        cases h1
        rfl
    rw [this]
    show (perm.mapM (argA (us.map .inl))).bind _ = _
    rw [argA_inl us perm bs h3]
    rfl
def permU (perm : List (Sum Nat Kd)) (us : List U) : Option (List U) := perm.mapM (fun x => match x with | .inl i => us[i]? | .inr c => some c.toU)
theorem permU_nil (us : List U) : permU [] us = some [] := (rfl)
theorem permU_l (i : Nat) (perm : List (Sum Nat Kd)) (us : List U) : permU (.inl i :: perm) us = us[i]?.bind fun a => (permU perm us).bind fun bs => some (a :: bs) := by unfold permU; rw [List.mapM_cons]; rfl
theorem permU_r (c : Kd) (perm : List (Sum Nat Kd)) (us : List U) : permU (.inr c :: perm) us = (permU perm us).bind fun bs => some (c.toU :: bs) := by unfold permU; rw [List.mapM_cons]; rfl
/-- (only where the places fit) -/
theorem y_callk {f : Nat} {es ks : Es} {nm : List String} {perm : List (Sum Nat Kd)} {us vs ws : List U} {π1 π2 : Env} {k1 k2 : Nat} (h : C.mu f = []) (h1 : pvEs C es π k = PR.ok us π1 k1) (h2 : pvEs C ks π1 k1 = PR.ok vs π2 k2) (h3 : permU perm (us ++ vs) = some ws) :
    pvE C (.callk f es ks nm perm) π k = callR (C.call f (ws.map .sh) k2) π2 := by
  rw [pvE, h, muA_nil, pvA_nil, h1]
  simp only [PR.bind_ok]
  rw [pvA_nil, h2]
  simp only [PR.bind_ok]
  rw [← List.map_append, argA_inl _ _ _ h3]
  exact callO_inl h ws
/-! operations on plain values -/
def ubR (o : Option O) (π : Env) (k : Nat) : PR O := PR.opt o fun p => .ok p π k
theorem ubR_s (p : O) : ubR (some p) π k = PR.ok p π k := (rfl)
theorem ub_of {o : Op} {x y : U} {fl : Bool} (h : ucls x = none) : ubin C o x y fl π k = ubR (vbin o x y) π k := by unfold ubin; rw [h]; rfl
def ucR (o : Option Bool) (π : Env) (k : Nat) : PR Bool := PR.opt o fun p => .ok p π k
theorem ucR_s (p : Bool) : ucR (some p) π k = PR.ok p π k := (rfl)
theorem uc_of {o : Cm} {x y : U} {fx fy : Bool} (h : ucls x = none) (h2 : ucls y = none) : ucmp C o x y fx fy π k = ucR (vcmp o x y) π k := by unfold ucmp; cases o <;> (try rw [h]) <;> (try rw [h2]) <;> rfl
def uvR (o : Option U) (π : Env) (k : Nat) : PR O := PR.opt o fun p => .ok (.sh p) π k
theorem uvR_s (p : U) : uvR (some p) π k = PR.ok (.sh p) π k := (rfl)
theorem ui_of {x y : U} (h : ucls x = none) : uidx C x y π k = uvR (vidx x y) π k := by unfold uidx; rw [h]; rfl
theorem ul_of {b : Bf} {x : U} (h : ucls x = none) : ublt C b [x] π k = ubR (vblt b [x]) π k := by unfold ublt; dsimp only; rw [h]; rfl
theorem ul_2 {b : Bf} {x y : U} : ublt C b [x, y] π k = ubR (vblt b [x, y]) π k := (rfl)
theorem y_blt1 (b : Bf) (a : E) : pvE C (.blt b (.cons a .nil)) π k = (obs C true a (pvE C a π k) π k).bind fun x π1 k1 => ublt C b [x] π1 k1 := (rfl)
theorem y_blt2 (b : Bf) (a a2 : E) (es : Es) : pvE C (.blt b (.cons a (.cons a2 es))) π k = (pvEs C (.cons a (.cons a2 es)) π k).bind fun vs π1 k1 => ublt C b vs π1 k1 := (rfl)
theorem y_isi (a : E) (ts : List Ty) (b : Bool) : pvE C (.isi a ts b) π k = (obs C true a (pvE C a π k) π k).bind fun x π1 k1 => PR.opt (visi x ts) fun b => .ok (.sh (.bl b)) π1 k1 := (rfl)
def strP (u : U) (f : Tx → PR O) : PR O := match u with
  | .str s => f s
  | _ => .no
theorem strP_s (s : Tx) (f : Tx → PR O) : strP (.str s) f = f s := (rfl)
theorem y_mt0 {m : Mt} (h : m.ofList = false) (o : E) : pvE C (.mth m o .nil) π k = (pvE C o π k).bind fun p π1 k1 => strP p.toU fun s => ubR (vmth m (.str s) []) π1 k1 := by
  rw [pvE, if_neg (by rw [h]; decide)]
  congr 1
theorem y_mt1 {m : Mt} (h : m.ofList = false) (o a : E) : pvE C (.mth m o (.cons a .nil)) π k = (pvE C o π k).bind fun p π1 k1 => strP p.toU fun s => (obs C true a (pvE C a π1 k1) π1 k1).bind fun x π2 k2 => ubR (vmth m (.str s) [x]) π2 k2 := by
  rw [pvE, if_neg (by rw [h]; decide)]
  congr 1
def olV (i : Nat) (o : Option O) : Option (Pl × List U) := match o with
  | some (.ol xs) => some (.v i, xs)
  | _ => none
theorem olV_ol (i : Nat) (xs : List U) : olV i (some (.ol xs)) = some (.v i, xs) := (rfl)
theorem ow_var (i : Nat) : ownL C π (.var i) = olV i (getO π i) := by
  unfold ownL plc plOk getP olV
  dsimp only
  cases getO π i with
  | none => rfl
  | some o => cases o <;> rfl
theorem sp_v (i : Nat) (p : O) : setP π (.v i) p = π.set i (some p) := (rfl)
theorem y_ml {m : Mt} (h : m.ofList = true) (o : E) (es : Es) : pvE C (.mth m o es) π k = PR.opt (ownL C π o) fun _ => PR.req (quiets C es = true) ((pvEs C es π k).bind fun vs π1 k1 => PR.opt (ownL C π1 o) fun r => PR.opt (vlm m r.2 vs) fun q => .ok (.sh q.1) (setP π1 r.1 (.ol q.2)) k1) := by
  rw [pvE, if_pos h]
/-- a comprehension's turn -/
def compT (C : PCfg) (elt : E) (tg : List Nat) (tp : Bool) (cond : Es) (own : List Nat) : U → Env → Nat → PR (Option U) := fun d π2 k2 => PR.opt (utarget tg tp d (uwipe π2 own)) fun π3 => (noExc ((pvC C cond π3 k2).bind fun t π4 k4 => ifP t ((pvE C elt π4 k4).bind fun y π5 k5 => .ok (some y.toU) π5 k5) (.ok none π4 k4))).bind fun y π6 k6 => .ok y (uwipe π6 own) k6
def tgOwn (tg own : List Nat) : Bool := tg.all fun i => own.contains i
theorem y_comp (elt : E) (tg : List Nat) (tp : Bool) (it : It) (cond : Es) (own : List (String × Nat)) : pvE C (.comp elt tg tp it cond own) π k = (pvI C it π k).bind fun w π1 k1 => PR.req (w.length < FUEL ∧ w.length ≤ LIM ∧ tgOwn tg (own.map (·.2)) = true)
      ((pComp (compT C elt tg tp cond (own.map (·.2))) w (uwipe π1 (own.map (·.2))) k1).bind fun ys π2 k2 => .ok (.ol ys) π2 k2) := by
  rw [pvE]
  congr 1
  funext w π1 k1
  congr 1
  congr 1
  congr 1
  funext d π2 k2
  unfold compT
  congr 1
  funext π3
  congr 1
  congr 1
  congr 1
  funext t π4 k4
  cases t <;> rfl
theorem compT_1 (elt : E) (i : Nat) (cond : Es) (own : List Nat) (d : U) : compT C elt [i] false cond own d π k = (noExc ((pvC C cond ((uwipe π own).set i (some (.sh d))) k).bind fun t π4 k4 => ifP t ((pvE C elt π4 k4).bind fun y π5 k5 => .ok (some y.toU) π5 k5) (.ok none π4 k4))).bind fun y π6 k6 => .ok y (uwipe π6 own) k6 := (rfl)
theorem compT_2 (elt : E) (i j : Nat) (cond : Es) (own : List Nat) (a b : U) : compT C elt [i, j] true cond own (.tup [a, b]) π k = (noExc ((pvC C cond (((uwipe π own).set i (some (.sh a))).set j (some (.sh b))) k).bind fun t π4 k4 => ifP t ((pvE C elt π4 k4).bind fun y π5 k5 => .ok (some y.toU) π5 k5) (.ok none π4 k4))).bind fun y π6 k6 => .ok y (uwipe π6 own) k6 := (rfl)
theorem uw_nil : uwipe π [] = π := (rfl)
theorem uw_cons (v : Nat) (vs : List Nat) : uwipe π (v :: vs) = (uwipe π vs).set v none := (rfl)
theorem y_c0 : pvC C .nil π k = PR.ok true π k := (rfl)
theorem y_c1 (e : E) (es : Es) : pvC C (.cons e es) π k = (obs C true e (pvE C e π k) π k).bind fun t π1 k1 => PR.opt (vtruth t) fun b => .ok b π1 k1 := (rfl)
theorem y_val (e : E) : pvI C (.val e) π k = (pvE C e π k).bind fun p π1 k1 => PR.opt (uwalk p.toU) fun w => .ok w π1 k1 := (rfl)
def rngU (vs : List U) (π : Env) (k : Nat) : PR (List U) := match vs with
    | [.int j] => PR.req (j < 2 ^ 62 ∧ -(2 ^ 62) ≤ j) (.ok ((List.range j.toNat).map fun (i : Nat) => .int (0 + (i : Int))) π k)
    | [.int i, .int j] => PR.req ((-(2 ^ 62) ≤ i ∧ i < 2 ^ 62) ∧ -(2 ^ 62) ≤ j ∧ j < 2 ^ 62) (.ok ((List.range (j - i).toNat).map fun (t : Nat) => .int (i + (t : Int))) π k)
    | _ => .no
theorem rngU_1 (j : Int) : rngU [.int j] π k = PR.req (j < 2 ^ 62 ∧ -(2 ^ 62) ≤ j) (.ok ((List.range j.toNat).map fun (i : Nat) => .int (0 + (i : Int))) π k) := (rfl)
theorem rngU_2 (i j : Int) : rngU [.int i, .int j] π k = PR.req ((-(2 ^ 62) ≤ i ∧ i < 2 ^ 62) ∧ -(2 ^ 62) ≤ j ∧ j < 2 ^ 62) (.ok ((List.range (j - i).toNat).map fun (t : Nat) => .int (i + (t : Int))) π k) := (rfl)
theorem y_rng (es : Es) : pvI C (.rng es) π k = (pvEs C es π k).bind rngU := (rfl)
theorem y_enm (e : E) : pvI C (.enm e) π k = (pvE C e π k).bind fun p π1 k1 => PR.opt (uwalk p.toU) fun w => .ok (enumU 0 w) π1 k1 := (rfl)
/-! statements -/
def fmR (C : PCfg) (is : List Nat) (m : PS) : PS := PS.req (fmOk C is = true) m
theorem fmR_0 {is : List Nat} (h : C.fm = []) (m : PS) : fmR C is m = m := by
  unfold fmR fmOk
  rw [h]
  exact PS.req_of (by induction is with | nil => rfl | cons a l ih => simpa using ih) m
theorem z_set (i : Nat) (e : E) : pvS C (.set i e) π k = fmR C [i] ((pvE C e π k).at fun p π1 k1 => .next (π1.set i (some p)) k1) := (rfl)
theorem z_sets (is : List Nat) (e : E) : pvS C (.sets is e) π k = fmR C is ((pvE C e π k).at fun p π1 k1 => PS.opt (utarget is true p.toU π1) fun π2 => .next π2 k1) := (rfl)
theorem ut_2 (i j : Nat) (a b : U) : utarget [i, j] true (.tup [a, b]) π = some ((π.set i (some (.sh a))).set j (some (.sh b))) := (rfl)
theorem ut_3 (i j l : Nat) (a b c : U) : utarget [i, j, l] true (.tup [a, b, c]) π = some (((π.set i (some (.sh a))).set j (some (.sh b))).set l (some (.sh c))) := (rfl)
theorem ut_1 (i : Nat) (a : U) : utarget [i] false a π = some (π.set i (some (.sh a))) := (rfl)
def parP (is : List Nat) (ps : List O) (π : Env) (k : Nat) : PS := PS.req (ps.length = is.length) (.next (setAllO π is ps) k)
theorem parP_2 (i j : Nat) (a b : O) : parP [i, j] [a, b] π k = .next ((π.set i (some a)).set j (some b)) k := (rfl)
theorem parP_3 (i j l : Nat) (a b c : O) : parP [i, j, l] [a, b, c] π k = .next (((π.set i (some a)).set j (some b)).set l (some c)) k := (rfl)
theorem z_par (is : List Nat) (es : Es) : pvS C (.par is es) π k = fmR C is ((pvQs C es π k).at fun ps π1 k1 => parP is ps π1 k1) := (rfl)
theorem z_aug (i : Nat) (o : Op) (e : E) : pvS C (.aug i o e) π k = PS.opt (getO π i) fun _ => (obs C true e (pvE C e π k) π k).at fun y π1 k1 => paug C i o y π1 k1 := (rfl)
def augR (C : PCfg) (i : Nat) (o : Op) (y : U) (x : Option O) (π : Env) (k : Nat) : PS := match x with
  | some (.ol xs) => (match o, y with
    | .add, .lst ys => PS.req (xs.length + ys.length ≤ LIM) (.next (π.set i (some (.ol (xs ++ ys)))) k)
    | _, _ => .no)
  | some (.sh v) => PS.req (fmOk C [i] = true) (PS.opt (vaug o v y) fun u => .next (π.set i (some (.sh u))) k)
  | _ => .no
theorem aug_R (i : Nat) (o : Op) (y : U) : paug C i o y π k = augR C i o y (getO π i) π k := (rfl)
theorem augR_l (i : Nat) (xs ys : List U) : augR C i .add (.lst ys) (some (.ol xs)) π k = PS.req (xs.length + ys.length ≤ LIM) (.next (π.set i (some (.ol (xs ++ ys)))) k) := (rfl)
theorem augR_i (i : Nat) (o : Op) (a b : Int) : augR C i o (.int b) (some (.sh (.int a))) π k = fmR C [i] (PS.opt (vaug o (.int a) (.int b)) fun u => .next (π.set i (some (.sh u))) k) := (rfl)
theorem z_expr (e : E) : pvS C (.expr e) π k = (pvE C e π k).at fun _ π1 k1 => .next π1 k1 := (rfl)
def retV (o : Option O) (i : Nat) (π : Env) (k : Nat) : PS := PS.opt o fun p => .ret (.ret p (π.set i none) k)
theorem retV_s (p : O) (i : Nat) : retV (some p) i π k = .ret (.ret p (π.set i none) k) := (rfl)
theorem z_retv (i : Nat) : pvS C (.ret (.var i)) π k = retV (getO π i) i π k := (rfl)
def retE (p : O) (π : Env) (k : Nat) : PS := .ret (.ret p π k)
theorem z_ret {e : E} (h : isVar e = none) : pvS C (.ret e) π k = (pvE C e π k).at retE := by rw [pvS, h]; rfl
theorem retE_u (p : O) (π : Env) (k : Nat) : retE p π k = .ret (.ret p π k) := (rfl)
theorem z_retn : pvS C .retn π k = .ret (.ret (.sh .non) π k) := (rfl)
theorem z_if (c : E) (a b : Ss) : pvS C (.ifs c a b) π k = (obs C true c (pvE C c π k) π k).at fun t π1 k1 => PS.opt (vtruth t) fun x => ifP x (pvSs C a π1 k1) (pvSs C b π1 k1) := by
  rw [pvS]
  congr 1
  funext t π1 k1
  congr 1
  funext x
  cases x <;> rfl
/-- a loop's turn, test -/
def forT (C : PCfg) (tg : List Nat) (tp : Bool) (b : Ss) : U → Env → Nat → PS := fun d π k => PS.opt (utarget tg tp d π) fun π2 => pvSs C b π2 k
theorem forT_1 (i : Nat) (b : Ss) (d : U) : forT C [i] false b d π k = pvSs C b (π.set i (some (.sh d))) k := (rfl)
theorem forT_2 (i j : Nat) (b : Ss) (x y : U) : forT C [i, j] true b (.tup [x, y]) π k = pvSs C b ((π.set i (some (.sh x))).set j (some (.sh y))) k := (rfl)
theorem z_for (tg : List Nat) (tp : Bool) (it : It) (fg : List Nat) (b : Ss) : pvS C (.forr tg tp it fg b) π k = fmR C tg ((pvI C it π k).at fun w π1 k1 => PS.req (w.length < FUEL) (pFor (forT C tg tp b) fg w (uwipe π1 fg) k1)) := (rfl)
def whlT (C : PCfg) (c : E) : Env → Nat → PR Bool := fun π k => (obs C true c (pvE C c π k) π k).bind fun t π1 k1 => PR.opt (vtruth t) fun x => .ok x π1 k1
theorem whlT_u (c : E) : whlT C c π k = (obs C true c (pvE C c π k) π k).bind fun t π1 k1 => PR.opt (vtruth t) fun x => .ok x π1 k1 := (rfl)
theorem z_whl (c : E) (fg : List Nat) (b : Ss) : pvS C (.whl c fg b) π k = pWhile (whlT C c) (pvSs C b) fg FUEL π k := (rfl)
theorem z_raise (c : Nat) (es : Es) : pvS C (.raise c es) π k = (pvEs C es π k).at fun vs π1 k1 => PS.req (uexOk vs = true) (.ret (.exc (.exn c vs) π1 k1)) := (rfl)
theorem z_tryr (b : Ss) (c i : Nat) (x : XE) : pvS C (.tryr b c i x) π k = ucatch c i x (pvSs C b π k) := (rfl)
theorem uc_next (c i : Nat) (x : XE) : ucatch c i x (PS.next π k) = PS.next π k := (rfl)
theorem uc_ret (c i : Nat) (x : XE) (p : O) : ucatch c i x (.ret (.ret p π k)) = .ret (.ret p π k) := (rfl)
theorem uc_exc (c i : Nat) (x : XE) (fs : List U) : ucatch c i x (.ret (.exc (.exn c fs) π k)) = PS.req (i < π.length) (PS.opt (uX x fs) fun d => .ret (.ret (.sh d) π k)) := by
  show (if c = c then _ else _) = _
  rw [if_pos rfl]
  rfl
theorem z_pass : pvS C .pass π k = PS.next π k := (rfl)
theorem z_brk : pvS C .brk π k = .ret (.brk π k) := (rfl)
theorem z_cont : pvS C .cont π k = .ret (.cont π k) := (rfl)
theorem z_nil : pvSs C .nil π k = PS.next π k := (rfl)
theorem z_one (s : St) : pvSs C (.cons s .nil) π k = pvS C s π k := (rfl)
theorem z_cons (s s2 : St) (ss : Ss) : pvSs C (.cons s (.cons s2 ss)) π k = (pvS C s π k).seq fun π1 k1 => pvSs C (.cons s2 ss) π1 k1 := (rfl)
/-! a def's end -/
def retF (t : PS) : Tr FO := Tr.bind t fun
  | .next _ k => .ret (.ok (.sh .non) [] k)
  | .ret p _ k => .ret (.ok p [] k)
  | .exc x _ k => .ret (.exc x [] k)
  | _ => .ret .no
theorem retF_n : retF (PS.next π k) = .ret (.ok (.sh .non) [] k) := (rfl)
theorem retF_r (p : O) : retF (.ret (.ret p π k)) = .ret (.ok p [] k) := (rfl)
theorem retF_x (x : U) : retF (.ret (.exc x π k)) = .ret (.exc x [] k) := (rfl)
theorem prun_ok {P : Nat → Option Fn} {G : Glo} {mu : Nat → List Nat} {qm : String → Bool} {X : Ax} {n f : Nat} {F : Fn} {ps : List O} (hb : X.bag ≠ some f) (ht : X.take ≠ some f) (hf : P f = some F) (hl : ps.length = F.np) (hm : mu f = []) :
    prun P G mu qm X (n + 1) f ps k = retF (pvSs ⟨prun P G mu qm X n, G, mu, qm, []⟩ F.body (ps.map some ++ List.replicate (F.ns - F.np) none) k) := by
  rw [prun, if_neg hb, if_neg ht, hf]
  dsimp only
  rw [if_pos hl, hm]
  unfold retF
  congr 1
  try (funext o; cases o <;> rfl)
theorem prun_take {P : Nat → Option Fn} {G : Glo} {mu : Nat → List Nat} {qm : String → Bool} {X : Ax} {n f : Nat} {m : Int} (ht : X.take = some f) (hb : X.bag ≠ some f) (h : 0 < m ∧ m < 1073741824 ∧ k < 1152921504606846976) :
    prun P G mu qm X (n + 1) f [.sh .bag, .sh (.int m)] k = .draw m.toNat fun r => .ret (.ok (.sh (.int (r : Nat))) [] (k + 1)) := by
  rw [prun, if_neg hb, if_pos ht]
  show (if _ then _ else _) = _
  rw [if_pos h]
theorem prun_bag {P : Nat → Option Fn} {G : Glo} {mu : Nat → List Nat} {qm : String → Bool} {X : Ax} {n f : Nat} {i : Int} {ns : List Int} (hb : X.bag = some f) (h : 0 ≤ i ∧ i < 1048576) :
    prun P G mu qm X (n + 1) f [.sh (.scr ns), .sh (.int i)] k = .ret (.ok (.sh .bag) [] k) := by
  rw [prun, if_pos hb]
  show (if _ then _ else _) = _
  rw [if_pos h]
/-! draws go outward -/
theorem bind_draw {α β : Type} (n : Nat) (f : Nat → PR α) (g : α → Env → Nat → PR β) : PR.bind (.draw n f) g = .draw n fun r => PR.bind (f r) g := (rfl)
theorem callR_draw (n : Nat) (f : Nat → Tr FO) : callR (.draw n f) π = .draw n fun r => callR (f r) π := (rfl)
theorem at_draw {α : Type} (n : Nat) (f : Nat → PR α) (g : α → Env → Nat → PS) : PR.at (.draw n f) g = .draw n fun r => PR.at (f r) g := (rfl)
theorem seq_draw (n : Nat) (f : Nat → PS) (g : Env → Nat → PS) : PS.seq (.draw n f) g = .draw n fun r => PS.seq (f r) g := (rfl)
theorem retF_draw (n : Nat) (f : Nat → PS) : retF (.draw n f) = .draw n fun r => retF (f r) := (rfl)
theorem noExc_draw {α : Type} (n : Nat) (f : Nat → PR α) : noExc (.draw n f) = .draw n fun r => noExc (f r) := (rfl)
theorem toUR_draw (n : Nat) (f : Nat → PR O) : toUR (.draw n f) = .draw n fun r => toUR (f r) := (rfl)
theorem all_ret {α : Type} (Q : α → Prop) (a : α) : (Tr.ret a).All Q = Q a := propext ⟨Tr.All.ret', Tr.All.ret⟩
theorem all_ok {α : Type} (Q : Out α → Prop) (a : α) : (PR.ok a π k).All Q = Q (.ok a π k) := all_ret Q _
theorem all_next (Q : SO → Prop) : (PS.next π k).All Q = Q (.next π k) := all_ret Q _
theorem all_draw {α : Type} (Q : α → Prop) (n : Nat) (f : Nat → Tr α) : (Tr.draw n f).All Q = ∀ r, r < n → (f r).All Q := propext ⟨Tr.All.draw', Tr.All.draw⟩
end
/-! ### conditions -/
theorem vif_of {α : Type} {c : Prop} [Decidable c] (a : α) (h : c) : vif c a = some a := if_pos h
theorem vif_not {α : Type} {c : Prop} [Decidable c] (a : α) (h : ¬ c) : vif c a = none := if_neg h
/-! ### what holds of all ends -/
theorem all_bind {α β : Type} {m : PR α} {f : α → Env → Nat → PR β} {Q : Out β → Prop} {P : α → Env → Nat → Prop} (h : m.All fun o => ∃ a π k, o = .ok a π k ∧ P a π k) (h2 : ∀ a π k, P a π k → (f a π k).All Q) : (PR.bind m f).All Q :=
  Tr.All.bind h fun o ⟨a, π, k, e, p⟩ => by subst e; exact h2 a π k p
theorem all_at {α : Type} {m : PR α} {f : α → Env → Nat → PS} {Q : SO → Prop} {P : α → Env → Nat → Prop} (h : m.All fun o => ∃ a π k, o = .ok a π k ∧ P a π k) (h2 : ∀ a π k, P a π k → (f a π k).All Q) : (PR.at m f).All Q :=
  Tr.All.bind h fun o ⟨a, π, k, e, p⟩ => by subst e; exact h2 a π k p
theorem all_seq {m : PS} {f : Env → Nat → PS} {Q : SO → Prop} {P : Env → Nat → Prop} (h : m.All fun o => ∃ π k, o = .next π k ∧ P π k) (h2 : ∀ π k, P π k → (f π k).All Q) : (PS.seq m f).All Q :=
  Tr.All.bind h fun o ⟨π, k, e, p⟩ => by subst e; exact h2 π k p
theorem all_callR {t : Tr FO} {π : Env} {Q : Out O → Prop} {P : O → Nat → Prop} (h : t.All fun o => ∃ p l k, o = .ok p l k ∧ P p k) (h2 : ∀ p k, P p k → Q (.ok p π k)) : (callR t π).All Q :=
  Tr.All.bind h fun o ⟨p, l, k, e, hp⟩ => by subst e; exact .ret (h2 p k hp)
theorem all_retF {t : PS} {Q : FO → Prop} {P : O → Nat → Prop} (h : t.All fun o => ∃ p π k, o = .ret p π k ∧ P p k) (h2 : ∀ p k, P p k → Q (.ok p [] k)) : (retF t).All Q :=
  Tr.All.bind h fun o ⟨p, l, k, e, hp⟩ => by subst e; exact .ret (h2 p k hp)
theorem all_noExc {α : Type} {m : PR α} {Q : Out α → Prop} {P : α → Env → Nat → Prop} (h : m.All fun o => ∃ a π k, o = .ok a π k ∧ P a π k) (h2 : ∀ a π k, P a π k → Q (.ok a π k)) : (noExc m).All Q :=
  Tr.All.bind h fun o ⟨a, π, k, e, p⟩ => by subst e; exact .ret (h2 a π k p)
/-- a loop whose turns go on -/
theorem all_for {f : U → Env → Nat → PS} {fg : List Nat} {P : Nat → Env → Nat → Prop} : ∀ {xs : List U} {i : Nat} {π : Env} {k : Nat}, P i π k → (∀ j x π k, xs[j]? = some x → P (i + j) π k → (f x π k).All fun o => ∃ π' k', (o = .next π' k' ∨ o = .cont π' k') ∧ P (i + j + 1) (uwipe π' fg) k') →
    (pFor f fg xs π k).All fun o => ∃ π' k', o = .next π' k' ∧ P (i + xs.length) π' k'
  | [], i, π, k, h, _ => .ret ⟨π, k, rfl, h⟩
  | x :: xs, i, π, k, h, step => by
    unfold pFor
    refine Tr.All.bind (step 0 x π k rfl h) ?_
    rintro o ⟨π', k', e, p⟩
    have go : (pFor f fg xs (uwipe π' fg) k').All fun o => ∃ π' k', o = .next π' k' ∧ P (i + (x :: xs).length) π' k' := by
      have := all_for (i := i + 1) (xs := xs) (by simpa using p) fun j y π k hj hp => by
        have := step (j + 1) y π k (by simpa using hj) (by rw [show i + (j + 1) = i + 1 + j by omega]; exact hp)
        rw [show i + (j + 1) + 1 = i + 1 + j + 1 by omega] at this
        exact this
      rw [List.length_cons, show i + (xs.length + 1) = i + 1 + xs.length by omega]
      exact this
    rcases e with e | e <;> subst e <;> exact go
/-- a comprehension with draws -/
theorem all_comp {f : U → Env → Nat → PR (Option U)} {P : Nat → List U → Env → Nat → Prop} : ∀ {xs : List U} {i : Nat} {acc : List U} {π : Env} {k : Nat}, P i acc π k → (∀ j x acc π k, xs[j]? = some x → P (i + j) acc π k → (f x π k).All fun o => ∃ y π' k', o = .ok y π' k' ∧ P (i + j + 1) (acc ++ y.toList) π' k') →
    (pComp f xs π k).All fun o => ∃ ys π' k', o = .ok ys π' k' ∧ P (i + xs.length) (acc ++ ys) π' k'
  | [], i, acc, π, k, h, _ => .ret ⟨[], π, k, rfl, by simpa using h⟩
  | x :: xs, i, acc, π, k, h, step => by
    unfold pComp
    refine all_bind (P := fun y π' k' => P (i + 1) (acc ++ y.toList) π' k') (step 0 x acc π k rfl h) fun y π' k' p => ?_
    have := all_comp (i := i + 1) (xs := xs) p fun j z acc π k hj hp => by
      have := step (j + 1) z acc π k (by simpa using hj) (by rw [show i + (j + 1) = i + 1 + j by omega]; exact hp)
      rw [show i + (j + 1) + 1 = i + 1 + j + 1 by omega] at this
      exact this
    refine all_bind (P := fun ys π'' k'' => P (i + (x :: xs).length) (acc ++ (y.toList ++ ys)) π'' k'') (this.mono ?_) fun ys π'' k'' p => ?_
    · rintro o ⟨ys, π'', k'', e, p⟩
      refine ⟨ys, π'', k'', e, ?_⟩
      rw [List.length_cons, show i + (xs.length + 1) = i + 1 + xs.length by omega, ← List.append_assoc]
      exact p
    · exact .ret ⟨_, π'', k'', rfl, p⟩
/-- a loop without draws, as a fold -/
theorem for_fold {α : Type} {f : U → Env → Nat → PS} {fg : List Nat} {e : α → Env} {k : Nat} {g : α → U → α} : ∀ {xs : List U} {a : α}, (∀ x a, x ∈ xs → ∃ π', f x (e a) k = .next π' k ∧ uwipe π' fg = e (g a x)) → pFor f fg xs (e a) k = .next (e (xs.foldl g a)) k
  | [], a, _ => rfl
  | x :: xs, a, h => by
    obtain ⟨π', e1, e2⟩ := h x a List.mem_cons_self
    unfold pFor
    rw [e1]
    show pFor f fg xs (uwipe π' fg) k = _
    rw [e2]
    exact for_fold fun y a hy => h y a (List.mem_cons_of_mem _ hy)
/-- a comprehension without draws -/
theorem comp_map {f : U → Env → Nat → PR (Option U)} {π : Env} {k : Nat} (g : U → Option U) : ∀ {xs : List U}, (∀ x, x ∈ xs → f x π k = .ok (g x) π k) → pComp f xs π k = .ok (xs.filterMap g) π k
  | [], _ => rfl
  | x :: xs, h => by
    unfold pComp
    rw [h x List.mem_cons_self, PR.bind_ok, comp_map g fun y hy => h y (List.mem_cons_of_mem _ hy), PR.bind_ok]
    cases hg : g x <;> simp [List.filterMap, hg]
end Cl

/-! part U17 -/
/-! Cl: rules of the operations of the second evaluator; values that are shown and compared. -/
namespace Cl
open PySem (PyData)
theorem toU_sh (u : U) : O.toU (.sh u) = u := (rfl)
theorem toU_ol (xs : List U) : O.toU (.ol xs) = .lst xs := (rfl)
theorem v_addI (i j : Int) : vbin .add (.int i) (.int j) = some (.sh (.int (i + j))) := (rfl)
theorem v_addS (s t : Tx) : vbin .add (.str s) (.str t) = vif (s.length + t.length ≤ LIM) (.sh (.str (s ++ t))) := (rfl)
theorem v_addT (s t : List U) : vbin .add (.tup s) (.tup t) = vif (s.length + t.length ≤ LIM) (.sh (.tup (s ++ t))) := (rfl)
theorem v_addL (s t : List U) : vbin .add (.lst s) (.lst t) = vif (s.length + t.length ≤ LIM) (.ol (s ++ t)) := (rfl)
theorem v_subI (i j : Int) : vbin .sub (.int i) (.int j) = some (.sh (.int (i - j))) := (rfl)
theorem v_mulI (i j : Int) : vbin .mul (.int i) (.int j) = vif (i.natAbs < 2 ^ 64 ∨ j.natAbs < 2 ^ 64) (.sh (.int (i * j))) := (rfl)
theorem v_mulL (s : List U) (k : Int) : vbin .mul (.lst s) (.int k) = vif (0 ≤ k ∧ k ≤ 100000 ∧ s.length * k.toNat ≤ LIM) (.ol (List.replicate k.toNat s).flatten) := (rfl)
theorem v_mulT (s : List U) (k : Int) : vbin .mul (.tup s) (.int k) = vif (s ≠ [] ∧ 2 ≤ k ∧ k ≤ 1000 ∧ s.length ≤ 1000) (.sh (.tup (List.replicate k.toNat s).flatten)) := (rfl)
theorem v_fdiv (i j : Int) : vbin .fdiv (.int i) (.int j) = vif (0 < j ∧ j < 1073741824) (.sh (.int (i / j))) := (rfl)
theorem v_mod (i j : Int) : vbin .mod (.int i) (.int j) = vif (0 < j) (.sh (.int (i % j))) := (rfl)
theorem v_pow (i j : Int) : vbin .pow (.int i) (.int j) = vif (0 ≤ j ∧ j ≤ 1000000 ∧ i.natAbs < 2 ^ 64) (.sh (.int (i ^ j.toNat))) := (rfl)
theorem vc_lt (i j : Int) : vcmp .lt (.int i) (.int j) = some (decide (i < j)) := (rfl)
theorem vc_le (i j : Int) : vcmp .le (.int i) (.int j) = some (decide (i ≤ j)) := (rfl)
theorem vc_gt (i j : Int) : vcmp .gt (.int i) (.int j) = some (decide (j < i)) := (rfl)
theorem vc_ge (i j : Int) : vcmp .ge (.int i) (.int j) = some (decide (j ≤ i)) := (rfl)
theorem vc_eq (x y : U) : vcmp .eq x y = veq x y := (rfl)
theorem vc_ne (x y : U) : vcmp .ne x y = (veq x y).map (!·) := (rfl)
theorem vc_in (x y : U) : vcmp .isin x y = vin x y := (rfl)
theorem vc_nin (x y : U) : vcmp .notin x y = (vin x y).map (!·) := (rfl)
theorem vc_isN (x : U) : vcmp .is x .non = some (uisNon x) := (rfl)
theorem vc_isnN (x : U) : vcmp .isnot x .non = some (!uisNon x) := (rfl)
theorem vc_isB (x y : Bool) : vcmp .is (.bl x) (.bl y) = some (decide (x = y)) := (rfl)
theorem ve_I (i j : Int) : veq (.int i) (.int j) = some (decide (i = j)) := (rfl)
theorem ve_S (s t : Tx) : veq (.str s) (.str t) = some (decide (s = t)) := c_eqS [] s t
theorem ve_B (a b : Bool) : veq (.bl a) (.bl b) = some (decide (a = b)) := by cases a <;> cases b <;> rfl
theorem vi_S (s t : Tx) : vin (.str s) (.str t) = some (subTx t s) := (rfl)
theorem vx_S (s : Tx) (i : Int) : vidx (.str s) (.int i) = (atI s i).map fun c => .str [c] := (rfl)
theorem vx_T (s : List U) (i : Int) : vidx (.tup s) (.int i) = atI s i := (rfl)
theorem vx_L (s : List U) (i : Int) : vidx (.lst s) (.int i) = atI s i := (rfl)
theorem vs_S (s : Tx) (l h : Option Int) : vslc (.str s) l h = some (.sh (.str (cut s l h))) := (rfl)
theorem vs_T (s : List U) (l h : Option Int) : vslc (.tup s) l h = some (.sh (.tup (cut s l h))) := (rfl)
theorem vs_L (s : List U) (l h : Option Int) : vslc (.lst s) l h = some (.ol (cut s l h)) := (rfl)
theorem vb_lenS (s : Tx) : vblt .len [.str s] = some (.sh (.int s.length)) := (rfl)
theorem vb_lenT (s : List U) : vblt .len [.tup s] = some (.sh (.int s.length)) := (rfl)
theorem vb_lenL (s : List U) : vblt .len [.lst s] = some (.sh (.int s.length)) := (rfl)
theorem vb_lenR (s : List Int) : vblt .len [.scr s] = some (.sh (.int s.length)) := (rfl)
theorem vb_abs (i : Int) : vblt .abs [.int i] = some (.sh (.int (if i < 0 then -i else i))) := (rfl)
theorem vb_max (i j : Int) : vblt .max2 [.int i, .int j] = some (.sh (.int (if j > i then j else i))) := (rfl)
theorem vb_min (i j : Int) : vblt .min2 [.int i, .int j] = some (.sh (.int (if j < i then j else i))) := (rfl)
theorem vb_intI (i : Int) : vblt .int1 [.int i] = some (.sh (.int i)) := (rfl)
theorem vb_intS (s : Tx) : vblt .int1 [.str s] = (PySem.intText? (SX.S s)).bind fun n => vif (s.length ≤ 640) (.sh (.int n)) := (rfl)
theorem vb_intH (s : Tx) (i : Int) : vblt .int2 [.str s, .int i] = vif (i = 16 ∧ s ≠ [] ∧ s.length ≤ 640 ∧ s.all hexB = true) (.sh (.int (L2.Hx.hexNum s : Nat))) := (rfl)
theorem vb_intB (b : Bool) : vblt .int1 [.bl b] = some (.sh (.int (if b then 1 else 0))) := (rfl)
theorem vb_listT (s : List U) : vblt .list1 [.tup s] = some (.ol s) := (rfl)
theorem vb_listL (s : List U) : vblt .list1 [.lst s] = some (.ol s) := (rfl)
theorem vb_tupT (s : List U) : vblt .tuple1 [.tup s] = some (.sh (.tup s)) := (rfl)
theorem vb_tupL (s : List U) : vblt .tuple1 [.lst s] = some (.sh (.tup s)) := (rfl)
theorem vb_all (s : List U) : vblt .all1 [.lst s] = (uBls s).map fun bs => .sh (.bl (bs.all id)) := (rfl)
theorem vb_any (s : List U) : vblt .any1 [.lst s] = (uBls s).map fun bs => .sh (.bl (bs.any id)) := (rfl)
theorem vm_strip (s t : Tx) : vmth .strip (.str s) [.str t] = some (.sh (.str (stripS s t))) := (rfl)
theorem vm_lower (s : Tx) : vmth .lower (.str s) [] = vif (s.length ≤ 5592405) (.sh (.str (s.map PyProof.Rows.lo1))) := (rfl)
theorem vm_upper (s : Tx) : vmth .upper (.str s) [] = vif (s.length ≤ 5592405) (.sh (.str (s.map PyProof.Rows.up1))) := (rfl)
theorem vm_split (s t : Tx) : vmth .split (.str s) [.str t] = vif (t ≠ [] ∧ s.length + 2 ≤ LIM) (.ol ((TL.spl t 0 [] s).map .str)) := (rfl)
def parU (s t : Tx) : U := match TL.par t [] s with
  | some (a, b) => .tup [.str a, .str t, .str b]
  | none => .tup [.str s, .str [], .str []]
theorem vm_par (s t : Tx) : vmth .partition (.str s) [.str t] = vif (t ≠ []) (.sh (parU s t)) := (rfl)
theorem vm_joinL (s : Tx) (xs : List U) : vmth .join (.str s) [.lst xs] = (uStrs xs).bind fun ts => vif ((ts.map List.length).sum + ts.length * s.length ≤ LIM) (.sh (.str (TL.joinL s ts))) := (rfl)
theorem vm_joinT (s : Tx) (xs : List U) : vmth .join (.str s) [.tup xs] = (uStrs xs).bind fun ts => vif ((ts.map List.length).sum + ts.length * s.length ≤ LIM) (.sh (.str (TL.joinL s ts))) := (rfl)
theorem vm_find (s t : Tx) : vmth .find (.str s) [.str t] = some (.sh (.int (PySem.Txt.find (SX.S s) (SX.S t)))) := (rfl)
theorem vm_count (s t : Tx) : vmth .count (.str s) [.str t] = some (.sh (.int (PySem.Txt.count (SX.S s) (SX.S t)))) := (rfl)
theorem vl_app (xs : List U) (v : U) : vlm .append xs [v] = vif (xs.length < LIM) (.non, xs ++ [v]) := (rfl)
theorem vl_pop (xs : List U) : vlm .pop xs [] = (xs[xs.length - 1]?).map fun d => (d, xs.dropLast) := (rfl)
theorem va_addI (i j : Int) : vaug .add (.int i) (.int j) = some (.int (i + j)) := (rfl)
theorem va_subI (i j : Int) : vaug .sub (.int i) (.int j) = some (.int (i - j)) := (rfl)
theorem va_addS (s t : Tx) : vaug .add (.str s) (.str t) = vif (s.length + t.length ≤ LIM) (.str (s ++ t)) := (rfl)
theorem vt_bl (b : Bool) : vtruth (.bl b) = some b := (rfl)
theorem vt_int (i : Int) : vtruth (.int i) = some (i != 0) := (rfl)
theorem vt_str (s : Tx) : vtruth (.str s) = some (!s.isEmpty) := (rfl)
theorem vt_tup (s : List U) : vtruth (.tup s) = some (!s.isEmpty) := (rfl)
theorem vt_lst (s : List U) : vtruth (.lst s) = some (!s.isEmpty) := (rfl)
theorem vt_non : vtruth .non = some false := (rfl)
theorem uwk_t (xs : List U) : uwalk (.tup xs) = some xs := (rfl)
theorem uwk_l (xs : List U) : uwalk (.lst xs) = some xs := (rfl)
theorem uwk_s (s : Tx) : uwalk (.str s) = some (s.map fun c => .str [c]) := (rfl)
theorem uStrs_map : ∀ ts : List Tx, uStrs (ts.map .str) = some ts
  | [] => rfl
  | t :: ts => by show (uStrs (ts.map .str)).map _ = _; rw [uStrs_map ts]; rfl
theorem uBls_map : ∀ ts : List Bool, uBls (ts.map .bl) = some ts
  | [] => rfl
  | t :: ts => by show (uBls (ts.map .bl)).map _ = _; rw [uBls_map ts]; rfl
theorem dUx_int (i : Int) : dU (.int i) = some (.int i) := (rfl)
theorem dUx_str (i : Tx) : dU (.str i) = some (.str i) := (rfl)
/-! ### shown, compared -/
def sU : Nat → U → Bool
  | _, .non => true
  | _, .bl _ => true
  | _, .int i => decide (i.natAbs < 10 ^ 100)
  | _, .str s => s.all fun c => decide (c < 4294967296)
  | n + 1, .tup xs => xs.all (sU n)
  | n + 1, .lst xs => xs.all (sU n)
  | _, _ => false
def pyU : Nat → U → PyData
  | _, .non => .none
  | _, .bl b => .bool b
  | _, .int i => .int i
  | _, .str s => .str (SX.S s)
  | n + 1, .tup xs => .tuple (xs.map (pyU n))
  | n + 1, .lst xs => .list (xs.map (pyU n))
  | _, _ => .none
def wU : Nat → U → Nat
  | _, .str s => s.length
  | n + 1, .tup xs => (xs.map fun x => wU n x + 1).sum
  | n + 1, .lst xs => (xs.map fun x => wU n x + 1).sum
  | _, _ => 0
def wUs (n : Nat) (xs : List U) : Nat := (xs.map fun x => wU n x + 1).sum
theorem wUs_nil (n : Nat) : wUs n [] = 0 := rfl
theorem wUs_cons (n : Nat) (x : U) (xs : List U) : wUs n (x :: xs) = wU n x + 1 + wUs n xs := rfl
theorem wUs_app (n : Nat) (xs ys : List U) : wUs n (xs ++ ys) = wUs n xs + wUs n ys := by unfold wUs; rw [List.map_append, List.sum_append]
theorem wU_tup (n : Nat) (xs : List U) : wU (n + 1) (.tup xs) = wUs n xs := rfl
theorem wU_lst (n : Nat) (xs : List U) : wU (n + 1) (.lst xs) = wUs n xs := rfl
theorem wU_str (n : Nat) (s : Tx) : wU n (.str s) = s.length := by cases n <;> rfl
theorem wU_int (n : Nat) (s : Int) : wU n (.int s) = 0 := by cases n <;> rfl
theorem sU_tup (n : Nat) (xs : List U) : sU (n + 1) (.tup xs) = xs.all (sU n) := rfl
theorem sU_lst (n : Nat) (xs : List U) : sU (n + 1) (.lst xs) = xs.all (sU n) := rfl
structure SuOk (n : Nat) (d : U) : Prop where
  py : ∀ m, n ≤ m → toPy m d = some (pyU n d)
  show_ : (pyU n d).showable = true
  plain : (pyU n d).plain = true
  short : (pyU n d).leavesShort 101 = true
  bulk : (pyU n d).bulk = wU n d
theorem log2_sm {i : Int} (h : i.natAbs < 10 ^ 100) : i.natAbs.log2 < 1920 := by
  by_cases h0 : i.natAbs = 0
  · rw [h0]; decide
  · refine (Nat.log2_lt h0).mpr (Nat.lt_trans h ?_)
    decide +kernel
theorem shown_i {i : Int} (h : i.natAbs < 10 ^ 100) : (PyData.shown (.int i)).length ≤ 101 := by
  have e := PySem.int_text_length_le10 (k := 100) (by decide) h
  show (PySem.Str.ofString (toString i)).length ≤ 101
  open PySem PySem.StrLaws in rw [ofString_length]; exact e
theorem su_leaf_int {n : Nat} {i : Int} (h : i.natAbs < 10 ^ 100) : SuOk n (.int i) := by
  cases n with
  | zero => exact ⟨fun m _ => by cases m <;> rfl, decide_eq_true (log2_sm h), rfl, decide_eq_true (shown_i h), rfl⟩
  | succ n => exact ⟨fun m _ => by cases m <;> rfl, decide_eq_true (log2_sm h), rfl, decide_eq_true (shown_i h), rfl⟩
theorem su_leaf_str {n : Nat} {s : Tx} (h : (s.all fun c => decide (c < 4294967296)) = true) : SuOk n (.str s) := by
  have e : ((SX.S s).cps.toList.all fun c => decide (c < 16 ^ 8)) = true := by simpa using h
  cases n with
  | zero => exact ⟨fun m _ => by cases m <;> rfl, rfl, rfl, e, by show (SX.S s).cps.size = s.length; simp⟩
  | succ n => exact ⟨fun m _ => by cases m <;> rfl, rfl, rfl, e, by show (SX.S s).cps.size = s.length; simp⟩
mutual
theorem su_ok : ∀ (n : Nat) (d : U), sU n d = true → SuOk n d
  | 0, .non, h => ⟨fun m _ => by cases m <;> rfl, rfl, rfl, rfl, rfl⟩
  | n + 1, .non, h => ⟨fun m _ => by cases m <;> rfl, rfl, rfl, rfl, rfl⟩
  | 0, .bl b, h => ⟨fun m _ => by cases m <;> rfl, rfl, rfl, rfl, rfl⟩
  | n + 1, .bl b, h => ⟨fun m _ => by cases m <;> rfl, rfl, rfl, rfl, rfl⟩
  | 0, .int i, h => su_leaf_int (of_decide_eq_true h)
  | n + 1, .int i, h => su_leaf_int (of_decide_eq_true h)
  | 0, .str s, h => su_leaf_str h
  | n + 1, .str s, h => su_leaf_str h
  | n + 1, .tup xs, h => by
    obtain ⟨a, b, c, d, e⟩ := sus_ok n xs h
    refine ⟨fun m hm => ?_, b, c, d, e⟩
    cases m with
    | zero => omega
    | succ m =>
      show (mapO (toPy m) xs).map PyData.tuple = _
      rw [a m (by omega)]
      rfl
  | n + 1, .lst xs, h => by
    obtain ⟨a, b, c, d, e⟩ := sus_ok n xs h
    refine ⟨fun m hm => ?_, b, c, d, e⟩
    cases m with
    | zero => omega
    | succ m =>
      show (mapO (toPy m) xs).map PyData.list = _
      rw [a m (by omega)]
      rfl
  | 0, .tup _, h => by cases h
  | 0, .lst _, h => by cases h
  | 0, .ob _ _ _, h => by cases h
  | n + 1, .ob _ _ _, h => by cases h
  | 0, .exn _ _, h => by cases h
  | n + 1, .exn _ _, h => by cases h
  | 0, .bag, h => by cases h
  | n + 1, .bag, h => by cases h
  | 0, .scr _, h => by cases h
  | n + 1, .scr _, h => by cases h
theorem sus_ok : ∀ (n : Nat) (xs : List U), xs.all (sU n) = true → (∀ m, n ≤ m → mapO (toPy m) xs = some (xs.map (pyU n))) ∧ PyData.showableAll (xs.map (pyU n)) = true ∧ PyData.plainAll (xs.map (pyU n)) = true ∧ PyData.leavesShortAll 101 (xs.map (pyU n)) = true ∧ PyData.bulkAll (xs.map (pyU n)) = wUs n xs
  | n, [], _ => ⟨fun _ _ => rfl, rfl, rfl, rfl, rfl⟩
  | n, x :: xs, h => by
    rw [List.all_cons, Bool.and_eq_true] at h
    have ⟨a, b, c, d, e⟩ := su_ok n x h.1
    have ⟨a2, b2, c2, d2, e2⟩ := sus_ok n xs h.2
    refine ⟨fun m hm => ?_, ?_, ?_, ?_, ?_⟩
    · rw [mapO, a m hm, a2 m hm]
      rfl
    · rw [List.map_cons, PyData.showableAll, b, b2]; rfl
    · rw [List.map_cons, PyData.plainAll, c, c2]; rfl
    · rw [List.map_cons, PyData.leavesShortAll, d, d2]; rfl
    · rw [List.map_cons, PyData.bulkAll, e, e2]; rfl
end
/-- the text that shows a value -/
def rp (u : U) : Tx := ((toPy DEEP u).getD .none).shown.cps.toList
theorem repr_ok {n : Nat} {u : U} (h : sU n u = true) (hn : n ≤ 24) (hw : 103 * wU n u + 101 ≤ LIM) : vblt .repr [u] = some (.sh (.str (rp u))) := by
  have o := su_ok n u h
  have e := o.py DEEP hn
  show (toPy DEEP u).bind _ = _
  unfold rp
  rw [e]
  show vif _ _ = _
  refine vif_of _ ⟨o.show_, Nat.le_trans (PyData.shown_le_bulk 101 (by decide) _ o.short) ?_⟩
  rw [o.bulk]
  exact hw
theorem veq_refl {n : Nat} {u : U} (h : sU n u = true) (hn : n ≤ 24) : veq u u = some true := by
  have o := su_ok n u h
  unfold veq
  rw [o.py DEEP hn]
  show some (PyData.eqv _ _) = _
  rw [PySem.SeqAt.eqv_refl_plain _ o.plain]
/-! ### texts -/
theorem sub_find (x y : Tx) : subTx x y = decide (0 ≤ PySem.Txt.find (SX.S x) (SX.S y)) := by
  unfold subTx PySem.Txt.find
  cases PySem.Builtin.Str.occurrences (SX.S x) (SX.S y) 0 (SX.S x).length 1 with
  | nil => rfl
  | cons i t =>
    symm
    exact decide_eq_true (Int.natCast_nonneg i)
end Cl

/-! part U18 -/
/-! Cl: loops with an exit; drawn menus. -/
namespace Cl
def foldX {α ρ : Type} (g : α → U → Sum α ρ) : α → List U → Sum α ρ
  | a, [] => .inl a
  | a, x :: xs => match g a x with
    | .inl b => foldX g b xs
    | .inr r => .inr r
def SO.stops : SO → Prop
  | .ret _ _ _ => True
  | .exc _ _ _ => True
  | _ => False
theorem for_exit {α ρ : Type} {f : U → Env → Nat → PS} {fg : List Nat} {e : α → Env} {k : Nat} {g : α → U → Sum α ρ} {Rr : ρ → SO → Prop} (I : Nat → α → Prop) : ∀ {xs : List U} {i : Nat} {a : α}, I i a →
    (∀ j x a, xs[j]? = some x → I (i + j) a → ∃ o, f x (e a) k = .ret o ∧ match g a x with
      | .inl b => (∃ π', o = .next π' k ∧ uwipe π' fg = e b) ∧ I (i + j + 1) b
      | .inr r => Rr r o ∧ o.stops) →
    ∃ o, pFor f fg xs (e a) k = .ret o ∧ match foldX g a xs with
      | .inl b => o = .next (e b) k ∧ I (i + xs.length) b
      | .inr r => Rr r o ∧ o.stops
  | [], i, a, h0, _ => ⟨_, rfl, rfl, h0⟩
  | x :: xs, i, a, h0, h => by
    obtain ⟨o, h1, h2⟩ := h 0 x a rfl h0
    unfold pFor foldX
    rw [h1]
    cases hg : g a x with
    | inl b =>
      rw [hg] at h2
      obtain ⟨⟨π', rfl, h3⟩, h4⟩ := h2
      show ∃ o, pFor f fg xs (uwipe π' fg) k = .ret o ∧ _
      rw [h3]
      have := for_exit (i := i + 1) I (xs := xs) (a := b) h4 fun j y c hy hc => by
        have := h (j + 1) y c (by simpa using hy) (by rw [show i + (j + 1) = i + 1 + j by omega]; exact hc)
        rw [show i + (j + 1) + 1 = i + 1 + j + 1 by omega] at this
        exact this
      rw [List.length_cons, show i + (xs.length + 1) = i + 1 + xs.length by omega]
      exact this
    | inr r =>
      rw [hg] at h2
      obtain ⟨h2, h3⟩ := h2
      refine ⟨o, ?_, h2, h3⟩
      cases o with
      | ret _ _ _ => rfl
      | exc _ _ _ => rfl
      | _ => exact h3.elim
theorem enum_mem {x : U} : ∀ {xs : List U} {i : Nat}, x ∈ enumU i xs → ∃ j u, x = .tup [.int (j : Nat), u] ∧ u ∈ xs
  | [], i, h => by cases h
  | y :: ys, i, h => by
    rcases List.mem_cons.mp h with h | h
    · exact ⟨i, y, h, List.mem_cons_self⟩
    · obtain ⟨j, u, a, b⟩ := enum_mem h
      exact ⟨j, u, a, List.mem_cons_of_mem _ b⟩
theorem enum_get {x : U} : ∀ {xs : List U} {i j : Nat}, (enumU i xs)[j]? = some x → ∃ u, xs[j]? = some u ∧ x = .tup [.int (i + j : Nat), u]
  | [], i, j, h => by simp [enumU] at h
  | y :: ys, i, 0, h => ⟨y, rfl, by simpa [enumU] using h.symm⟩
  | y :: ys, i, j + 1, h => by
    obtain ⟨u, a, b⟩ := enum_get (xs := ys) (i := i + 1) (j := j) (by simpa [enumU] using h)
    exact ⟨u, by simpa using a, by rw [b, show i + 1 + j = i + (j + 1) by omega]⟩
theorem enum_len : ∀ (xs : List U) (i : Nat), (enumU i xs).length = xs.length
  | [], i => rfl
  | y :: ys, i => by show (enumU (i + 1) ys).length + 1 = _; rw [enum_len]; rfl
/-- an item of a list by a drawn number -/
theorem atI_draw {α : Type} {xs : List α} {r : Nat} (h : r < xs.length) : ∃ x, atI xs (r : Int) = some x ∧ x ∈ xs := ⟨xs[r], atI_nat (List.getElem?_eq_getElem h), List.getElem_mem h⟩
/-- texts of signs -/
theorem join_signs (ts : List Tx) (h : ∀ t, t ∈ ts → t.length = 1) : (TL.joinL [] ts).length = ts.length ∧ ∀ c, c ∈ TL.joinL [] ts → ∃ t, t ∈ ts ∧ c ∈ t := by
  have key : ∀ ts : List Tx, TL.joinL [] ts = ts.flatten := by
    intro ts
    induction ts with
    | nil => rfl
    | cons t ts ih =>
      cases ts with
      | nil => simp [TL.joinL]
      | cons u us =>
        rw [TL.joinL]
        · rw [ih]; simp
  rw [key]
  constructor
  · clear key
    induction ts with
    | nil => rfl
    | cons t ts ih =>
      rw [List.flatten_cons, List.length_append, List.length_cons, h t List.mem_cons_self, ih fun u hu => h u (List.mem_cons_of_mem _ hu)]
      omega
  · intro c hc
    exact List.mem_flatten.mp hc
theorem seq_eq {m : PS} {f : Env → Nat → PS} {Q : SO → Prop} {π : Env} {k : Nat} (h : m = PS.next π k) (h2 : (f π k).All Q) : (PS.seq m f).All Q := by rw [h]; exact h2
theorem at_eq {α : Type} {m : PR α} {f : α → Env → Nat → PS} {Q : SO → Prop} {a : α} {π : Env} {k : Nat} (h : m = PR.ok a π k) (h2 : (f a π k).All Q) : (PR.at m f).All Q := by rw [h]; exact h2
theorem at_bind {α β : Type} (m : PR α) (f : α → Env → Nat → PR β) (g : β → Env → Nat → PS) : PR.at (PR.bind m f) g = PR.at m fun a π k => PR.at (f a π k) g := by
  unfold PR.at PR.bind
  rw [Tr.bind_assoc]
  congr 1
  funext o
  cases o <;> rfl
theorem seq_at {α : Type} (m : PR α) (f : α → Env → Nat → PS) (g : Env → Nat → PS) : PS.seq (PR.at m f) g = PR.at m fun a π k => PS.seq (f a π k) g := by
  unfold PS.seq PR.at
  rw [Tr.bind_assoc]
  congr 1
  funext o
  cases o <;> rfl
theorem seq_seq (m : PS) (f g : Env → Nat → PS) : PS.seq (PS.seq m f) g = PS.seq m fun π k => PS.seq (f π k) g := by
  unfold PS.seq
  rw [Tr.bind_assoc]
  congr 1
  funext o
  cases o <;> rfl
theorem noExc_bind {α β : Type} (m : PR α) (f : α → Env → Nat → PR β) : noExc (PR.bind m f) = PR.bind (noExc m) fun a π k => noExc (f a π k) := by
  unfold noExc PR.bind
  rw [Tr.bind_assoc, Tr.bind_assoc]
  congr 1
  funext o
  cases o <;> rfl
/-- a call within an expression -/
theorem all_call {α : Type} {t : Tr FO} {π : Env} {f : O → Env → Nat → PR α} {Q : Out α → Prop} {P : O → Nat → Prop} (h : t.All fun o => ∃ p l k, o = .ok p l k ∧ P p k) (h2 : ∀ p k, P p k → (f p π k).All Q) : (PR.bind (callR t π) f).All Q := by
  unfold PR.bind callR
  rw [Tr.bind_assoc]
  refine Tr.All.bind h ?_
  rintro o ⟨p, l, k, rfl, hp⟩
  exact h2 p k hp
theorem all_callA {t : Tr FO} {π : Env} {f : O → Env → Nat → PS} {Q : SO → Prop} {P : O → Nat → Prop} (h : t.All fun o => ∃ p l k, o = .ok p l k ∧ P p k) (h2 : ∀ p k, P p k → (f p π k).All Q) : (PR.at (callR t π) f).All Q := by
  unfold PR.at callR
  rw [Tr.bind_assoc]
  refine Tr.All.bind h ?_
  rintro o ⟨p, l, k, rfl, hp⟩
  exact h2 p k hp
end Cl

/-! part U19 -/
/-! Cl: loops that go on while; texts with one sign that is looked for. -/
namespace Cl
theorem pwhile_to {c : Env → Nat → PR Bool} {f : Env → Nat → PS} {fg : List Nat} {π : Env} {k : Nat} (I : Nat → Env → Prop) (Q : Env → Prop) {m : Nat} (h0 : I m π) (hm : m < FUEL)
    (step : ∀ m π, I m π → (c π k = PR.ok false π k ∧ Q π) ∨ ∃ π' m', c π k = PR.ok true π k ∧ f π k = PS.next π' k ∧ m' < m ∧ I m' (uwipe π' fg)) : ∃ π', pWhile c f fg FUEL π k = PS.next π' k ∧ Q π' := by
  have go : ∀ z m π, m < z → I m π → ∃ π', pWhile c f fg z π k = PS.next π' k ∧ Q π' := by
    intro z
    induction z with
    | zero => intro m π h; omega
    | succ z ih =>
      intro m π hz hI
      rcases step m π hI with ⟨e, q⟩ | ⟨π', m', e, e2, hlt, hI'⟩
      · exact ⟨π, by unfold pWhile; rw [e]; rfl, q⟩
      · obtain ⟨π2, e3, q⟩ := ih m' (uwipe π' fg) (by omega) hI'
        refine ⟨π2, ?_, q⟩
        unfold pWhile
        rw [e]
        show Tr.bind (f π k) _ = _
        rw [e2]
        exact e3
  exact go FUEL m π hm h0
theorem uc_to {α : Type} (xs : List α) (k : Nat) : cut xs none (some (k : Int)) = xs.take k := by
  unfold cut
  rw [HT.sIx_nat, HT.sIx_none, List.drop_zero, Nat.sub_zero]
  rw [List.take_eq_take_iff]
  omega
theorem uc_from {α : Type} (xs : List α) (k : Nat) : cut xs (some (k : Int)) none = xs.drop k := by
  unfold cut
  rw [HT.sIx_nat, HT.sIx_none]
  by_cases h : k ≤ xs.length
  · rw [Nat.min_eq_left h, List.take_of_length_le]
    rw [List.length_drop]
    omega
  · rw [Nat.min_eq_right (by omega), List.drop_of_length_le (by omega), List.drop_of_length_le (by omega)]
    simp
theorem uc_init {α : Type} (xs : List α) : cut xs none (some (-1)) = xs.dropLast := by
  unfold cut
  have e : HT.sIx xs.length xs.length (some (-1)) = xs.length - 1 := by
    show ((-1 : Int) + (xs.length : Int)).toNat = _
    omega
  rw [e, HT.sIx_none, List.drop_zero, Nat.sub_zero, List.dropLast_eq_take]
theorem uc_end {α : Type} (xs : List α) : cut xs (some (-1)) none = xs.drop (xs.length - 1) := by
  unfold cut
  have e : HT.sIx xs.length 0 (some (-1)) = xs.length - 1 := by
    show ((-1 : Int) + (xs.length : Int)).toNat = _
    omega
  rw [e, HT.sIx_none, List.take_of_length_le]
  rw [List.length_drop]
  omega
theorem sub_one (x : Tx) (c : Nat) : subTx x [c] = decide (c ∈ x) := PySem.StrLaws.found_one (SX.S x) c
theorem split_one {s : Tx} {c : Nat} (h : c ∈ s) : ∃ a b, s = a ++ c :: b ∧ c ∉ a := by
  induction s with
  | nil => cases h
  | cons x s ih =>
    by_cases hx : x = c
    · subst hx
      exact ⟨[], s, rfl, fun h => by cases h⟩
    · obtain ⟨a, b, rfl, hn⟩ := ih ((List.mem_cons.mp h).resolve_left fun e => hx e.symm)
      refine ⟨x :: a, b, rfl, fun h => ?_⟩
      rcases List.mem_cons.mp h with e | e
      · exact hx e.symm
      · exact hn e
theorem pre_one (c d : Nat) (r : Tx) : TL.pre [c] (d :: r) = decide (d = c) := by
  show (([d] : List Nat) == [c]) = _
  by_cases h : d = c
  · subst h; simp
  · rw [decide_eq_false h]; simpa using h
theorem par_at {c : Nat} {b : Tx} : ∀ {a acc : Tx}, c ∉ a → TL.par [c] acc (a ++ c :: b) = some (acc ++ a, b)
  | [], acc, _ => by
    show (if TL.pre [c] (c :: b) = true then some (acc, (c :: b).drop 1) else _) = _
    rw [pre_one, decide_eq_true rfl, if_pos rfl, List.append_nil]
    rfl
  | x :: a, acc, h => by
    have hx : x ≠ c := fun e => h (e ▸ List.mem_cons_self)
    show (if TL.pre [c] (x :: (a ++ c :: b)) = true then _ else TL.par [c] (acc ++ [x]) (a ++ c :: b)) = _
    rw [pre_one, decide_eq_false hx, if_neg Bool.false_ne_true, par_at fun m => h (List.mem_cons_of_mem _ m)]
    simp
theorem par_no {c : Nat} : ∀ {s acc : Tx}, c ∉ s → TL.par [c] acc s = none
  | [], acc, _ => rfl
  | x :: s, acc, h => by
    have hx : x ≠ c := fun e => h (e ▸ List.mem_cons_self)
    show (if TL.pre [c] (x :: s) = true then _ else TL.par [c] (acc ++ [x]) s) = _
    rw [pre_one, decide_eq_false hx, if_neg Bool.false_ne_true, par_no fun m => h (List.mem_cons_of_mem _ m)]
theorem parU_at {c : Nat} {a b : Tx} (h : c ∉ a) : parU (a ++ c :: b) [c] = .tup [.str a, .str [c], .str b] := by
  unfold parU
  rw [par_at h]
  rfl
theorem parU_no {c : Nat} {s : Tx} (h : c ∉ s) : parU s [c] = .tup [.str s, .str [], .str []] := by
  unfold parU
  rw [par_no h]
theorem idx_at {c : Nat} {a b : Tx} (h : c ∉ a) : vmth .index (.str (a ++ c :: b)) [.str [c]] = some (.sh (.int (a.length : Int))) := by
  show (PySem.Builtin.Str.occurrences (SX.S (a ++ c :: b)) (SX.S [c]) 0 (SX.S (a ++ c :: b)).length 1).head?.map (fun i => O.sh (.int (i : Nat))) = _
  have hat : (a ++ c :: b)[a.length]? = some c := by simp
  have no : ∀ k, k < a.length → (a ++ c :: b)[k]? ≠ some c := by
    intro k hk e
    rw [List.getElem?_append_left hk] at e
    exact h (List.mem_of_getElem? e)
  rcases PySem.StrLaws.occ_head (SX.S (a ++ c :: b)) (SX.S [c]) 1 (Nat.le_refl 1) with ⟨_, hn⟩ | ⟨i, r, e, hi, hn⟩
  · exact absurd ((PySem.StrLaws.subAt_one (SX.S (a ++ c :: b)) c a.length).mpr hat) (hn a.length)
  · rw [e]
    have hi' : (a ++ c :: b)[i]? = some c := (PySem.StrLaws.subAt_one (SX.S (a ++ c :: b)) c i).mp hi
    have : i = a.length := by
      rcases Nat.lt_trichotomy i a.length with hlt | e | hgt
      · exact absurd hi' (no i hlt)
      · exact e
      · exact absurd ((PySem.StrLaws.subAt_one (SX.S (a ++ c :: b)) c a.length).mpr hat) (hn a.length hgt)
    subst this
    rfl
theorem cut_at {c : Nat} (a b : Tx) : cut (a ++ c :: b) none (some (a.length : Int)) = a := by
  rw [uc_to]
  simp
theorem cut_past {c : Nat} (a b : Tx) : cut (a ++ c :: b) (some ((a.length : Int) + 1)) none = b := by
  have : ((a.length : Int) + 1) = ((a.length + 1 : Nat) : Int) := by omega
  rw [this, uc_from]
  simp
/-! ### blanks at both ends -/
def c32 (c : Nat) : Bool := ([32] : List Nat).contains c
theorem c32_iff (c : Nat) : c32 c = decide (c = 32) := by
  unfold c32
  by_cases h : c = 32
  · subst h; rfl
  · rw [decide_eq_false h]
    simp [h]
def bareT (s : Tx) : Tx := stripS s [32]
theorem bareT_eq (s : Tx) : bareT s = ((s.dropWhile c32).reverse.dropWhile c32).reverse := rfl
end Cl

/-! part I_K10 -/
namespace K10
open Cl
/-- is_string(1) : 0=thing 1=character -/
def s0_0 : St := (.ret (.bop true (.cons (.isi (.var 0) [.str] true) (.cons (.blt .all1 (.cons (.comp (.cmp .isin (.var 1) (.glo 0)) [1] false (.val (.var 0)) .nil [("character", 1)]) .nil)) .nil))))
def f0 : Fn := ⟨1, 2, (.cons s0_0 .nil)⟩
/-- read_size(1) : 0=line 1=digits 2=digit -/
def s1_0 : St := (.ifs (.not (.call 0 (.cons (.var 0) .nil))) (.cons (.raise 0 (.cons (.str [99, 104, 117, 110, 107]) .nil)) .nil) .nil)
def s1_1 : St := (.set 1 (.mth .lower (.idx (.mth .partition (.var 0) (.cons (.str [59]) .nil)) (.int 0)) .nil))
def s1_2 : St := (.ifs (.bop false (.cons (.not (.chain .le .le (.int 1) (.blt .len (.cons (.var 1) .nil)) (.glo 2))) (.cons (.not (.blt .all1 (.cons (.comp (.cmp .isin (.var 2) (.glo 1)) [2] false (.val (.var 1)) .nil [("digit", 2)]) .nil))) .nil))) (.cons (.raise 0 (.cons (.str [99, 104, 117, 110, 107]) .nil)) .nil) .nil)
def s1_3 : St := (.ret (.blt .int2 (.cons (.var 1) (.cons (.int 16) .nil))))
def f1 : Fn := ⟨1, 3, (.cons s1_0 (.cons s1_1 (.cons s1_2 (.cons s1_3 .nil))))⟩
/-- bag(2) : 0=script 1=at 2=cell 3=digits -/
def s2_0 : St := (.set 2 (.ite (.cmp .lt (.var 1) (.blt .len (.cons (.var 0) .nil))) (.idx (.var 0) (.var 1)) (.int 0)))
def s2_1 : St := (.set 3 (.ite (.cmp .ge (.blt .abs (.cons (.var 2) .nil)) (.bin .pow (.int 10) (.int 18))) (.blt .abs (.cons (.var 2) .nil)) (.int 0)))
def s2_2 : St := (.ret (.lst (.cons (.var 3) (.cons (.bin .mod (.bin .pow (.bin .add (.bin .add (.bin .mod (.var 2) (.int 2147483647)) (.bin .mul (.int 7121) (.var 1))) (.int 11)) (.int 3)) (.int 2147483629)) (.cons (.int 0) .nil)))))
def f2 : Fn := ⟨2, 4, (.cons s2_0 (.cons s2_1 (.cons s2_2 .nil)))⟩
/-- take(2) : 0=bag_here 1=many 2=digit -/
def s3_0 : St := (.ifs (.cmp .gt (.idx (.var 0) (.int 0)) (.int 0)) (.cons (.set 2 (.bin .mod (.idx (.var 0) (.int 0)) (.var 1))) (.cons (.seti (.var 0) (.int 0) (.bin .fdiv (.idx (.var 0) (.int 0)) (.var 1))) (.cons (.ret (.var 2)) .nil))) .nil)
def s3_1 : St := (.seti (.var 0) (.int 2) (.bin .add (.idx (.var 0) (.int 2)) (.int 1)))
def s3_2 : St := (.seti (.var 0) (.int 1) (.bin .mod (.bin .add (.bin .add (.bin .mul (.idx (.var 0) (.int 1)) (.int 48271)) (.bin .mul (.bin .mul (.int 6607) (.idx (.var 0) (.int 2))) (.idx (.var 0) (.int 2)))) (.int 5)) (.int 2147483647)))
def s3_3 : St := (.ret (.bin .mod (.bin .mod (.bin .pow (.bin .fdiv (.idx (.var 0) (.int 1)) (.int 16)) (.int 3)) (.int 2147483587)) (.var 1)))
def f3 : Fn := ⟨2, 3, (.cons s3_0 (.cons s3_1 (.cons s3_2 (.cons s3_3 .nil))))⟩
/-- pick(2) : 0=bag_here 1=menu -/
def s4_0 : St := (.ret (.idx (.var 1) (.call 3 (.cons (.var 0) (.cons (.blt .len (.cons (.var 1) .nil)) .nil)))))
def f4 : Fn := ⟨2, 2, (.cons s4_0 .nil)⟩
/-- characters(0) :  -/
def s5_0 : St := (.ret (.bin .add (.str [32, 33, 34, 35, 36]) (.str [38, 39, 40, 41, 42, 43, 44, 45, 46, 47, 48, 49, 50, 51, 52, 53, 54, 55, 56, 57, 58, 59, 60, 61, 62, 63, 64, 65, 66, 67, 68, 69, 70, 71, 72, 73, 74, 75, 76, 77, 78, 79, 80, 81, 82, 83, 84, 85, 86, 87, 88, 89, 90, 91, 92, 93, 94, 95, 96, 97, 98, 99, 100, 101, 102, 103, 104, 105, 106, 107, 108, 109, 110, 111, 112, 113, 114, 115, 116, 117, 118, 119, 120, 121, 122, 123, 124, 125, 126])))
def f5 : Fn := ⟨0, 0, (.cons s5_0 .nil)⟩
/-- any(2) : 0=bag_here 1=objects 2=some -/
def s6_0 : St := (.set 2 (.lst (.cons .non (.cons (.bl true) (.cons (.bl false) (.cons (.int 0) (.cons (.int 1) (.cons (.neg (.int 1)) (.cons (.int 255) (.cons (.int 256) (.cons (.bin .pow (.int 10) (.int 59)) (.cons (.str []) (.cons (.str [97]) (.cons (.str [97, 58, 32, 98]) (.cons (.str [32, 97]) (.cons (.str [99, 108, 111, 115, 101]) (.cons (.lst .nil) (.cons (.tup .nil) (.cons (.lst (.cons (.int 13) (.cons (.int 10) .nil))) (.cons (.lst (.cons (.bl true) .nil)) .nil))))))))))))))))))))
def s6_1 : St := (.set 2 (.bin .add (.bin .add (.var 2) (.lst (.cons (.tup (.cons (.int 1) (.cons (.int 2) .nil))) (.cons (.tup (.cons (.str [97]) (.cons (.str [98]) .nil))) (.cons (.tup (.cons (.tup (.cons (.str [97]) (.cons (.str [98]) .nil))) .nil)) (.cons (.lst (.cons (.tup (.cons (.str [97]) (.cons (.str [98]) .nil))) .nil)) (.cons (.tup (.cons (.str [97]) (.cons (.str [32, 98]) .nil))) (.cons (.tup (.cons (.str []) (.cons (.str [98]) .nil))) (.cons (.tup (.cons .non (.cons (.lst (.cons (.int 1) .nil)) .nil))) .nil))))))))) (.var 1)))
def s6_2 : St := (.ret (.idx (.var 2) (.call 3 (.cons (.var 0) (.cons (.blt .len (.cons (.var 2) .nil)) .nil)))))
def f6 : Fn := ⟨2, 3, (.cons s6_0 (.cons s6_1 (.cons s6_2 .nil)))⟩
/-- due(1) : 0=thing 1=word 2=found 3=sign -/
def s7_0 : St := (.ifs (.bop false (.cons (.not (.isi (.var 0) [.str] true)) (.cons (.not (.blt .all1 (.cons (.comp (.cmp .isin (.var 3) (.call 5 .nil)) [3] false (.val (.var 0)) .nil [("_law_sign", 3)]) .nil))) .nil))) (.cons (.ret (.tup (.cons (.str [66, 97, 100, 76, 105, 110, 101]) (.cons (.str [99, 104, 117, 110, 107]) .nil)))) .nil) .nil)
def s7_1 : St := (.par [1, 2] (.cons (.idx (.mth .split (.var 0) (.cons (.str [59]) .nil)) (.int 0)) (.cons (.int 0) .nil)))
def s7_2 : St := (.ifs (.not (.chain .le .le (.int 1) (.blt .len (.cons (.var 1) .nil)) (.int 6))) (.cons (.ret (.tup (.cons (.str [66, 97, 100, 76, 105, 110, 101]) (.cons (.str [99, 104, 117, 110, 107]) .nil)))) .nil) .nil)
def c7_0_0 : St := (.ifs (.cmp .notin (.var 3) (.str [48, 49, 50, 51, 52, 53, 54, 55, 56, 57, 97, 98, 99, 100, 101, 102, 65, 66, 67, 68, 69, 70])) (.cons (.ret (.tup (.cons (.str [66, 97, 100, 76, 105, 110, 101]) (.cons (.str [99, 104, 117, 110, 107]) .nil)))) .nil) .nil)
def c7_0_1 : St := (.set 2 (.bin .add (.bin .mul (.var 2) (.int 16)) (.mth .index (.str [48, 49, 50, 51, 52, 53, 54, 55, 56, 57, 97, 98, 99, 100, 101, 102]) (.cons (.mth .lower (.var 3) .nil) .nil))))
def b7_0 : Ss := (.cons c7_0_0 (.cons c7_0_1 .nil))
def s7_3 : St := (.forr [3] false (.val (.var 1)) [3] b7_0)
def s7_4 : St := (.ret (.tup (.cons (.str [116, 111, 108, 100]) (.cons (.var 2) .nil))))
def f7 : Fn := ⟨1, 4, (.cons s7_0 (.cons s7_1 (.cons s7_2 (.cons s7_3 (.cons s7_4 .nil)))))⟩
/-- said(1) : 0=thing 1=e -/
def b8_0 : Ss := (.cons (.ret (.tup (.cons (.str [116, 111, 108, 100]) (.cons (.call 1 (.cons (.var 0) .nil)) .nil)))) .nil)
def s8_0 : St := (.tryr b8_0 0 1 (.tup [(.cst (.str [66, 97, 100, 76, 105, 110, 101])), .fld]))
def f8 : Fn := ⟨1, 2, (.cons s8_0 .nil)⟩
/-- law(1) : 0=script 1=menu 2=k 3=bag_here 4=things 5=turn 6=word 7=thing 8=told 9=sign -/
def s9_0 : St := (.set 1 (.str [48, 48, 49, 57, 97, 70, 102, 120, 103, 32, 45, 43, 95]))
def c9_0_0 : St := (.set 6 (.mth .join (.str []) (.cons (.comp (.idx (.var 1) (.call 3 (.cons (.var 3) (.cons (.int 13) .nil)))) [9] false (.rng (.cons (.call 3 (.cons (.var 3) (.cons (.int 8) .nil))) .nil)) .nil [("_law_sign", 9)]) .nil)))
def c9_0_1 : St := (.expr (.mth .append (.var 4) (.cons (.bin .add (.var 6) (.call 4 (.cons (.var 3) (.cons (.lst (.cons (.str []) (.cons (.str []) (.cons (.str [59]) (.cons (.str [59, 97, 61, 98]) (.cons (.str [59, 32, 120]) (.cons (.str [59, 59]) (.cons (.str [32]) (.cons (.str [59, 10]) (.cons (.str [59, 34, 9]) .nil)))))))))) .nil)))) .nil)))
def b9_0 : Ss := (.cons c9_0_0 (.cons c9_0_1 .nil))
def c9_1_0 : St := (.set 8 (.call 8 (.cons (.var 7) .nil)))
def c9_1_1 : St := (.ifs (.cmp .ne (.blt .repr (.cons (.var 8) .nil)) (.blt .repr (.cons (.call 7 (.cons (.var 7) .nil)) .nil))) (.cons (.ret (.bl false)) .nil) .nil)
def b9_1 : Ss := (.cons c9_1_0 (.cons c9_1_1 .nil))
def c9_2_0 : St := (.set 3 (.call 2 (.cons (.var 0) (.cons (.var 2) .nil))))
def c9_2_1 : St := (.set 4 (.lst (.cons (.call 6 (.cons (.var 3) (.cons (.lst .nil) .nil))) (.cons .non (.cons (.int 5) (.cons (.str []) (.cons (.str [59]) (.cons (.str [53, 59]) (.cons (.str [53, 32, 59, 97]) (.cons (.str [48, 120, 53]) (.cons (.str [102, 102, 102, 102, 102, 102]) (.cons (.str [49, 48, 48, 48, 48, 48, 48]) (.cons (.str [48, 48, 48, 48, 48, 48]) .nil)))))))))))))
def c9_2_2 : St := (.set 4 (.bin .add (.var 4) (.lst (.cons (.str [48, 48, 48, 48, 48, 48, 48]) (.cons (.lst (.cons (.str [53]) .nil)) (.cons (.str [53, 10]) .nil))))))
def c9_2_3 : St := (.forr [5] false (.rng (.cons (.int 20) .nil)) [5, 6] b9_0)
def c9_2_4 : St := (.forr [7] false (.val (.var 4)) [7, 8] b9_1)
def b9_2 : Ss := (.cons c9_2_0 (.cons c9_2_1 (.cons c9_2_2 (.cons c9_2_3 (.cons c9_2_4 .nil)))))
def s9_1 : St := (.forr [2] false (.rng (.cons (.blt .max2 (.cons (.int 4) (.cons (.blt .min2 (.cons (.int 10) (.cons (.blt .len (.cons (.var 0) .nil)) .nil))) .nil))) .nil)) [2, 3, 4, 5, 6, 7, 8] b9_2)
def s9_2 : St := (.ret (.cmp .eq (.callk 1 .nil (.cons (.str [102, 70, 59, 97]) .nil) ["line"] [.inl 0]) (.int 255)))
def f9 : Fn := ⟨1, 10, (.cons s9_0 (.cons s9_1 (.cons s9_2 .nil)))⟩
def pr : Nat → Option Fn
  | 0 => some f0
  | 1 => some f1
  | 2 => some f2
  | 3 => some f3
  | 4 => some f4
  | 5 => some f5
  | 6 => some f6
  | 7 => some f7
  | 8 => some f8
  | 9 => some f9
  | _ => none
def k0 : Tx := [32, 33, 34, 35, 36, 38, 39, 40, 41, 42, 43, 44, 45, 46, 47, 48, 49, 50, 51, 52, 53, 54, 55, 56, 57, 58, 59, 60, 61, 62, 63, 64, 65, 66, 67, 68, 69, 70, 71, 72, 73, 74, 75, 76, 77, 78, 79, 80, 81, 82, 83, 84, 85, 86, 87, 88, 89, 90, 91, 92, 93, 94, 95, 96, 97, 98, 99, 100, 101, 102, 103, 104, 105, 106, 107, 108, 109, 110, 111, 112, 113, 114, 115, 116, 117, 118, 119, 120, 121, 122, 123, 124, 125, 126]
def cc : Nat → Option D
  | 0 => some (.str k0)
  | 1 => some (.str [48, 49, 50, 51, 52, 53, 54, 55, 56, 57, 97, 98, 99, 100, 101, 102])
  | 2 => some (.int 6)
  | _ => none
theorem cc_0 : cc 0 = some (.str k0) := (rfl)
theorem cc_1 : cc 1 = some (.str [48, 49, 50, 51, 52, 53, 54, 55, 56, 57, 97, 98, 99, 100, 101, 102]) := (rfl)
theorem cc_2 : cc 2 = some (.int 6) := (rfl)
def cs : Glo := { c := cc }
def ax : Ax := ⟨some 2, some 3⟩
def mu0 : Nat → List Nat := fun _ => []
def qm0 : String → Bool := fun _ => false
theorem ax_ok : AxOk pr ax mu0 := ⟨fun f h => ⟨rfl, by cases h; exact ⟨_, _, _, _, rfl, by decide, by decide, by decide, by decide⟩⟩, fun f h => ⟨rfl, by cases h; exact ⟨_, _, _, _, _, _, rfl, by decide, by decide, by decide, by decide, by decide, by decide⟩⟩⟩
theorem mu_ok : ∀ f, (mu0 f).Nodup ∧ ∀ F, pr f = some F → ∀ j, j ∈ mu0 f → j < F.np := fun f => ⟨List.nodup_nil, fun F _ j h => by cases h⟩
def rn (n : Nat) : Nat → List O → Nat → Tr FO := prun pr cs mu0 qm0 ax n
def C (n : Nat) : PCfg := ⟨rn n, cs, mu0, qm0, []⟩
theorem cC (n : Nat) : (C n).call = rn n := (rfl)
theorem muC (n f : Nat) : (C n).mu f = [] := (rfl)
theorem qmC (n : Nat) (s : String) : (C n).qm s = false := (rfl)
theorem gC (n g : Nat) : (C n).g.c g = cc g := (rfl)
theorem yc {n f : Nat} {es : Es} {π : Env} {k : Nat} : pvE (C n) (.call f es) π k = (pvEs (C n) es π k).bind fun us π1 k1 => callR (rn n f (us.map .sh) k1) π1 := y_call (C := C n) rfl es
theorem fmz {n : Nat} {is : List Nat} {m : PS} : fmR (C n) is m = m := fmR_0 (C := C n) rfl m
theorem fz {n : Nat} {is : List Nat} : fmOk (C n) is = true := by unfold fmOk; induction is with | nil => rfl | cons a l ih => simpa [C] using ih
theorem r0 {n k : Nat} {x0 : O} : rn (n + 1) 0 [x0] k = retF (pvSs (C n) f0.body [some x0, none] k) := prun_ok (by decide) (by decide) rfl rfl rfl
theorem r1 {n k : Nat} {x0 : O} : rn (n + 1) 1 [x0] k = retF (pvSs (C n) f1.body [some x0, none, none] k) := prun_ok (by decide) (by decide) rfl rfl rfl
theorem r4 {n k : Nat} {x0 x1 : O} : rn (n + 1) 4 [x0, x1] k = retF (pvSs (C n) f4.body [some x0, some x1] k) := prun_ok (by decide) (by decide) rfl rfl rfl
theorem r5 {n k : Nat} : rn (n + 1) 5 [] k = retF (pvSs (C n) f5.body [] k) := prun_ok (by decide) (by decide) rfl rfl rfl
theorem r6 {n k : Nat} {x0 x1 : O} : rn (n + 1) 6 [x0, x1] k = retF (pvSs (C n) f6.body [some x0, some x1, none] k) := prun_ok (by decide) (by decide) rfl rfl rfl
theorem r7 {n k : Nat} {x0 : O} : rn (n + 1) 7 [x0] k = retF (pvSs (C n) f7.body [some x0, none, none, none] k) := prun_ok (by decide) (by decide) rfl rfl rfl
theorem r8 {n k : Nat} {x0 : O} : rn (n + 1) 8 [x0] k = retF (pvSs (C n) f8.body [some x0, none] k) := prun_ok (by decide) (by decide) rfl rfl rfl
theorem r9 {n k : Nat} {x0 : O} : rn (n + 1) 9 [x0] k = retF (pvSs (C n) f9.body [some x0, none, none, none, none, none, none, none, none, none] k) := prun_ok (by decide) (by decide) rfl rfl rfl
theorem tk {n k : Nat} {m : Int} (h : 0 < m ∧ m < 1073741824 ∧ k < 1152921504606846976) : rn (n + 1) 3 [.sh .bag, .sh (.int m)] k = .draw m.toNat fun r => .ret (.ok (.sh (.int (r : Nat))) [] (k + 1)) := prun_take rfl (by decide) h
theorem bg {n k : Nat} {i : Int} {ns : List Int} (h : 0 ≤ i ∧ i < 1048576) : rn (n + 1) 2 [.sh (.scr ns), .sh (.int i)] k = .ret (.ok (.sh .bag) [] k) := prun_bag rfl h
end K10

/-! part G_K10 -/
namespace K10
open Cl
/-- a plain value -/
def pl : U → Bool
  | .non => true | .bl _ => true | .int _ => true | .str _ => true | .tup _ => true | .lst _ => true | _ => false
def tS : U → Bool
  | .str _ => true
  | _ => false
theorem pl_str {u : U} (h : pl u = true) : visi u [.str] = some (tS u) := by cases u <;> first | rfl | cases h
theorem vis_s (s : Tx) : visi (.str s) [.str] = some true := rfl
/-! ### signs -/
def sgn (f : Nat → Bool) : U → Bool
  | .str [c] => f c
  | _ => false
theorem all_sg (s : Tx) (f : Nat → Bool) : (s.map fun c => U.str [c]).filterMap (fun u => some (U.bl (sgn f u))) = (s.map f).map .bl := by
  induction s with
  | nil => rfl
  | cons x xs ih => rw [List.map_cons, List.filterMap_cons, ih]; rfl
theorem all_id (xs : Tx) (f : Nat → Bool) : (xs.map f).all id = xs.all f := by
  induction xs with
  | nil => rfl
  | cons x xs ih => simp [ih]
def inC (c : Nat) : Bool := decide (c ∈ k0)
/-- a text of the law -/
def ok (s : Tx) : Prop := s.length ≤ 1000 ∧ ∀ c, c ∈ s → c < 128
theorem f0_str {n k : Nat} {s : Tx} (hs : s.length ≤ 1000) : rn (n + 1) 0 [.sh (.str s)] k = .ret (.ok (.sh (.bl (s.all inC))) [] k) := by
  have hL : LIM = 16777216 := rfl
  have hF : FUEL = 67108864 := by decide
  have e := comp_map (f := compT (C n) (.cmp .isin (.var 1) (.glo 0)) [1] false .nil [1]) (π := [some (.sh (.str s)), none]) (k := k) (fun u => some (.bl (sgn inC u))) (xs := s.map fun c => .str [c]) (by
    intro x hx
    obtain ⟨c, _, rfl⟩ := List.mem_map.mp hx
    have h : subTx k0 [c] = sgn inC (.str [c]) := sub_one k0 c
    simp (disch := first | with_unfolding_all exact @id (_ = _) rfl | omega | (apply And.intro; (first | omega | simp); (first | omega | (apply And.intro; omega; with_unfolding_all exact @id (_ = _) rfl)))) only [ob_non, of_non, ob_bl, of_bl, ob_int, of_int, ob_str, of_str, ob_glo, of_glo, ob_bin, of_bin, ob_neg, of_neg, ob_not, of_not, ob_bop, of_bop, ob_ite, of_ite, ob_cmp, of_cmp, ob_chain, of_chain, ob_tup, of_tup, ob_lst, of_lst, ob_idx, of_idx, ob_slc, of_slc, ob_call, of_call, ob_callk, of_callk, ob_new, of_new, ob_mcall, of_mcall, ob_fmt, of_fmt, ob_cat, of_cat, ob_blt, of_blt, ob_isi, of_isi, ob_mth, of_mth, ob_comp, of_comp, ob_var, of_var, obV_ol, obV_sh, obV_f, ofV_ol, ofV_sh, ofV_f, toUR_ok, g_0, g_0n, g_s, y_non, y_bl, y_int, y_str, varR_s, y_var, y_glo, gloR_int, gloR_str, y_bin, negR_i, y_neg, y_not, y_bop, ifP_t, ifP_f, y_and1, y_and2, bopR_tt, bopR_ff, bopR_tf, bopR_ft, y_ite, y_cmp, y_chain, y_tup, y_lst, y_idx, y_slc, y_o0, y_o1, intP_i, y_nil, y_cons, y_qnil, y_qcons, callR_ok, callR_exc, ubR_s, ub_of, ucR_s, uc_of, uvR_s, ui_of, ul_of, ul_2, y_blt1, y_blt2, y_isi, strP_s, y_mt0, y_mt1, olV_ol, ow_var, sp_v, y_ml, y_comp, compT_1, compT_2, uw_nil, uw_cons, y_c0, y_c1, y_val, rngU_1, rngU_2, y_rng, y_enm, z_set, z_sets, ut_1, ut_2, ut_3, parP_2, parP_3, z_par, z_aug, aug_R, augR_l, augR_i, z_expr, retV_s, z_retv, z_ret, retE_u, z_retn, z_if, forT_1, forT_2, z_for, z_whl, whlT_u, z_raise, z_tryr, uc_next, uc_ret, uc_exc, z_pass, z_brk, z_cont, z_nil, z_one, z_cons, retF_n, retF_r, retF_x, vif_of, PR.req_true, PS.req_true, PR.bind_ok, PR.bind_exc, PR.opt_some, PR.req_of, PR.at_ok, PR.at_exc, PS.opt_some, PS.req_of, PS.seq_next, PS.seq_ret, PS.seq_brk, PS.seq_cont, PS.seq_exc, noExc_ok, quiet, quiets, quietI, Mt.ofList, Bool.and_true, Bool.true_and, Bool.and_self, Bool.false_and, Bool.and_false, Bool.not_true, Bool.not_false, List.set_cons_zero, List.set_cons_succ, List.map_cons, List.map_nil, List.cons_append, List.nil_append, List.append_nil, List.length_cons, List.length_nil, Option.map_some, Option.bind_some, Nat.reduceAdd, Nat.reduceSub, Nat.zero_add, decide_true, decide_false, eq_self, toU_sh, toU_ol, v_addI, v_addS, v_addT, v_addL, v_subI, v_mulI, v_mulL, v_mulT, v_fdiv, v_mod, v_pow, vc_lt, vc_le, vc_gt, vc_ge, vc_eq, vc_ne, vc_in, vc_nin, vc_isN, vc_isnN, vc_isB, ve_I, ve_S, ve_B, vi_S, vx_S, vx_T, vx_L, vs_S, vs_T, vs_L, vb_lenS, vb_lenT, vb_lenL, vb_lenR, vb_abs, vb_max, vb_min, vb_intI, vb_intB, vb_intS, vb_intH, vb_listT, vb_listL, vb_tupT, vb_tupL, vb_all, vb_any, vm_strip, vm_lower, vm_upper, vm_split, vm_par, vm_joinL, vm_joinT, vm_find, vm_count, vl_app, vl_pop, va_addI, va_subI, va_addS, vt_bl, vt_int, vt_str, vt_tup, vt_lst, vt_non, uwk_t, uwk_l, uwk_s, uStrs_map, uBls_map, dUx_int, dUx_str, cC, gC, yc, fmz, muC, qmC, List.isEmpty_nil, callR_draw, bind_draw, at_draw, retF_draw, toUR_draw, seq_draw, noExc_draw, all_draw, all_ret, all_ok, all_next, cc_0, h])
  rw [all_sg] at e
  rw [r0]
  simp (disch := first | with_unfolding_all exact @id (_ = _) rfl | omega | (apply And.intro; (first | omega | simp); (first | omega | (apply And.intro; omega; with_unfolding_all exact @id (_ = _) rfl)))) only [ob_non, of_non, ob_bl, of_bl, ob_int, of_int, ob_str, of_str, ob_glo, of_glo, ob_bin, of_bin, ob_neg, of_neg, ob_not, of_not, ob_bop, of_bop, ob_ite, of_ite, ob_cmp, of_cmp, ob_chain, of_chain, ob_tup, of_tup, ob_lst, of_lst, ob_idx, of_idx, ob_slc, of_slc, ob_call, of_call, ob_callk, of_callk, ob_new, of_new, ob_mcall, of_mcall, ob_fmt, of_fmt, ob_cat, of_cat, ob_blt, of_blt, ob_isi, of_isi, ob_mth, of_mth, ob_comp, of_comp, ob_var, of_var, obV_ol, obV_sh, obV_f, ofV_ol, ofV_sh, ofV_f, toUR_ok, g_0, g_0n, g_s, y_non, y_bl, y_int, y_str, varR_s, y_var, y_glo, gloR_int, gloR_str, y_bin, negR_i, y_neg, y_not, y_bop, ifP_t, ifP_f, y_and1, y_and2, bopR_tt, bopR_ff, bopR_tf, bopR_ft, y_ite, y_cmp, y_chain, y_tup, y_lst, y_idx, y_slc, y_o0, y_o1, intP_i, y_nil, y_cons, y_qnil, y_qcons, callR_ok, callR_exc, ubR_s, ub_of, ucR_s, uc_of, uvR_s, ui_of, ul_of, ul_2, y_blt1, y_blt2, y_isi, strP_s, y_mt0, y_mt1, olV_ol, ow_var, sp_v, y_ml, y_comp, compT_1, compT_2, uw_nil, uw_cons, y_c0, y_c1, y_val, rngU_1, rngU_2, y_rng, y_enm, z_set, z_sets, ut_1, ut_2, ut_3, parP_2, parP_3, z_par, z_aug, aug_R, augR_l, augR_i, z_expr, retV_s, z_retv, z_ret, retE_u, z_retn, z_if, forT_1, forT_2, z_for, z_whl, whlT_u, z_raise, z_tryr, uc_next, uc_ret, uc_exc, z_pass, z_brk, z_cont, z_nil, z_one, z_cons, retF_n, retF_r, retF_x, vif_of, PR.req_true, PS.req_true, PR.bind_ok, PR.bind_exc, PR.opt_some, PR.req_of, PR.at_ok, PR.at_exc, PS.opt_some, PS.req_of, PS.seq_next, PS.seq_ret, PS.seq_brk, PS.seq_cont, PS.seq_exc, noExc_ok, quiet, quiets, quietI, Mt.ofList, Bool.and_true, Bool.true_and, Bool.and_self, Bool.false_and, Bool.and_false, Bool.not_true, Bool.not_false, List.set_cons_zero, List.set_cons_succ, List.map_cons, List.map_nil, List.cons_append, List.nil_append, List.append_nil, List.length_cons, List.length_nil, Option.map_some, Option.bind_some, Nat.reduceAdd, Nat.reduceSub, Nat.zero_add, decide_true, decide_false, eq_self, toU_sh, toU_ol, v_addI, v_addS, v_addT, v_addL, v_subI, v_mulI, v_mulL, v_mulT, v_fdiv, v_mod, v_pow, vc_lt, vc_le, vc_gt, vc_ge, vc_eq, vc_ne, vc_in, vc_nin, vc_isN, vc_isnN, vc_isB, ve_I, ve_S, ve_B, vi_S, vx_S, vx_T, vx_L, vs_S, vs_T, vs_L, vb_lenS, vb_lenT, vb_lenL, vb_lenR, vb_abs, vb_max, vb_min, vb_intI, vb_intB, vb_intS, vb_intH, vb_listT, vb_listL, vb_tupT, vb_tupL, vb_all, vb_any, vm_strip, vm_lower, vm_upper, vm_split, vm_par, vm_joinL, vm_joinT, vm_find, vm_count, vl_app, vl_pop, va_addI, va_subI, va_addS, vt_bl, vt_int, vt_str, vt_tup, vt_lst, vt_non, uwk_t, uwk_l, uwk_s, uStrs_map, uBls_map, dUx_int, dUx_str, cC, gC, yc, fmz, muC, qmC, List.isEmpty_nil, callR_draw, bind_draw, at_draw, retF_draw, toUR_draw, seq_draw, noExc_draw, all_draw, all_ret, all_ok, all_next, f0, s0_0, vis_s, e, uBls_map, all_id, List.length_map]
theorem f0_no {n k : Nat} {u : U} (h : pl u = true) (hs : tS u = false) : rn (n + 1) 0 [.sh u] k = .ret (.ok (.sh (.bl false)) [] k) := by
  rw [r0]
  simp (disch := first | with_unfolding_all exact @id (_ = _) rfl | omega | (apply And.intro; (first | omega | simp); (first | omega | (apply And.intro; omega; with_unfolding_all exact @id (_ = _) rfl)))) only [ob_non, of_non, ob_bl, of_bl, ob_int, of_int, ob_str, of_str, ob_glo, of_glo, ob_bin, of_bin, ob_neg, of_neg, ob_not, of_not, ob_bop, of_bop, ob_ite, of_ite, ob_cmp, of_cmp, ob_chain, of_chain, ob_tup, of_tup, ob_lst, of_lst, ob_idx, of_idx, ob_slc, of_slc, ob_call, of_call, ob_callk, of_callk, ob_new, of_new, ob_mcall, of_mcall, ob_fmt, of_fmt, ob_cat, of_cat, ob_blt, of_blt, ob_isi, of_isi, ob_mth, of_mth, ob_comp, of_comp, ob_var, of_var, obV_ol, obV_sh, obV_f, ofV_ol, ofV_sh, ofV_f, toUR_ok, g_0, g_0n, g_s, y_non, y_bl, y_int, y_str, varR_s, y_var, y_glo, gloR_int, gloR_str, y_bin, negR_i, y_neg, y_not, y_bop, ifP_t, ifP_f, y_and1, y_and2, bopR_tt, bopR_ff, bopR_tf, bopR_ft, y_ite, y_cmp, y_chain, y_tup, y_lst, y_idx, y_slc, y_o0, y_o1, intP_i, y_nil, y_cons, y_qnil, y_qcons, callR_ok, callR_exc, ubR_s, ub_of, ucR_s, uc_of, uvR_s, ui_of, ul_of, ul_2, y_blt1, y_blt2, y_isi, strP_s, y_mt0, y_mt1, olV_ol, ow_var, sp_v, y_ml, y_comp, compT_1, compT_2, uw_nil, uw_cons, y_c0, y_c1, y_val, rngU_1, rngU_2, y_rng, y_enm, z_set, z_sets, ut_1, ut_2, ut_3, parP_2, parP_3, z_par, z_aug, aug_R, augR_l, augR_i, z_expr, retV_s, z_retv, z_ret, retE_u, z_retn, z_if, forT_1, forT_2, z_for, z_whl, whlT_u, z_raise, z_tryr, uc_next, uc_ret, uc_exc, z_pass, z_brk, z_cont, z_nil, z_one, z_cons, retF_n, retF_r, retF_x, vif_of, PR.req_true, PS.req_true, PR.bind_ok, PR.bind_exc, PR.opt_some, PR.req_of, PR.at_ok, PR.at_exc, PS.opt_some, PS.req_of, PS.seq_next, PS.seq_ret, PS.seq_brk, PS.seq_cont, PS.seq_exc, noExc_ok, quiet, quiets, quietI, Mt.ofList, Bool.and_true, Bool.true_and, Bool.and_self, Bool.false_and, Bool.and_false, Bool.not_true, Bool.not_false, List.set_cons_zero, List.set_cons_succ, List.map_cons, List.map_nil, List.cons_append, List.nil_append, List.append_nil, List.length_cons, List.length_nil, Option.map_some, Option.bind_some, Nat.reduceAdd, Nat.reduceSub, Nat.zero_add, decide_true, decide_false, eq_self, toU_sh, toU_ol, v_addI, v_addS, v_addT, v_addL, v_subI, v_mulI, v_mulL, v_mulT, v_fdiv, v_mod, v_pow, vc_lt, vc_le, vc_gt, vc_ge, vc_eq, vc_ne, vc_in, vc_nin, vc_isN, vc_isnN, vc_isB, ve_I, ve_S, ve_B, vi_S, vx_S, vx_T, vx_L, vs_S, vs_T, vs_L, vb_lenS, vb_lenT, vb_lenL, vb_lenR, vb_abs, vb_max, vb_min, vb_intI, vb_intB, vb_intS, vb_intH, vb_listT, vb_listL, vb_tupT, vb_tupL, vb_all, vb_any, vm_strip, vm_lower, vm_upper, vm_split, vm_par, vm_joinL, vm_joinT, vm_find, vm_count, vl_app, vl_pop, va_addI, va_subI, va_addS, vt_bl, vt_int, vt_str, vt_tup, vt_lst, vt_non, uwk_t, uwk_l, uwk_s, uStrs_map, uBls_map, dUx_int, dUx_str, cC, gC, yc, fmz, muC, qmC, List.isEmpty_nil, callR_draw, bind_draw, at_draw, retF_draw, toUR_draw, seq_draw, noExc_draw, all_draw, all_ret, all_ok, all_next, f0, s0_0, pl_str h, hs]
theorem k0_len : k0.length = 94 := rfl
theorem f5_run {n k : Nat} : rn (n + 1) 5 [] k = .ret (.ok (.sh (.str k0)) [] k) := by
  have hL : LIM = 16777216 := rfl
  rw [r5]
  simp (disch := first | with_unfolding_all exact @id (_ = _) rfl | omega | (apply And.intro; (first | omega | simp); (first | omega | (apply And.intro; omega; with_unfolding_all exact @id (_ = _) rfl)))) only [ob_non, of_non, ob_bl, of_bl, ob_int, of_int, ob_str, of_str, ob_glo, of_glo, ob_bin, of_bin, ob_neg, of_neg, ob_not, of_not, ob_bop, of_bop, ob_ite, of_ite, ob_cmp, of_cmp, ob_chain, of_chain, ob_tup, of_tup, ob_lst, of_lst, ob_idx, of_idx, ob_slc, of_slc, ob_call, of_call, ob_callk, of_callk, ob_new, of_new, ob_mcall, of_mcall, ob_fmt, of_fmt, ob_cat, of_cat, ob_blt, of_blt, ob_isi, of_isi, ob_mth, of_mth, ob_comp, of_comp, ob_var, of_var, obV_ol, obV_sh, obV_f, ofV_ol, ofV_sh, ofV_f, toUR_ok, g_0, g_0n, g_s, y_non, y_bl, y_int, y_str, varR_s, y_var, y_glo, gloR_int, gloR_str, y_bin, negR_i, y_neg, y_not, y_bop, ifP_t, ifP_f, y_and1, y_and2, bopR_tt, bopR_ff, bopR_tf, bopR_ft, y_ite, y_cmp, y_chain, y_tup, y_lst, y_idx, y_slc, y_o0, y_o1, intP_i, y_nil, y_cons, y_qnil, y_qcons, callR_ok, callR_exc, ubR_s, ub_of, ucR_s, uc_of, uvR_s, ui_of, ul_of, ul_2, y_blt1, y_blt2, y_isi, strP_s, y_mt0, y_mt1, olV_ol, ow_var, sp_v, y_ml, y_comp, compT_1, compT_2, uw_nil, uw_cons, y_c0, y_c1, y_val, rngU_1, rngU_2, y_rng, y_enm, z_set, z_sets, ut_1, ut_2, ut_3, parP_2, parP_3, z_par, z_aug, aug_R, augR_l, augR_i, z_expr, retV_s, z_retv, z_ret, retE_u, z_retn, z_if, forT_1, forT_2, z_for, z_whl, whlT_u, z_raise, z_tryr, uc_next, uc_ret, uc_exc, z_pass, z_brk, z_cont, z_nil, z_one, z_cons, retF_n, retF_r, retF_x, vif_of, PR.req_true, PS.req_true, PR.bind_ok, PR.bind_exc, PR.opt_some, PR.req_of, PR.at_ok, PR.at_exc, PS.opt_some, PS.req_of, PS.seq_next, PS.seq_ret, PS.seq_brk, PS.seq_cont, PS.seq_exc, noExc_ok, quiet, quiets, quietI, Mt.ofList, Bool.and_true, Bool.true_and, Bool.and_self, Bool.false_and, Bool.and_false, Bool.not_true, Bool.not_false, List.set_cons_zero, List.set_cons_succ, List.map_cons, List.map_nil, List.cons_append, List.nil_append, List.append_nil, List.length_cons, List.length_nil, Option.map_some, Option.bind_some, Nat.reduceAdd, Nat.reduceSub, Nat.zero_add, decide_true, decide_false, eq_self, toU_sh, toU_ol, v_addI, v_addS, v_addT, v_addL, v_subI, v_mulI, v_mulL, v_mulT, v_fdiv, v_mod, v_pow, vc_lt, vc_le, vc_gt, vc_ge, vc_eq, vc_ne, vc_in, vc_nin, vc_isN, vc_isnN, vc_isB, ve_I, ve_S, ve_B, vi_S, vx_S, vx_T, vx_L, vs_S, vs_T, vs_L, vb_lenS, vb_lenT, vb_lenL, vb_lenR, vb_abs, vb_max, vb_min, vb_intI, vb_intB, vb_intS, vb_intH, vb_listT, vb_listL, vb_tupT, vb_tupL, vb_all, vb_any, vm_strip, vm_lower, vm_upper, vm_split, vm_par, vm_joinL, vm_joinT, vm_find, vm_count, vl_app, vl_pop, va_addI, va_subI, va_addS, vt_bl, vt_int, vt_str, vt_tup, vt_lst, vt_non, uwk_t, uwk_l, uwk_s, uStrs_map, uBls_map, dUx_int, dUx_str, cC, gC, yc, fmz, muC, qmC, List.isEmpty_nil, callR_draw, bind_draw, at_draw, retF_draw, toUR_draw, seq_draw, noExc_draw, all_draw, all_ret, all_ok, all_next, f5, s5_0]
  rfl

def kx : Tx := [48, 49, 50, 51, 52, 53, 54, 55, 56, 57, 97, 98, 99, 100, 101, 102]
def k22 : Tx := [48, 49, 50, 51, 52, 53, 54, 55, 56, 57, 97, 98, 99, 100, 101, 102, 65, 66, 67, 68, 69, 70]
def hx (c : Nat) : Bool := decide (c ∈ k22)
def low (s : Tx) : Tx := s.map PyProof.Rows.lo1
def inX (c : Nat) : Bool := decide (c ∈ kx)
theorem hx_same : ∀ c, c < 128 → inX (PyProof.Rows.lo1 c) = hx c := by
  have : (List.range 128).all (fun c => inX (PyProof.Rows.lo1 c) == hx c) = true := by decide +kernel
  intro c hc
  exact eq_of_beq (List.all_eq_true.mp this c (List.mem_range.mpr hc))
theorem hx_fact : ∀ c, hx c = true → hexB (PyProof.Rows.lo1 c) = true ∧ L2.Hx.hv (PyProof.Rows.lo1 c) < 16 ∧ (PySem.Builtin.Str.occurrences (SX.S kx) (SX.S [PyProof.Rows.lo1 c]) 0 (SX.S kx).length 1).head? = some (L2.Hx.hv (PyProof.Rows.lo1 c)) := by
  have : k22.all (fun c => hexB (PyProof.Rows.lo1 c) && decide (L2.Hx.hv (PyProof.Rows.lo1 c) < 16) && ((PySem.Builtin.Str.occurrences (SX.S kx) (SX.S [PyProof.Rows.lo1 c]) 0 (SX.S kx).length 1).head? == some (L2.Hx.hv (PyProof.Rows.lo1 c)))) = true := by decide +kernel
  intro c hc
  have h := List.all_eq_true.mp this c (of_decide_eq_true hc)
  rw [Bool.and_eq_true, Bool.and_eq_true] at h
  exact ⟨h.1.1, of_decide_eq_true h.1.2, eq_of_beq h.2⟩
theorem spl_at {c : Nat} {b : Tx} : ∀ {a acc : Tx}, c ∉ a → TL.spl [c] 0 acc (a ++ c :: b) = (acc ++ a) :: TL.spl [c] 0 [] b
  | [], acc, _ => by
    have hp : TL.pre [c] (c :: b) = true := by rw [pre_one]; exact decide_eq_true rfl
    show TL.spl [c] 0 acc (c :: b) = _
    rw [TL.spl_hit hp, List.append_nil]
    rfl
  | x :: a, acc, h => by
    have hx : x ≠ c := fun e => h (e ▸ List.mem_cons_self)
    have hp : TL.pre [c] (x :: (a ++ c :: b)) = false := by rw [pre_one]; exact decide_eq_false hx
    show TL.spl [c] 0 acc (x :: (a ++ c :: b)) = _
    rw [TL.spl_miss hp, spl_at fun m => h (List.mem_cons_of_mem _ m)]
    simp
theorem spl_no {c : Nat} : ∀ {s acc : Tx}, c ∉ s → TL.spl [c] 0 acc s = [acc ++ s]
  | [], acc, _ => by rw [TL.spl_nil, List.append_nil]
  | x :: s, acc, h => by
    have hx : x ≠ c := fun e => h (e ▸ List.mem_cons_self)
    have hp : TL.pre [c] (x :: s) = false := by rw [pre_one]; exact decide_eq_false hx
    rw [TL.spl_miss hp, spl_no fun m => h (List.mem_cons_of_mem _ m)]
    simp
theorem word_of (s : Tx) : ∃ w p1 p2 ws, parU s [59] = .tup [.str w, .str p1, .str p2] ∧ TL.spl [59] 0 [] s = w :: ws ∧ (∀ c, c ∈ w → c ∈ s) ∧ w.length ≤ s.length := by
  by_cases h : 59 ∈ s
  · obtain ⟨a, b, rfl, hn⟩ := split_one h
    exact ⟨a, _, _, _, parU_at hn, spl_at hn, fun c hc => List.mem_append_left _ hc, by simp⟩
  · exact ⟨s, _, _, _, parU_no h, spl_no h, fun c hc => hc, Nat.le_refl _⟩
def chk : U := .str [99, 104, 117, 110, 107]
def bad : U := .tup [.str [66, 97, 100, 76, 105, 110, 101], chk]
def tld (i : Int) : U := .tup [.str [116, 111, 108, 100], .int i]
theorem hv59 (x : O) : vif (([59] : Tx) ≠ []) x = some x := vif_of _ (by decide)
theorem digits1 {n k : Nat} {d s : Tx} : pComp (compT (C n) (.cmp .isin (.var 2) (.glo 1)) [2] false .nil [2]) (d.map fun c => .str [c]) [some (.sh (.str s)), some (.sh (.str d)), none] k = .ok ((d.map inX).map .bl) [some (.sh (.str s)), some (.sh (.str d)), none] k := by
  have e := comp_map (f := compT (C n) (.cmp .isin (.var 2) (.glo 1)) [2] false .nil [2]) (π := [some (.sh (.str s)), some (.sh (.str d)), none]) (k := k) (fun u => some (.bl (sgn inX u))) (xs := d.map fun c => .str [c]) (by
    intro x hx
    obtain ⟨c, _, rfl⟩ := List.mem_map.mp hx
    have h : subTx kx [c] = sgn inX (.str [c]) := sub_one kx c
    have c1 : cc 1 = some (.str kx) := rfl
    simp (disch := first | with_unfolding_all exact @id (_ = _) rfl | omega | (apply And.intro; (first | omega | simp); (first | omega | (apply And.intro; omega; with_unfolding_all exact @id (_ = _) rfl)))) only [ob_non, of_non, ob_bl, of_bl, ob_int, of_int, ob_str, of_str, ob_glo, of_glo, ob_bin, of_bin, ob_neg, of_neg, ob_not, of_not, ob_bop, of_bop, ob_ite, of_ite, ob_cmp, of_cmp, ob_chain, of_chain, ob_tup, of_tup, ob_lst, of_lst, ob_idx, of_idx, ob_slc, of_slc, ob_call, of_call, ob_callk, of_callk, ob_new, of_new, ob_mcall, of_mcall, ob_fmt, of_fmt, ob_cat, of_cat, ob_blt, of_blt, ob_isi, of_isi, ob_mth, of_mth, ob_comp, of_comp, ob_var, of_var, obV_ol, obV_sh, obV_f, ofV_ol, ofV_sh, ofV_f, toUR_ok, g_0, g_0n, g_s, y_non, y_bl, y_int, y_str, varR_s, y_var, y_glo, gloR_int, gloR_str, y_bin, negR_i, y_neg, y_not, y_bop, ifP_t, ifP_f, y_and1, y_and2, bopR_tt, bopR_ff, bopR_tf, bopR_ft, y_ite, y_cmp, y_chain, y_tup, y_lst, y_idx, y_slc, y_o0, y_o1, intP_i, y_nil, y_cons, y_qnil, y_qcons, callR_ok, callR_exc, ubR_s, ub_of, ucR_s, uc_of, uvR_s, ui_of, ul_of, ul_2, y_blt1, y_blt2, y_isi, strP_s, y_mt0, y_mt1, olV_ol, ow_var, sp_v, y_ml, y_comp, compT_1, compT_2, uw_nil, uw_cons, y_c0, y_c1, y_val, rngU_1, rngU_2, y_rng, y_enm, z_set, z_sets, ut_1, ut_2, ut_3, parP_2, parP_3, z_par, z_aug, aug_R, augR_l, augR_i, z_expr, retV_s, z_retv, z_ret, retE_u, z_retn, z_if, forT_1, forT_2, z_for, z_whl, whlT_u, z_raise, z_tryr, uc_next, uc_ret, uc_exc, z_pass, z_brk, z_cont, z_nil, z_one, z_cons, retF_n, retF_r, retF_x, vif_of, PR.req_true, PS.req_true, PR.bind_ok, PR.bind_exc, PR.opt_some, PR.req_of, PR.at_ok, PR.at_exc, PS.opt_some, PS.req_of, PS.seq_next, PS.seq_ret, PS.seq_brk, PS.seq_cont, PS.seq_exc, noExc_ok, quiet, quiets, quietI, Mt.ofList, Bool.and_true, Bool.true_and, Bool.and_self, Bool.false_and, Bool.and_false, Bool.not_true, Bool.not_false, List.set_cons_zero, List.set_cons_succ, List.map_cons, List.map_nil, List.cons_append, List.nil_append, List.append_nil, List.length_cons, List.length_nil, Option.map_some, Option.bind_some, Nat.reduceAdd, Nat.reduceSub, Nat.zero_add, decide_true, decide_false, eq_self, toU_sh, toU_ol, v_addI, v_addS, v_addT, v_addL, v_subI, v_mulI, v_mulL, v_mulT, v_fdiv, v_mod, v_pow, vc_lt, vc_le, vc_gt, vc_ge, vc_eq, vc_ne, vc_in, vc_nin, vc_isN, vc_isnN, vc_isB, ve_I, ve_S, ve_B, vi_S, vx_S, vx_T, vx_L, vs_S, vs_T, vs_L, vb_lenS, vb_lenT, vb_lenL, vb_lenR, vb_abs, vb_max, vb_min, vb_intI, vb_intB, vb_intS, vb_intH, vb_listT, vb_listL, vb_tupT, vb_tupL, vb_all, vb_any, vm_strip, vm_lower, vm_upper, vm_split, vm_par, vm_joinL, vm_joinT, vm_find, vm_count, vl_app, vl_pop, va_addI, va_subI, va_addS, vt_bl, vt_int, vt_str, vt_tup, vt_lst, vt_non, uwk_t, uwk_l, uwk_s, uStrs_map, uBls_map, dUx_int, dUx_str, cC, gC, yc, fmz, muC, qmC, List.isEmpty_nil, callR_draw, bind_draw, at_draw, retF_draw, toUR_draw, seq_draw, noExc_draw, all_draw, all_ret, all_ok, all_next, c1, h])
  rw [all_sg] at e
  exact e
theorem low_hx {w : Tx} (h : ∀ c, c ∈ w → c < 128) : (low w).all inX = w.all hx := by
  induction w with
  | nil => rfl
  | cons c w ih =>
    show (inX (PyProof.Rows.lo1 c) && (low w).all inX) = (hx c && w.all hx)
    rw [hx_same c (h c List.mem_cons_self), ih fun d hd => h d (List.mem_cons_of_mem _ hd)]
theorem low_len (w : Tx) : (low w).length = w.length := List.length_map ..
theorem low_hexB {w : Tx} (h : w.all hx = true) : (low w).all hexB = true := by
  refine List.all_eq_true.mpr fun c hc => ?_
  obtain ⟨d, hd, rfl⟩ := List.mem_map.mp hc
  exact (hx_fact d (List.all_eq_true.mp h d hd)).1
/-- what reading a size gives, on the word -/
inductive Rd (s w : Tx) : Prop
  | sign (h : s.all inC = false)
  | len (h : s.all inC = true) (h2 : ¬ (1 ≤ w.length ∧ w.length ≤ 6))
  | dig (h : s.all inC = true) (h2 : 1 ≤ w.length ∧ w.length ≤ 6) (h3 : w.all hx = false)
  | good (h : s.all inC = true) (h2 : 1 ≤ w.length ∧ w.length ≤ 6) (h3 : w.all hx = true)
theorem rd_any (s w : Tx) : Rd s w := by
  cases h : s.all inC with
  | false => exact .sign h
  | true =>
    by_cases h2 : 1 ≤ w.length ∧ w.length ≤ 6
    · cases h3 : w.all hx with
      | false => exact .dig h h2 h3
      | true => exact .good h h2 h3
    · exact .len h h2
section
variable {n k : Nat} {s w p1 p2 : Tx} {ws : List Tx}
theorem f1_sign (hs : ok s) (h : s.all inC = false) : rn (n + 2) 1 [.sh (.str s)] k = .ret (.exc (.exn 0 [chk]) [] k) := by
  have h0 := fun k => f0_str (n := n) (k := k) hs.1
  have ux' : uexOk [.str [99, 104, 117, 110, 107]] = true := rfl
  rw [r1]
  simp (disch := first | with_unfolding_all exact @id (_ = _) rfl | omega | (apply And.intro; (first | omega | simp); (first | omega | (apply And.intro; omega; with_unfolding_all exact @id (_ = _) rfl)))) only [ob_non, of_non, ob_bl, of_bl, ob_int, of_int, ob_str, of_str, ob_glo, of_glo, ob_bin, of_bin, ob_neg, of_neg, ob_not, of_not, ob_bop, of_bop, ob_ite, of_ite, ob_cmp, of_cmp, ob_chain, of_chain, ob_tup, of_tup, ob_lst, of_lst, ob_idx, of_idx, ob_slc, of_slc, ob_call, of_call, ob_callk, of_callk, ob_new, of_new, ob_mcall, of_mcall, ob_fmt, of_fmt, ob_cat, of_cat, ob_blt, of_blt, ob_isi, of_isi, ob_mth, of_mth, ob_comp, of_comp, ob_var, of_var, obV_ol, obV_sh, obV_f, ofV_ol, ofV_sh, ofV_f, toUR_ok, g_0, g_0n, g_s, y_non, y_bl, y_int, y_str, varR_s, y_var, y_glo, gloR_int, gloR_str, y_bin, negR_i, y_neg, y_not, y_bop, ifP_t, ifP_f, y_and1, y_and2, bopR_tt, bopR_ff, bopR_tf, bopR_ft, y_ite, y_cmp, y_chain, y_tup, y_lst, y_idx, y_slc, y_o0, y_o1, intP_i, y_nil, y_cons, y_qnil, y_qcons, callR_ok, callR_exc, ubR_s, ub_of, ucR_s, uc_of, uvR_s, ui_of, ul_of, ul_2, y_blt1, y_blt2, y_isi, strP_s, y_mt0, y_mt1, olV_ol, ow_var, sp_v, y_ml, y_comp, compT_1, compT_2, uw_nil, uw_cons, y_c0, y_c1, y_val, rngU_1, rngU_2, y_rng, y_enm, z_set, z_sets, ut_1, ut_2, ut_3, parP_2, parP_3, z_par, z_aug, aug_R, augR_l, augR_i, z_expr, retV_s, z_retv, z_ret, retE_u, z_retn, z_if, forT_1, forT_2, z_for, z_whl, whlT_u, z_raise, z_tryr, uc_next, uc_ret, uc_exc, z_pass, z_brk, z_cont, z_nil, z_one, z_cons, retF_n, retF_r, retF_x, vif_of, PR.req_true, PS.req_true, PR.bind_ok, PR.bind_exc, PR.opt_some, PR.req_of, PR.at_ok, PR.at_exc, PS.opt_some, PS.req_of, PS.seq_next, PS.seq_ret, PS.seq_brk, PS.seq_cont, PS.seq_exc, noExc_ok, quiet, quiets, quietI, Mt.ofList, Bool.and_true, Bool.true_and, Bool.and_self, Bool.false_and, Bool.and_false, Bool.not_true, Bool.not_false, List.set_cons_zero, List.set_cons_succ, List.map_cons, List.map_nil, List.cons_append, List.nil_append, List.append_nil, List.length_cons, List.length_nil, Option.map_some, Option.bind_some, Nat.reduceAdd, Nat.reduceSub, Nat.zero_add, decide_true, decide_false, eq_self, toU_sh, toU_ol, v_addI, v_addS, v_addT, v_addL, v_subI, v_mulI, v_mulL, v_mulT, v_fdiv, v_mod, v_pow, vc_lt, vc_le, vc_gt, vc_ge, vc_eq, vc_ne, vc_in, vc_nin, vc_isN, vc_isnN, vc_isB, ve_I, ve_S, ve_B, vi_S, vx_S, vx_T, vx_L, vs_S, vs_T, vs_L, vb_lenS, vb_lenT, vb_lenL, vb_lenR, vb_abs, vb_max, vb_min, vb_intI, vb_intB, vb_intS, vb_intH, vb_listT, vb_listL, vb_tupT, vb_tupL, vb_all, vb_any, vm_strip, vm_lower, vm_upper, vm_split, vm_par, vm_joinL, vm_joinT, vm_find, vm_count, vl_app, vl_pop, va_addI, va_subI, va_addS, vt_bl, vt_int, vt_str, vt_tup, vt_lst, vt_non, uwk_t, uwk_l, uwk_s, uStrs_map, uBls_map, dUx_int, dUx_str, cC, gC, yc, fmz, muC, qmC, List.isEmpty_nil, callR_draw, bind_draw, at_draw, retF_draw, toUR_draw, seq_draw, noExc_draw, all_draw, all_ret, all_ok, all_next, f1, s1_0, h0, h, ux']
  rfl
theorem f1_len (hs : ok s) (hp : parU s [59] = .tup [.str w, .str p1, .str p2]) (hw : w.length ≤ s.length) (h : s.all inC = true) (h2 : ¬ (1 ≤ w.length ∧ w.length ≤ 6)) : rn (n + 2) 1 [.sh (.str s)] k = .ret (.exc (.exn 0 [chk]) [] k) := by
  have h0 := fun k => f0_str (n := n) (k := k) hs.1
  have ux' : uexOk [.str [99, 104, 117, 110, 107]] = true := rfl
  have i0 : atI [U.str w, U.str p1, U.str p2] 0 = some (.str w) := rfl
  have hl := hs.1
  have c2 : cc 2 = some (.int 6) := rfl
  rw [r1]
  by_cases hb : 1 ≤ w.length
  · have hb1 : (1 : Int) ≤ w.length := by omega
    have hb2 : ¬ ((w.length : Int) ≤ 6) := by omega
    simp (disch := first | with_unfolding_all exact @id (_ = _) rfl | omega | (apply And.intro; (first | omega | simp); (first | omega | (apply And.intro; omega; with_unfolding_all exact @id (_ = _) rfl)))) only [ob_non, of_non, ob_bl, of_bl, ob_int, of_int, ob_str, of_str, ob_glo, of_glo, ob_bin, of_bin, ob_neg, of_neg, ob_not, of_not, ob_bop, of_bop, ob_ite, of_ite, ob_cmp, of_cmp, ob_chain, of_chain, ob_tup, of_tup, ob_lst, of_lst, ob_idx, of_idx, ob_slc, of_slc, ob_call, of_call, ob_callk, of_callk, ob_new, of_new, ob_mcall, of_mcall, ob_fmt, of_fmt, ob_cat, of_cat, ob_blt, of_blt, ob_isi, of_isi, ob_mth, of_mth, ob_comp, of_comp, ob_var, of_var, obV_ol, obV_sh, obV_f, ofV_ol, ofV_sh, ofV_f, toUR_ok, g_0, g_0n, g_s, y_non, y_bl, y_int, y_str, varR_s, y_var, y_glo, gloR_int, gloR_str, y_bin, negR_i, y_neg, y_not, y_bop, ifP_t, ifP_f, y_and1, y_and2, bopR_tt, bopR_ff, bopR_tf, bopR_ft, y_ite, y_cmp, y_chain, y_tup, y_lst, y_idx, y_slc, y_o0, y_o1, intP_i, y_nil, y_cons, y_qnil, y_qcons, callR_ok, callR_exc, ubR_s, ub_of, ucR_s, uc_of, uvR_s, ui_of, ul_of, ul_2, y_blt1, y_blt2, y_isi, strP_s, y_mt0, y_mt1, olV_ol, ow_var, sp_v, y_ml, y_comp, compT_1, compT_2, uw_nil, uw_cons, y_c0, y_c1, y_val, rngU_1, rngU_2, y_rng, y_enm, z_set, z_sets, ut_1, ut_2, ut_3, parP_2, parP_3, z_par, z_aug, aug_R, augR_l, augR_i, z_expr, retV_s, z_retv, z_ret, retE_u, z_retn, z_if, forT_1, forT_2, z_for, z_whl, whlT_u, z_raise, z_tryr, uc_next, uc_ret, uc_exc, z_pass, z_brk, z_cont, z_nil, z_one, z_cons, retF_n, retF_r, retF_x, vif_of, PR.req_true, PS.req_true, PR.bind_ok, PR.bind_exc, PR.opt_some, PR.req_of, PR.at_ok, PR.at_exc, PS.opt_some, PS.req_of, PS.seq_next, PS.seq_ret, PS.seq_brk, PS.seq_cont, PS.seq_exc, noExc_ok, quiet, quiets, quietI, Mt.ofList, Bool.and_true, Bool.true_and, Bool.and_self, Bool.false_and, Bool.and_false, Bool.not_true, Bool.not_false, List.set_cons_zero, List.set_cons_succ, List.map_cons, List.map_nil, List.cons_append, List.nil_append, List.append_nil, List.length_cons, List.length_nil, Option.map_some, Option.bind_some, Nat.reduceAdd, Nat.reduceSub, Nat.zero_add, decide_true, decide_false, eq_self, toU_sh, toU_ol, v_addI, v_addS, v_addT, v_addL, v_subI, v_mulI, v_mulL, v_mulT, v_fdiv, v_mod, v_pow, vc_lt, vc_le, vc_gt, vc_ge, vc_eq, vc_ne, vc_in, vc_nin, vc_isN, vc_isnN, vc_isB, ve_I, ve_S, ve_B, vi_S, vx_S, vx_T, vx_L, vs_S, vs_T, vs_L, vb_lenS, vb_lenT, vb_lenL, vb_lenR, vb_abs, vb_max, vb_min, vb_intI, vb_intB, vb_intS, vb_intH, vb_listT, vb_listL, vb_tupT, vb_tupL, vb_all, vb_any, vm_strip, vm_lower, vm_upper, vm_split, vm_par, vm_joinL, vm_joinT, vm_find, vm_count, vl_app, vl_pop, va_addI, va_subI, va_addS, vt_bl, vt_int, vt_str, vt_tup, vt_lst, vt_non, uwk_t, uwk_l, uwk_s, uStrs_map, uBls_map, dUx_int, dUx_str, cC, gC, yc, fmz, muC, qmC, List.isEmpty_nil, callR_draw, bind_draw, at_draw, retF_draw, toUR_draw, seq_draw, noExc_draw, all_draw, all_ret, all_ok, all_next, f1, s1_0, s1_1, s1_2, h0, h, ux', hv59, hp, i0, c2, List.length_map, hb1, hb2]
    rfl
  · have hb1 : ¬ ((1 : Int) ≤ w.length) := by omega
    simp (disch := first | with_unfolding_all exact @id (_ = _) rfl | omega | (apply And.intro; (first | omega | simp); (first | omega | (apply And.intro; omega; with_unfolding_all exact @id (_ = _) rfl)))) only [ob_non, of_non, ob_bl, of_bl, ob_int, of_int, ob_str, of_str, ob_glo, of_glo, ob_bin, of_bin, ob_neg, of_neg, ob_not, of_not, ob_bop, of_bop, ob_ite, of_ite, ob_cmp, of_cmp, ob_chain, of_chain, ob_tup, of_tup, ob_lst, of_lst, ob_idx, of_idx, ob_slc, of_slc, ob_call, of_call, ob_callk, of_callk, ob_new, of_new, ob_mcall, of_mcall, ob_fmt, of_fmt, ob_cat, of_cat, ob_blt, of_blt, ob_isi, of_isi, ob_mth, of_mth, ob_comp, of_comp, ob_var, of_var, obV_ol, obV_sh, obV_f, ofV_ol, ofV_sh, ofV_f, toUR_ok, g_0, g_0n, g_s, y_non, y_bl, y_int, y_str, varR_s, y_var, y_glo, gloR_int, gloR_str, y_bin, negR_i, y_neg, y_not, y_bop, ifP_t, ifP_f, y_and1, y_and2, bopR_tt, bopR_ff, bopR_tf, bopR_ft, y_ite, y_cmp, y_chain, y_tup, y_lst, y_idx, y_slc, y_o0, y_o1, intP_i, y_nil, y_cons, y_qnil, y_qcons, callR_ok, callR_exc, ubR_s, ub_of, ucR_s, uc_of, uvR_s, ui_of, ul_of, ul_2, y_blt1, y_blt2, y_isi, strP_s, y_mt0, y_mt1, olV_ol, ow_var, sp_v, y_ml, y_comp, compT_1, compT_2, uw_nil, uw_cons, y_c0, y_c1, y_val, rngU_1, rngU_2, y_rng, y_enm, z_set, z_sets, ut_1, ut_2, ut_3, parP_2, parP_3, z_par, z_aug, aug_R, augR_l, augR_i, z_expr, retV_s, z_retv, z_ret, retE_u, z_retn, z_if, forT_1, forT_2, z_for, z_whl, whlT_u, z_raise, z_tryr, uc_next, uc_ret, uc_exc, z_pass, z_brk, z_cont, z_nil, z_one, z_cons, retF_n, retF_r, retF_x, vif_of, PR.req_true, PS.req_true, PR.bind_ok, PR.bind_exc, PR.opt_some, PR.req_of, PR.at_ok, PR.at_exc, PS.opt_some, PS.req_of, PS.seq_next, PS.seq_ret, PS.seq_brk, PS.seq_cont, PS.seq_exc, noExc_ok, quiet, quiets, quietI, Mt.ofList, Bool.and_true, Bool.true_and, Bool.and_self, Bool.false_and, Bool.and_false, Bool.not_true, Bool.not_false, List.set_cons_zero, List.set_cons_succ, List.map_cons, List.map_nil, List.cons_append, List.nil_append, List.append_nil, List.length_cons, List.length_nil, Option.map_some, Option.bind_some, Nat.reduceAdd, Nat.reduceSub, Nat.zero_add, decide_true, decide_false, eq_self, toU_sh, toU_ol, v_addI, v_addS, v_addT, v_addL, v_subI, v_mulI, v_mulL, v_mulT, v_fdiv, v_mod, v_pow, vc_lt, vc_le, vc_gt, vc_ge, vc_eq, vc_ne, vc_in, vc_nin, vc_isN, vc_isnN, vc_isB, ve_I, ve_S, ve_B, vi_S, vx_S, vx_T, vx_L, vs_S, vs_T, vs_L, vb_lenS, vb_lenT, vb_lenL, vb_lenR, vb_abs, vb_max, vb_min, vb_intI, vb_intB, vb_intS, vb_intH, vb_listT, vb_listL, vb_tupT, vb_tupL, vb_all, vb_any, vm_strip, vm_lower, vm_upper, vm_split, vm_par, vm_joinL, vm_joinT, vm_find, vm_count, vl_app, vl_pop, va_addI, va_subI, va_addS, vt_bl, vt_int, vt_str, vt_tup, vt_lst, vt_non, uwk_t, uwk_l, uwk_s, uStrs_map, uBls_map, dUx_int, dUx_str, cC, gC, yc, fmz, muC, qmC, List.isEmpty_nil, callR_draw, bind_draw, at_draw, retF_draw, toUR_draw, seq_draw, noExc_draw, all_draw, all_ret, all_ok, all_next, f1, s1_0, s1_1, s1_2, h0, h, ux', hv59, hp, i0, c2, List.length_map, hb1]
    rfl
theorem f1_dig (hs : ok s) (hp : parU s [59] = .tup [.str w, .str p1, .str p2]) (hw : w.length ≤ s.length) (hm : ∀ c, c ∈ w → c ∈ s) (h : s.all inC = true) (h2 : 1 ≤ w.length ∧ w.length ≤ 6) (h3 : w.all hx = false) : rn (n + 2) 1 [.sh (.str s)] k = .ret (.exc (.exn 0 [chk]) [] k) := by
  have h0 := fun k => f0_str (n := n) (k := k) hs.1
  have ux' : uexOk [.str [99, 104, 117, 110, 107]] = true := rfl
  have i0 : atI [U.str w, U.str p1, U.str p2] 0 = some (.str w) := rfl
  have hl := hs.1
  have hL : LIM = 16777216 := rfl
  have hF : FUEL = 67108864 := by decide
  have c2 : cc 2 = some (.int 6) := rfl
  have hb1 : (1 : Int) ≤ w.length := by omega
  have hb2 : (w.length : Int) ≤ 6 := by omega
  have hd : (w.map PyProof.Rows.lo1).all inX = false := by rw [← h3]; exact low_hx fun c hc => hs.2 c (hm c hc)
  rw [r1]
  simp (disch := first | with_unfolding_all exact @id (_ = _) rfl | omega | (apply And.intro; (first | omega | simp); (first | omega | (apply And.intro; omega; with_unfolding_all exact @id (_ = _) rfl)))) only [ob_non, of_non, ob_bl, of_bl, ob_int, of_int, ob_str, of_str, ob_glo, of_glo, ob_bin, of_bin, ob_neg, of_neg, ob_not, of_not, ob_bop, of_bop, ob_ite, of_ite, ob_cmp, of_cmp, ob_chain, of_chain, ob_tup, of_tup, ob_lst, of_lst, ob_idx, of_idx, ob_slc, of_slc, ob_call, of_call, ob_callk, of_callk, ob_new, of_new, ob_mcall, of_mcall, ob_fmt, of_fmt, ob_cat, of_cat, ob_blt, of_blt, ob_isi, of_isi, ob_mth, of_mth, ob_comp, of_comp, ob_var, of_var, obV_ol, obV_sh, obV_f, ofV_ol, ofV_sh, ofV_f, toUR_ok, g_0, g_0n, g_s, y_non, y_bl, y_int, y_str, varR_s, y_var, y_glo, gloR_int, gloR_str, y_bin, negR_i, y_neg, y_not, y_bop, ifP_t, ifP_f, y_and1, y_and2, bopR_tt, bopR_ff, bopR_tf, bopR_ft, y_ite, y_cmp, y_chain, y_tup, y_lst, y_idx, y_slc, y_o0, y_o1, intP_i, y_nil, y_cons, y_qnil, y_qcons, callR_ok, callR_exc, ubR_s, ub_of, ucR_s, uc_of, uvR_s, ui_of, ul_of, ul_2, y_blt1, y_blt2, y_isi, strP_s, y_mt0, y_mt1, olV_ol, ow_var, sp_v, y_ml, y_comp, compT_1, compT_2, uw_nil, uw_cons, y_c0, y_c1, y_val, rngU_1, rngU_2, y_rng, y_enm, z_set, z_sets, ut_1, ut_2, ut_3, parP_2, parP_3, z_par, z_aug, aug_R, augR_l, augR_i, z_expr, retV_s, z_retv, z_ret, retE_u, z_retn, z_if, forT_1, forT_2, z_for, z_whl, whlT_u, z_raise, z_tryr, uc_next, uc_ret, uc_exc, z_pass, z_brk, z_cont, z_nil, z_one, z_cons, retF_n, retF_r, retF_x, vif_of, PR.req_true, PS.req_true, PR.bind_ok, PR.bind_exc, PR.opt_some, PR.req_of, PR.at_ok, PR.at_exc, PS.opt_some, PS.req_of, PS.seq_next, PS.seq_ret, PS.seq_brk, PS.seq_cont, PS.seq_exc, noExc_ok, quiet, quiets, quietI, Mt.ofList, Bool.and_true, Bool.true_and, Bool.and_self, Bool.false_and, Bool.and_false, Bool.not_true, Bool.not_false, List.set_cons_zero, List.set_cons_succ, List.map_cons, List.map_nil, List.cons_append, List.nil_append, List.append_nil, List.length_cons, List.length_nil, Option.map_some, Option.bind_some, Nat.reduceAdd, Nat.reduceSub, Nat.zero_add, decide_true, decide_false, eq_self, toU_sh, toU_ol, v_addI, v_addS, v_addT, v_addL, v_subI, v_mulI, v_mulL, v_mulT, v_fdiv, v_mod, v_pow, vc_lt, vc_le, vc_gt, vc_ge, vc_eq, vc_ne, vc_in, vc_nin, vc_isN, vc_isnN, vc_isB, ve_I, ve_S, ve_B, vi_S, vx_S, vx_T, vx_L, vs_S, vs_T, vs_L, vb_lenS, vb_lenT, vb_lenL, vb_lenR, vb_abs, vb_max, vb_min, vb_intI, vb_intB, vb_intS, vb_intH, vb_listT, vb_listL, vb_tupT, vb_tupL, vb_all, vb_any, vm_strip, vm_lower, vm_upper, vm_split, vm_par, vm_joinL, vm_joinT, vm_find, vm_count, vl_app, vl_pop, va_addI, va_subI, va_addS, vt_bl, vt_int, vt_str, vt_tup, vt_lst, vt_non, uwk_t, uwk_l, uwk_s, uStrs_map, uBls_map, dUx_int, dUx_str, cC, gC, yc, fmz, muC, qmC, List.isEmpty_nil, callR_draw, bind_draw, at_draw, retF_draw, toUR_draw, seq_draw, noExc_draw, all_draw, all_ret, all_ok, all_next, f1, s1_0, s1_1, s1_2, h0, h, ux', hv59, hp, i0, c2, List.length_map, hb1, hb2, digits1, uBls_map, all_id, hd]
  rfl
theorem f1_good (hs : ok s) (hp : parU s [59] = .tup [.str w, .str p1, .str p2]) (hw : w.length ≤ s.length) (hm : ∀ c, c ∈ w → c ∈ s) (h : s.all inC = true) (h2 : 1 ≤ w.length ∧ w.length ≤ 6) (h3 : w.all hx = true) : rn (n + 2) 1 [.sh (.str s)] k = .ret (.ok (.sh (.int (L2.Hx.hexNum (low w) : Nat))) [] k) := by
  have h0 := fun k => f0_str (n := n) (k := k) hs.1
  have i0 : atI [U.str w, U.str p1, U.str p2] 0 = some (.str w) := rfl
  have hl := hs.1
  have hL : LIM = 16777216 := rfl
  have hF : FUEL = 67108864 := by decide
  have c2 : cc 2 = some (.int 6) := rfl
  have hb1 : (1 : Int) ≤ w.length := by omega
  have hb2 : (w.length : Int) ≤ 6 := by omega
  have hd : (w.map PyProof.Rows.lo1).all inX = true := by rw [← h3]; exact low_hx fun c hc => hs.2 c (hm c hc)
  have hne : w.map PyProof.Rows.lo1 ≠ [] := fun e => by
    have := congrArg List.length e
    rw [List.length_map, List.length_nil] at this
    omega
  unfold low
  rw [r1]
  simp (disch := first | with_unfolding_all exact @id (_ = _) rfl | omega | (apply And.intro; (first | omega | simp); (first | omega | (apply And.intro; omega; with_unfolding_all exact @id (_ = _) rfl)))) only [ob_non, of_non, ob_bl, of_bl, ob_int, of_int, ob_str, of_str, ob_glo, of_glo, ob_bin, of_bin, ob_neg, of_neg, ob_not, of_not, ob_bop, of_bop, ob_ite, of_ite, ob_cmp, of_cmp, ob_chain, of_chain, ob_tup, of_tup, ob_lst, of_lst, ob_idx, of_idx, ob_slc, of_slc, ob_call, of_call, ob_callk, of_callk, ob_new, of_new, ob_mcall, of_mcall, ob_fmt, of_fmt, ob_cat, of_cat, ob_blt, of_blt, ob_isi, of_isi, ob_mth, of_mth, ob_comp, of_comp, ob_var, of_var, obV_ol, obV_sh, obV_f, ofV_ol, ofV_sh, ofV_f, toUR_ok, g_0, g_0n, g_s, y_non, y_bl, y_int, y_str, varR_s, y_var, y_glo, gloR_int, gloR_str, y_bin, negR_i, y_neg, y_not, y_bop, ifP_t, ifP_f, y_and1, y_and2, bopR_tt, bopR_ff, bopR_tf, bopR_ft, y_ite, y_cmp, y_chain, y_tup, y_lst, y_idx, y_slc, y_o0, y_o1, intP_i, y_nil, y_cons, y_qnil, y_qcons, callR_ok, callR_exc, ubR_s, ub_of, ucR_s, uc_of, uvR_s, ui_of, ul_of, ul_2, y_blt1, y_blt2, y_isi, strP_s, y_mt0, y_mt1, olV_ol, ow_var, sp_v, y_ml, y_comp, compT_1, compT_2, uw_nil, uw_cons, y_c0, y_c1, y_val, rngU_1, rngU_2, y_rng, y_enm, z_set, z_sets, ut_1, ut_2, ut_3, parP_2, parP_3, z_par, z_aug, aug_R, augR_l, augR_i, z_expr, retV_s, z_retv, z_ret, retE_u, z_retn, z_if, forT_1, forT_2, z_for, z_whl, whlT_u, z_raise, z_tryr, uc_next, uc_ret, uc_exc, z_pass, z_brk, z_cont, z_nil, z_one, z_cons, retF_n, retF_r, retF_x, vif_of, PR.req_true, PS.req_true, PR.bind_ok, PR.bind_exc, PR.opt_some, PR.req_of, PR.at_ok, PR.at_exc, PS.opt_some, PS.req_of, PS.seq_next, PS.seq_ret, PS.seq_brk, PS.seq_cont, PS.seq_exc, noExc_ok, quiet, quiets, quietI, Mt.ofList, Bool.and_true, Bool.true_and, Bool.and_self, Bool.false_and, Bool.and_false, Bool.not_true, Bool.not_false, List.set_cons_zero, List.set_cons_succ, List.map_cons, List.map_nil, List.cons_append, List.nil_append, List.append_nil, List.length_cons, List.length_nil, Option.map_some, Option.bind_some, Nat.reduceAdd, Nat.reduceSub, Nat.zero_add, decide_true, decide_false, eq_self, toU_sh, toU_ol, v_addI, v_addS, v_addT, v_addL, v_subI, v_mulI, v_mulL, v_mulT, v_fdiv, v_mod, v_pow, vc_lt, vc_le, vc_gt, vc_ge, vc_eq, vc_ne, vc_in, vc_nin, vc_isN, vc_isnN, vc_isB, ve_I, ve_S, ve_B, vi_S, vx_S, vx_T, vx_L, vs_S, vs_T, vs_L, vb_lenS, vb_lenT, vb_lenL, vb_lenR, vb_abs, vb_max, vb_min, vb_intI, vb_intB, vb_intS, vb_intH, vb_listT, vb_listL, vb_tupT, vb_tupL, vb_all, vb_any, vm_strip, vm_lower, vm_upper, vm_split, vm_par, vm_joinL, vm_joinT, vm_find, vm_count, vl_app, vl_pop, va_addI, va_subI, va_addS, vt_bl, vt_int, vt_str, vt_tup, vt_lst, vt_non, uwk_t, uwk_l, uwk_s, uStrs_map, uBls_map, dUx_int, dUx_str, cC, gC, yc, fmz, muC, qmC, List.isEmpty_nil, callR_draw, bind_draw, at_draw, retF_draw, toUR_draw, seq_draw, noExc_draw, all_draw, all_ret, all_ok, all_next, f1, s1_0, s1_1, s1_2, s1_3, h0, h, hv59, hp, i0, c2, vb_intH, digits1, uBls_map, all_id, hd, List.length_map, hb1, hb2]
  rw [vif_of _ ⟨trivial, hne, by omega, low_hexB h3⟩]
  rfl
end
end K10

/-! part G2_K10 -/
namespace K10
open Cl
open PySem (PyData)
theorem signs7 {n k : Nat} {s : Tx} : pComp (compT (C (n + 1)) (.cmp .isin (.var 3) (.call 5 .nil)) [3] false .nil [3]) (s.map fun c => .str [c]) [some (.sh (.str s)), none, none, none] k = .ok ((s.map inC).map .bl) [some (.sh (.str s)), none, none, none] k := by
  have e := comp_map (f := compT (C (n + 1)) (.cmp .isin (.var 3) (.call 5 .nil)) [3] false .nil [3]) (π := [some (.sh (.str s)), none, none, none]) (k := k) (fun u => some (.bl (sgn inC u))) (xs := s.map fun c => .str [c]) (by
    intro x hx
    obtain ⟨c, _, rfl⟩ := List.mem_map.mp hx
    have h : subTx k0 [c] = sgn inC (.str [c]) := sub_one k0 c
    simp (disch := first | with_unfolding_all exact @id (_ = _) rfl | omega | (apply And.intro; (first | omega | simp); (first | omega | (apply And.intro; omega; with_unfolding_all exact @id (_ = _) rfl)))) only [ob_non, of_non, ob_bl, of_bl, ob_int, of_int, ob_str, of_str, ob_glo, of_glo, ob_bin, of_bin, ob_neg, of_neg, ob_not, of_not, ob_bop, of_bop, ob_ite, of_ite, ob_cmp, of_cmp, ob_chain, of_chain, ob_tup, of_tup, ob_lst, of_lst, ob_idx, of_idx, ob_slc, of_slc, ob_call, of_call, ob_callk, of_callk, ob_new, of_new, ob_mcall, of_mcall, ob_fmt, of_fmt, ob_cat, of_cat, ob_blt, of_blt, ob_isi, of_isi, ob_mth, of_mth, ob_comp, of_comp, ob_var, of_var, obV_ol, obV_sh, obV_f, ofV_ol, ofV_sh, ofV_f, toUR_ok, g_0, g_0n, g_s, y_non, y_bl, y_int, y_str, varR_s, y_var, y_glo, gloR_int, gloR_str, y_bin, negR_i, y_neg, y_not, y_bop, ifP_t, ifP_f, y_and1, y_and2, bopR_tt, bopR_ff, bopR_tf, bopR_ft, y_ite, y_cmp, y_chain, y_tup, y_lst, y_idx, y_slc, y_o0, y_o1, intP_i, y_nil, y_cons, y_qnil, y_qcons, callR_ok, callR_exc, ubR_s, ub_of, ucR_s, uc_of, uvR_s, ui_of, ul_of, ul_2, y_blt1, y_blt2, y_isi, strP_s, y_mt0, y_mt1, olV_ol, ow_var, sp_v, y_ml, y_comp, compT_1, compT_2, uw_nil, uw_cons, y_c0, y_c1, y_val, rngU_1, rngU_2, y_rng, y_enm, z_set, z_sets, ut_1, ut_2, ut_3, parP_2, parP_3, z_par, z_aug, aug_R, augR_l, augR_i, z_expr, retV_s, z_retv, z_ret, retE_u, z_retn, z_if, forT_1, forT_2, z_for, z_whl, whlT_u, z_raise, z_tryr, uc_next, uc_ret, uc_exc, z_pass, z_brk, z_cont, z_nil, z_one, z_cons, retF_n, retF_r, retF_x, vif_of, PR.req_true, PS.req_true, PR.bind_ok, PR.bind_exc, PR.opt_some, PR.req_of, PR.at_ok, PR.at_exc, PS.opt_some, PS.req_of, PS.seq_next, PS.seq_ret, PS.seq_brk, PS.seq_cont, PS.seq_exc, noExc_ok, quiet, quiets, quietI, Mt.ofList, Bool.and_true, Bool.true_and, Bool.and_self, Bool.false_and, Bool.and_false, Bool.not_true, Bool.not_false, List.set_cons_zero, List.set_cons_succ, List.map_cons, List.map_nil, List.cons_append, List.nil_append, List.append_nil, List.length_cons, List.length_nil, Option.map_some, Option.bind_some, Nat.reduceAdd, Nat.reduceSub, Nat.zero_add, decide_true, decide_false, eq_self, toU_sh, toU_ol, v_addI, v_addS, v_addT, v_addL, v_subI, v_mulI, v_mulL, v_mulT, v_fdiv, v_mod, v_pow, vc_lt, vc_le, vc_gt, vc_ge, vc_eq, vc_ne, vc_in, vc_nin, vc_isN, vc_isnN, vc_isB, ve_I, ve_S, ve_B, vi_S, vx_S, vx_T, vx_L, vs_S, vs_T, vs_L, vb_lenS, vb_lenT, vb_lenL, vb_lenR, vb_abs, vb_max, vb_min, vb_intI, vb_intB, vb_intS, vb_intH, vb_listT, vb_listL, vb_tupT, vb_tupL, vb_all, vb_any, vm_strip, vm_lower, vm_upper, vm_split, vm_par, vm_joinL, vm_joinT, vm_find, vm_count, vl_app, vl_pop, va_addI, va_subI, va_addS, vt_bl, vt_int, vt_str, vt_tup, vt_lst, vt_non, uwk_t, uwk_l, uwk_s, uStrs_map, uBls_map, dUx_int, dUx_str, cC, gC, yc, fmz, muC, qmC, List.isEmpty_nil, callR_draw, bind_draw, at_draw, retF_draw, toUR_draw, seq_draw, noExc_draw, all_draw, all_ret, all_ok, all_next, f5_run, h])
  rw [all_sg] at e
  exact e
def gD (a : Nat) : U → Sum Nat Unit
  | .str [c] => if hx c = true then .inl (a * 16 + L2.Hx.hv (PyProof.Rows.lo1 c)) else .inr ()
  | _ => .inr ()
theorem fold_good : ∀ {w : Tx} (a : Nat), w.all hx = true → foldX gD a (w.map fun c => .str [c]) = .inl ((low w).foldl (fun a c => a * 16 + L2.Hx.hv c) a)
  | [], a, _ => rfl
  | c :: w, a, h => by
    rw [List.all_cons, Bool.and_eq_true] at h
    show foldX gD a (U.str [c] :: w.map fun c => .str [c]) = _
    unfold foldX
    have : gD a (.str [c]) = .inl (a * 16 + L2.Hx.hv (PyProof.Rows.lo1 c)) := by unfold gD; dsimp only; rw [if_pos h.1]
    rw [this]
    exact fold_good _ h.2
theorem fold_bad : ∀ {w : Tx} (a : Nat), w.all hx = false → foldX gD a (w.map fun c => .str [c]) = .inr ()
  | [], a, h => by cases h
  | c :: w, a, h => by
    show foldX gD a (U.str [c] :: w.map fun c => .str [c]) = _
    unfold foldX
    cases hc : hx c with
    | false =>
      have : gD a (.str [c]) = .inr () := by unfold gD; dsimp only; rw [hc, if_neg Bool.false_ne_true]
      rw [this]
    | true =>
      have : gD a (.str [c]) = .inl (a * 16 + L2.Hx.hv (PyProof.Rows.lo1 c)) := by unfold gD; dsimp only; rw [if_pos hc]
      rw [this]
      rw [List.all_cons, hc, Bool.true_and] at h
      exact fold_bad _ h
theorem fold_lt : ∀ {w : Tx} {a m : Nat}, w.all hx = true → a < 16 ^ m → (low w).foldl (fun a c => a * 16 + L2.Hx.hv c) a < 16 ^ (m + w.length)
  | [], a, m, _, ha => ha
  | c :: w, a, m, h, ha => by
    rw [List.all_cons, Bool.and_eq_true] at h
    have hv := (hx_fact c h.1).2.1
    have := fold_lt (w := w) (a := a * 16 + L2.Hx.hv (PyProof.Rows.lo1 c)) (m := m + 1) h.2 (by rw [Nat.pow_succ]; omega)
    rw [List.length_cons, show m + (w.length + 1) = m + 1 + w.length by omega]
    exact this
theorem num_lt {w : Tx} (h : w.all hx = true) (hl : w.length ≤ 6) : L2.Hx.hexNum (low w) < 16777216 := by
  have := fold_lt (w := w) (a := 0) (m := 0) h (by decide)
  rw [Nat.zero_add] at this
  have h2 : 16 ^ w.length ≤ 16 ^ 6 := Nat.pow_le_pow_right (by decide) hl
  have h3 : (16 : Nat) ^ 6 = 16777216 := by decide
  exact Nat.lt_of_lt_of_le this (h3 ▸ h2)
section
variable {n k : Nat} {s w : Tx} {ws : List Tx}
theorem f7_sign (hs : ok s) (h : s.all inC = false) : rn (n + 2) 7 [.sh (.str s)] k = .ret (.ok (.sh bad) [] k) := by
  have hL : LIM = 16777216 := rfl
  have hF : FUEL = 67108864 := by decide
  have hl := hs.1
  rw [r7]
  simp (disch := first | with_unfolding_all exact @id (_ = _) rfl | omega | (apply And.intro; (first | omega | simp); (first | omega | (apply And.intro; omega; with_unfolding_all exact @id (_ = _) rfl)))) only [ob_non, of_non, ob_bl, of_bl, ob_int, of_int, ob_str, of_str, ob_glo, of_glo, ob_bin, of_bin, ob_neg, of_neg, ob_not, of_not, ob_bop, of_bop, ob_ite, of_ite, ob_cmp, of_cmp, ob_chain, of_chain, ob_tup, of_tup, ob_lst, of_lst, ob_idx, of_idx, ob_slc, of_slc, ob_call, of_call, ob_callk, of_callk, ob_new, of_new, ob_mcall, of_mcall, ob_fmt, of_fmt, ob_cat, of_cat, ob_blt, of_blt, ob_isi, of_isi, ob_mth, of_mth, ob_comp, of_comp, ob_var, of_var, obV_ol, obV_sh, obV_f, ofV_ol, ofV_sh, ofV_f, toUR_ok, g_0, g_0n, g_s, y_non, y_bl, y_int, y_str, varR_s, y_var, y_glo, gloR_int, gloR_str, y_bin, negR_i, y_neg, y_not, y_bop, ifP_t, ifP_f, y_and1, y_and2, bopR_tt, bopR_ff, bopR_tf, bopR_ft, y_ite, y_cmp, y_chain, y_tup, y_lst, y_idx, y_slc, y_o0, y_o1, intP_i, y_nil, y_cons, y_qnil, y_qcons, callR_ok, callR_exc, ubR_s, ub_of, ucR_s, uc_of, uvR_s, ui_of, ul_of, ul_2, y_blt1, y_blt2, y_isi, strP_s, y_mt0, y_mt1, olV_ol, ow_var, sp_v, y_ml, y_comp, compT_1, compT_2, uw_nil, uw_cons, y_c0, y_c1, y_val, rngU_1, rngU_2, y_rng, y_enm, z_set, z_sets, ut_1, ut_2, ut_3, parP_2, parP_3, z_par, z_aug, aug_R, augR_l, augR_i, z_expr, retV_s, z_retv, z_ret, retE_u, z_retn, z_if, forT_1, forT_2, z_for, z_whl, whlT_u, z_raise, z_tryr, uc_next, uc_ret, uc_exc, z_pass, z_brk, z_cont, z_nil, z_one, z_cons, retF_n, retF_r, retF_x, vif_of, PR.req_true, PS.req_true, PR.bind_ok, PR.bind_exc, PR.opt_some, PR.req_of, PR.at_ok, PR.at_exc, PS.opt_some, PS.req_of, PS.seq_next, PS.seq_ret, PS.seq_brk, PS.seq_cont, PS.seq_exc, noExc_ok, quiet, quiets, quietI, Mt.ofList, Bool.and_true, Bool.true_and, Bool.and_self, Bool.false_and, Bool.and_false, Bool.not_true, Bool.not_false, List.set_cons_zero, List.set_cons_succ, List.map_cons, List.map_nil, List.cons_append, List.nil_append, List.append_nil, List.length_cons, List.length_nil, Option.map_some, Option.bind_some, Nat.reduceAdd, Nat.reduceSub, Nat.zero_add, decide_true, decide_false, eq_self, toU_sh, toU_ol, v_addI, v_addS, v_addT, v_addL, v_subI, v_mulI, v_mulL, v_mulT, v_fdiv, v_mod, v_pow, vc_lt, vc_le, vc_gt, vc_ge, vc_eq, vc_ne, vc_in, vc_nin, vc_isN, vc_isnN, vc_isB, ve_I, ve_S, ve_B, vi_S, vx_S, vx_T, vx_L, vs_S, vs_T, vs_L, vb_lenS, vb_lenT, vb_lenL, vb_lenR, vb_abs, vb_max, vb_min, vb_intI, vb_intB, vb_intS, vb_intH, vb_listT, vb_listL, vb_tupT, vb_tupL, vb_all, vb_any, vm_strip, vm_lower, vm_upper, vm_split, vm_par, vm_joinL, vm_joinT, vm_find, vm_count, vl_app, vl_pop, va_addI, va_subI, va_addS, vt_bl, vt_int, vt_str, vt_tup, vt_lst, vt_non, uwk_t, uwk_l, uwk_s, uStrs_map, uBls_map, dUx_int, dUx_str, cC, gC, yc, fmz, muC, qmC, List.isEmpty_nil, callR_draw, bind_draw, at_draw, retF_draw, toUR_draw, seq_draw, noExc_draw, all_draw, all_ret, all_ok, all_next, f7, s7_0, vis_s, signs7, uBls_map, all_id, List.length_map, h]
  rfl
theorem hv59' (a : Nat) (h : a + 2 ≤ 16777216) (x : O) : vif (([59] : Tx) ≠ [] ∧ a + 2 ≤ LIM) x = some x := vif_of _ ⟨by decide, h⟩
theorem f7_len (hs : ok s) (hp : TL.spl [59] 0 [] s = w :: ws) (h : s.all inC = true) (h2 : ¬ (1 ≤ w.length ∧ w.length ≤ 6)) : rn (n + 2) 7 [.sh (.str s)] k = .ret (.ok (.sh bad) [] k) := by
  have hL : LIM = 16777216 := rfl
  have hF : FUEL = 67108864 := by decide
  have hl := hs.1
  have i0 : atI (U.str w :: ws.map U.str) 0 = some (.str w) := atI_nat (i := 0) rfl
  have hq := hv59' s.length (by omega)
  rw [r7]
  by_cases hb : 1 ≤ w.length
  · have hb1 : (1 : Int) ≤ w.length := by omega
    have hb2 : ¬ ((w.length : Int) ≤ 6) := by omega
    simp (disch := first | with_unfolding_all exact @id (_ = _) rfl | omega | (apply And.intro; (first | omega | simp); (first | omega | (apply And.intro; omega; with_unfolding_all exact @id (_ = _) rfl)))) only [ob_non, of_non, ob_bl, of_bl, ob_int, of_int, ob_str, of_str, ob_glo, of_glo, ob_bin, of_bin, ob_neg, of_neg, ob_not, of_not, ob_bop, of_bop, ob_ite, of_ite, ob_cmp, of_cmp, ob_chain, of_chain, ob_tup, of_tup, ob_lst, of_lst, ob_idx, of_idx, ob_slc, of_slc, ob_call, of_call, ob_callk, of_callk, ob_new, of_new, ob_mcall, of_mcall, ob_fmt, of_fmt, ob_cat, of_cat, ob_blt, of_blt, ob_isi, of_isi, ob_mth, of_mth, ob_comp, of_comp, ob_var, of_var, obV_ol, obV_sh, obV_f, ofV_ol, ofV_sh, ofV_f, toUR_ok, g_0, g_0n, g_s, y_non, y_bl, y_int, y_str, varR_s, y_var, y_glo, gloR_int, gloR_str, y_bin, negR_i, y_neg, y_not, y_bop, ifP_t, ifP_f, y_and1, y_and2, bopR_tt, bopR_ff, bopR_tf, bopR_ft, y_ite, y_cmp, y_chain, y_tup, y_lst, y_idx, y_slc, y_o0, y_o1, intP_i, y_nil, y_cons, y_qnil, y_qcons, callR_ok, callR_exc, ubR_s, ub_of, ucR_s, uc_of, uvR_s, ui_of, ul_of, ul_2, y_blt1, y_blt2, y_isi, strP_s, y_mt0, y_mt1, olV_ol, ow_var, sp_v, y_ml, y_comp, compT_1, compT_2, uw_nil, uw_cons, y_c0, y_c1, y_val, rngU_1, rngU_2, y_rng, y_enm, z_set, z_sets, ut_1, ut_2, ut_3, parP_2, parP_3, z_par, z_aug, aug_R, augR_l, augR_i, z_expr, retV_s, z_retv, z_ret, retE_u, z_retn, z_if, forT_1, forT_2, z_for, z_whl, whlT_u, z_raise, z_tryr, uc_next, uc_ret, uc_exc, z_pass, z_brk, z_cont, z_nil, z_one, z_cons, retF_n, retF_r, retF_x, vif_of, PR.req_true, PS.req_true, PR.bind_ok, PR.bind_exc, PR.opt_some, PR.req_of, PR.at_ok, PR.at_exc, PS.opt_some, PS.req_of, PS.seq_next, PS.seq_ret, PS.seq_brk, PS.seq_cont, PS.seq_exc, noExc_ok, quiet, quiets, quietI, Mt.ofList, Bool.and_true, Bool.true_and, Bool.and_self, Bool.false_and, Bool.and_false, Bool.not_true, Bool.not_false, List.set_cons_zero, List.set_cons_succ, List.map_cons, List.map_nil, List.cons_append, List.nil_append, List.append_nil, List.length_cons, List.length_nil, Option.map_some, Option.bind_some, Nat.reduceAdd, Nat.reduceSub, Nat.zero_add, decide_true, decide_false, eq_self, toU_sh, toU_ol, v_addI, v_addS, v_addT, v_addL, v_subI, v_mulI, v_mulL, v_mulT, v_fdiv, v_mod, v_pow, vc_lt, vc_le, vc_gt, vc_ge, vc_eq, vc_ne, vc_in, vc_nin, vc_isN, vc_isnN, vc_isB, ve_I, ve_S, ve_B, vi_S, vx_S, vx_T, vx_L, vs_S, vs_T, vs_L, vb_lenS, vb_lenT, vb_lenL, vb_lenR, vb_abs, vb_max, vb_min, vb_intI, vb_intB, vb_intS, vb_intH, vb_listT, vb_listL, vb_tupT, vb_tupL, vb_all, vb_any, vm_strip, vm_lower, vm_upper, vm_split, vm_par, vm_joinL, vm_joinT, vm_find, vm_count, vl_app, vl_pop, va_addI, va_subI, va_addS, vt_bl, vt_int, vt_str, vt_tup, vt_lst, vt_non, uwk_t, uwk_l, uwk_s, uStrs_map, uBls_map, dUx_int, dUx_str, cC, gC, yc, fmz, muC, qmC, List.isEmpty_nil, callR_draw, bind_draw, at_draw, retF_draw, toUR_draw, seq_draw, noExc_draw, all_draw, all_ret, all_ok, all_next, f7, s7_0, s7_1, s7_2, vis_s, signs7, uBls_map, all_id, List.length_map, h, hq, hp, List.map_cons, i0, hb1, hb2]
    rfl
  · have hb1 : ¬ ((1 : Int) ≤ w.length) := by omega
    simp (disch := first | with_unfolding_all exact @id (_ = _) rfl | omega | (apply And.intro; (first | omega | simp); (first | omega | (apply And.intro; omega; with_unfolding_all exact @id (_ = _) rfl)))) only [ob_non, of_non, ob_bl, of_bl, ob_int, of_int, ob_str, of_str, ob_glo, of_glo, ob_bin, of_bin, ob_neg, of_neg, ob_not, of_not, ob_bop, of_bop, ob_ite, of_ite, ob_cmp, of_cmp, ob_chain, of_chain, ob_tup, of_tup, ob_lst, of_lst, ob_idx, of_idx, ob_slc, of_slc, ob_call, of_call, ob_callk, of_callk, ob_new, of_new, ob_mcall, of_mcall, ob_fmt, of_fmt, ob_cat, of_cat, ob_blt, of_blt, ob_isi, of_isi, ob_mth, of_mth, ob_comp, of_comp, ob_var, of_var, obV_ol, obV_sh, obV_f, ofV_ol, ofV_sh, ofV_f, toUR_ok, g_0, g_0n, g_s, y_non, y_bl, y_int, y_str, varR_s, y_var, y_glo, gloR_int, gloR_str, y_bin, negR_i, y_neg, y_not, y_bop, ifP_t, ifP_f, y_and1, y_and2, bopR_tt, bopR_ff, bopR_tf, bopR_ft, y_ite, y_cmp, y_chain, y_tup, y_lst, y_idx, y_slc, y_o0, y_o1, intP_i, y_nil, y_cons, y_qnil, y_qcons, callR_ok, callR_exc, ubR_s, ub_of, ucR_s, uc_of, uvR_s, ui_of, ul_of, ul_2, y_blt1, y_blt2, y_isi, strP_s, y_mt0, y_mt1, olV_ol, ow_var, sp_v, y_ml, y_comp, compT_1, compT_2, uw_nil, uw_cons, y_c0, y_c1, y_val, rngU_1, rngU_2, y_rng, y_enm, z_set, z_sets, ut_1, ut_2, ut_3, parP_2, parP_3, z_par, z_aug, aug_R, augR_l, augR_i, z_expr, retV_s, z_retv, z_ret, retE_u, z_retn, z_if, forT_1, forT_2, z_for, z_whl, whlT_u, z_raise, z_tryr, uc_next, uc_ret, uc_exc, z_pass, z_brk, z_cont, z_nil, z_one, z_cons, retF_n, retF_r, retF_x, vif_of, PR.req_true, PS.req_true, PR.bind_ok, PR.bind_exc, PR.opt_some, PR.req_of, PR.at_ok, PR.at_exc, PS.opt_some, PS.req_of, PS.seq_next, PS.seq_ret, PS.seq_brk, PS.seq_cont, PS.seq_exc, noExc_ok, quiet, quiets, quietI, Mt.ofList, Bool.and_true, Bool.true_and, Bool.and_self, Bool.false_and, Bool.and_false, Bool.not_true, Bool.not_false, List.set_cons_zero, List.set_cons_succ, List.map_cons, List.map_nil, List.cons_append, List.nil_append, List.append_nil, List.length_cons, List.length_nil, Option.map_some, Option.bind_some, Nat.reduceAdd, Nat.reduceSub, Nat.zero_add, decide_true, decide_false, eq_self, toU_sh, toU_ol, v_addI, v_addS, v_addT, v_addL, v_subI, v_mulI, v_mulL, v_mulT, v_fdiv, v_mod, v_pow, vc_lt, vc_le, vc_gt, vc_ge, vc_eq, vc_ne, vc_in, vc_nin, vc_isN, vc_isnN, vc_isB, ve_I, ve_S, ve_B, vi_S, vx_S, vx_T, vx_L, vs_S, vs_T, vs_L, vb_lenS, vb_lenT, vb_lenL, vb_lenR, vb_abs, vb_max, vb_min, vb_intI, vb_intB, vb_intS, vb_intH, vb_listT, vb_listL, vb_tupT, vb_tupL, vb_all, vb_any, vm_strip, vm_lower, vm_upper, vm_split, vm_par, vm_joinL, vm_joinT, vm_find, vm_count, vl_app, vl_pop, va_addI, va_subI, va_addS, vt_bl, vt_int, vt_str, vt_tup, vt_lst, vt_non, uwk_t, uwk_l, uwk_s, uStrs_map, uBls_map, dUx_int, dUx_str, cC, gC, yc, fmz, muC, qmC, List.isEmpty_nil, callR_draw, bind_draw, at_draw, retF_draw, toUR_draw, seq_draw, noExc_draw, all_draw, all_ret, all_ok, all_next, f7, s7_0, s7_1, s7_2, vis_s, signs7, uBls_map, all_id, List.length_map, h, hq, hp, List.map_cons, i0, hb1]
    rfl
theorem k22_not (c : Nat) : subTx k22 [c] = hx c := sub_one k22 c
theorem loop7 (hw : w.length ≤ 6) : ∃ o, pFor (forT (C (n + 1)) [3] false b7_0) [3] (w.map fun c => .str [c]) [some (.sh (.str s)), some (.sh (.str w)), some (.sh (.int 0)), none] k = .ret o ∧ match foldX gD 0 (w.map fun c => .str [c]) with
      | .inl b => o = .next [some (.sh (.str s)), some (.sh (.str w)), some (.sh (.int (b : Nat))), none] k
      | .inr _ => ∃ π, o = .ret (.sh bad) π k := by
  have hL : LIM = 16777216 := rfl
  have key := for_exit (f := forT (C (n + 1)) [3] false b7_0) (fg := [3]) (e := fun a : Nat => [some (.sh (.str s)), some (.sh (.str w)), some (.sh (.int (a : Nat))), none]) (k := k) (g := gD)
    (Rr := fun _ o => ∃ π, o = .ret (.sh bad) π k) (fun _ _ => True) (xs := w.map fun c => .str [c]) (i := 0) (a := 0) trivial (by
      intro j x acc hx _
      rw [List.getElem?_map] at hx
      obtain ⟨c, hc, rfl⟩ := Option.map_eq_some_iff.mp hx
      have h22 := k22_not c
      have e1 : c7_0_0 = .ifs (.cmp .notin (.var 3) (.str k22)) (.cons (.ret (.tup (.cons (.str [66, 97, 100, 76, 105, 110, 101]) (.cons (.str [99, 104, 117, 110, 107]) .nil)))) .nil) .nil := rfl
      have e2 : c7_0_1 = .set 2 (.bin .add (.bin .mul (.var 2) (.int 16)) (.mth .index (.str kx) (.cons (.mth .lower (.var 3) .nil) .nil))) := rfl
      cases hh : Cl.hexB 0 with
      | _ =>
      cases hxc : K10.hx c with
      | true =>
        have hi : vmth .index (.str kx) [.str [PyProof.Rows.lo1 c]] = some (.sh (.int (L2.Hx.hv (PyProof.Rows.lo1 c) : Nat))) := by
          show (PySem.Builtin.Str.occurrences (SX.S kx) (SX.S [PyProof.Rows.lo1 c]) 0 (SX.S kx).length 1).head?.map (fun i => O.sh (.int (i : Nat))) = _
          rw [(hx_fact c hxc).2.2]
          rfl
        have hg : gD acc (.str [c]) = .inl (acc * 16 + L2.Hx.hv (PyProof.Rows.lo1 c)) := by unfold gD; dsimp only; rw [if_pos hxc]
        have hcast : ((acc * 16 + L2.Hx.hv (PyProof.Rows.lo1 c) : Nat) : Int) = (acc : Int) * 16 + (L2.Hx.hv (PyProof.Rows.lo1 c) : Nat) := by omega
        rw [hg]
        simp (disch := first | with_unfolding_all exact @id (_ = _) rfl | omega | (apply And.intro; (first | omega | simp); (first | omega | (apply And.intro; omega; with_unfolding_all exact @id (_ = _) rfl)))) only [ob_non, of_non, ob_bl, of_bl, ob_int, of_int, ob_str, of_str, ob_glo, of_glo, ob_bin, of_bin, ob_neg, of_neg, ob_not, of_not, ob_bop, of_bop, ob_ite, of_ite, ob_cmp, of_cmp, ob_chain, of_chain, ob_tup, of_tup, ob_lst, of_lst, ob_idx, of_idx, ob_slc, of_slc, ob_call, of_call, ob_callk, of_callk, ob_new, of_new, ob_mcall, of_mcall, ob_fmt, of_fmt, ob_cat, of_cat, ob_blt, of_blt, ob_isi, of_isi, ob_mth, of_mth, ob_comp, of_comp, ob_var, of_var, obV_ol, obV_sh, obV_f, ofV_ol, ofV_sh, ofV_f, toUR_ok, g_0, g_0n, g_s, y_non, y_bl, y_int, y_str, varR_s, y_var, y_glo, gloR_int, gloR_str, y_bin, negR_i, y_neg, y_not, y_bop, ifP_t, ifP_f, y_and1, y_and2, bopR_tt, bopR_ff, bopR_tf, bopR_ft, y_ite, y_cmp, y_chain, y_tup, y_lst, y_idx, y_slc, y_o0, y_o1, intP_i, y_nil, y_cons, y_qnil, y_qcons, callR_ok, callR_exc, ubR_s, ub_of, ucR_s, uc_of, uvR_s, ui_of, ul_of, ul_2, y_blt1, y_blt2, y_isi, strP_s, y_mt0, y_mt1, olV_ol, ow_var, sp_v, y_ml, y_comp, compT_1, compT_2, uw_nil, uw_cons, y_c0, y_c1, y_val, rngU_1, rngU_2, y_rng, y_enm, z_set, z_sets, ut_1, ut_2, ut_3, parP_2, parP_3, z_par, z_aug, aug_R, augR_l, augR_i, z_expr, retV_s, z_retv, z_ret, retE_u, z_retn, z_if, forT_1, forT_2, z_for, z_whl, whlT_u, z_raise, z_tryr, uc_next, uc_ret, uc_exc, z_pass, z_brk, z_cont, z_nil, z_one, z_cons, retF_n, retF_r, retF_x, vif_of, PR.req_true, PS.req_true, PR.bind_ok, PR.bind_exc, PR.opt_some, PR.req_of, PR.at_ok, PR.at_exc, PS.opt_some, PS.req_of, PS.seq_next, PS.seq_ret, PS.seq_brk, PS.seq_cont, PS.seq_exc, noExc_ok, quiet, quiets, quietI, Mt.ofList, Bool.and_true, Bool.true_and, Bool.and_self, Bool.false_and, Bool.and_false, Bool.not_true, Bool.not_false, List.set_cons_zero, List.set_cons_succ, List.map_cons, List.map_nil, List.cons_append, List.nil_append, List.append_nil, List.length_cons, List.length_nil, Option.map_some, Option.bind_some, Nat.reduceAdd, Nat.reduceSub, Nat.zero_add, decide_true, decide_false, eq_self, toU_sh, toU_ol, v_addI, v_addS, v_addT, v_addL, v_subI, v_mulI, v_mulL, v_mulT, v_fdiv, v_mod, v_pow, vc_lt, vc_le, vc_gt, vc_ge, vc_eq, vc_ne, vc_in, vc_nin, vc_isN, vc_isnN, vc_isB, ve_I, ve_S, ve_B, vi_S, vx_S, vx_T, vx_L, vs_S, vs_T, vs_L, vb_lenS, vb_lenT, vb_lenL, vb_lenR, vb_abs, vb_max, vb_min, vb_intI, vb_intB, vb_intS, vb_intH, vb_listT, vb_listL, vb_tupT, vb_tupL, vb_all, vb_any, vm_strip, vm_lower, vm_upper, vm_split, vm_par, vm_joinL, vm_joinT, vm_find, vm_count, vl_app, vl_pop, va_addI, va_subI, va_addS, vt_bl, vt_int, vt_str, vt_tup, vt_lst, vt_non, uwk_t, uwk_l, uwk_s, uStrs_map, uBls_map, dUx_int, dUx_str, cC, gC, yc, fmz, muC, qmC, List.isEmpty_nil, callR_draw, bind_draw, at_draw, retF_draw, toUR_draw, seq_draw, noExc_draw, all_draw, all_ret, all_ok, all_next, b7_0, e1, e2, h22, hxc, hi, List.map_cons, List.map_nil]
        exact ⟨_, rfl, ⟨_, rfl, by rw [hcast]; rfl⟩, trivial⟩
      | false =>
        have hg : gD acc (.str [c]) = .inr () := by unfold gD; dsimp only; rw [hxc, if_neg Bool.false_ne_true]
        rw [hg]
        simp (disch := first | with_unfolding_all exact @id (_ = _) rfl | omega | (apply And.intro; (first | omega | simp); (first | omega | (apply And.intro; omega; with_unfolding_all exact @id (_ = _) rfl)))) only [ob_non, of_non, ob_bl, of_bl, ob_int, of_int, ob_str, of_str, ob_glo, of_glo, ob_bin, of_bin, ob_neg, of_neg, ob_not, of_not, ob_bop, of_bop, ob_ite, of_ite, ob_cmp, of_cmp, ob_chain, of_chain, ob_tup, of_tup, ob_lst, of_lst, ob_idx, of_idx, ob_slc, of_slc, ob_call, of_call, ob_callk, of_callk, ob_new, of_new, ob_mcall, of_mcall, ob_fmt, of_fmt, ob_cat, of_cat, ob_blt, of_blt, ob_isi, of_isi, ob_mth, of_mth, ob_comp, of_comp, ob_var, of_var, obV_ol, obV_sh, obV_f, ofV_ol, ofV_sh, ofV_f, toUR_ok, g_0, g_0n, g_s, y_non, y_bl, y_int, y_str, varR_s, y_var, y_glo, gloR_int, gloR_str, y_bin, negR_i, y_neg, y_not, y_bop, ifP_t, ifP_f, y_and1, y_and2, bopR_tt, bopR_ff, bopR_tf, bopR_ft, y_ite, y_cmp, y_chain, y_tup, y_lst, y_idx, y_slc, y_o0, y_o1, intP_i, y_nil, y_cons, y_qnil, y_qcons, callR_ok, callR_exc, ubR_s, ub_of, ucR_s, uc_of, uvR_s, ui_of, ul_of, ul_2, y_blt1, y_blt2, y_isi, strP_s, y_mt0, y_mt1, olV_ol, ow_var, sp_v, y_ml, y_comp, compT_1, compT_2, uw_nil, uw_cons, y_c0, y_c1, y_val, rngU_1, rngU_2, y_rng, y_enm, z_set, z_sets, ut_1, ut_2, ut_3, parP_2, parP_3, z_par, z_aug, aug_R, augR_l, augR_i, z_expr, retV_s, z_retv, z_ret, retE_u, z_retn, z_if, forT_1, forT_2, z_for, z_whl, whlT_u, z_raise, z_tryr, uc_next, uc_ret, uc_exc, z_pass, z_brk, z_cont, z_nil, z_one, z_cons, retF_n, retF_r, retF_x, vif_of, PR.req_true, PS.req_true, PR.bind_ok, PR.bind_exc, PR.opt_some, PR.req_of, PR.at_ok, PR.at_exc, PS.opt_some, PS.req_of, PS.seq_next, PS.seq_ret, PS.seq_brk, PS.seq_cont, PS.seq_exc, noExc_ok, quiet, quiets, quietI, Mt.ofList, Bool.and_true, Bool.true_and, Bool.and_self, Bool.false_and, Bool.and_false, Bool.not_true, Bool.not_false, List.set_cons_zero, List.set_cons_succ, List.map_cons, List.map_nil, List.cons_append, List.nil_append, List.append_nil, List.length_cons, List.length_nil, Option.map_some, Option.bind_some, Nat.reduceAdd, Nat.reduceSub, Nat.zero_add, decide_true, decide_false, eq_self, toU_sh, toU_ol, v_addI, v_addS, v_addT, v_addL, v_subI, v_mulI, v_mulL, v_mulT, v_fdiv, v_mod, v_pow, vc_lt, vc_le, vc_gt, vc_ge, vc_eq, vc_ne, vc_in, vc_nin, vc_isN, vc_isnN, vc_isB, ve_I, ve_S, ve_B, vi_S, vx_S, vx_T, vx_L, vs_S, vs_T, vs_L, vb_lenS, vb_lenT, vb_lenL, vb_lenR, vb_abs, vb_max, vb_min, vb_intI, vb_intB, vb_intS, vb_intH, vb_listT, vb_listL, vb_tupT, vb_tupL, vb_all, vb_any, vm_strip, vm_lower, vm_upper, vm_split, vm_par, vm_joinL, vm_joinT, vm_find, vm_count, vl_app, vl_pop, va_addI, va_subI, va_addS, vt_bl, vt_int, vt_str, vt_tup, vt_lst, vt_non, uwk_t, uwk_l, uwk_s, uStrs_map, uBls_map, dUx_int, dUx_str, cC, gC, yc, fmz, muC, qmC, List.isEmpty_nil, callR_draw, bind_draw, at_draw, retF_draw, toUR_draw, seq_draw, noExc_draw, all_draw, all_ret, all_ok, all_next, b7_0, e1, e2, h22, hxc]
        exact ⟨_, rfl, ⟨_, rfl⟩, trivial⟩)
  obtain ⟨o, h1, h2⟩ := key
  refine ⟨o, h1, ?_⟩
  cases hf : foldX gD 0 (w.map fun c => U.str [c]) with
  | inl b => rw [hf] at h2; exact h2.1
  | inr b => rw [hf] at h2; exact h2.1
end
end K10

/-! part G3_K10 -/
namespace K10
open Cl
open PySem (PyData)
section
variable {n k : Nat} {s w : Tx} {ws : List Tx}
theorem f7_dig (hs : ok s) (hp : TL.spl [59] 0 [] s = w :: ws) (h : s.all inC = true) (h2 : 1 ≤ w.length ∧ w.length ≤ 6) (h3 : w.all hx = false) : rn (n + 2) 7 [.sh (.str s)] k = .ret (.ok (.sh bad) [] k) := by
  have hL : LIM = 16777216 := rfl
  have hF : FUEL = 67108864 := by decide
  have hl := hs.1
  have i0 : atI (U.str w :: ws.map U.str) 0 = some (.str w) := atI_nat (i := 0) rfl
  have hq := hv59' s.length (by omega)
  have hb1 : (1 : Int) ≤ w.length := by omega
  have hb2 : (w.length : Int) ≤ 6 := by omega
  obtain ⟨o, e1, e2⟩ := loop7 (n := n) (k := k) (s := s) h2.2
  rw [fold_bad 0 h3] at e2
  obtain ⟨π, rfl⟩ := e2
  rw [r7]
  simp (disch := first | with_unfolding_all exact @id (_ = _) rfl | omega | (apply And.intro; (first | omega | simp); (first | omega | (apply And.intro; omega; with_unfolding_all exact @id (_ = _) rfl)))) only [ob_non, of_non, ob_bl, of_bl, ob_int, of_int, ob_str, of_str, ob_glo, of_glo, ob_bin, of_bin, ob_neg, of_neg, ob_not, of_not, ob_bop, of_bop, ob_ite, of_ite, ob_cmp, of_cmp, ob_chain, of_chain, ob_tup, of_tup, ob_lst, of_lst, ob_idx, of_idx, ob_slc, of_slc, ob_call, of_call, ob_callk, of_callk, ob_new, of_new, ob_mcall, of_mcall, ob_fmt, of_fmt, ob_cat, of_cat, ob_blt, of_blt, ob_isi, of_isi, ob_mth, of_mth, ob_comp, of_comp, ob_var, of_var, obV_ol, obV_sh, obV_f, ofV_ol, ofV_sh, ofV_f, toUR_ok, g_0, g_0n, g_s, y_non, y_bl, y_int, y_str, varR_s, y_var, y_glo, gloR_int, gloR_str, y_bin, negR_i, y_neg, y_not, y_bop, ifP_t, ifP_f, y_and1, y_and2, bopR_tt, bopR_ff, bopR_tf, bopR_ft, y_ite, y_cmp, y_chain, y_tup, y_lst, y_idx, y_slc, y_o0, y_o1, intP_i, y_nil, y_cons, y_qnil, y_qcons, callR_ok, callR_exc, ubR_s, ub_of, ucR_s, uc_of, uvR_s, ui_of, ul_of, ul_2, y_blt1, y_blt2, y_isi, strP_s, y_mt0, y_mt1, olV_ol, ow_var, sp_v, y_ml, y_comp, compT_1, compT_2, uw_nil, uw_cons, y_c0, y_c1, y_val, rngU_1, rngU_2, y_rng, y_enm, z_set, z_sets, ut_1, ut_2, ut_3, parP_2, parP_3, z_par, z_aug, aug_R, augR_l, augR_i, z_expr, retV_s, z_retv, z_ret, retE_u, z_retn, z_if, forT_1, forT_2, z_for, z_whl, whlT_u, z_raise, z_tryr, uc_next, uc_ret, uc_exc, z_pass, z_brk, z_cont, z_nil, z_one, z_cons, retF_n, retF_r, retF_x, vif_of, PR.req_true, PS.req_true, PR.bind_ok, PR.bind_exc, PR.opt_some, PR.req_of, PR.at_ok, PR.at_exc, PS.opt_some, PS.req_of, PS.seq_next, PS.seq_ret, PS.seq_brk, PS.seq_cont, PS.seq_exc, noExc_ok, quiet, quiets, quietI, Mt.ofList, Bool.and_true, Bool.true_and, Bool.and_self, Bool.false_and, Bool.and_false, Bool.not_true, Bool.not_false, List.set_cons_zero, List.set_cons_succ, List.map_cons, List.map_nil, List.cons_append, List.nil_append, List.append_nil, List.length_cons, List.length_nil, Option.map_some, Option.bind_some, Nat.reduceAdd, Nat.reduceSub, Nat.zero_add, decide_true, decide_false, eq_self, toU_sh, toU_ol, v_addI, v_addS, v_addT, v_addL, v_subI, v_mulI, v_mulL, v_mulT, v_fdiv, v_mod, v_pow, vc_lt, vc_le, vc_gt, vc_ge, vc_eq, vc_ne, vc_in, vc_nin, vc_isN, vc_isnN, vc_isB, ve_I, ve_S, ve_B, vi_S, vx_S, vx_T, vx_L, vs_S, vs_T, vs_L, vb_lenS, vb_lenT, vb_lenL, vb_lenR, vb_abs, vb_max, vb_min, vb_intI, vb_intB, vb_intS, vb_intH, vb_listT, vb_listL, vb_tupT, vb_tupL, vb_all, vb_any, vm_strip, vm_lower, vm_upper, vm_split, vm_par, vm_joinL, vm_joinT, vm_find, vm_count, vl_app, vl_pop, va_addI, va_subI, va_addS, vt_bl, vt_int, vt_str, vt_tup, vt_lst, vt_non, uwk_t, uwk_l, uwk_s, uStrs_map, uBls_map, dUx_int, dUx_str, cC, gC, yc, fmz, muC, qmC, List.isEmpty_nil, callR_draw, bind_draw, at_draw, retF_draw, toUR_draw, seq_draw, noExc_draw, all_draw, all_ret, all_ok, all_next, f7, s7_0, s7_1, s7_2, s7_3, vis_s, signs7, uBls_map, all_id, List.length_map, h, hq, hp, List.map_cons, i0, hb1, hb2, e1]
theorem f7_good (hs : ok s) (hp : TL.spl [59] 0 [] s = w :: ws) (h : s.all inC = true) (h2 : 1 ≤ w.length ∧ w.length ≤ 6) (h3 : w.all hx = true) : rn (n + 2) 7 [.sh (.str s)] k = .ret (.ok (.sh (tld (L2.Hx.hexNum (low w) : Nat))) [] k) := by
  have hL : LIM = 16777216 := rfl
  have hF : FUEL = 67108864 := by decide
  have hl := hs.1
  have i0 : atI (U.str w :: ws.map U.str) 0 = some (.str w) := atI_nat (i := 0) rfl
  have hq := hv59' s.length (by omega)
  have hb1 : (1 : Int) ≤ w.length := by omega
  have hb2 : (w.length : Int) ≤ 6 := by omega
  obtain ⟨o, e1, e2⟩ := loop7 (n := n) (k := k) (s := s) h2.2
  rw [fold_good 0 h3] at e2
  subst e2
  have e1' : pFor (forT (C (n + 1)) [3] false b7_0) [3] (w.map fun c => .str [c]) [some (.sh (.str s)), some (.sh (.str w)), some (.sh (.int 0)), none] k = PS.next [some (.sh (.str s)), some (.sh (.str w)), some (.sh (.int (L2.Hx.hexNum (low w) : Nat))), none] k := e1
  rw [r7]
  simp (disch := first | with_unfolding_all exact @id (_ = _) rfl | omega | (apply And.intro; (first | omega | simp); (first | omega | (apply And.intro; omega; with_unfolding_all exact @id (_ = _) rfl)))) only [ob_non, of_non, ob_bl, of_bl, ob_int, of_int, ob_str, of_str, ob_glo, of_glo, ob_bin, of_bin, ob_neg, of_neg, ob_not, of_not, ob_bop, of_bop, ob_ite, of_ite, ob_cmp, of_cmp, ob_chain, of_chain, ob_tup, of_tup, ob_lst, of_lst, ob_idx, of_idx, ob_slc, of_slc, ob_call, of_call, ob_callk, of_callk, ob_new, of_new, ob_mcall, of_mcall, ob_fmt, of_fmt, ob_cat, of_cat, ob_blt, of_blt, ob_isi, of_isi, ob_mth, of_mth, ob_comp, of_comp, ob_var, of_var, obV_ol, obV_sh, obV_f, ofV_ol, ofV_sh, ofV_f, toUR_ok, g_0, g_0n, g_s, y_non, y_bl, y_int, y_str, varR_s, y_var, y_glo, gloR_int, gloR_str, y_bin, negR_i, y_neg, y_not, y_bop, ifP_t, ifP_f, y_and1, y_and2, bopR_tt, bopR_ff, bopR_tf, bopR_ft, y_ite, y_cmp, y_chain, y_tup, y_lst, y_idx, y_slc, y_o0, y_o1, intP_i, y_nil, y_cons, y_qnil, y_qcons, callR_ok, callR_exc, ubR_s, ub_of, ucR_s, uc_of, uvR_s, ui_of, ul_of, ul_2, y_blt1, y_blt2, y_isi, strP_s, y_mt0, y_mt1, olV_ol, ow_var, sp_v, y_ml, y_comp, compT_1, compT_2, uw_nil, uw_cons, y_c0, y_c1, y_val, rngU_1, rngU_2, y_rng, y_enm, z_set, z_sets, ut_1, ut_2, ut_3, parP_2, parP_3, z_par, z_aug, aug_R, augR_l, augR_i, z_expr, retV_s, z_retv, z_ret, retE_u, z_retn, z_if, forT_1, forT_2, z_for, z_whl, whlT_u, z_raise, z_tryr, uc_next, uc_ret, uc_exc, z_pass, z_brk, z_cont, z_nil, z_one, z_cons, retF_n, retF_r, retF_x, vif_of, PR.req_true, PS.req_true, PR.bind_ok, PR.bind_exc, PR.opt_some, PR.req_of, PR.at_ok, PR.at_exc, PS.opt_some, PS.req_of, PS.seq_next, PS.seq_ret, PS.seq_brk, PS.seq_cont, PS.seq_exc, noExc_ok, quiet, quiets, quietI, Mt.ofList, Bool.and_true, Bool.true_and, Bool.and_self, Bool.false_and, Bool.and_false, Bool.not_true, Bool.not_false, List.set_cons_zero, List.set_cons_succ, List.map_cons, List.map_nil, List.cons_append, List.nil_append, List.append_nil, List.length_cons, List.length_nil, Option.map_some, Option.bind_some, Nat.reduceAdd, Nat.reduceSub, Nat.zero_add, decide_true, decide_false, eq_self, toU_sh, toU_ol, v_addI, v_addS, v_addT, v_addL, v_subI, v_mulI, v_mulL, v_mulT, v_fdiv, v_mod, v_pow, vc_lt, vc_le, vc_gt, vc_ge, vc_eq, vc_ne, vc_in, vc_nin, vc_isN, vc_isnN, vc_isB, ve_I, ve_S, ve_B, vi_S, vx_S, vx_T, vx_L, vs_S, vs_T, vs_L, vb_lenS, vb_lenT, vb_lenL, vb_lenR, vb_abs, vb_max, vb_min, vb_intI, vb_intB, vb_intS, vb_intH, vb_listT, vb_listL, vb_tupT, vb_tupL, vb_all, vb_any, vm_strip, vm_lower, vm_upper, vm_split, vm_par, vm_joinL, vm_joinT, vm_find, vm_count, vl_app, vl_pop, va_addI, va_subI, va_addS, vt_bl, vt_int, vt_str, vt_tup, vt_lst, vt_non, uwk_t, uwk_l, uwk_s, uStrs_map, uBls_map, dUx_int, dUx_str, cC, gC, yc, fmz, muC, qmC, List.isEmpty_nil, callR_draw, bind_draw, at_draw, retF_draw, toUR_draw, seq_draw, noExc_draw, all_draw, all_ret, all_ok, all_next, f7, s7_0, s7_1, s7_2, s7_3, s7_4, vis_s, signs7, uBls_map, all_id, List.length_map, h, hq, hp, List.map_cons, i0, hb1, hb2, e1']
  rfl
theorem f7_no {u : U} (h : pl u = true) (hs : tS u = false) : rn (n + 2) 7 [.sh u] k = .ret (.ok (.sh bad) [] k) := by
  have hL : LIM = 16777216 := rfl
  rw [r7]
  simp (disch := first | with_unfolding_all exact @id (_ = _) rfl | omega | (apply And.intro; (first | omega | simp); (first | omega | (apply And.intro; omega; with_unfolding_all exact @id (_ = _) rfl)))) only [ob_non, of_non, ob_bl, of_bl, ob_int, of_int, ob_str, of_str, ob_glo, of_glo, ob_bin, of_bin, ob_neg, of_neg, ob_not, of_not, ob_bop, of_bop, ob_ite, of_ite, ob_cmp, of_cmp, ob_chain, of_chain, ob_tup, of_tup, ob_lst, of_lst, ob_idx, of_idx, ob_slc, of_slc, ob_call, of_call, ob_callk, of_callk, ob_new, of_new, ob_mcall, of_mcall, ob_fmt, of_fmt, ob_cat, of_cat, ob_blt, of_blt, ob_isi, of_isi, ob_mth, of_mth, ob_comp, of_comp, ob_var, of_var, obV_ol, obV_sh, obV_f, ofV_ol, ofV_sh, ofV_f, toUR_ok, g_0, g_0n, g_s, y_non, y_bl, y_int, y_str, varR_s, y_var, y_glo, gloR_int, gloR_str, y_bin, negR_i, y_neg, y_not, y_bop, ifP_t, ifP_f, y_and1, y_and2, bopR_tt, bopR_ff, bopR_tf, bopR_ft, y_ite, y_cmp, y_chain, y_tup, y_lst, y_idx, y_slc, y_o0, y_o1, intP_i, y_nil, y_cons, y_qnil, y_qcons, callR_ok, callR_exc, ubR_s, ub_of, ucR_s, uc_of, uvR_s, ui_of, ul_of, ul_2, y_blt1, y_blt2, y_isi, strP_s, y_mt0, y_mt1, olV_ol, ow_var, sp_v, y_ml, y_comp, compT_1, compT_2, uw_nil, uw_cons, y_c0, y_c1, y_val, rngU_1, rngU_2, y_rng, y_enm, z_set, z_sets, ut_1, ut_2, ut_3, parP_2, parP_3, z_par, z_aug, aug_R, augR_l, augR_i, z_expr, retV_s, z_retv, z_ret, retE_u, z_retn, z_if, forT_1, forT_2, z_for, z_whl, whlT_u, z_raise, z_tryr, uc_next, uc_ret, uc_exc, z_pass, z_brk, z_cont, z_nil, z_one, z_cons, retF_n, retF_r, retF_x, vif_of, PR.req_true, PS.req_true, PR.bind_ok, PR.bind_exc, PR.opt_some, PR.req_of, PR.at_ok, PR.at_exc, PS.opt_some, PS.req_of, PS.seq_next, PS.seq_ret, PS.seq_brk, PS.seq_cont, PS.seq_exc, noExc_ok, quiet, quiets, quietI, Mt.ofList, Bool.and_true, Bool.true_and, Bool.and_self, Bool.false_and, Bool.and_false, Bool.not_true, Bool.not_false, List.set_cons_zero, List.set_cons_succ, List.map_cons, List.map_nil, List.cons_append, List.nil_append, List.append_nil, List.length_cons, List.length_nil, Option.map_some, Option.bind_some, Nat.reduceAdd, Nat.reduceSub, Nat.zero_add, decide_true, decide_false, eq_self, toU_sh, toU_ol, v_addI, v_addS, v_addT, v_addL, v_subI, v_mulI, v_mulL, v_mulT, v_fdiv, v_mod, v_pow, vc_lt, vc_le, vc_gt, vc_ge, vc_eq, vc_ne, vc_in, vc_nin, vc_isN, vc_isnN, vc_isB, ve_I, ve_S, ve_B, vi_S, vx_S, vx_T, vx_L, vs_S, vs_T, vs_L, vb_lenS, vb_lenT, vb_lenL, vb_lenR, vb_abs, vb_max, vb_min, vb_intI, vb_intB, vb_intS, vb_intH, vb_listT, vb_listL, vb_tupT, vb_tupL, vb_all, vb_any, vm_strip, vm_lower, vm_upper, vm_split, vm_par, vm_joinL, vm_joinT, vm_find, vm_count, vl_app, vl_pop, va_addI, va_subI, va_addS, vt_bl, vt_int, vt_str, vt_tup, vt_lst, vt_non, uwk_t, uwk_l, uwk_s, uStrs_map, uBls_map, dUx_int, dUx_str, cC, gC, yc, fmz, muC, qmC, List.isEmpty_nil, callR_draw, bind_draw, at_draw, retF_draw, toUR_draw, seq_draw, noExc_draw, all_draw, all_ret, all_ok, all_next, f7, s7_0, pl_str h, hs]
  rfl
theorem f1_no {u : U} (h : pl u = true) (hs : tS u = false) : rn (n + 2) 1 [.sh u] k = .ret (.exc (.exn 0 [chk]) [] k) := by
  have ux' : uexOk [.str [99, 104, 117, 110, 107]] = true := rfl
  rw [r1]
  simp (disch := first | with_unfolding_all exact @id (_ = _) rfl | omega | (apply And.intro; (first | omega | simp); (first | omega | (apply And.intro; omega; with_unfolding_all exact @id (_ = _) rfl)))) only [ob_non, of_non, ob_bl, of_bl, ob_int, of_int, ob_str, of_str, ob_glo, of_glo, ob_bin, of_bin, ob_neg, of_neg, ob_not, of_not, ob_bop, of_bop, ob_ite, of_ite, ob_cmp, of_cmp, ob_chain, of_chain, ob_tup, of_tup, ob_lst, of_lst, ob_idx, of_idx, ob_slc, of_slc, ob_call, of_call, ob_callk, of_callk, ob_new, of_new, ob_mcall, of_mcall, ob_fmt, of_fmt, ob_cat, of_cat, ob_blt, of_blt, ob_isi, of_isi, ob_mth, of_mth, ob_comp, of_comp, ob_var, of_var, obV_ol, obV_sh, obV_f, ofV_ol, ofV_sh, ofV_f, toUR_ok, g_0, g_0n, g_s, y_non, y_bl, y_int, y_str, varR_s, y_var, y_glo, gloR_int, gloR_str, y_bin, negR_i, y_neg, y_not, y_bop, ifP_t, ifP_f, y_and1, y_and2, bopR_tt, bopR_ff, bopR_tf, bopR_ft, y_ite, y_cmp, y_chain, y_tup, y_lst, y_idx, y_slc, y_o0, y_o1, intP_i, y_nil, y_cons, y_qnil, y_qcons, callR_ok, callR_exc, ubR_s, ub_of, ucR_s, uc_of, uvR_s, ui_of, ul_of, ul_2, y_blt1, y_blt2, y_isi, strP_s, y_mt0, y_mt1, olV_ol, ow_var, sp_v, y_ml, y_comp, compT_1, compT_2, uw_nil, uw_cons, y_c0, y_c1, y_val, rngU_1, rngU_2, y_rng, y_enm, z_set, z_sets, ut_1, ut_2, ut_3, parP_2, parP_3, z_par, z_aug, aug_R, augR_l, augR_i, z_expr, retV_s, z_retv, z_ret, retE_u, z_retn, z_if, forT_1, forT_2, z_for, z_whl, whlT_u, z_raise, z_tryr, uc_next, uc_ret, uc_exc, z_pass, z_brk, z_cont, z_nil, z_one, z_cons, retF_n, retF_r, retF_x, vif_of, PR.req_true, PS.req_true, PR.bind_ok, PR.bind_exc, PR.opt_some, PR.req_of, PR.at_ok, PR.at_exc, PS.opt_some, PS.req_of, PS.seq_next, PS.seq_ret, PS.seq_brk, PS.seq_cont, PS.seq_exc, noExc_ok, quiet, quiets, quietI, Mt.ofList, Bool.and_true, Bool.true_and, Bool.and_self, Bool.false_and, Bool.and_false, Bool.not_true, Bool.not_false, List.set_cons_zero, List.set_cons_succ, List.map_cons, List.map_nil, List.cons_append, List.nil_append, List.append_nil, List.length_cons, List.length_nil, Option.map_some, Option.bind_some, Nat.reduceAdd, Nat.reduceSub, Nat.zero_add, decide_true, decide_false, eq_self, toU_sh, toU_ol, v_addI, v_addS, v_addT, v_addL, v_subI, v_mulI, v_mulL, v_mulT, v_fdiv, v_mod, v_pow, vc_lt, vc_le, vc_gt, vc_ge, vc_eq, vc_ne, vc_in, vc_nin, vc_isN, vc_isnN, vc_isB, ve_I, ve_S, ve_B, vi_S, vx_S, vx_T, vx_L, vs_S, vs_T, vs_L, vb_lenS, vb_lenT, vb_lenL, vb_lenR, vb_abs, vb_max, vb_min, vb_intI, vb_intB, vb_intS, vb_intH, vb_listT, vb_listL, vb_tupT, vb_tupL, vb_all, vb_any, vm_strip, vm_lower, vm_upper, vm_split, vm_par, vm_joinL, vm_joinT, vm_find, vm_count, vl_app, vl_pop, va_addI, va_subI, va_addS, vt_bl, vt_int, vt_str, vt_tup, vt_lst, vt_non, uwk_t, uwk_l, uwk_s, uStrs_map, uBls_map, dUx_int, dUx_str, cC, gC, yc, fmz, muC, qmC, List.isEmpty_nil, callR_draw, bind_draw, at_draw, retF_draw, toUR_draw, seq_draw, noExc_draw, all_draw, all_ret, all_ok, all_next, f1, s1_0, f0_no h hs, ux']
  rfl
theorem f8_exc {u : U} (h : rn (n + 2) 1 [.sh u] k = .ret (.exc (.exn 0 [chk]) [] k)) : rn (n + 3) 8 [.sh u] k = .ret (.ok (.sh bad) [] k) := by
  have hL : LIM = 16777216 := rfl
  rw [r8]
  simp (disch := first | with_unfolding_all exact @id (_ = _) rfl | omega | (apply And.intro; (first | omega | simp); (first | omega | (apply And.intro; omega; with_unfolding_all exact @id (_ = _) rfl)))) only [ob_non, of_non, ob_bl, of_bl, ob_int, of_int, ob_str, of_str, ob_glo, of_glo, ob_bin, of_bin, ob_neg, of_neg, ob_not, of_not, ob_bop, of_bop, ob_ite, of_ite, ob_cmp, of_cmp, ob_chain, of_chain, ob_tup, of_tup, ob_lst, of_lst, ob_idx, of_idx, ob_slc, of_slc, ob_call, of_call, ob_callk, of_callk, ob_new, of_new, ob_mcall, of_mcall, ob_fmt, of_fmt, ob_cat, of_cat, ob_blt, of_blt, ob_isi, of_isi, ob_mth, of_mth, ob_comp, of_comp, ob_var, of_var, obV_ol, obV_sh, obV_f, ofV_ol, ofV_sh, ofV_f, toUR_ok, g_0, g_0n, g_s, y_non, y_bl, y_int, y_str, varR_s, y_var, y_glo, gloR_int, gloR_str, y_bin, negR_i, y_neg, y_not, y_bop, ifP_t, ifP_f, y_and1, y_and2, bopR_tt, bopR_ff, bopR_tf, bopR_ft, y_ite, y_cmp, y_chain, y_tup, y_lst, y_idx, y_slc, y_o0, y_o1, intP_i, y_nil, y_cons, y_qnil, y_qcons, callR_ok, callR_exc, ubR_s, ub_of, ucR_s, uc_of, uvR_s, ui_of, ul_of, ul_2, y_blt1, y_blt2, y_isi, strP_s, y_mt0, y_mt1, olV_ol, ow_var, sp_v, y_ml, y_comp, compT_1, compT_2, uw_nil, uw_cons, y_c0, y_c1, y_val, rngU_1, rngU_2, y_rng, y_enm, z_set, z_sets, ut_1, ut_2, ut_3, parP_2, parP_3, z_par, z_aug, aug_R, augR_l, augR_i, z_expr, retV_s, z_retv, z_ret, retE_u, z_retn, z_if, forT_1, forT_2, z_for, z_whl, whlT_u, z_raise, z_tryr, uc_next, uc_ret, uc_exc, z_pass, z_brk, z_cont, z_nil, z_one, z_cons, retF_n, retF_r, retF_x, vif_of, PR.req_true, PS.req_true, PR.bind_ok, PR.bind_exc, PR.opt_some, PR.req_of, PR.at_ok, PR.at_exc, PS.opt_some, PS.req_of, PS.seq_next, PS.seq_ret, PS.seq_brk, PS.seq_cont, PS.seq_exc, noExc_ok, quiet, quiets, quietI, Mt.ofList, Bool.and_true, Bool.true_and, Bool.and_self, Bool.false_and, Bool.and_false, Bool.not_true, Bool.not_false, List.set_cons_zero, List.set_cons_succ, List.map_cons, List.map_nil, List.cons_append, List.nil_append, List.append_nil, List.length_cons, List.length_nil, Option.map_some, Option.bind_some, Nat.reduceAdd, Nat.reduceSub, Nat.zero_add, decide_true, decide_false, eq_self, toU_sh, toU_ol, v_addI, v_addS, v_addT, v_addL, v_subI, v_mulI, v_mulL, v_mulT, v_fdiv, v_mod, v_pow, vc_lt, vc_le, vc_gt, vc_ge, vc_eq, vc_ne, vc_in, vc_nin, vc_isN, vc_isnN, vc_isB, ve_I, ve_S, ve_B, vi_S, vx_S, vx_T, vx_L, vs_S, vs_T, vs_L, vb_lenS, vb_lenT, vb_lenL, vb_lenR, vb_abs, vb_max, vb_min, vb_intI, vb_intB, vb_intS, vb_intH, vb_listT, vb_listL, vb_tupT, vb_tupL, vb_all, vb_any, vm_strip, vm_lower, vm_upper, vm_split, vm_par, vm_joinL, vm_joinT, vm_find, vm_count, vl_app, vl_pop, va_addI, va_subI, va_addS, vt_bl, vt_int, vt_str, vt_tup, vt_lst, vt_non, uwk_t, uwk_l, uwk_s, uStrs_map, uBls_map, dUx_int, dUx_str, cC, gC, yc, fmz, muC, qmC, List.isEmpty_nil, callR_draw, bind_draw, at_draw, retF_draw, toUR_draw, seq_draw, noExc_draw, all_draw, all_ret, all_ok, all_next, f8, s8_0, b8_0, h]
  rfl
theorem f8_ok {u w : U} (h : rn (n + 2) 1 [.sh u] k = .ret (.ok (.sh w) [] k)) : rn (n + 3) 8 [.sh u] k = .ret (.ok (.sh (.tup [.str [116, 111, 108, 100], w])) [] k) := by
  have hL : LIM = 16777216 := rfl
  rw [r8]
  simp (disch := first | with_unfolding_all exact @id (_ = _) rfl | omega | (apply And.intro; (first | omega | simp); (first | omega | (apply And.intro; omega; with_unfolding_all exact @id (_ = _) rfl)))) only [ob_non, of_non, ob_bl, of_bl, ob_int, of_int, ob_str, of_str, ob_glo, of_glo, ob_bin, of_bin, ob_neg, of_neg, ob_not, of_not, ob_bop, of_bop, ob_ite, of_ite, ob_cmp, of_cmp, ob_chain, of_chain, ob_tup, of_tup, ob_lst, of_lst, ob_idx, of_idx, ob_slc, of_slc, ob_call, of_call, ob_callk, of_callk, ob_new, of_new, ob_mcall, of_mcall, ob_fmt, of_fmt, ob_cat, of_cat, ob_blt, of_blt, ob_isi, of_isi, ob_mth, of_mth, ob_comp, of_comp, ob_var, of_var, obV_ol, obV_sh, obV_f, ofV_ol, ofV_sh, ofV_f, toUR_ok, g_0, g_0n, g_s, y_non, y_bl, y_int, y_str, varR_s, y_var, y_glo, gloR_int, gloR_str, y_bin, negR_i, y_neg, y_not, y_bop, ifP_t, ifP_f, y_and1, y_and2, bopR_tt, bopR_ff, bopR_tf, bopR_ft, y_ite, y_cmp, y_chain, y_tup, y_lst, y_idx, y_slc, y_o0, y_o1, intP_i, y_nil, y_cons, y_qnil, y_qcons, callR_ok, callR_exc, ubR_s, ub_of, ucR_s, uc_of, uvR_s, ui_of, ul_of, ul_2, y_blt1, y_blt2, y_isi, strP_s, y_mt0, y_mt1, olV_ol, ow_var, sp_v, y_ml, y_comp, compT_1, compT_2, uw_nil, uw_cons, y_c0, y_c1, y_val, rngU_1, rngU_2, y_rng, y_enm, z_set, z_sets, ut_1, ut_2, ut_3, parP_2, parP_3, z_par, z_aug, aug_R, augR_l, augR_i, z_expr, retV_s, z_retv, z_ret, retE_u, z_retn, z_if, forT_1, forT_2, z_for, z_whl, whlT_u, z_raise, z_tryr, uc_next, uc_ret, uc_exc, z_pass, z_brk, z_cont, z_nil, z_one, z_cons, retF_n, retF_r, retF_x, vif_of, PR.req_true, PS.req_true, PR.bind_ok, PR.bind_exc, PR.opt_some, PR.req_of, PR.at_ok, PR.at_exc, PS.opt_some, PS.req_of, PS.seq_next, PS.seq_ret, PS.seq_brk, PS.seq_cont, PS.seq_exc, noExc_ok, quiet, quiets, quietI, Mt.ofList, Bool.and_true, Bool.true_and, Bool.and_self, Bool.false_and, Bool.and_false, Bool.not_true, Bool.not_false, List.set_cons_zero, List.set_cons_succ, List.map_cons, List.map_nil, List.cons_append, List.nil_append, List.append_nil, List.length_cons, List.length_nil, Option.map_some, Option.bind_some, Nat.reduceAdd, Nat.reduceSub, Nat.zero_add, decide_true, decide_false, eq_self, toU_sh, toU_ol, v_addI, v_addS, v_addT, v_addL, v_subI, v_mulI, v_mulL, v_mulT, v_fdiv, v_mod, v_pow, vc_lt, vc_le, vc_gt, vc_ge, vc_eq, vc_ne, vc_in, vc_nin, vc_isN, vc_isnN, vc_isB, ve_I, ve_S, ve_B, vi_S, vx_S, vx_T, vx_L, vs_S, vs_T, vs_L, vb_lenS, vb_lenT, vb_lenL, vb_lenR, vb_abs, vb_max, vb_min, vb_intI, vb_intB, vb_intS, vb_intH, vb_listT, vb_listL, vb_tupT, vb_tupL, vb_all, vb_any, vm_strip, vm_lower, vm_upper, vm_split, vm_par, vm_joinL, vm_joinT, vm_find, vm_count, vl_app, vl_pop, va_addI, va_subI, va_addS, vt_bl, vt_int, vt_str, vt_tup, vt_lst, vt_non, uwk_t, uwk_l, uwk_s, uStrs_map, uBls_map, dUx_int, dUx_str, cC, gC, yc, fmz, muC, qmC, List.isEmpty_nil, callR_draw, bind_draw, at_draw, retF_draw, toUR_draw, seq_draw, noExc_draw, all_draw, all_ret, all_ok, all_next, f8, s8_0, b8_0, h]
end
def Th (u : U) : Prop := pl u = true ∧ ∀ s, u = .str s → ok s
def okW (w : U) : Prop := w = bad ∨ ∃ i : Nat, w = tld i ∧ i < 16777216
theorem same {u : U} (h : Th u) : ∃ w, okW w ∧ (∀ n k, rn (n + 3) 8 [.sh u] k = .ret (.ok (.sh w) [] k)) ∧ ∀ n k, rn (n + 2) 7 [.sh u] k = .ret (.ok (.sh w) [] k) := by
  cases hs : tS u with
  | false => exact ⟨bad, .inl rfl, fun n k => f8_exc (f1_no h.1 hs), fun n k => f7_no h.1 hs⟩
  | true =>
    cases u with
    | str s =>
      have o := h.2 s rfl
      obtain ⟨w, p1, p2, ws, e1, e2, e3, e4⟩ := word_of s
      cases rd_any s w with
      | sign h1 => exact ⟨bad, .inl rfl, fun n k => f8_exc (f1_sign o h1), fun n k => f7_sign o h1⟩
      | len h1 h2 => exact ⟨bad, .inl rfl, fun n k => f8_exc (f1_len o e1 e4 h1 h2), fun n k => f7_len o e2 h1 h2⟩
      | dig h1 h2 h3 => exact ⟨bad, .inl rfl, fun n k => f8_exc (f1_dig o e1 e4 e3 h1 h2 h3), fun n k => f7_dig o e2 h1 h2 h3⟩
      | good h1 h2 h3 => exact ⟨_, .inr ⟨_, rfl, num_lt h3 h2.2⟩, fun n k => f8_ok (f1_good o e1 e4 e3 h1 h2 h3), fun n k => f7_good o e2 h1 h2 h3⟩
    | _ => cases hs
theorem w_repr {w : U} (h : okW w) : vblt .repr [w] = some (.sh (.str (rp w))) := by
  rcases h with rfl | ⟨i, rfl, hi⟩
  · exact repr_ok (n := 5) (by decide +kernel) (by decide) (by decide +kernel)
  · have big : (16777216 : Nat) < 10 ^ 100 := by decide +kernel
    refine repr_ok (n := 5) ?_ (by decide) ?_
    · show List.all _ _ = true
      rw [List.all_cons, List.all_cons]
      have : sU 4 (.int (i : Nat)) = true := decide_eq_true (by omega)
      rw [this]
      rfl
    · unfold tld
      rw [wU_tup, wUs_cons, wUs_cons, wU_int, wU_str, wUs_nil]
      decide
theorem w_cls {w : U} (h : okW w) : ucls w = none := by
  rcases h with rfl | ⟨i, rfl, hi⟩ <;> rfl
section
variable {n k : Nat} {a0 a1 a2 a3 a4 a5 a6 a7 a8 a9 : Option O}
theorem turn1 {u : U} (h : Th u) : ∃ w, forT (C (n + 3)) [7] false b9_1 u [a0, a1, a2, a3, a4, a5, a6, a7, a8, a9] k = .next [a0, a1, a2, a3, a4, a5, a6, some (.sh u), some (.sh w), a9] k := by
  obtain ⟨w, hw, h8, h7⟩ := same h
  refine ⟨w, ?_⟩
  simp (disch := first | with_unfolding_all exact @id (_ = _) rfl | omega | (apply And.intro; (first | omega | simp); (first | omega | (apply And.intro; omega; with_unfolding_all exact @id (_ = _) rfl)))) only [ob_non, of_non, ob_bl, of_bl, ob_int, of_int, ob_str, of_str, ob_glo, of_glo, ob_bin, of_bin, ob_neg, of_neg, ob_not, of_not, ob_bop, of_bop, ob_ite, of_ite, ob_cmp, of_cmp, ob_chain, of_chain, ob_tup, of_tup, ob_lst, of_lst, ob_idx, of_idx, ob_slc, of_slc, ob_call, of_call, ob_callk, of_callk, ob_new, of_new, ob_mcall, of_mcall, ob_fmt, of_fmt, ob_cat, of_cat, ob_blt, of_blt, ob_isi, of_isi, ob_mth, of_mth, ob_comp, of_comp, ob_var, of_var, obV_ol, obV_sh, obV_f, ofV_ol, ofV_sh, ofV_f, toUR_ok, g_0, g_0n, g_s, y_non, y_bl, y_int, y_str, varR_s, y_var, y_glo, gloR_int, gloR_str, y_bin, negR_i, y_neg, y_not, y_bop, ifP_t, ifP_f, y_and1, y_and2, bopR_tt, bopR_ff, bopR_tf, bopR_ft, y_ite, y_cmp, y_chain, y_tup, y_lst, y_idx, y_slc, y_o0, y_o1, intP_i, y_nil, y_cons, y_qnil, y_qcons, callR_ok, callR_exc, ubR_s, ub_of, ucR_s, uc_of, uvR_s, ui_of, ul_of, ul_2, y_blt1, y_blt2, y_isi, strP_s, y_mt0, y_mt1, olV_ol, ow_var, sp_v, y_ml, y_comp, compT_1, compT_2, uw_nil, uw_cons, y_c0, y_c1, y_val, rngU_1, rngU_2, y_rng, y_enm, z_set, z_sets, ut_1, ut_2, ut_3, parP_2, parP_3, z_par, z_aug, aug_R, augR_l, augR_i, z_expr, retV_s, z_retv, z_ret, retE_u, z_retn, z_if, forT_1, forT_2, z_for, z_whl, whlT_u, z_raise, z_tryr, uc_next, uc_ret, uc_exc, z_pass, z_brk, z_cont, z_nil, z_one, z_cons, retF_n, retF_r, retF_x, vif_of, PR.req_true, PS.req_true, PR.bind_ok, PR.bind_exc, PR.opt_some, PR.req_of, PR.at_ok, PR.at_exc, PS.opt_some, PS.req_of, PS.seq_next, PS.seq_ret, PS.seq_brk, PS.seq_cont, PS.seq_exc, noExc_ok, quiet, quiets, quietI, Mt.ofList, Bool.and_true, Bool.true_and, Bool.and_self, Bool.false_and, Bool.and_false, Bool.not_true, Bool.not_false, List.set_cons_zero, List.set_cons_succ, List.map_cons, List.map_nil, List.cons_append, List.nil_append, List.append_nil, List.length_cons, List.length_nil, Option.map_some, Option.bind_some, Nat.reduceAdd, Nat.reduceSub, Nat.zero_add, decide_true, decide_false, eq_self, toU_sh, toU_ol, v_addI, v_addS, v_addT, v_addL, v_subI, v_mulI, v_mulL, v_mulT, v_fdiv, v_mod, v_pow, vc_lt, vc_le, vc_gt, vc_ge, vc_eq, vc_ne, vc_in, vc_nin, vc_isN, vc_isnN, vc_isB, ve_I, ve_S, ve_B, vi_S, vx_S, vx_T, vx_L, vs_S, vs_T, vs_L, vb_lenS, vb_lenT, vb_lenL, vb_lenR, vb_abs, vb_max, vb_min, vb_intI, vb_intB, vb_intS, vb_intH, vb_listT, vb_listL, vb_tupT, vb_tupL, vb_all, vb_any, vm_strip, vm_lower, vm_upper, vm_split, vm_par, vm_joinL, vm_joinT, vm_find, vm_count, vl_app, vl_pop, va_addI, va_subI, va_addS, vt_bl, vt_int, vt_str, vt_tup, vt_lst, vt_non, uwk_t, uwk_l, uwk_s, uStrs_map, uBls_map, dUx_int, dUx_str, cC, gC, yc, fmz, muC, qmC, List.isEmpty_nil, callR_draw, bind_draw, at_draw, retF_draw, toUR_draw, seq_draw, noExc_draw, all_draw, all_ret, all_ok, all_next, b9_1, c9_1_0, c9_1_1, h8, h7, w_repr hw, ul_of (w_cls hw)]
theorem things {us : List U} (h : ∀ u, u ∈ us → Th u) : pFor (forT (C (n + 3)) [7] false b9_1) [7, 8] us [a0, a1, a2, a3, a4, a5, a6, none, none, a9] k = .next [a0, a1, a2, a3, a4, a5, a6, none, none, a9] k := by
  have := for_fold (f := forT (C (n + 3)) [7] false b9_1) (fg := [7, 8]) (e := fun _ : Unit => [a0, a1, a2, a3, a4, a5, a6, none, none, a9]) (k := k) (g := fun a _ => a) (xs := us) (a := ()) fun x _ hx => (by
    obtain ⟨w, e⟩ := turn1 (n := n) (k := k) (a0 := a0) (a1 := a1) (a2 := a2) (a3 := a3) (a4 := a4) (a5 := a5) (a6 := a6) (a7 := none) (a8 := none) (a9 := a9) (h x hx)
    exact ⟨_, e, rfl⟩)
  exact this
end
end K10

/-! part G4_K10 -/
namespace K10
open Cl
theorem f4_run {n k : Nat} {ts : List Tx} (h0 : 0 < ts.length) (hl : ts.length < 1000) (hk : k < 1000000) : (rn (n + 2) 4 [.sh .bag, .sh (.lst (ts.map .str))] k).All fun o => ∃ t, o = .ok (.sh (.str t)) [] (k + 1) ∧ t ∈ ts := by
  rw [r4]
  simp (disch := first | with_unfolding_all exact @id (_ = _) rfl | omega | (apply And.intro; (first | omega | simp); (first | omega | (apply And.intro; omega; with_unfolding_all exact @id (_ = _) rfl)))) only [ob_non, of_non, ob_bl, of_bl, ob_int, of_int, ob_str, of_str, ob_glo, of_glo, ob_bin, of_bin, ob_neg, of_neg, ob_not, of_not, ob_bop, of_bop, ob_ite, of_ite, ob_cmp, of_cmp, ob_chain, of_chain, ob_tup, of_tup, ob_lst, of_lst, ob_idx, of_idx, ob_slc, of_slc, ob_call, of_call, ob_callk, of_callk, ob_new, of_new, ob_mcall, of_mcall, ob_fmt, of_fmt, ob_cat, of_cat, ob_blt, of_blt, ob_isi, of_isi, ob_mth, of_mth, ob_comp, of_comp, ob_var, of_var, obV_ol, obV_sh, obV_f, ofV_ol, ofV_sh, ofV_f, toUR_ok, g_0, g_0n, g_s, y_non, y_bl, y_int, y_str, varR_s, y_var, y_glo, gloR_int, gloR_str, y_bin, negR_i, y_neg, y_not, y_bop, ifP_t, ifP_f, y_and1, y_and2, bopR_tt, bopR_ff, bopR_tf, bopR_ft, y_ite, y_cmp, y_chain, y_tup, y_lst, y_idx, y_slc, y_o0, y_o1, intP_i, y_nil, y_cons, y_qnil, y_qcons, callR_ok, callR_exc, ubR_s, ub_of, ucR_s, uc_of, uvR_s, ui_of, ul_of, ul_2, y_blt1, y_blt2, y_isi, strP_s, y_mt0, y_mt1, olV_ol, ow_var, sp_v, y_ml, y_comp, compT_1, compT_2, uw_nil, uw_cons, y_c0, y_c1, y_val, rngU_1, rngU_2, y_rng, y_enm, z_set, z_sets, ut_1, ut_2, ut_3, parP_2, parP_3, z_par, z_aug, aug_R, augR_l, augR_i, z_expr, retV_s, z_retv, z_ret, retE_u, z_retn, z_if, forT_1, forT_2, z_for, z_whl, whlT_u, z_raise, z_tryr, uc_next, uc_ret, uc_exc, z_pass, z_brk, z_cont, z_nil, z_one, z_cons, retF_n, retF_r, retF_x, vif_of, PR.req_true, PS.req_true, PR.bind_ok, PR.bind_exc, PR.opt_some, PR.req_of, PR.at_ok, PR.at_exc, PS.opt_some, PS.req_of, PS.seq_next, PS.seq_ret, PS.seq_brk, PS.seq_cont, PS.seq_exc, noExc_ok, quiet, quiets, quietI, Mt.ofList, Bool.and_true, Bool.true_and, Bool.and_self, Bool.false_and, Bool.and_false, Bool.not_true, Bool.not_false, List.set_cons_zero, List.set_cons_succ, List.map_cons, List.map_nil, List.cons_append, List.nil_append, List.append_nil, List.length_cons, List.length_nil, Option.map_some, Option.bind_some, Nat.reduceAdd, Nat.reduceSub, Nat.zero_add, decide_true, decide_false, eq_self, toU_sh, toU_ol, v_addI, v_addS, v_addT, v_addL, v_subI, v_mulI, v_mulL, v_mulT, v_fdiv, v_mod, v_pow, vc_lt, vc_le, vc_gt, vc_ge, vc_eq, vc_ne, vc_in, vc_nin, vc_isN, vc_isnN, vc_isB, ve_I, ve_S, ve_B, vi_S, vx_S, vx_T, vx_L, vs_S, vs_T, vs_L, vb_lenS, vb_lenT, vb_lenL, vb_lenR, vb_abs, vb_max, vb_min, vb_intI, vb_intB, vb_intS, vb_intH, vb_listT, vb_listL, vb_tupT, vb_tupL, vb_all, vb_any, vm_strip, vm_lower, vm_upper, vm_split, vm_par, vm_joinL, vm_joinT, vm_find, vm_count, vl_app, vl_pop, va_addI, va_subI, va_addS, vt_bl, vt_int, vt_str, vt_tup, vt_lst, vt_non, uwk_t, uwk_l, uwk_s, uStrs_map, uBls_map, dUx_int, dUx_str, cC, gC, yc, fmz, muC, qmC, List.isEmpty_nil, callR_draw, bind_draw, at_draw, retF_draw, toUR_draw, seq_draw, noExc_draw, all_draw, all_ret, all_ok, all_next, f4, s4_0, tk, List.length_map]
  intro r hr
  obtain ⟨x, e, hm⟩ := atI_draw (xs := ts.map U.str) (r := r) (by simpa using hr)
  obtain ⟨t, ht, rfl⟩ := List.mem_map.mp hm
  simp (disch := first | with_unfolding_all exact @id (_ = _) rfl | omega | (apply And.intro; (first | omega | simp); (first | omega | (apply And.intro; omega; with_unfolding_all exact @id (_ = _) rfl)))) only [ob_non, of_non, ob_bl, of_bl, ob_int, of_int, ob_str, of_str, ob_glo, of_glo, ob_bin, of_bin, ob_neg, of_neg, ob_not, of_not, ob_bop, of_bop, ob_ite, of_ite, ob_cmp, of_cmp, ob_chain, of_chain, ob_tup, of_tup, ob_lst, of_lst, ob_idx, of_idx, ob_slc, of_slc, ob_call, of_call, ob_callk, of_callk, ob_new, of_new, ob_mcall, of_mcall, ob_fmt, of_fmt, ob_cat, of_cat, ob_blt, of_blt, ob_isi, of_isi, ob_mth, of_mth, ob_comp, of_comp, ob_var, of_var, obV_ol, obV_sh, obV_f, ofV_ol, ofV_sh, ofV_f, toUR_ok, g_0, g_0n, g_s, y_non, y_bl, y_int, y_str, varR_s, y_var, y_glo, gloR_int, gloR_str, y_bin, negR_i, y_neg, y_not, y_bop, ifP_t, ifP_f, y_and1, y_and2, bopR_tt, bopR_ff, bopR_tf, bopR_ft, y_ite, y_cmp, y_chain, y_tup, y_lst, y_idx, y_slc, y_o0, y_o1, intP_i, y_nil, y_cons, y_qnil, y_qcons, callR_ok, callR_exc, ubR_s, ub_of, ucR_s, uc_of, uvR_s, ui_of, ul_of, ul_2, y_blt1, y_blt2, y_isi, strP_s, y_mt0, y_mt1, olV_ol, ow_var, sp_v, y_ml, y_comp, compT_1, compT_2, uw_nil, uw_cons, y_c0, y_c1, y_val, rngU_1, rngU_2, y_rng, y_enm, z_set, z_sets, ut_1, ut_2, ut_3, parP_2, parP_3, z_par, z_aug, aug_R, augR_l, augR_i, z_expr, retV_s, z_retv, z_ret, retE_u, z_retn, z_if, forT_1, forT_2, z_for, z_whl, whlT_u, z_raise, z_tryr, uc_next, uc_ret, uc_exc, z_pass, z_brk, z_cont, z_nil, z_one, z_cons, retF_n, retF_r, retF_x, vif_of, PR.req_true, PS.req_true, PR.bind_ok, PR.bind_exc, PR.opt_some, PR.req_of, PR.at_ok, PR.at_exc, PS.opt_some, PS.req_of, PS.seq_next, PS.seq_ret, PS.seq_brk, PS.seq_cont, PS.seq_exc, noExc_ok, quiet, quiets, quietI, Mt.ofList, Bool.and_true, Bool.true_and, Bool.and_self, Bool.false_and, Bool.and_false, Bool.not_true, Bool.not_false, List.set_cons_zero, List.set_cons_succ, List.map_cons, List.map_nil, List.cons_append, List.nil_append, List.append_nil, List.length_cons, List.length_nil, Option.map_some, Option.bind_some, Nat.reduceAdd, Nat.reduceSub, Nat.zero_add, decide_true, decide_false, eq_self, toU_sh, toU_ol, v_addI, v_addS, v_addT, v_addL, v_subI, v_mulI, v_mulL, v_mulT, v_fdiv, v_mod, v_pow, vc_lt, vc_le, vc_gt, vc_ge, vc_eq, vc_ne, vc_in, vc_nin, vc_isN, vc_isnN, vc_isB, ve_I, ve_S, ve_B, vi_S, vx_S, vx_T, vx_L, vs_S, vs_T, vs_L, vb_lenS, vb_lenT, vb_lenL, vb_lenR, vb_abs, vb_max, vb_min, vb_intI, vb_intB, vb_intS, vb_intH, vb_listT, vb_listL, vb_tupT, vb_tupL, vb_all, vb_any, vm_strip, vm_lower, vm_upper, vm_split, vm_par, vm_joinL, vm_joinT, vm_find, vm_count, vl_app, vl_pop, va_addI, va_subI, va_addS, vt_bl, vt_int, vt_str, vt_tup, vt_lst, vt_non, uwk_t, uwk_l, uwk_s, uStrs_map, uBls_map, dUx_int, dUx_str, cC, gC, yc, fmz, muC, qmC, List.isEmpty_nil, callR_draw, bind_draw, at_draw, retF_draw, toUR_draw, seq_draw, noExc_draw, all_draw, all_ret, all_ok, all_next, e]
  exact ⟨t, rfl, ht⟩
def okM (u : U) : Bool := pl u && match u with
  | .str s => decide (s.length ≤ 1000) && s.all fun c => decide (c < 128)
  | _ => true
theorem okM_th {u : U} (h : okM u = true) : Th u := by
  unfold okM at h
  rw [Bool.and_eq_true] at h
  refine ⟨h.1, fun s e => ?_⟩
  subst e
  have := h.2
  dsimp only at this
  rw [Bool.and_eq_true] at this
  exact ⟨of_decide_eq_true this.1, fun c hc => of_decide_eq_true (List.all_eq_true.mp this.2 c hc)⟩
def menu : List U := [U.non, U.bl true, U.bl false, U.int 0, U.int 1, U.int (-1), U.int 255, U.int 256,
                      U.int 100000000000000000000000000000000000000000000000000000000000, U.str [], U.str [97],
                      U.str [97, 58, 32, 98], U.str [32, 97], U.str [99, 108, 111, 115, 101], U.lst [], U.tup [],
                      U.lst [U.int 13, U.int 10], U.lst [U.bl true], U.tup [U.int 1, U.int 2],
                      U.tup [U.str [97], U.str [98]], U.tup [U.tup [U.str [97], U.str [98]]],
                      U.lst [U.tup [U.str [97], U.str [98]]], U.tup [U.str [97], U.str [32, 98]],
                      U.tup [U.str [], U.str [98]], U.tup [U.non, U.lst [U.int 1]]]
theorem menu_ok : menu.all okM = true := by decide +kernel
theorem f6_run {n k : Nat} (hk : k < 1000000) : (rn (n + 2) 6 [.sh .bag, .sh (.lst [])] k).All fun o => ∃ u, o = .ok (.sh u) [] (k + 1) ∧ okM u = true := by
  have hL : LIM = 16777216 := rfl
  rw [r6]
  have hp : ((10 : Int) ^ (59 : Int).toNat) = 100000000000000000000000000000000000000000000000000000000000 := by decide +kernel
  simp (disch := first | with_unfolding_all exact @id (_ = _) rfl | omega | (apply And.intro; (first | omega | simp); (first | omega | (apply And.intro; omega; with_unfolding_all exact @id (_ = _) rfl)))) only [ob_non, of_non, ob_bl, of_bl, ob_int, of_int, ob_str, of_str, ob_glo, of_glo, ob_bin, of_bin, ob_neg, of_neg, ob_not, of_not, ob_bop, of_bop, ob_ite, of_ite, ob_cmp, of_cmp, ob_chain, of_chain, ob_tup, of_tup, ob_lst, of_lst, ob_idx, of_idx, ob_slc, of_slc, ob_call, of_call, ob_callk, of_callk, ob_new, of_new, ob_mcall, of_mcall, ob_fmt, of_fmt, ob_cat, of_cat, ob_blt, of_blt, ob_isi, of_isi, ob_mth, of_mth, ob_comp, of_comp, ob_var, of_var, obV_ol, obV_sh, obV_f, ofV_ol, ofV_sh, ofV_f, toUR_ok, g_0, g_0n, g_s, y_non, y_bl, y_int, y_str, varR_s, y_var, y_glo, gloR_int, gloR_str, y_bin, negR_i, y_neg, y_not, y_bop, ifP_t, ifP_f, y_and1, y_and2, bopR_tt, bopR_ff, bopR_tf, bopR_ft, y_ite, y_cmp, y_chain, y_tup, y_lst, y_idx, y_slc, y_o0, y_o1, intP_i, y_nil, y_cons, y_qnil, y_qcons, callR_ok, callR_exc, ubR_s, ub_of, ucR_s, uc_of, uvR_s, ui_of, ul_of, ul_2, y_blt1, y_blt2, y_isi, strP_s, y_mt0, y_mt1, olV_ol, ow_var, sp_v, y_ml, y_comp, compT_1, compT_2, uw_nil, uw_cons, y_c0, y_c1, y_val, rngU_1, rngU_2, y_rng, y_enm, z_set, z_sets, ut_1, ut_2, ut_3, parP_2, parP_3, z_par, z_aug, aug_R, augR_l, augR_i, z_expr, retV_s, z_retv, z_ret, retE_u, z_retn, z_if, forT_1, forT_2, z_for, z_whl, whlT_u, z_raise, z_tryr, uc_next, uc_ret, uc_exc, z_pass, z_brk, z_cont, z_nil, z_one, z_cons, retF_n, retF_r, retF_x, vif_of, PR.req_true, PS.req_true, PR.bind_ok, PR.bind_exc, PR.opt_some, PR.req_of, PR.at_ok, PR.at_exc, PS.opt_some, PS.req_of, PS.seq_next, PS.seq_ret, PS.seq_brk, PS.seq_cont, PS.seq_exc, noExc_ok, quiet, quiets, quietI, Mt.ofList, Bool.and_true, Bool.true_and, Bool.and_self, Bool.false_and, Bool.and_false, Bool.not_true, Bool.not_false, List.set_cons_zero, List.set_cons_succ, List.map_cons, List.map_nil, List.cons_append, List.nil_append, List.append_nil, List.length_cons, List.length_nil, Option.map_some, Option.bind_some, Nat.reduceAdd, Nat.reduceSub, Nat.zero_add, decide_true, decide_false, eq_self, toU_sh, toU_ol, v_addI, v_addS, v_addT, v_addL, v_subI, v_mulI, v_mulL, v_mulT, v_fdiv, v_mod, v_pow, vc_lt, vc_le, vc_gt, vc_ge, vc_eq, vc_ne, vc_in, vc_nin, vc_isN, vc_isnN, vc_isB, ve_I, ve_S, ve_B, vi_S, vx_S, vx_T, vx_L, vs_S, vs_T, vs_L, vb_lenS, vb_lenT, vb_lenL, vb_lenR, vb_abs, vb_max, vb_min, vb_intI, vb_intB, vb_intS, vb_intH, vb_listT, vb_listL, vb_tupT, vb_tupL, vb_all, vb_any, vm_strip, vm_lower, vm_upper, vm_split, vm_par, vm_joinL, vm_joinT, vm_find, vm_count, vl_app, vl_pop, va_addI, va_subI, va_addS, vt_bl, vt_int, vt_str, vt_tup, vt_lst, vt_non, uwk_t, uwk_l, uwk_s, uStrs_map, uBls_map, dUx_int, dUx_str, cC, gC, yc, fmz, muC, qmC, List.isEmpty_nil, callR_draw, bind_draw, at_draw, retF_draw, toUR_draw, seq_draw, noExc_draw, all_draw, all_ret, all_ok, all_next, f6, s6_0, s6_1, s6_2, hp, tk]
  intro r hr
  obtain ⟨x, e, hm⟩ := atI_draw (xs := menu) (r := r) hr
  have e' : atI menu (r : Int) = some x := e
  unfold menu at e'
  simp (disch := first | with_unfolding_all exact @id (_ = _) rfl | omega | (apply And.intro; (first | omega | simp); (first | omega | (apply And.intro; omega; with_unfolding_all exact @id (_ = _) rfl)))) only [ob_non, of_non, ob_bl, of_bl, ob_int, of_int, ob_str, of_str, ob_glo, of_glo, ob_bin, of_bin, ob_neg, of_neg, ob_not, of_not, ob_bop, of_bop, ob_ite, of_ite, ob_cmp, of_cmp, ob_chain, of_chain, ob_tup, of_tup, ob_lst, of_lst, ob_idx, of_idx, ob_slc, of_slc, ob_call, of_call, ob_callk, of_callk, ob_new, of_new, ob_mcall, of_mcall, ob_fmt, of_fmt, ob_cat, of_cat, ob_blt, of_blt, ob_isi, of_isi, ob_mth, of_mth, ob_comp, of_comp, ob_var, of_var, obV_ol, obV_sh, obV_f, ofV_ol, ofV_sh, ofV_f, toUR_ok, g_0, g_0n, g_s, y_non, y_bl, y_int, y_str, varR_s, y_var, y_glo, gloR_int, gloR_str, y_bin, negR_i, y_neg, y_not, y_bop, ifP_t, ifP_f, y_and1, y_and2, bopR_tt, bopR_ff, bopR_tf, bopR_ft, y_ite, y_cmp, y_chain, y_tup, y_lst, y_idx, y_slc, y_o0, y_o1, intP_i, y_nil, y_cons, y_qnil, y_qcons, callR_ok, callR_exc, ubR_s, ub_of, ucR_s, uc_of, uvR_s, ui_of, ul_of, ul_2, y_blt1, y_blt2, y_isi, strP_s, y_mt0, y_mt1, olV_ol, ow_var, sp_v, y_ml, y_comp, compT_1, compT_2, uw_nil, uw_cons, y_c0, y_c1, y_val, rngU_1, rngU_2, y_rng, y_enm, z_set, z_sets, ut_1, ut_2, ut_3, parP_2, parP_3, z_par, z_aug, aug_R, augR_l, augR_i, z_expr, retV_s, z_retv, z_ret, retE_u, z_retn, z_if, forT_1, forT_2, z_for, z_whl, whlT_u, z_raise, z_tryr, uc_next, uc_ret, uc_exc, z_pass, z_brk, z_cont, z_nil, z_one, z_cons, retF_n, retF_r, retF_x, vif_of, PR.req_true, PS.req_true, PR.bind_ok, PR.bind_exc, PR.opt_some, PR.req_of, PR.at_ok, PR.at_exc, PS.opt_some, PS.req_of, PS.seq_next, PS.seq_ret, PS.seq_brk, PS.seq_cont, PS.seq_exc, noExc_ok, quiet, quiets, quietI, Mt.ofList, Bool.and_true, Bool.true_and, Bool.and_self, Bool.false_and, Bool.and_false, Bool.not_true, Bool.not_false, List.set_cons_zero, List.set_cons_succ, List.map_cons, List.map_nil, List.cons_append, List.nil_append, List.append_nil, List.length_cons, List.length_nil, Option.map_some, Option.bind_some, Nat.reduceAdd, Nat.reduceSub, Nat.zero_add, decide_true, decide_false, eq_self, toU_sh, toU_ol, v_addI, v_addS, v_addT, v_addL, v_subI, v_mulI, v_mulL, v_mulT, v_fdiv, v_mod, v_pow, vc_lt, vc_le, vc_gt, vc_ge, vc_eq, vc_ne, vc_in, vc_nin, vc_isN, vc_isnN, vc_isB, ve_I, ve_S, ve_B, vi_S, vx_S, vx_T, vx_L, vs_S, vs_T, vs_L, vb_lenS, vb_lenT, vb_lenL, vb_lenR, vb_abs, vb_max, vb_min, vb_intI, vb_intB, vb_intS, vb_intH, vb_listT, vb_listL, vb_tupT, vb_tupL, vb_all, vb_any, vm_strip, vm_lower, vm_upper, vm_split, vm_par, vm_joinL, vm_joinT, vm_find, vm_count, vl_app, vl_pop, va_addI, va_subI, va_addS, vt_bl, vt_int, vt_str, vt_tup, vt_lst, vt_non, uwk_t, uwk_l, uwk_s, uStrs_map, uBls_map, dUx_int, dUx_str, cC, gC, yc, fmz, muC, qmC, List.isEmpty_nil, callR_draw, bind_draw, at_draw, retF_draw, toUR_draw, seq_draw, noExc_draw, all_draw, all_ret, all_ok, all_next, e']
  exact ⟨x, rfl, List.all_eq_true.mp menu_ok x hm⟩
def signs : Tx := [48, 48, 49, 57, 97, 70, 102, 120, 103, 32, 45, 43, 95]
theorem signs_len : signs.length = 13 := rfl
theorem signs_asc : ∀ c, c ∈ signs → c < 128 := by
  have : signs.all (fun c => decide (c < 128)) = true := by decide +kernel
  intro c hc
  exact of_decide_eq_true (List.all_eq_true.mp this c hc)
def tails : List Tx := [[], [], [59], [59, 97, 61, 98], [59, 32, 120], [59, 59], [32], [59, 10], [59, 34, 9]]
def sm (t : Tx) : Prop := t.length ≤ 20 ∧ ∀ c, c ∈ t → c < 128
theorem sm_of {ts : List Tx} (h : (ts.all fun t => decide (t.length ≤ 20) && t.all fun c => decide (c < 128)) = true) {t : Tx} (ht : t ∈ ts) : sm t := by
  have := List.all_eq_true.mp h t ht
  rw [Bool.and_eq_true] at this
  exact ⟨of_decide_eq_true this.1, fun c hc => of_decide_eq_true (List.all_eq_true.mp this.2 c hc)⟩
section
variable {n k : Nat} {a0 a1 a2 a3 a4 a5 a6 a7 a8 a9 : Option O}
set_option maxHeartbeats 2000000 in
theorem page {m : Nat} (hm : m < 1000) (hk : k < 1000000) :
    (pComp (compT (C (n + 1)) (.idx (.var 1) (.call 3 (.cons (.var 3) (.cons (.int 13) .nil)))) [9] false .nil [9]) ((List.range m).map fun (i : Nat) => .int (0 + (i : Int))) [a0, some (.sh (.str signs)), a2, some (.sh .bag), a4, a5, a6, a7, a8, none] k).All
      fun o => ∃ (ts : List Tx) (k' : Nat), o = .ok (ts.map .str) [a0, some (.sh (.str signs)), a2, some (.sh .bag), a4, a5, a6, a7, a8, none] k' ∧ k' ≤ k + m ∧ ts.length = m ∧ ∀ t, t ∈ ts → t.length = 1 ∧ ∀ c, c ∈ t → c ∈ signs := by
  have hl := signs_len
  have := all_comp (f := compT (C (n + 1)) (.idx (.var 1) (.call 3 (.cons (.var 3) (.cons (.int 13) .nil)))) [9] false .nil [9]) (P := fun j acc π k' => ∃ ts : List Tx, acc = ts.map .str ∧ π = [a0, some (.sh (.str signs)), a2, some (.sh .bag), a4, a5, a6, a7, a8, none] ∧ k' ≤ k + j ∧ ts.length = j ∧ ∀ t, t ∈ ts → t.length = 1 ∧ ∀ c, c ∈ t → c ∈ signs)
    (xs := (List.range m).map fun (i : Nat) => .int (0 + (i : Int))) (i := 0) (acc := []) (π := [a0, some (.sh (.str signs)), a2, some (.sh .bag), a4, a5, a6, a7, a8, none]) (k := k) ⟨[], rfl, rfl, Nat.le_refl _, rfl, fun t ht => by cases ht⟩ (by
      rintro j x acc π k' hx ⟨ts, rfl, rfl, hk', hlen, hts⟩
      have hj := (List.getElem?_eq_some_iff.mp hx).1
      rw [List.length_map, List.length_range] at hj
      simp (disch := first | with_unfolding_all exact @id (_ = _) rfl | omega | (apply And.intro; (first | omega | simp); (first | omega | (apply And.intro; omega; with_unfolding_all exact @id (_ = _) rfl)))) only [ob_non, of_non, ob_bl, of_bl, ob_int, of_int, ob_str, of_str, ob_glo, of_glo, ob_bin, of_bin, ob_neg, of_neg, ob_not, of_not, ob_bop, of_bop, ob_ite, of_ite, ob_cmp, of_cmp, ob_chain, of_chain, ob_tup, of_tup, ob_lst, of_lst, ob_idx, of_idx, ob_slc, of_slc, ob_call, of_call, ob_callk, of_callk, ob_new, of_new, ob_mcall, of_mcall, ob_fmt, of_fmt, ob_cat, of_cat, ob_blt, of_blt, ob_isi, of_isi, ob_mth, of_mth, ob_comp, of_comp, ob_var, of_var, obV_ol, obV_sh, obV_f, ofV_ol, ofV_sh, ofV_f, toUR_ok, g_0, g_0n, g_s, y_non, y_bl, y_int, y_str, varR_s, y_var, y_glo, gloR_int, gloR_str, y_bin, negR_i, y_neg, y_not, y_bop, ifP_t, ifP_f, y_and1, y_and2, bopR_tt, bopR_ff, bopR_tf, bopR_ft, y_ite, y_cmp, y_chain, y_tup, y_lst, y_idx, y_slc, y_o0, y_o1, intP_i, y_nil, y_cons, y_qnil, y_qcons, callR_ok, callR_exc, ubR_s, ub_of, ucR_s, uc_of, uvR_s, ui_of, ul_of, ul_2, y_blt1, y_blt2, y_isi, strP_s, y_mt0, y_mt1, olV_ol, ow_var, sp_v, y_ml, y_comp, compT_1, compT_2, uw_nil, uw_cons, y_c0, y_c1, y_val, rngU_1, rngU_2, y_rng, y_enm, z_set, z_sets, ut_1, ut_2, ut_3, parP_2, parP_3, z_par, z_aug, aug_R, augR_l, augR_i, z_expr, retV_s, z_retv, z_ret, retE_u, z_retn, z_if, forT_1, forT_2, z_for, z_whl, whlT_u, z_raise, z_tryr, uc_next, uc_ret, uc_exc, z_pass, z_brk, z_cont, z_nil, z_one, z_cons, retF_n, retF_r, retF_x, vif_of, PR.req_true, PS.req_true, PR.bind_ok, PR.bind_exc, PR.opt_some, PR.req_of, PR.at_ok, PR.at_exc, PS.opt_some, PS.req_of, PS.seq_next, PS.seq_ret, PS.seq_brk, PS.seq_cont, PS.seq_exc, noExc_ok, quiet, quiets, quietI, Mt.ofList, Bool.and_true, Bool.true_and, Bool.and_self, Bool.false_and, Bool.and_false, Bool.not_true, Bool.not_false, List.set_cons_zero, List.set_cons_succ, List.map_cons, List.map_nil, List.cons_append, List.nil_append, List.append_nil, List.length_cons, List.length_nil, Option.map_some, Option.bind_some, Nat.reduceAdd, Nat.reduceSub, Nat.zero_add, decide_true, decide_false, eq_self, toU_sh, toU_ol, v_addI, v_addS, v_addT, v_addL, v_subI, v_mulI, v_mulL, v_mulT, v_fdiv, v_mod, v_pow, vc_lt, vc_le, vc_gt, vc_ge, vc_eq, vc_ne, vc_in, vc_nin, vc_isN, vc_isnN, vc_isB, ve_I, ve_S, ve_B, vi_S, vx_S, vx_T, vx_L, vs_S, vs_T, vs_L, vb_lenS, vb_lenT, vb_lenL, vb_lenR, vb_abs, vb_max, vb_min, vb_intI, vb_intB, vb_intS, vb_intH, vb_listT, vb_listL, vb_tupT, vb_tupL, vb_all, vb_any, vm_strip, vm_lower, vm_upper, vm_split, vm_par, vm_joinL, vm_joinT, vm_find, vm_count, vl_app, vl_pop, va_addI, va_subI, va_addS, vt_bl, vt_int, vt_str, vt_tup, vt_lst, vt_non, uwk_t, uwk_l, uwk_s, uStrs_map, uBls_map, dUx_int, dUx_str, cC, gC, yc, fmz, muC, qmC, List.isEmpty_nil, callR_draw, bind_draw, at_draw, retF_draw, toUR_draw, seq_draw, noExc_draw, all_draw, all_ret, all_ok, all_next, tk]
      intro r hr
      obtain ⟨c, e, hc⟩ := atI_draw (xs := signs) (r := r) (by rw [hl]; exact hr)
      simp (disch := first | with_unfolding_all exact @id (_ = _) rfl | omega | (apply And.intro; (first | omega | simp); (first | omega | (apply And.intro; omega; with_unfolding_all exact @id (_ = _) rfl)))) only [ob_non, of_non, ob_bl, of_bl, ob_int, of_int, ob_str, of_str, ob_glo, of_glo, ob_bin, of_bin, ob_neg, of_neg, ob_not, of_not, ob_bop, of_bop, ob_ite, of_ite, ob_cmp, of_cmp, ob_chain, of_chain, ob_tup, of_tup, ob_lst, of_lst, ob_idx, of_idx, ob_slc, of_slc, ob_call, of_call, ob_callk, of_callk, ob_new, of_new, ob_mcall, of_mcall, ob_fmt, of_fmt, ob_cat, of_cat, ob_blt, of_blt, ob_isi, of_isi, ob_mth, of_mth, ob_comp, of_comp, ob_var, of_var, obV_ol, obV_sh, obV_f, ofV_ol, ofV_sh, ofV_f, toUR_ok, g_0, g_0n, g_s, y_non, y_bl, y_int, y_str, varR_s, y_var, y_glo, gloR_int, gloR_str, y_bin, negR_i, y_neg, y_not, y_bop, ifP_t, ifP_f, y_and1, y_and2, bopR_tt, bopR_ff, bopR_tf, bopR_ft, y_ite, y_cmp, y_chain, y_tup, y_lst, y_idx, y_slc, y_o0, y_o1, intP_i, y_nil, y_cons, y_qnil, y_qcons, callR_ok, callR_exc, ubR_s, ub_of, ucR_s, uc_of, uvR_s, ui_of, ul_of, ul_2, y_blt1, y_blt2, y_isi, strP_s, y_mt0, y_mt1, olV_ol, ow_var, sp_v, y_ml, y_comp, compT_1, compT_2, uw_nil, uw_cons, y_c0, y_c1, y_val, rngU_1, rngU_2, y_rng, y_enm, z_set, z_sets, ut_1, ut_2, ut_3, parP_2, parP_3, z_par, z_aug, aug_R, augR_l, augR_i, z_expr, retV_s, z_retv, z_ret, retE_u, z_retn, z_if, forT_1, forT_2, z_for, z_whl, whlT_u, z_raise, z_tryr, uc_next, uc_ret, uc_exc, z_pass, z_brk, z_cont, z_nil, z_one, z_cons, retF_n, retF_r, retF_x, vif_of, PR.req_true, PS.req_true, PR.bind_ok, PR.bind_exc, PR.opt_some, PR.req_of, PR.at_ok, PR.at_exc, PS.opt_some, PS.req_of, PS.seq_next, PS.seq_ret, PS.seq_brk, PS.seq_cont, PS.seq_exc, noExc_ok, quiet, quiets, quietI, Mt.ofList, Bool.and_true, Bool.true_and, Bool.and_self, Bool.false_and, Bool.and_false, Bool.not_true, Bool.not_false, List.set_cons_zero, List.set_cons_succ, List.map_cons, List.map_nil, List.cons_append, List.nil_append, List.append_nil, List.length_cons, List.length_nil, Option.map_some, Option.bind_some, Nat.reduceAdd, Nat.reduceSub, Nat.zero_add, decide_true, decide_false, eq_self, toU_sh, toU_ol, v_addI, v_addS, v_addT, v_addL, v_subI, v_mulI, v_mulL, v_mulT, v_fdiv, v_mod, v_pow, vc_lt, vc_le, vc_gt, vc_ge, vc_eq, vc_ne, vc_in, vc_nin, vc_isN, vc_isnN, vc_isB, ve_I, ve_S, ve_B, vi_S, vx_S, vx_T, vx_L, vs_S, vs_T, vs_L, vb_lenS, vb_lenT, vb_lenL, vb_lenR, vb_abs, vb_max, vb_min, vb_intI, vb_intB, vb_intS, vb_intH, vb_listT, vb_listL, vb_tupT, vb_tupL, vb_all, vb_any, vm_strip, vm_lower, vm_upper, vm_split, vm_par, vm_joinL, vm_joinT, vm_find, vm_count, vl_app, vl_pop, va_addI, va_subI, va_addS, vt_bl, vt_int, vt_str, vt_tup, vt_lst, vt_non, uwk_t, uwk_l, uwk_s, uStrs_map, uBls_map, dUx_int, dUx_str, cC, gC, yc, fmz, muC, qmC, List.isEmpty_nil, callR_draw, bind_draw, at_draw, retF_draw, toUR_draw, seq_draw, noExc_draw, all_draw, all_ret, all_ok, all_next, e]
      refine ⟨_, _, _, rfl, ts ++ [[c]], by simp, rfl, by omega, by simp; omega, fun t ht => ?_⟩
      rcases List.mem_append.mp ht with h | h
      · exact hts t h
      · simp at h
        subst h
        exact ⟨rfl, fun d hd => by simp at hd; subst hd; exact hc⟩)
  refine this.mono ?_
  rintro o ⟨ys, π, k', e, ts, h1, rfl, h2, h3, h4⟩
  refine ⟨ts, k', ?_, ?_, ?_, h4⟩
  · rw [e]
    simp at h1
    rw [h1]
  · simpa using h2
  · simpa using h3
set_option maxHeartbeats 4000000 in
theorem turn0 {us : List U} {x : U} (hk : k < 10000) (hu : ∀ u, u ∈ us → Th u) (hul : us.length ≤ 1000) : (forT (C (n + 5)) [5] false b9_0 x [a0, some (.sh (.str signs)), a2, some (.sh .bag), some (.ol us), none, none, none, none, none] k).All
    fun o => ∃ π' k', (o = .next π' k' ∨ o = .cont π' k') ∧ k' ≤ k + 9 ∧ ∃ us', (∀ u, u ∈ us' → Th u) ∧ us'.length ≤ us.length + 1 ∧ uwipe π' [5, 6] = [a0, some (.sh (.str signs)), a2, some (.sh .bag), some (.ol us'), none, none, none, none, none] := by
  have hL : LIM = 16777216 := rfl
  have hF : FUEL = 67108864 := by decide
  rw [forT_1]
  unfold b9_0
  rw [z_cons]
  refine all_seq (P := fun π' k' => ∃ t : Tx, sm t ∧ k' ≤ k + 8 ∧ π' = [a0, some (.sh (.str signs)), a2, some (.sh .bag), some (.ol us), some (.sh x), some (.sh (.str t)), none, none, none]) ?_ ?_
  · simp (disch := first | with_unfolding_all exact @id (_ = _) rfl | omega | (apply And.intro; (first | omega | simp); (first | omega | (apply And.intro; omega; with_unfolding_all exact @id (_ = _) rfl)))) only [ob_non, of_non, ob_bl, of_bl, ob_int, of_int, ob_str, of_str, ob_glo, of_glo, ob_bin, of_bin, ob_neg, of_neg, ob_not, of_not, ob_bop, of_bop, ob_ite, of_ite, ob_cmp, of_cmp, ob_chain, of_chain, ob_tup, of_tup, ob_lst, of_lst, ob_idx, of_idx, ob_slc, of_slc, ob_call, of_call, ob_callk, of_callk, ob_new, of_new, ob_mcall, of_mcall, ob_fmt, of_fmt, ob_cat, of_cat, ob_blt, of_blt, ob_isi, of_isi, ob_mth, of_mth, ob_comp, of_comp, ob_var, of_var, obV_ol, obV_sh, obV_f, ofV_ol, ofV_sh, ofV_f, toUR_ok, g_0, g_0n, g_s, y_non, y_bl, y_int, y_str, varR_s, y_var, y_glo, gloR_int, gloR_str, y_bin, negR_i, y_neg, y_not, y_bop, ifP_t, ifP_f, y_and1, y_and2, bopR_tt, bopR_ff, bopR_tf, bopR_ft, y_ite, y_cmp, y_chain, y_tup, y_lst, y_idx, y_slc, y_o0, y_o1, intP_i, y_nil, y_cons, y_qnil, y_qcons, callR_ok, callR_exc, ubR_s, ub_of, ucR_s, uc_of, uvR_s, ui_of, ul_of, ul_2, y_blt1, y_blt2, y_isi, strP_s, y_mt0, y_mt1, olV_ol, ow_var, sp_v, y_ml, y_comp, compT_1, compT_2, uw_nil, uw_cons, y_c0, y_c1, y_val, rngU_1, rngU_2, y_rng, y_enm, z_set, z_sets, ut_1, ut_2, ut_3, parP_2, parP_3, z_par, z_aug, aug_R, augR_l, augR_i, z_expr, retV_s, z_retv, z_ret, retE_u, z_retn, z_if, forT_1, forT_2, z_for, z_whl, whlT_u, z_raise, z_tryr, uc_next, uc_ret, uc_exc, z_pass, z_brk, z_cont, z_nil, z_one, z_cons, retF_n, retF_r, retF_x, vif_of, PR.req_true, PS.req_true, PR.bind_ok, PR.bind_exc, PR.opt_some, PR.req_of, PR.at_ok, PR.at_exc, PS.opt_some, PS.req_of, PS.seq_next, PS.seq_ret, PS.seq_brk, PS.seq_cont, PS.seq_exc, noExc_ok, quiet, quiets, quietI, Mt.ofList, Bool.and_true, Bool.true_and, Bool.and_self, Bool.false_and, Bool.and_false, Bool.not_true, Bool.not_false, List.set_cons_zero, List.set_cons_succ, List.map_cons, List.map_nil, List.cons_append, List.nil_append, List.append_nil, List.length_cons, List.length_nil, Option.map_some, Option.bind_some, Nat.reduceAdd, Nat.reduceSub, Nat.zero_add, decide_true, decide_false, eq_self, toU_sh, toU_ol, v_addI, v_addS, v_addT, v_addL, v_subI, v_mulI, v_mulL, v_mulT, v_fdiv, v_mod, v_pow, vc_lt, vc_le, vc_gt, vc_ge, vc_eq, vc_ne, vc_in, vc_nin, vc_isN, vc_isnN, vc_isB, ve_I, ve_S, ve_B, vi_S, vx_S, vx_T, vx_L, vs_S, vs_T, vs_L, vb_lenS, vb_lenT, vb_lenL, vb_lenR, vb_abs, vb_max, vb_min, vb_intI, vb_intB, vb_intS, vb_intH, vb_listT, vb_listL, vb_tupT, vb_tupL, vb_all, vb_any, vm_strip, vm_lower, vm_upper, vm_split, vm_par, vm_joinL, vm_joinT, vm_find, vm_count, vl_app, vl_pop, va_addI, va_subI, va_addS, vt_bl, vt_int, vt_str, vt_tup, vt_lst, vt_non, uwk_t, uwk_l, uwk_s, uStrs_map, uBls_map, dUx_int, dUx_str, cC, gC, yc, fmz, muC, qmC, List.isEmpty_nil, callR_draw, bind_draw, at_draw, retF_draw, toUR_draw, seq_draw, noExc_draw, all_draw, all_ret, all_ok, all_next, c9_0_0, tk]
    intro r hr
    have hr' : r < 8 := hr
    simp (disch := first | with_unfolding_all exact @id (_ = _) rfl | omega | (apply And.intro; (first | omega | simp); (first | omega | (apply And.intro; omega; with_unfolding_all exact @id (_ = _) rfl)))) only [ob_non, of_non, ob_bl, of_bl, ob_int, of_int, ob_str, of_str, ob_glo, of_glo, ob_bin, of_bin, ob_neg, of_neg, ob_not, of_not, ob_bop, of_bop, ob_ite, of_ite, ob_cmp, of_cmp, ob_chain, of_chain, ob_tup, of_tup, ob_lst, of_lst, ob_idx, of_idx, ob_slc, of_slc, ob_call, of_call, ob_callk, of_callk, ob_new, of_new, ob_mcall, of_mcall, ob_fmt, of_fmt, ob_cat, of_cat, ob_blt, of_blt, ob_isi, of_isi, ob_mth, of_mth, ob_comp, of_comp, ob_var, of_var, obV_ol, obV_sh, obV_f, ofV_ol, ofV_sh, ofV_f, toUR_ok, g_0, g_0n, g_s, y_non, y_bl, y_int, y_str, varR_s, y_var, y_glo, gloR_int, gloR_str, y_bin, negR_i, y_neg, y_not, y_bop, ifP_t, ifP_f, y_and1, y_and2, bopR_tt, bopR_ff, bopR_tf, bopR_ft, y_ite, y_cmp, y_chain, y_tup, y_lst, y_idx, y_slc, y_o0, y_o1, intP_i, y_nil, y_cons, y_qnil, y_qcons, callR_ok, callR_exc, ubR_s, ub_of, ucR_s, uc_of, uvR_s, ui_of, ul_of, ul_2, y_blt1, y_blt2, y_isi, strP_s, y_mt0, y_mt1, olV_ol, ow_var, sp_v, y_ml, y_comp, compT_1, compT_2, uw_nil, uw_cons, y_c0, y_c1, y_val, rngU_1, rngU_2, y_rng, y_enm, z_set, z_sets, ut_1, ut_2, ut_3, parP_2, parP_3, z_par, z_aug, aug_R, augR_l, augR_i, z_expr, retV_s, z_retv, z_ret, retE_u, z_retn, z_if, forT_1, forT_2, z_for, z_whl, whlT_u, z_raise, z_tryr, uc_next, uc_ret, uc_exc, z_pass, z_brk, z_cont, z_nil, z_one, z_cons, retF_n, retF_r, retF_x, vif_of, PR.req_true, PS.req_true, PR.bind_ok, PR.bind_exc, PR.opt_some, PR.req_of, PR.at_ok, PR.at_exc, PS.opt_some, PS.req_of, PS.seq_next, PS.seq_ret, PS.seq_brk, PS.seq_cont, PS.seq_exc, noExc_ok, quiet, quiets, quietI, Mt.ofList, Bool.and_true, Bool.true_and, Bool.and_self, Bool.false_and, Bool.and_false, Bool.not_true, Bool.not_false, List.set_cons_zero, List.set_cons_succ, List.map_cons, List.map_nil, List.cons_append, List.nil_append, List.append_nil, List.length_cons, List.length_nil, Option.map_some, Option.bind_some, Nat.reduceAdd, Nat.reduceSub, Nat.zero_add, decide_true, decide_false, eq_self, toU_sh, toU_ol, v_addI, v_addS, v_addT, v_addL, v_subI, v_mulI, v_mulL, v_mulT, v_fdiv, v_mod, v_pow, vc_lt, vc_le, vc_gt, vc_ge, vc_eq, vc_ne, vc_in, vc_nin, vc_isN, vc_isnN, vc_isB, ve_I, ve_S, ve_B, vi_S, vx_S, vx_T, vx_L, vs_S, vs_T, vs_L, vb_lenS, vb_lenT, vb_lenL, vb_lenR, vb_abs, vb_max, vb_min, vb_intI, vb_intB, vb_intS, vb_intH, vb_listT, vb_listL, vb_tupT, vb_tupL, vb_all, vb_any, vm_strip, vm_lower, vm_upper, vm_split, vm_par, vm_joinL, vm_joinT, vm_find, vm_count, vl_app, vl_pop, va_addI, va_subI, va_addS, vt_bl, vt_int, vt_str, vt_tup, vt_lst, vt_non, uwk_t, uwk_l, uwk_s, uStrs_map, uBls_map, dUx_int, dUx_str, cC, gC, yc, fmz, muC, qmC, List.isEmpty_nil, callR_draw, bind_draw, at_draw, retF_draw, toUR_draw, seq_draw, noExc_draw, all_draw, all_ret, all_ok, all_next, Int.toNat_natCast, List.length_map, List.length_range]
    simp only [toUR, PR.bind_assoc, at_bind]
    refine all_at (P := fun a π' k' => ∃ ts : List Tx, a = ts.map .str ∧ k' ≤ k + 1 + r ∧ ts.length = r ∧ (∀ t, t ∈ ts → t.length = 1 ∧ ∀ c, c ∈ t → c ∈ signs) ∧ π' = [a0, some (.sh (.str signs)), a2, some (.sh .bag), some (.ol us), some (.sh x), none, none, none, none]) ((page (by omega) (by omega)).mono ?_) ?_
    · rintro o ⟨ts, k', e, h1, h2, h3⟩
      exact ⟨_, _, k', e, ts, rfl, h1, h2, h3, rfl⟩
    · rintro a π' k' ⟨ts, rfl, h1, h2, h3, rfl⟩
      obtain ⟨j1, j2⟩ := join_signs ts fun t ht => (h3 t ht).1
      have hsum : (ts.map List.length).sum ≤ 9 := by
        have : ∀ l : List Tx, (∀ t, t ∈ l → t.length = 1) → (l.map List.length).sum = l.length := by
          intro l
          induction l with
          | nil => intro _; rfl
          | cons t l ih => intro h; rw [List.map_cons, List.sum_cons, h t List.mem_cons_self, ih fun u hu => h u (List.mem_cons_of_mem _ hu), List.length_cons]; omega
        rw [this ts fun t ht => (h3 t ht).1]
        omega
      simp (disch := first | with_unfolding_all exact @id (_ = _) rfl | omega | (apply And.intro; (first | omega | simp); (first | omega | (apply And.intro; omega; with_unfolding_all exact @id (_ = _) rfl)))) only [ob_non, of_non, ob_bl, of_bl, ob_int, of_int, ob_str, of_str, ob_glo, of_glo, ob_bin, of_bin, ob_neg, of_neg, ob_not, of_not, ob_bop, of_bop, ob_ite, of_ite, ob_cmp, of_cmp, ob_chain, of_chain, ob_tup, of_tup, ob_lst, of_lst, ob_idx, of_idx, ob_slc, of_slc, ob_call, of_call, ob_callk, of_callk, ob_new, of_new, ob_mcall, of_mcall, ob_fmt, of_fmt, ob_cat, of_cat, ob_blt, of_blt, ob_isi, of_isi, ob_mth, of_mth, ob_comp, of_comp, ob_var, of_var, obV_ol, obV_sh, obV_f, ofV_ol, ofV_sh, ofV_f, toUR_ok, g_0, g_0n, g_s, y_non, y_bl, y_int, y_str, varR_s, y_var, y_glo, gloR_int, gloR_str, y_bin, negR_i, y_neg, y_not, y_bop, ifP_t, ifP_f, y_and1, y_and2, bopR_tt, bopR_ff, bopR_tf, bopR_ft, y_ite, y_cmp, y_chain, y_tup, y_lst, y_idx, y_slc, y_o0, y_o1, intP_i, y_nil, y_cons, y_qnil, y_qcons, callR_ok, callR_exc, ubR_s, ub_of, ucR_s, uc_of, uvR_s, ui_of, ul_of, ul_2, y_blt1, y_blt2, y_isi, strP_s, y_mt0, y_mt1, olV_ol, ow_var, sp_v, y_ml, y_comp, compT_1, compT_2, uw_nil, uw_cons, y_c0, y_c1, y_val, rngU_1, rngU_2, y_rng, y_enm, z_set, z_sets, ut_1, ut_2, ut_3, parP_2, parP_3, z_par, z_aug, aug_R, augR_l, augR_i, z_expr, retV_s, z_retv, z_ret, retE_u, z_retn, z_if, forT_1, forT_2, z_for, z_whl, whlT_u, z_raise, z_tryr, uc_next, uc_ret, uc_exc, z_pass, z_brk, z_cont, z_nil, z_one, z_cons, retF_n, retF_r, retF_x, vif_of, PR.req_true, PS.req_true, PR.bind_ok, PR.bind_exc, PR.opt_some, PR.req_of, PR.at_ok, PR.at_exc, PS.opt_some, PS.req_of, PS.seq_next, PS.seq_ret, PS.seq_brk, PS.seq_cont, PS.seq_exc, noExc_ok, quiet, quiets, quietI, Mt.ofList, Bool.and_true, Bool.true_and, Bool.and_self, Bool.false_and, Bool.and_false, Bool.not_true, Bool.not_false, List.set_cons_zero, List.set_cons_succ, List.map_cons, List.map_nil, List.cons_append, List.nil_append, List.append_nil, List.length_cons, List.length_nil, Option.map_some, Option.bind_some, Nat.reduceAdd, Nat.reduceSub, Nat.zero_add, decide_true, decide_false, eq_self, toU_sh, toU_ol, v_addI, v_addS, v_addT, v_addL, v_subI, v_mulI, v_mulL, v_mulT, v_fdiv, v_mod, v_pow, vc_lt, vc_le, vc_gt, vc_ge, vc_eq, vc_ne, vc_in, vc_nin, vc_isN, vc_isnN, vc_isB, ve_I, ve_S, ve_B, vi_S, vx_S, vx_T, vx_L, vs_S, vs_T, vs_L, vb_lenS, vb_lenT, vb_lenL, vb_lenR, vb_abs, vb_max, vb_min, vb_intI, vb_intB, vb_intS, vb_intH, vb_listT, vb_listL, vb_tupT, vb_tupL, vb_all, vb_any, vm_strip, vm_lower, vm_upper, vm_split, vm_par, vm_joinL, vm_joinT, vm_find, vm_count, vl_app, vl_pop, va_addI, va_subI, va_addS, vt_bl, vt_int, vt_str, vt_tup, vt_lst, vt_non, uwk_t, uwk_l, uwk_s, uStrs_map, uBls_map, dUx_int, dUx_str, cC, gC, yc, fmz, muC, qmC, List.isEmpty_nil, callR_draw, bind_draw, at_draw, retF_draw, toUR_draw, seq_draw, noExc_draw, all_draw, all_ret, all_ok, all_next, uStrs_map, Nat.mul_zero, Nat.add_zero]
      refine ⟨_, _, rfl, TL.joinL [] ts, ⟨by omega, fun c hc => ?_⟩, by omega, rfl⟩
      obtain ⟨t, ht, hct⟩ := j2 c hc
      exact signs_asc c ((h3 t ht).2 c hct)
  rintro π' k1 ⟨t0, ht0, hk1, rfl⟩
  have l0 := ht0.1
  rw [z_one]
  simp (disch := first | with_unfolding_all exact @id (_ = _) rfl | omega | (apply And.intro; (first | omega | simp); (first | omega | (apply And.intro; omega; with_unfolding_all exact @id (_ = _) rfl)))) only [ob_non, of_non, ob_bl, of_bl, ob_int, of_int, ob_str, of_str, ob_glo, of_glo, ob_bin, of_bin, ob_neg, of_neg, ob_not, of_not, ob_bop, of_bop, ob_ite, of_ite, ob_cmp, of_cmp, ob_chain, of_chain, ob_tup, of_tup, ob_lst, of_lst, ob_idx, of_idx, ob_slc, of_slc, ob_call, of_call, ob_callk, of_callk, ob_new, of_new, ob_mcall, of_mcall, ob_fmt, of_fmt, ob_cat, of_cat, ob_blt, of_blt, ob_isi, of_isi, ob_mth, of_mth, ob_comp, of_comp, ob_var, of_var, obV_ol, obV_sh, obV_f, ofV_ol, ofV_sh, ofV_f, toUR_ok, g_0, g_0n, g_s, y_non, y_bl, y_int, y_str, varR_s, y_var, y_glo, gloR_int, gloR_str, y_bin, negR_i, y_neg, y_not, y_bop, ifP_t, ifP_f, y_and1, y_and2, bopR_tt, bopR_ff, bopR_tf, bopR_ft, y_ite, y_cmp, y_chain, y_tup, y_lst, y_idx, y_slc, y_o0, y_o1, intP_i, y_nil, y_cons, y_qnil, y_qcons, callR_ok, callR_exc, ubR_s, ub_of, ucR_s, uc_of, uvR_s, ui_of, ul_of, ul_2, y_blt1, y_blt2, y_isi, strP_s, y_mt0, y_mt1, olV_ol, ow_var, sp_v, y_ml, y_comp, compT_1, compT_2, uw_nil, uw_cons, y_c0, y_c1, y_val, rngU_1, rngU_2, y_rng, y_enm, z_set, z_sets, ut_1, ut_2, ut_3, parP_2, parP_3, z_par, z_aug, aug_R, augR_l, augR_i, z_expr, retV_s, z_retv, z_ret, retE_u, z_retn, z_if, forT_1, forT_2, z_for, z_whl, whlT_u, z_raise, z_tryr, uc_next, uc_ret, uc_exc, z_pass, z_brk, z_cont, z_nil, z_one, z_cons, retF_n, retF_r, retF_x, vif_of, PR.req_true, PS.req_true, PR.bind_ok, PR.bind_exc, PR.opt_some, PR.req_of, PR.at_ok, PR.at_exc, PS.opt_some, PS.req_of, PS.seq_next, PS.seq_ret, PS.seq_brk, PS.seq_cont, PS.seq_exc, noExc_ok, quiet, quiets, quietI, Mt.ofList, Bool.and_true, Bool.true_and, Bool.and_self, Bool.false_and, Bool.and_false, Bool.not_true, Bool.not_false, List.set_cons_zero, List.set_cons_succ, List.map_cons, List.map_nil, List.cons_append, List.nil_append, List.append_nil, List.length_cons, List.length_nil, Option.map_some, Option.bind_some, Nat.reduceAdd, Nat.reduceSub, Nat.zero_add, decide_true, decide_false, eq_self, toU_sh, toU_ol, v_addI, v_addS, v_addT, v_addL, v_subI, v_mulI, v_mulL, v_mulT, v_fdiv, v_mod, v_pow, vc_lt, vc_le, vc_gt, vc_ge, vc_eq, vc_ne, vc_in, vc_nin, vc_isN, vc_isnN, vc_isB, ve_I, ve_S, ve_B, vi_S, vx_S, vx_T, vx_L, vs_S, vs_T, vs_L, vb_lenS, vb_lenT, vb_lenL, vb_lenR, vb_abs, vb_max, vb_min, vb_intI, vb_intB, vb_intS, vb_intH, vb_listT, vb_listL, vb_tupT, vb_tupL, vb_all, vb_any, vm_strip, vm_lower, vm_upper, vm_split, vm_par, vm_joinL, vm_joinT, vm_find, vm_count, vl_app, vl_pop, va_addI, va_subI, va_addS, vt_bl, vt_int, vt_str, vt_tup, vt_lst, vt_non, uwk_t, uwk_l, uwk_s, uStrs_map, uBls_map, dUx_int, dUx_str, cC, gC, yc, fmz, muC, qmC, List.isEmpty_nil, callR_draw, bind_draw, at_draw, retF_draw, toUR_draw, seq_draw, noExc_draw, all_draw, all_ret, all_ok, all_next, c9_0_1]
  try simp only [toUR, PR.bind_assoc, at_bind]
  refine all_callA (P := fun p k' => ∃ t, p = .sh (.str t) ∧ sm t ∧ k' ≤ k + 9) ((f4_run (ts := tails) (by decide) (by decide) (by omega)).mono ?_) ?_
  · rintro o ⟨t, rfl, h1⟩
    exact ⟨_, _, _, rfl, t, rfl, sm_of (by decide +kernel) h1, by omega⟩
  · rintro p k4 ⟨t4, rfl, h4, hk4⟩
    have l4 := h4.1
    simp (disch := first | with_unfolding_all exact @id (_ = _) rfl | omega | (apply And.intro; (first | omega | simp); (first | omega | (apply And.intro; omega; with_unfolding_all exact @id (_ = _) rfl)))) only [ob_non, of_non, ob_bl, of_bl, ob_int, of_int, ob_str, of_str, ob_glo, of_glo, ob_bin, of_bin, ob_neg, of_neg, ob_not, of_not, ob_bop, of_bop, ob_ite, of_ite, ob_cmp, of_cmp, ob_chain, of_chain, ob_tup, of_tup, ob_lst, of_lst, ob_idx, of_idx, ob_slc, of_slc, ob_call, of_call, ob_callk, of_callk, ob_new, of_new, ob_mcall, of_mcall, ob_fmt, of_fmt, ob_cat, of_cat, ob_blt, of_blt, ob_isi, of_isi, ob_mth, of_mth, ob_comp, of_comp, ob_var, of_var, obV_ol, obV_sh, obV_f, ofV_ol, ofV_sh, ofV_f, toUR_ok, g_0, g_0n, g_s, y_non, y_bl, y_int, y_str, varR_s, y_var, y_glo, gloR_int, gloR_str, y_bin, negR_i, y_neg, y_not, y_bop, ifP_t, ifP_f, y_and1, y_and2, bopR_tt, bopR_ff, bopR_tf, bopR_ft, y_ite, y_cmp, y_chain, y_tup, y_lst, y_idx, y_slc, y_o0, y_o1, intP_i, y_nil, y_cons, y_qnil, y_qcons, callR_ok, callR_exc, ubR_s, ub_of, ucR_s, uc_of, uvR_s, ui_of, ul_of, ul_2, y_blt1, y_blt2, y_isi, strP_s, y_mt0, y_mt1, olV_ol, ow_var, sp_v, y_ml, y_comp, compT_1, compT_2, uw_nil, uw_cons, y_c0, y_c1, y_val, rngU_1, rngU_2, y_rng, y_enm, z_set, z_sets, ut_1, ut_2, ut_3, parP_2, parP_3, z_par, z_aug, aug_R, augR_l, augR_i, z_expr, retV_s, z_retv, z_ret, retE_u, z_retn, z_if, forT_1, forT_2, z_for, z_whl, whlT_u, z_raise, z_tryr, uc_next, uc_ret, uc_exc, z_pass, z_brk, z_cont, z_nil, z_one, z_cons, retF_n, retF_r, retF_x, vif_of, PR.req_true, PS.req_true, PR.bind_ok, PR.bind_exc, PR.opt_some, PR.req_of, PR.at_ok, PR.at_exc, PS.opt_some, PS.req_of, PS.seq_next, PS.seq_ret, PS.seq_brk, PS.seq_cont, PS.seq_exc, noExc_ok, quiet, quiets, quietI, Mt.ofList, Bool.and_true, Bool.true_and, Bool.and_self, Bool.false_and, Bool.and_false, Bool.not_true, Bool.not_false, List.set_cons_zero, List.set_cons_succ, List.map_cons, List.map_nil, List.cons_append, List.nil_append, List.append_nil, List.length_cons, List.length_nil, Option.map_some, Option.bind_some, Nat.reduceAdd, Nat.reduceSub, Nat.zero_add, decide_true, decide_false, eq_self, toU_sh, toU_ol, v_addI, v_addS, v_addT, v_addL, v_subI, v_mulI, v_mulL, v_mulT, v_fdiv, v_mod, v_pow, vc_lt, vc_le, vc_gt, vc_ge, vc_eq, vc_ne, vc_in, vc_nin, vc_isN, vc_isnN, vc_isB, ve_I, ve_S, ve_B, vi_S, vx_S, vx_T, vx_L, vs_S, vs_T, vs_L, vb_lenS, vb_lenT, vb_lenL, vb_lenR, vb_abs, vb_max, vb_min, vb_intI, vb_intB, vb_intS, vb_intH, vb_listT, vb_listL, vb_tupT, vb_tupL, vb_all, vb_any, vm_strip, vm_lower, vm_upper, vm_split, vm_par, vm_joinL, vm_joinT, vm_find, vm_count, vl_app, vl_pop, va_addI, va_subI, va_addS, vt_bl, vt_int, vt_str, vt_tup, vt_lst, vt_non, uwk_t, uwk_l, uwk_s, uStrs_map, uBls_map, dUx_int, dUx_str, cC, gC, yc, fmz, muC, qmC, List.isEmpty_nil, callR_draw, bind_draw, at_draw, retF_draw, toUR_draw, seq_draw, noExc_draw, all_draw, all_ret, all_ok, all_next, vl_app]
    refine ⟨_, _, .inl rfl, by omega, us ++ [.str (t0 ++ t4)], ?_, ?_, rfl⟩
    · intro v hv
      rcases List.mem_append.mp hv with hv | hv
      · exact hu v hv
      · simp only [List.mem_cons, List.not_mem_nil, or_false] at hv
        subst hv
        refine ⟨rfl, fun s e => ?_⟩
        cases e
        refine ⟨by simp; omega, fun c hc => ?_⟩
        rcases List.mem_append.mp hc with hc | hc
        · exact ht0.2 c hc
        · exact h4.2 c hc
    · simp
set_option maxHeartbeats 4000000 in
/-- a cell -/
theorem turn2 {i : Nat} {ns : List Int} (hi : i < 1000) (hk : k < 9000) : (forT (C (n + 5)) [2] false b9_2 (.int (0 + (i : Int))) [some (.sh (.scr ns)), some (.sh (.str signs)), none, none, none, none, none, none, none, none] k).All
    fun o => ∃ π' k', (o = .next π' k' ∨ o = .cont π' k') ∧ k' ≤ k + 200 ∧ uwipe π' [2, 3, 4, 5, 6, 7, 8] = [some (.sh (.scr ns)), some (.sh (.str signs)), none, none, none, none, none, none, none, none] := by
  have hL : LIM = 16777216 := rfl
  have hF : FUEL = 67108864 := by decide
  rw [forT_1]
  unfold b9_2
  rw [z_cons]
  refine seq_eq (π := [some (.sh (.scr ns)), some (.sh (.str signs)), some (.sh (.int (0 + (i : Int)))), some (.sh .bag), none, none, none, none, none, none]) (k := k) (by simp (disch := first | with_unfolding_all exact @id (_ = _) rfl | omega | (apply And.intro; (first | omega | simp); (first | omega | (apply And.intro; omega; with_unfolding_all exact @id (_ = _) rfl)))) only [ob_non, of_non, ob_bl, of_bl, ob_int, of_int, ob_str, of_str, ob_glo, of_glo, ob_bin, of_bin, ob_neg, of_neg, ob_not, of_not, ob_bop, of_bop, ob_ite, of_ite, ob_cmp, of_cmp, ob_chain, of_chain, ob_tup, of_tup, ob_lst, of_lst, ob_idx, of_idx, ob_slc, of_slc, ob_call, of_call, ob_callk, of_callk, ob_new, of_new, ob_mcall, of_mcall, ob_fmt, of_fmt, ob_cat, of_cat, ob_blt, of_blt, ob_isi, of_isi, ob_mth, of_mth, ob_comp, of_comp, ob_var, of_var, obV_ol, obV_sh, obV_f, ofV_ol, ofV_sh, ofV_f, toUR_ok, g_0, g_0n, g_s, y_non, y_bl, y_int, y_str, varR_s, y_var, y_glo, gloR_int, gloR_str, y_bin, negR_i, y_neg, y_not, y_bop, ifP_t, ifP_f, y_and1, y_and2, bopR_tt, bopR_ff, bopR_tf, bopR_ft, y_ite, y_cmp, y_chain, y_tup, y_lst, y_idx, y_slc, y_o0, y_o1, intP_i, y_nil, y_cons, y_qnil, y_qcons, callR_ok, callR_exc, ubR_s, ub_of, ucR_s, uc_of, uvR_s, ui_of, ul_of, ul_2, y_blt1, y_blt2, y_isi, strP_s, y_mt0, y_mt1, olV_ol, ow_var, sp_v, y_ml, y_comp, compT_1, compT_2, uw_nil, uw_cons, y_c0, y_c1, y_val, rngU_1, rngU_2, y_rng, y_enm, z_set, z_sets, ut_1, ut_2, ut_3, parP_2, parP_3, z_par, z_aug, aug_R, augR_l, augR_i, z_expr, retV_s, z_retv, z_ret, retE_u, z_retn, z_if, forT_1, forT_2, z_for, z_whl, whlT_u, z_raise, z_tryr, uc_next, uc_ret, uc_exc, z_pass, z_brk, z_cont, z_nil, z_one, z_cons, retF_n, retF_r, retF_x, vif_of, PR.req_true, PS.req_true, PR.bind_ok, PR.bind_exc, PR.opt_some, PR.req_of, PR.at_ok, PR.at_exc, PS.opt_some, PS.req_of, PS.seq_next, PS.seq_ret, PS.seq_brk, PS.seq_cont, PS.seq_exc, noExc_ok, quiet, quiets, quietI, Mt.ofList, Bool.and_true, Bool.true_and, Bool.and_self, Bool.false_and, Bool.and_false, Bool.not_true, Bool.not_false, List.set_cons_zero, List.set_cons_succ, List.map_cons, List.map_nil, List.cons_append, List.nil_append, List.append_nil, List.length_cons, List.length_nil, Option.map_some, Option.bind_some, Nat.reduceAdd, Nat.reduceSub, Nat.zero_add, decide_true, decide_false, eq_self, toU_sh, toU_ol, v_addI, v_addS, v_addT, v_addL, v_subI, v_mulI, v_mulL, v_mulT, v_fdiv, v_mod, v_pow, vc_lt, vc_le, vc_gt, vc_ge, vc_eq, vc_ne, vc_in, vc_nin, vc_isN, vc_isnN, vc_isB, ve_I, ve_S, ve_B, vi_S, vx_S, vx_T, vx_L, vs_S, vs_T, vs_L, vb_lenS, vb_lenT, vb_lenL, vb_lenR, vb_abs, vb_max, vb_min, vb_intI, vb_intB, vb_intS, vb_intH, vb_listT, vb_listL, vb_tupT, vb_tupL, vb_all, vb_any, vm_strip, vm_lower, vm_upper, vm_split, vm_par, vm_joinL, vm_joinT, vm_find, vm_count, vl_app, vl_pop, va_addI, va_subI, va_addS, vt_bl, vt_int, vt_str, vt_tup, vt_lst, vt_non, uwk_t, uwk_l, uwk_s, uStrs_map, uBls_map, dUx_int, dUx_str, cC, gC, yc, fmz, muC, qmC, List.isEmpty_nil, callR_draw, bind_draw, at_draw, retF_draw, toUR_draw, seq_draw, noExc_draw, all_draw, all_ret, all_ok, all_next, c9_2_0, bg]) ?_
  rw [z_cons]
  refine all_seq (P := fun π' k' => ∃ us : List U, k' ≤ k + 1 ∧ (∀ u, u ∈ us → Th u) ∧ us.length ≤ 11 ∧ π' = [some (.sh (.scr ns)), some (.sh (.str signs)), some (.sh (.int (0 + (i : Int)))), some (.sh .bag), some (.ol us), none, none, none, none, none]) ?_ ?_
  · simp (disch := first | with_unfolding_all exact @id (_ = _) rfl | omega | (apply And.intro; (first | omega | simp); (first | omega | (apply And.intro; omega; with_unfolding_all exact @id (_ = _) rfl)))) only [ob_non, of_non, ob_bl, of_bl, ob_int, of_int, ob_str, of_str, ob_glo, of_glo, ob_bin, of_bin, ob_neg, of_neg, ob_not, of_not, ob_bop, of_bop, ob_ite, of_ite, ob_cmp, of_cmp, ob_chain, of_chain, ob_tup, of_tup, ob_lst, of_lst, ob_idx, of_idx, ob_slc, of_slc, ob_call, of_call, ob_callk, of_callk, ob_new, of_new, ob_mcall, of_mcall, ob_fmt, of_fmt, ob_cat, of_cat, ob_blt, of_blt, ob_isi, of_isi, ob_mth, of_mth, ob_comp, of_comp, ob_var, of_var, obV_ol, obV_sh, obV_f, ofV_ol, ofV_sh, ofV_f, toUR_ok, g_0, g_0n, g_s, y_non, y_bl, y_int, y_str, varR_s, y_var, y_glo, gloR_int, gloR_str, y_bin, negR_i, y_neg, y_not, y_bop, ifP_t, ifP_f, y_and1, y_and2, bopR_tt, bopR_ff, bopR_tf, bopR_ft, y_ite, y_cmp, y_chain, y_tup, y_lst, y_idx, y_slc, y_o0, y_o1, intP_i, y_nil, y_cons, y_qnil, y_qcons, callR_ok, callR_exc, ubR_s, ub_of, ucR_s, uc_of, uvR_s, ui_of, ul_of, ul_2, y_blt1, y_blt2, y_isi, strP_s, y_mt0, y_mt1, olV_ol, ow_var, sp_v, y_ml, y_comp, compT_1, compT_2, uw_nil, uw_cons, y_c0, y_c1, y_val, rngU_1, rngU_2, y_rng, y_enm, z_set, z_sets, ut_1, ut_2, ut_3, parP_2, parP_3, z_par, z_aug, aug_R, augR_l, augR_i, z_expr, retV_s, z_retv, z_ret, retE_u, z_retn, z_if, forT_1, forT_2, z_for, z_whl, whlT_u, z_raise, z_tryr, uc_next, uc_ret, uc_exc, z_pass, z_brk, z_cont, z_nil, z_one, z_cons, retF_n, retF_r, retF_x, vif_of, PR.req_true, PS.req_true, PR.bind_ok, PR.bind_exc, PR.opt_some, PR.req_of, PR.at_ok, PR.at_exc, PS.opt_some, PS.req_of, PS.seq_next, PS.seq_ret, PS.seq_brk, PS.seq_cont, PS.seq_exc, noExc_ok, quiet, quiets, quietI, Mt.ofList, Bool.and_true, Bool.true_and, Bool.and_self, Bool.false_and, Bool.and_false, Bool.not_true, Bool.not_false, List.set_cons_zero, List.set_cons_succ, List.map_cons, List.map_nil, List.cons_append, List.nil_append, List.append_nil, List.length_cons, List.length_nil, Option.map_some, Option.bind_some, Nat.reduceAdd, Nat.reduceSub, Nat.zero_add, decide_true, decide_false, eq_self, toU_sh, toU_ol, v_addI, v_addS, v_addT, v_addL, v_subI, v_mulI, v_mulL, v_mulT, v_fdiv, v_mod, v_pow, vc_lt, vc_le, vc_gt, vc_ge, vc_eq, vc_ne, vc_in, vc_nin, vc_isN, vc_isnN, vc_isB, ve_I, ve_S, ve_B, vi_S, vx_S, vx_T, vx_L, vs_S, vs_T, vs_L, vb_lenS, vb_lenT, vb_lenL, vb_lenR, vb_abs, vb_max, vb_min, vb_intI, vb_intB, vb_intS, vb_intH, vb_listT, vb_listL, vb_tupT, vb_tupL, vb_all, vb_any, vm_strip, vm_lower, vm_upper, vm_split, vm_par, vm_joinL, vm_joinT, vm_find, vm_count, vl_app, vl_pop, va_addI, va_subI, va_addS, vt_bl, vt_int, vt_str, vt_tup, vt_lst, vt_non, uwk_t, uwk_l, uwk_s, uStrs_map, uBls_map, dUx_int, dUx_str, cC, gC, yc, fmz, muC, qmC, List.isEmpty_nil, callR_draw, bind_draw, at_draw, retF_draw, toUR_draw, seq_draw, noExc_draw, all_draw, all_ret, all_ok, all_next, c9_2_1]
    try simp only [toUR, PR.bind_assoc, at_bind]
    refine all_callA (P := fun p k' => ∃ u, p = .sh u ∧ okM u = true ∧ k' ≤ k + 1) ((f6_run (by omega)).mono ?_) ?_
    · rintro o ⟨u, rfl, h⟩
      exact ⟨_, _, _, rfl, u, rfl, h, by omega⟩
    · rintro p k' ⟨u, rfl, h, hk'⟩
      simp (disch := first | with_unfolding_all exact @id (_ = _) rfl | omega | (apply And.intro; (first | omega | simp); (first | omega | (apply And.intro; omega; with_unfolding_all exact @id (_ = _) rfl)))) only [ob_non, of_non, ob_bl, of_bl, ob_int, of_int, ob_str, of_str, ob_glo, of_glo, ob_bin, of_bin, ob_neg, of_neg, ob_not, of_not, ob_bop, of_bop, ob_ite, of_ite, ob_cmp, of_cmp, ob_chain, of_chain, ob_tup, of_tup, ob_lst, of_lst, ob_idx, of_idx, ob_slc, of_slc, ob_call, of_call, ob_callk, of_callk, ob_new, of_new, ob_mcall, of_mcall, ob_fmt, of_fmt, ob_cat, of_cat, ob_blt, of_blt, ob_isi, of_isi, ob_mth, of_mth, ob_comp, of_comp, ob_var, of_var, obV_ol, obV_sh, obV_f, ofV_ol, ofV_sh, ofV_f, toUR_ok, g_0, g_0n, g_s, y_non, y_bl, y_int, y_str, varR_s, y_var, y_glo, gloR_int, gloR_str, y_bin, negR_i, y_neg, y_not, y_bop, ifP_t, ifP_f, y_and1, y_and2, bopR_tt, bopR_ff, bopR_tf, bopR_ft, y_ite, y_cmp, y_chain, y_tup, y_lst, y_idx, y_slc, y_o0, y_o1, intP_i, y_nil, y_cons, y_qnil, y_qcons, callR_ok, callR_exc, ubR_s, ub_of, ucR_s, uc_of, uvR_s, ui_of, ul_of, ul_2, y_blt1, y_blt2, y_isi, strP_s, y_mt0, y_mt1, olV_ol, ow_var, sp_v, y_ml, y_comp, compT_1, compT_2, uw_nil, uw_cons, y_c0, y_c1, y_val, rngU_1, rngU_2, y_rng, y_enm, z_set, z_sets, ut_1, ut_2, ut_3, parP_2, parP_3, z_par, z_aug, aug_R, augR_l, augR_i, z_expr, retV_s, z_retv, z_ret, retE_u, z_retn, z_if, forT_1, forT_2, z_for, z_whl, whlT_u, z_raise, z_tryr, uc_next, uc_ret, uc_exc, z_pass, z_brk, z_cont, z_nil, z_one, z_cons, retF_n, retF_r, retF_x, vif_of, PR.req_true, PS.req_true, PR.bind_ok, PR.bind_exc, PR.opt_some, PR.req_of, PR.at_ok, PR.at_exc, PS.opt_some, PS.req_of, PS.seq_next, PS.seq_ret, PS.seq_brk, PS.seq_cont, PS.seq_exc, noExc_ok, quiet, quiets, quietI, Mt.ofList, Bool.and_true, Bool.true_and, Bool.and_self, Bool.false_and, Bool.and_false, Bool.not_true, Bool.not_false, List.set_cons_zero, List.set_cons_succ, List.map_cons, List.map_nil, List.cons_append, List.nil_append, List.append_nil, List.length_cons, List.length_nil, Option.map_some, Option.bind_some, Nat.reduceAdd, Nat.reduceSub, Nat.zero_add, decide_true, decide_false, eq_self, toU_sh, toU_ol, v_addI, v_addS, v_addT, v_addL, v_subI, v_mulI, v_mulL, v_mulT, v_fdiv, v_mod, v_pow, vc_lt, vc_le, vc_gt, vc_ge, vc_eq, vc_ne, vc_in, vc_nin, vc_isN, vc_isnN, vc_isB, ve_I, ve_S, ve_B, vi_S, vx_S, vx_T, vx_L, vs_S, vs_T, vs_L, vb_lenS, vb_lenT, vb_lenL, vb_lenR, vb_abs, vb_max, vb_min, vb_intI, vb_intB, vb_intS, vb_intH, vb_listT, vb_listL, vb_tupT, vb_tupL, vb_all, vb_any, vm_strip, vm_lower, vm_upper, vm_split, vm_par, vm_joinL, vm_joinT, vm_find, vm_count, vl_app, vl_pop, va_addI, va_subI, va_addS, vt_bl, vt_int, vt_str, vt_tup, vt_lst, vt_non, uwk_t, uwk_l, uwk_s, uStrs_map, uBls_map, dUx_int, dUx_str, cC, gC, yc, fmz, muC, qmC, List.isEmpty_nil, callR_draw, bind_draw, at_draw, retF_draw, toUR_draw, seq_draw, noExc_draw, all_draw, all_ret, all_ok, all_next]
      refine ⟨_, _, rfl, _, hk', ?_, ?_, rfl⟩
      · intro v hv
        simp only [List.mem_cons, List.not_mem_nil, or_false] at hv
        rcases hv with rfl | rfl | rfl | rfl | rfl | rfl | rfl | rfl | rfl | rfl | rfl
        · exact okM_th h
        all_goals exact okM_th (by decide +kernel)
      · simp
  rintro π' k1 ⟨us, hk1, hus, hul, rfl⟩
  rw [z_cons]
  refine seq_eq (π := [some (.sh (.scr ns)), some (.sh (.str signs)), some (.sh (.int (0 + (i : Int)))), some (.sh .bag), some (.ol (us ++ [.str [48, 48, 48, 48, 48, 48, 48], .lst [.str [53]], .str [53, 10]])), none, none, none, none, none]) (k := k1) (by simp (disch := first | with_unfolding_all exact @id (_ = _) rfl | omega | (apply And.intro; (first | omega | simp); (first | omega | (apply And.intro; omega; with_unfolding_all exact @id (_ = _) rfl)))) only [ob_non, of_non, ob_bl, of_bl, ob_int, of_int, ob_str, of_str, ob_glo, of_glo, ob_bin, of_bin, ob_neg, of_neg, ob_not, of_not, ob_bop, of_bop, ob_ite, of_ite, ob_cmp, of_cmp, ob_chain, of_chain, ob_tup, of_tup, ob_lst, of_lst, ob_idx, of_idx, ob_slc, of_slc, ob_call, of_call, ob_callk, of_callk, ob_new, of_new, ob_mcall, of_mcall, ob_fmt, of_fmt, ob_cat, of_cat, ob_blt, of_blt, ob_isi, of_isi, ob_mth, of_mth, ob_comp, of_comp, ob_var, of_var, obV_ol, obV_sh, obV_f, ofV_ol, ofV_sh, ofV_f, toUR_ok, g_0, g_0n, g_s, y_non, y_bl, y_int, y_str, varR_s, y_var, y_glo, gloR_int, gloR_str, y_bin, negR_i, y_neg, y_not, y_bop, ifP_t, ifP_f, y_and1, y_and2, bopR_tt, bopR_ff, bopR_tf, bopR_ft, y_ite, y_cmp, y_chain, y_tup, y_lst, y_idx, y_slc, y_o0, y_o1, intP_i, y_nil, y_cons, y_qnil, y_qcons, callR_ok, callR_exc, ubR_s, ub_of, ucR_s, uc_of, uvR_s, ui_of, ul_of, ul_2, y_blt1, y_blt2, y_isi, strP_s, y_mt0, y_mt1, olV_ol, ow_var, sp_v, y_ml, y_comp, compT_1, compT_2, uw_nil, uw_cons, y_c0, y_c1, y_val, rngU_1, rngU_2, y_rng, y_enm, z_set, z_sets, ut_1, ut_2, ut_3, parP_2, parP_3, z_par, z_aug, aug_R, augR_l, augR_i, z_expr, retV_s, z_retv, z_ret, retE_u, z_retn, z_if, forT_1, forT_2, z_for, z_whl, whlT_u, z_raise, z_tryr, uc_next, uc_ret, uc_exc, z_pass, z_brk, z_cont, z_nil, z_one, z_cons, retF_n, retF_r, retF_x, vif_of, PR.req_true, PS.req_true, PR.bind_ok, PR.bind_exc, PR.opt_some, PR.req_of, PR.at_ok, PR.at_exc, PS.opt_some, PS.req_of, PS.seq_next, PS.seq_ret, PS.seq_brk, PS.seq_cont, PS.seq_exc, noExc_ok, quiet, quiets, quietI, Mt.ofList, Bool.and_true, Bool.true_and, Bool.and_self, Bool.false_and, Bool.and_false, Bool.not_true, Bool.not_false, List.set_cons_zero, List.set_cons_succ, List.map_cons, List.map_nil, List.cons_append, List.nil_append, List.append_nil, List.length_cons, List.length_nil, Option.map_some, Option.bind_some, Nat.reduceAdd, Nat.reduceSub, Nat.zero_add, decide_true, decide_false, eq_self, toU_sh, toU_ol, v_addI, v_addS, v_addT, v_addL, v_subI, v_mulI, v_mulL, v_mulT, v_fdiv, v_mod, v_pow, vc_lt, vc_le, vc_gt, vc_ge, vc_eq, vc_ne, vc_in, vc_nin, vc_isN, vc_isnN, vc_isB, ve_I, ve_S, ve_B, vi_S, vx_S, vx_T, vx_L, vs_S, vs_T, vs_L, vb_lenS, vb_lenT, vb_lenL, vb_lenR, vb_abs, vb_max, vb_min, vb_intI, vb_intB, vb_intS, vb_intH, vb_listT, vb_listL, vb_tupT, vb_tupL, vb_all, vb_any, vm_strip, vm_lower, vm_upper, vm_split, vm_par, vm_joinL, vm_joinT, vm_find, vm_count, vl_app, vl_pop, va_addI, va_subI, va_addS, vt_bl, vt_int, vt_str, vt_tup, vt_lst, vt_non, uwk_t, uwk_l, uwk_s, uStrs_map, uBls_map, dUx_int, dUx_str, cC, gC, yc, fmz, muC, qmC, List.isEmpty_nil, callR_draw, bind_draw, at_draw, retF_draw, toUR_draw, seq_draw, noExc_draw, all_draw, all_ret, all_ok, all_next, c9_2_2]) ?_
  have hus2 : ∀ u, u ∈ us ++ [.str [48, 48, 48, 48, 48, 48, 48], .lst [.str [53]], .str [53, 10]] → Th u := by
    intro v hv
    rcases List.mem_append.mp hv with hv | hv
    · exact hus v hv
    · simp only [List.mem_cons, List.not_mem_nil, or_false] at hv
      rcases hv with rfl | rfl | rfl
      all_goals exact okM_th (by decide +kernel)
  rw [z_cons]
  refine all_seq (P := fun π' k' => ∃ us : List U, k' ≤ k + 181 ∧ (∀ u, u ∈ us → Th u) ∧ us.length ≤ 100 ∧ π' = [some (.sh (.scr ns)), some (.sh (.str signs)), some (.sh (.int (0 + (i : Int)))), some (.sh .bag), some (.ol us), none, none, none, none, none]) ?_ ?_
  · have loop := all_for (f := forT (C (n + 5)) [5] false b9_0) (fg := [5, 6]) (P := fun j π k' => ∃ vs : List U, k' ≤ k + 1 + 9 * j ∧ (∀ u, u ∈ vs → Th u) ∧ vs.length ≤ 20 + j ∧ π = [some (.sh (.scr ns)), some (.sh (.str signs)), some (.sh (.int (0 + (i : Int)))), some (.sh .bag), some (.ol vs), none, none, none, none, none])
      (xs := (List.range 20).map fun (i : Nat) => .int (0 + (i : Int))) (i := 0) (π := [some (.sh (.scr ns)), some (.sh (.str signs)), some (.sh (.int (0 + (i : Int)))), some (.sh .bag), some (.ol (us ++ [.str [48, 48, 48, 48, 48, 48, 48], .lst [.str [53]], .str [53, 10]])), none, none, none, none, none]) (k := k1) ⟨_, by omega, hus2, by simp; omega, rfl⟩ (by
        rintro j x π k' hxj ⟨vs, h2, h3, h4, rfl⟩
        have hj := (List.getElem?_eq_some_iff.mp hxj).1
        rw [List.length_map, List.length_range] at hj
        refine (turn0 (n := n) (x := x) (by omega) h3 (by omega)).mono ?_
        rintro o ⟨π', k2, e, h5, vs', h7, h8, h9⟩
        exact ⟨π', k2, e, vs', by omega, h7, by omega, h9⟩)
    simp (disch := first | with_unfolding_all exact @id (_ = _) rfl | omega | (apply And.intro; (first | omega | simp); (first | omega | (apply And.intro; omega; with_unfolding_all exact @id (_ = _) rfl)))) only [ob_non, of_non, ob_bl, of_bl, ob_int, of_int, ob_str, of_str, ob_glo, of_glo, ob_bin, of_bin, ob_neg, of_neg, ob_not, of_not, ob_bop, of_bop, ob_ite, of_ite, ob_cmp, of_cmp, ob_chain, of_chain, ob_tup, of_tup, ob_lst, of_lst, ob_idx, of_idx, ob_slc, of_slc, ob_call, of_call, ob_callk, of_callk, ob_new, of_new, ob_mcall, of_mcall, ob_fmt, of_fmt, ob_cat, of_cat, ob_blt, of_blt, ob_isi, of_isi, ob_mth, of_mth, ob_comp, of_comp, ob_var, of_var, obV_ol, obV_sh, obV_f, ofV_ol, ofV_sh, ofV_f, toUR_ok, g_0, g_0n, g_s, y_non, y_bl, y_int, y_str, varR_s, y_var, y_glo, gloR_int, gloR_str, y_bin, negR_i, y_neg, y_not, y_bop, ifP_t, ifP_f, y_and1, y_and2, bopR_tt, bopR_ff, bopR_tf, bopR_ft, y_ite, y_cmp, y_chain, y_tup, y_lst, y_idx, y_slc, y_o0, y_o1, intP_i, y_nil, y_cons, y_qnil, y_qcons, callR_ok, callR_exc, ubR_s, ub_of, ucR_s, uc_of, uvR_s, ui_of, ul_of, ul_2, y_blt1, y_blt2, y_isi, strP_s, y_mt0, y_mt1, olV_ol, ow_var, sp_v, y_ml, y_comp, compT_1, compT_2, uw_nil, uw_cons, y_c0, y_c1, y_val, rngU_1, rngU_2, y_rng, y_enm, z_set, z_sets, ut_1, ut_2, ut_3, parP_2, parP_3, z_par, z_aug, aug_R, augR_l, augR_i, z_expr, retV_s, z_retv, z_ret, retE_u, z_retn, z_if, forT_1, forT_2, z_for, z_whl, whlT_u, z_raise, z_tryr, uc_next, uc_ret, uc_exc, z_pass, z_brk, z_cont, z_nil, z_one, z_cons, retF_n, retF_r, retF_x, vif_of, PR.req_true, PS.req_true, PR.bind_ok, PR.bind_exc, PR.opt_some, PR.req_of, PR.at_ok, PR.at_exc, PS.opt_some, PS.req_of, PS.seq_next, PS.seq_ret, PS.seq_brk, PS.seq_cont, PS.seq_exc, noExc_ok, quiet, quiets, quietI, Mt.ofList, Bool.and_true, Bool.true_and, Bool.and_self, Bool.false_and, Bool.and_false, Bool.not_true, Bool.not_false, List.set_cons_zero, List.set_cons_succ, List.map_cons, List.map_nil, List.cons_append, List.nil_append, List.append_nil, List.length_cons, List.length_nil, Option.map_some, Option.bind_some, Nat.reduceAdd, Nat.reduceSub, Nat.zero_add, decide_true, decide_false, eq_self, toU_sh, toU_ol, v_addI, v_addS, v_addT, v_addL, v_subI, v_mulI, v_mulL, v_mulT, v_fdiv, v_mod, v_pow, vc_lt, vc_le, vc_gt, vc_ge, vc_eq, vc_ne, vc_in, vc_nin, vc_isN, vc_isnN, vc_isB, ve_I, ve_S, ve_B, vi_S, vx_S, vx_T, vx_L, vs_S, vs_T, vs_L, vb_lenS, vb_lenT, vb_lenL, vb_lenR, vb_abs, vb_max, vb_min, vb_intI, vb_intB, vb_intS, vb_intH, vb_listT, vb_listL, vb_tupT, vb_tupL, vb_all, vb_any, vm_strip, vm_lower, vm_upper, vm_split, vm_par, vm_joinL, vm_joinT, vm_find, vm_count, vl_app, vl_pop, va_addI, va_subI, va_addS, vt_bl, vt_int, vt_str, vt_tup, vt_lst, vt_non, uwk_t, uwk_l, uwk_s, uStrs_map, uBls_map, dUx_int, dUx_str, cC, gC, yc, fmz, muC, qmC, List.isEmpty_nil, callR_draw, bind_draw, at_draw, retF_draw, toUR_draw, seq_draw, noExc_draw, all_draw, all_ret, all_ok, all_next, c9_2_3, List.length_map, List.length_range, show (20 : Int).toNat = 20 from rfl]
    refine loop.mono ?_
    rintro o ⟨π', k', e, vs, h2, h3, h4, h5⟩
    rw [List.length_map, List.length_range] at h2 h4
    exact ⟨π', k', e, vs, by omega, h3, by omega, h5⟩
  rintro π' k2 ⟨vs, hk2, hvs, hvl, rfl⟩
  rw [z_one]
  simp (disch := first | with_unfolding_all exact @id (_ = _) rfl | omega | (apply And.intro; (first | omega | simp); (first | omega | (apply And.intro; omega; with_unfolding_all exact @id (_ = _) rfl)))) only [ob_non, of_non, ob_bl, of_bl, ob_int, of_int, ob_str, of_str, ob_glo, of_glo, ob_bin, of_bin, ob_neg, of_neg, ob_not, of_not, ob_bop, of_bop, ob_ite, of_ite, ob_cmp, of_cmp, ob_chain, of_chain, ob_tup, of_tup, ob_lst, of_lst, ob_idx, of_idx, ob_slc, of_slc, ob_call, of_call, ob_callk, of_callk, ob_new, of_new, ob_mcall, of_mcall, ob_fmt, of_fmt, ob_cat, of_cat, ob_blt, of_blt, ob_isi, of_isi, ob_mth, of_mth, ob_comp, of_comp, ob_var, of_var, obV_ol, obV_sh, obV_f, ofV_ol, ofV_sh, ofV_f, toUR_ok, g_0, g_0n, g_s, y_non, y_bl, y_int, y_str, varR_s, y_var, y_glo, gloR_int, gloR_str, y_bin, negR_i, y_neg, y_not, y_bop, ifP_t, ifP_f, y_and1, y_and2, bopR_tt, bopR_ff, bopR_tf, bopR_ft, y_ite, y_cmp, y_chain, y_tup, y_lst, y_idx, y_slc, y_o0, y_o1, intP_i, y_nil, y_cons, y_qnil, y_qcons, callR_ok, callR_exc, ubR_s, ub_of, ucR_s, uc_of, uvR_s, ui_of, ul_of, ul_2, y_blt1, y_blt2, y_isi, strP_s, y_mt0, y_mt1, olV_ol, ow_var, sp_v, y_ml, y_comp, compT_1, compT_2, uw_nil, uw_cons, y_c0, y_c1, y_val, rngU_1, rngU_2, y_rng, y_enm, z_set, z_sets, ut_1, ut_2, ut_3, parP_2, parP_3, z_par, z_aug, aug_R, augR_l, augR_i, z_expr, retV_s, z_retv, z_ret, retE_u, z_retn, z_if, forT_1, forT_2, z_for, z_whl, whlT_u, z_raise, z_tryr, uc_next, uc_ret, uc_exc, z_pass, z_brk, z_cont, z_nil, z_one, z_cons, retF_n, retF_r, retF_x, vif_of, PR.req_true, PS.req_true, PR.bind_ok, PR.bind_exc, PR.opt_some, PR.req_of, PR.at_ok, PR.at_exc, PS.opt_some, PS.req_of, PS.seq_next, PS.seq_ret, PS.seq_brk, PS.seq_cont, PS.seq_exc, noExc_ok, quiet, quiets, quietI, Mt.ofList, Bool.and_true, Bool.true_and, Bool.and_self, Bool.false_and, Bool.and_false, Bool.not_true, Bool.not_false, List.set_cons_zero, List.set_cons_succ, List.map_cons, List.map_nil, List.cons_append, List.nil_append, List.append_nil, List.length_cons, List.length_nil, Option.map_some, Option.bind_some, Nat.reduceAdd, Nat.reduceSub, Nat.zero_add, decide_true, decide_false, eq_self, toU_sh, toU_ol, v_addI, v_addS, v_addT, v_addL, v_subI, v_mulI, v_mulL, v_mulT, v_fdiv, v_mod, v_pow, vc_lt, vc_le, vc_gt, vc_ge, vc_eq, vc_ne, vc_in, vc_nin, vc_isN, vc_isnN, vc_isB, ve_I, ve_S, ve_B, vi_S, vx_S, vx_T, vx_L, vs_S, vs_T, vs_L, vb_lenS, vb_lenT, vb_lenL, vb_lenR, vb_abs, vb_max, vb_min, vb_intI, vb_intB, vb_intS, vb_intH, vb_listT, vb_listL, vb_tupT, vb_tupL, vb_all, vb_any, vm_strip, vm_lower, vm_upper, vm_split, vm_par, vm_joinL, vm_joinT, vm_find, vm_count, vl_app, vl_pop, va_addI, va_subI, va_addS, vt_bl, vt_int, vt_str, vt_tup, vt_lst, vt_non, uwk_t, uwk_l, uwk_s, uStrs_map, uBls_map, dUx_int, dUx_str, cC, gC, yc, fmz, muC, qmC, List.isEmpty_nil, callR_draw, bind_draw, at_draw, retF_draw, toUR_draw, seq_draw, noExc_draw, all_draw, all_ret, all_ok, all_next, c9_2_4, things hvs]
  exact ⟨_, _, .inl rfl, by omega, rfl⟩
end
set_option maxHeartbeats 2000000 in
theorem good (ns : List Int) (h : ns.length ≤ 63) : (rn 8 9 [.sh (.scr ns)] 0).All fun o => ∃ outs k, o = .ok (.sh (.bl true)) outs k := by
  have hL : LIM = 16777216 := rfl
  have hF : FUEL = 67108864 := by decide
  obtain ⟨N, hN1, hN2⟩ : ∃ N : Nat, N ≤ 10 ∧ (if (if (ns.length : Int) < 10 then (ns.length : Int) else 10) > 4 then (if (ns.length : Int) < 10 then (ns.length : Int) else 10) else 4) = (N : Int) := by
    refine ⟨(if (if (ns.length : Int) < 10 then (ns.length : Int) else 10) > 4 then (if (ns.length : Int) < 10 then (ns.length : Int) else 10) else 4).toNat, ?_, ?_⟩
    · split <;> split <;> omega
    · split <;> split <;> omega
  have loop := all_for (f := forT (C 7) [2] false b9_2) (fg := [2, 3, 4, 5, 6, 7, 8]) (P := fun j π k => π = [some (.sh (.scr ns)), some (.sh (.str signs)), none, none, none, none, none, none, none, none] ∧ k ≤ 200 * j)
    (xs := (List.range N).map fun (i : Nat) => .int (0 + (i : Int))) (i := 0) (π := [some (.sh (.scr ns)), some (.sh (.str signs)), none, none, none, none, none, none, none, none]) (k := 0) ⟨rfl, Nat.le_refl _⟩ (by
      rintro j x π k hx ⟨rfl, hk⟩
      have hj := (List.getElem?_eq_some_iff.mp hx).1
      rw [List.length_map, List.length_range] at hj
      have hx' : x = .int (0 + (j : Int)) := by
        rw [List.getElem?_map, List.getElem?_range hj] at hx
        simpa using hx.symm
      subst hx'
      refine (turn2 (n := 2) (by omega) (by omega)).mono ?_
      rintro o ⟨π', k', e, h1, h3⟩
      exact ⟨π', k', e, h3, by omega⟩)
  have h1 : ∀ k', rn 7 1 [.sh (.str [102, 70, 59, 97])] k' = .ret (.ok (.sh (.int 255)) [] k') := fun k' => by
    have e1 : parU [102, 70, 59, 97] [59] = .tup [.str [102, 70], .str [59], .str [97]] := rfl
    have e := f1_good (n := 5) (k := k') (s := [102, 70, 59, 97]) (w := [102, 70]) ⟨by decide, by decide⟩ e1 (by decide) (by decide) (by decide +kernel) (by decide) (by decide +kernel)
    have e2 : L2.Hx.hexNum (low [102, 70]) = 255 := by decide +kernel
    rw [e2] at e
    exact e
  rw [r9]
  unfold f9
  dsimp only
  rw [z_cons]
  refine all_retF (P := fun p _ => p = .sh (.bl true)) ?_ (fun p k e => ⟨[], k, by rw [e]⟩)
  refine seq_eq (π := [some (.sh (.scr ns)), some (.sh (.str signs)), none, none, none, none, none, none, none, none]) (k := 0) (by simp (disch := first | with_unfolding_all exact @id (_ = _) rfl | omega | (apply And.intro; (first | omega | simp); (first | omega | (apply And.intro; omega; with_unfolding_all exact @id (_ = _) rfl)))) only [ob_non, of_non, ob_bl, of_bl, ob_int, of_int, ob_str, of_str, ob_glo, of_glo, ob_bin, of_bin, ob_neg, of_neg, ob_not, of_not, ob_bop, of_bop, ob_ite, of_ite, ob_cmp, of_cmp, ob_chain, of_chain, ob_tup, of_tup, ob_lst, of_lst, ob_idx, of_idx, ob_slc, of_slc, ob_call, of_call, ob_callk, of_callk, ob_new, of_new, ob_mcall, of_mcall, ob_fmt, of_fmt, ob_cat, of_cat, ob_blt, of_blt, ob_isi, of_isi, ob_mth, of_mth, ob_comp, of_comp, ob_var, of_var, obV_ol, obV_sh, obV_f, ofV_ol, ofV_sh, ofV_f, toUR_ok, g_0, g_0n, g_s, y_non, y_bl, y_int, y_str, varR_s, y_var, y_glo, gloR_int, gloR_str, y_bin, negR_i, y_neg, y_not, y_bop, ifP_t, ifP_f, y_and1, y_and2, bopR_tt, bopR_ff, bopR_tf, bopR_ft, y_ite, y_cmp, y_chain, y_tup, y_lst, y_idx, y_slc, y_o0, y_o1, intP_i, y_nil, y_cons, y_qnil, y_qcons, callR_ok, callR_exc, ubR_s, ub_of, ucR_s, uc_of, uvR_s, ui_of, ul_of, ul_2, y_blt1, y_blt2, y_isi, strP_s, y_mt0, y_mt1, olV_ol, ow_var, sp_v, y_ml, y_comp, compT_1, compT_2, uw_nil, uw_cons, y_c0, y_c1, y_val, rngU_1, rngU_2, y_rng, y_enm, z_set, z_sets, ut_1, ut_2, ut_3, parP_2, parP_3, z_par, z_aug, aug_R, augR_l, augR_i, z_expr, retV_s, z_retv, z_ret, retE_u, z_retn, z_if, forT_1, forT_2, z_for, z_whl, whlT_u, z_raise, z_tryr, uc_next, uc_ret, uc_exc, z_pass, z_brk, z_cont, z_nil, z_one, z_cons, retF_n, retF_r, retF_x, vif_of, PR.req_true, PS.req_true, PR.bind_ok, PR.bind_exc, PR.opt_some, PR.req_of, PR.at_ok, PR.at_exc, PS.opt_some, PS.req_of, PS.seq_next, PS.seq_ret, PS.seq_brk, PS.seq_cont, PS.seq_exc, noExc_ok, quiet, quiets, quietI, Mt.ofList, Bool.and_true, Bool.true_and, Bool.and_self, Bool.false_and, Bool.and_false, Bool.not_true, Bool.not_false, List.set_cons_zero, List.set_cons_succ, List.map_cons, List.map_nil, List.cons_append, List.nil_append, List.append_nil, List.length_cons, List.length_nil, Option.map_some, Option.bind_some, Nat.reduceAdd, Nat.reduceSub, Nat.zero_add, decide_true, decide_false, eq_self, toU_sh, toU_ol, v_addI, v_addS, v_addT, v_addL, v_subI, v_mulI, v_mulL, v_mulT, v_fdiv, v_mod, v_pow, vc_lt, vc_le, vc_gt, vc_ge, vc_eq, vc_ne, vc_in, vc_nin, vc_isN, vc_isnN, vc_isB, ve_I, ve_S, ve_B, vi_S, vx_S, vx_T, vx_L, vs_S, vs_T, vs_L, vb_lenS, vb_lenT, vb_lenL, vb_lenR, vb_abs, vb_max, vb_min, vb_intI, vb_intB, vb_intS, vb_intH, vb_listT, vb_listL, vb_tupT, vb_tupL, vb_all, vb_any, vm_strip, vm_lower, vm_upper, vm_split, vm_par, vm_joinL, vm_joinT, vm_find, vm_count, vl_app, vl_pop, va_addI, va_subI, va_addS, vt_bl, vt_int, vt_str, vt_tup, vt_lst, vt_non, uwk_t, uwk_l, uwk_s, uStrs_map, uBls_map, dUx_int, dUx_str, cC, gC, yc, fmz, muC, qmC, List.isEmpty_nil, callR_draw, bind_draw, at_draw, retF_draw, toUR_draw, seq_draw, noExc_draw, all_draw, all_ret, all_ok, all_next, s9_0]; rfl) ?_
  rw [z_cons]
  refine all_seq (P := fun π k => π = [some (.sh (.scr ns)), some (.sh (.str signs)), none, none, none, none, none, none, none, none]) ?_ ?_
  · simp (disch := first | with_unfolding_all exact @id (_ = _) rfl | omega | (apply And.intro; (first | omega | simp); (first | omega | (apply And.intro; omega; with_unfolding_all exact @id (_ = _) rfl)))) only [ob_non, of_non, ob_bl, of_bl, ob_int, of_int, ob_str, of_str, ob_glo, of_glo, ob_bin, of_bin, ob_neg, of_neg, ob_not, of_not, ob_bop, of_bop, ob_ite, of_ite, ob_cmp, of_cmp, ob_chain, of_chain, ob_tup, of_tup, ob_lst, of_lst, ob_idx, of_idx, ob_slc, of_slc, ob_call, of_call, ob_callk, of_callk, ob_new, of_new, ob_mcall, of_mcall, ob_fmt, of_fmt, ob_cat, of_cat, ob_blt, of_blt, ob_isi, of_isi, ob_mth, of_mth, ob_comp, of_comp, ob_var, of_var, obV_ol, obV_sh, obV_f, ofV_ol, ofV_sh, ofV_f, toUR_ok, g_0, g_0n, g_s, y_non, y_bl, y_int, y_str, varR_s, y_var, y_glo, gloR_int, gloR_str, y_bin, negR_i, y_neg, y_not, y_bop, ifP_t, ifP_f, y_and1, y_and2, bopR_tt, bopR_ff, bopR_tf, bopR_ft, y_ite, y_cmp, y_chain, y_tup, y_lst, y_idx, y_slc, y_o0, y_o1, intP_i, y_nil, y_cons, y_qnil, y_qcons, callR_ok, callR_exc, ubR_s, ub_of, ucR_s, uc_of, uvR_s, ui_of, ul_of, ul_2, y_blt1, y_blt2, y_isi, strP_s, y_mt0, y_mt1, olV_ol, ow_var, sp_v, y_ml, y_comp, compT_1, compT_2, uw_nil, uw_cons, y_c0, y_c1, y_val, rngU_1, rngU_2, y_rng, y_enm, z_set, z_sets, ut_1, ut_2, ut_3, parP_2, parP_3, z_par, z_aug, aug_R, augR_l, augR_i, z_expr, retV_s, z_retv, z_ret, retE_u, z_retn, z_if, forT_1, forT_2, z_for, z_whl, whlT_u, z_raise, z_tryr, uc_next, uc_ret, uc_exc, z_pass, z_brk, z_cont, z_nil, z_one, z_cons, retF_n, retF_r, retF_x, vif_of, PR.req_true, PS.req_true, PR.bind_ok, PR.bind_exc, PR.opt_some, PR.req_of, PR.at_ok, PR.at_exc, PS.opt_some, PS.req_of, PS.seq_next, PS.seq_ret, PS.seq_brk, PS.seq_cont, PS.seq_exc, noExc_ok, quiet, quiets, quietI, Mt.ofList, Bool.and_true, Bool.true_and, Bool.and_self, Bool.false_and, Bool.and_false, Bool.not_true, Bool.not_false, List.set_cons_zero, List.set_cons_succ, List.map_cons, List.map_nil, List.cons_append, List.nil_append, List.append_nil, List.length_cons, List.length_nil, Option.map_some, Option.bind_some, Nat.reduceAdd, Nat.reduceSub, Nat.zero_add, decide_true, decide_false, eq_self, toU_sh, toU_ol, v_addI, v_addS, v_addT, v_addL, v_subI, v_mulI, v_mulL, v_mulT, v_fdiv, v_mod, v_pow, vc_lt, vc_le, vc_gt, vc_ge, vc_eq, vc_ne, vc_in, vc_nin, vc_isN, vc_isnN, vc_isB, ve_I, ve_S, ve_B, vi_S, vx_S, vx_T, vx_L, vs_S, vs_T, vs_L, vb_lenS, vb_lenT, vb_lenL, vb_lenR, vb_abs, vb_max, vb_min, vb_intI, vb_intB, vb_intS, vb_intH, vb_listT, vb_listL, vb_tupT, vb_tupL, vb_all, vb_any, vm_strip, vm_lower, vm_upper, vm_split, vm_par, vm_joinL, vm_joinT, vm_find, vm_count, vl_app, vl_pop, va_addI, va_subI, va_addS, vt_bl, vt_int, vt_str, vt_tup, vt_lst, vt_non, uwk_t, uwk_l, uwk_s, uStrs_map, uBls_map, dUx_int, dUx_str, cC, gC, yc, fmz, muC, qmC, List.isEmpty_nil, callR_draw, bind_draw, at_draw, retF_draw, toUR_draw, seq_draw, noExc_draw, all_draw, all_ret, all_ok, all_next, s9_1, hN2, Int.toNat_natCast, List.length_map, List.length_range]
    refine loop.mono ?_
    rintro o ⟨π', k', e, h1, _⟩
    exact ⟨π', k', e, h1⟩
  · rintro π k rfl
    have p1 := fun π k => y_callk (C := C 7) (π := π) (k := k) (f := 1) (es := .nil) (ks := .cons (.str [102, 70, 59, 97]) .nil) (nm := ["line"]) (perm := [.inl 0]) (us := []) (vs := [.str [102, 70, 59, 97]]) (ws := [.str [102, 70, 59, 97]]) (π1 := π) (k1 := k) (π2 := π) (k2 := k) rfl rfl rfl rfl
    simp (disch := first | with_unfolding_all exact @id (_ = _) rfl | omega | (apply And.intro; (first | omega | simp); (first | omega | (apply And.intro; omega; with_unfolding_all exact @id (_ = _) rfl)))) only [ob_non, of_non, ob_bl, of_bl, ob_int, of_int, ob_str, of_str, ob_glo, of_glo, ob_bin, of_bin, ob_neg, of_neg, ob_not, of_not, ob_bop, of_bop, ob_ite, of_ite, ob_cmp, of_cmp, ob_chain, of_chain, ob_tup, of_tup, ob_lst, of_lst, ob_idx, of_idx, ob_slc, of_slc, ob_call, of_call, ob_callk, of_callk, ob_new, of_new, ob_mcall, of_mcall, ob_fmt, of_fmt, ob_cat, of_cat, ob_blt, of_blt, ob_isi, of_isi, ob_mth, of_mth, ob_comp, of_comp, ob_var, of_var, obV_ol, obV_sh, obV_f, ofV_ol, ofV_sh, ofV_f, toUR_ok, g_0, g_0n, g_s, y_non, y_bl, y_int, y_str, varR_s, y_var, y_glo, gloR_int, gloR_str, y_bin, negR_i, y_neg, y_not, y_bop, ifP_t, ifP_f, y_and1, y_and2, bopR_tt, bopR_ff, bopR_tf, bopR_ft, y_ite, y_cmp, y_chain, y_tup, y_lst, y_idx, y_slc, y_o0, y_o1, intP_i, y_nil, y_cons, y_qnil, y_qcons, callR_ok, callR_exc, ubR_s, ub_of, ucR_s, uc_of, uvR_s, ui_of, ul_of, ul_2, y_blt1, y_blt2, y_isi, strP_s, y_mt0, y_mt1, olV_ol, ow_var, sp_v, y_ml, y_comp, compT_1, compT_2, uw_nil, uw_cons, y_c0, y_c1, y_val, rngU_1, rngU_2, y_rng, y_enm, z_set, z_sets, ut_1, ut_2, ut_3, parP_2, parP_3, z_par, z_aug, aug_R, augR_l, augR_i, z_expr, retV_s, z_retv, z_ret, retE_u, z_retn, z_if, forT_1, forT_2, z_for, z_whl, whlT_u, z_raise, z_tryr, uc_next, uc_ret, uc_exc, z_pass, z_brk, z_cont, z_nil, z_one, z_cons, retF_n, retF_r, retF_x, vif_of, PR.req_true, PS.req_true, PR.bind_ok, PR.bind_exc, PR.opt_some, PR.req_of, PR.at_ok, PR.at_exc, PS.opt_some, PS.req_of, PS.seq_next, PS.seq_ret, PS.seq_brk, PS.seq_cont, PS.seq_exc, noExc_ok, quiet, quiets, quietI, Mt.ofList, Bool.and_true, Bool.true_and, Bool.and_self, Bool.false_and, Bool.and_false, Bool.not_true, Bool.not_false, List.set_cons_zero, List.set_cons_succ, List.map_cons, List.map_nil, List.cons_append, List.nil_append, List.append_nil, List.length_cons, List.length_nil, Option.map_some, Option.bind_some, Nat.reduceAdd, Nat.reduceSub, Nat.zero_add, decide_true, decide_false, eq_self, toU_sh, toU_ol, v_addI, v_addS, v_addT, v_addL, v_subI, v_mulI, v_mulL, v_mulT, v_fdiv, v_mod, v_pow, vc_lt, vc_le, vc_gt, vc_ge, vc_eq, vc_ne, vc_in, vc_nin, vc_isN, vc_isnN, vc_isB, ve_I, ve_S, ve_B, vi_S, vx_S, vx_T, vx_L, vs_S, vs_T, vs_L, vb_lenS, vb_lenT, vb_lenL, vb_lenR, vb_abs, vb_max, vb_min, vb_intI, vb_intB, vb_intS, vb_intH, vb_listT, vb_listL, vb_tupT, vb_tupL, vb_all, vb_any, vm_strip, vm_lower, vm_upper, vm_split, vm_par, vm_joinL, vm_joinT, vm_find, vm_count, vl_app, vl_pop, va_addI, va_subI, va_addS, vt_bl, vt_int, vt_str, vt_tup, vt_lst, vt_non, uwk_t, uwk_l, uwk_s, uStrs_map, uBls_map, dUx_int, dUx_str, cC, gC, yc, fmz, muC, qmC, List.isEmpty_nil, callR_draw, bind_draw, at_draw, retF_draw, toUR_draw, seq_draw, noExc_draw, all_draw, all_ret, all_ok, all_next, s9_2, p1, h1, ve_I]
    exact ⟨_, _, _, rfl, rfl⟩
end K10

/-! part H_K10 -/
namespace K10
open Cl
open PySem PySem.Spec PyProof.Rows L2
def topS (i : Nat) : Stmt := PySem.Challenge.pw_chunkletters_k10_sizes_read.main.body.getD i (.Pass ⟨0, 0, 0, 0⟩)
def n0 : List Str := [Str.ofString "thing", Str.ofString "character"]
def t0 : DefT := ⟨Str.ofString "is_string", [Str.ofString "thing"], []⟩
def n1 : List Str := [Str.ofString "line", Str.ofString "digits", Str.ofString "digit"]
def t1 : DefT := ⟨Str.ofString "read_size", [Str.ofString "line"], [(0, ["line"], [.inl 0])]⟩
def n2 : List Str := [Str.ofString "_law_script", Str.ofString "_law_at", Str.ofString "_law_cell", Str.ofString "_law_digits"]
def t2 : DefT := ⟨Str.ofString "_law_bag", [Str.ofString "_law_script", Str.ofString "_law_at"], []⟩
def n3 : List Str := [Str.ofString "_law_bag_here", Str.ofString "_law_many", Str.ofString "_law_digit"]
def t3 : DefT := ⟨Str.ofString "_law_take", [Str.ofString "_law_bag_here", Str.ofString "_law_many"], []⟩
def n4 : List Str := [Str.ofString "_law_bag_here", Str.ofString "_law_menu"]
def t4 : DefT := ⟨Str.ofString "_law_pick", [Str.ofString "_law_bag_here", Str.ofString "_law_menu"], []⟩
def n5 : List Str := []
def t5 : DefT := ⟨Str.ofString "_law_characters", [], []⟩
def n6 : List Str := [Str.ofString "_law_bag_here", Str.ofString "_law_objects", Str.ofString "_law_some"]
def t6 : DefT := ⟨Str.ofString "_law_any", [Str.ofString "_law_bag_here", Str.ofString "_law_objects"], []⟩
def n7 : List Str := [Str.ofString "_law_thing", Str.ofString "_law_word", Str.ofString "_law_found", Str.ofString "_law_sign"]
def t7 : DefT := ⟨Str.ofString "_law_due", [Str.ofString "_law_thing"], []⟩
def n8 : List Str := [Str.ofString "_law_thing", Str.ofString "e"]
def t8 : DefT := ⟨Str.ofString "_law_said", [Str.ofString "_law_thing"], []⟩
def n9 : List Str := [Str.ofString "_law_script", Str.ofString "_law_menu", Str.ofString "_law_k", Str.ofString "_law_bag_here", Str.ofString "_law_things", Str.ofString "_law_turn", Str.ofString "_law_word", Str.ofString "_law_thing", Str.ofString "_law_told", Str.ofString "_law_sign"]
def t9 : DefT := ⟨Str.ofString "law", [Str.ofString "_law_script"], []⟩
def tab : Tab := ⟨[t0, t1, t2, t3, t4, t5, t6, t7, t8, t9], ["CHARACTERS", "HEXADECIMAL", "MOST_SIZE_DIGITS"], ["abs", "all", "int", "isinstance", "len", "max", "min", "range", "repr", "str"], [("BadLine", "kind")]⟩
theorem ck0 : chkSs tab n0 (L2.defScope (topS 4)) f0.body (L2.defBody (topS 4)) = true := by decide +kernel
theorem fs0 : FnScope n0 t0.ps (L2.defScope (topS 4)) := ⟨rfl, rfl, rfl, by decide +kernel, rfl, by decide +kernel, by decide +kernel⟩
theorem ck1 : chkSs tab n1 (L2.defScope (topS 8)) f1.body (L2.defBody (topS 8)) = true := by decide +kernel
theorem fs1 : FnScope n1 t1.ps (L2.defScope (topS 8)) := ⟨rfl, rfl, rfl, by decide +kernel, rfl, by decide +kernel, by decide +kernel⟩
theorem ck2 : chkSs tab n2 (L2.defScope (topS 10)) f2.body (L2.defBody (topS 10)) = true := by decide +kernel
theorem fs2 : FnScope n2 t2.ps (L2.defScope (topS 10)) := ⟨rfl, rfl, rfl, by decide +kernel, rfl, by decide +kernel, by decide +kernel⟩
theorem ck3 : chkSs tab n3 (L2.defScope (topS 11)) f3.body (L2.defBody (topS 11)) = true := by decide +kernel
theorem fs3 : FnScope n3 t3.ps (L2.defScope (topS 11)) := ⟨rfl, rfl, rfl, by decide +kernel, rfl, by decide +kernel, by decide +kernel⟩
theorem ck4 : chkSs tab n4 (L2.defScope (topS 12)) f4.body (L2.defBody (topS 12)) = true := by decide +kernel
theorem fs4 : FnScope n4 t4.ps (L2.defScope (topS 12)) := ⟨rfl, rfl, rfl, by decide +kernel, rfl, by decide +kernel, by decide +kernel⟩
theorem ck5 : chkSs tab n5 (L2.defScope (topS 13)) f5.body (L2.defBody (topS 13)) = true := by decide +kernel
theorem fs5 : FnScope n5 t5.ps (L2.defScope (topS 13)) := ⟨rfl, rfl, rfl, by decide +kernel, rfl, by decide +kernel, by decide +kernel⟩
theorem ck6 : chkSs tab n6 (L2.defScope (topS 14)) f6.body (L2.defBody (topS 14)) = true := by decide +kernel
theorem fs6 : FnScope n6 t6.ps (L2.defScope (topS 14)) := ⟨rfl, rfl, rfl, by decide +kernel, rfl, by decide +kernel, by decide +kernel⟩
theorem ck7 : chkSs tab n7 (L2.defScope (topS 15)) f7.body (L2.defBody (topS 15)) = true := by decide +kernel
theorem fs7 : FnScope n7 t7.ps (L2.defScope (topS 15)) := ⟨rfl, rfl, rfl, by decide +kernel, rfl, by decide +kernel, by decide +kernel⟩
theorem ck8 : chkSs tab n8 (L2.defScope (topS 16)) f8.body (L2.defBody (topS 16)) = true := by decide +kernel
theorem fs8 : FnScope n8 t8.ps (L2.defScope (topS 16)) := ⟨rfl, rfl, rfl, by decide +kernel, rfl, by decide +kernel, by decide +kernel⟩
theorem ck9 : chkSs tab n9 (L2.defScope (topS 17)) f9.body (L2.defBody (topS 17)) = true := by decide +kernel
theorem fs9 : FnScope n9 t9.ps (L2.defScope (topS 17)) := ⟨rfl, rfl, rfl, by decide +kernel, rfl, by decide +kernel, by decide +kernel⟩
theorem ok0 {K : Fr'} {mg : Str → Option Value} {h : Heap} {a : Addr} {od an : Option Addr} {sl : Array (Option Value)} {oc kV dc pm cd ct : Value} (X : K.In h) (G : h.Ns mainGlobals mg) (n : PySem.W.nsIn K mainGlobals (Str.ofString "is_string") = some (some (.ref a)))
    (l : K.lookup a = some ⟨oc, od, .func (PySem.W.fnOf (Str.ofString "is_string") (Str.ofString "is_string") (L2.defArgs (topS 4)) (L2.defBody (topS 4)) (L2.defScope (topS 4)) .none kV dc pm an cd ct), sl⟩) (c : PySem.W.codeIn K cd (Str.ofString "is_string") = true) (k : PySem.W.keepIn K (.ref a) = true) : DefOk K mg tab pr 0 t0 :=
  ⟨a, _, _, _, _, _, _, kV, dc, pm, cd, ct, oc, an, od, sl, n0, f0, l, c, fs0, rfl, rfl, rfl, ck0, PySem.W.mg_of X G n, k, (L2.fun_mk (st := topS 4) l c k).binds (ps := t0.ps) (fun _ _ _ _ _ _ us hl => match us, hl with | [_], _ => rfl), fun sh hs => nomatch hs⟩
theorem ok1 {K : Fr'} {mg : Str → Option Value} {h : Heap} {a : Addr} {od an : Option Addr} {sl : Array (Option Value)} {oc kV dc pm cd ct : Value} (X : K.In h) (G : h.Ns mainGlobals mg) (n : PySem.W.nsIn K mainGlobals (Str.ofString "read_size") = some (some (.ref a)))
    (l : K.lookup a = some ⟨oc, od, .func (PySem.W.fnOf (Str.ofString "read_size") (Str.ofString "read_size") (L2.defArgs (topS 8)) (L2.defBody (topS 8)) (L2.defScope (topS 8)) .none kV dc pm an cd ct), sl⟩) (c : PySem.W.codeIn K cd (Str.ofString "read_size") = true) (k : PySem.W.keepIn K (.ref a) = true) : DefOk K mg tab pr 1 t1 :=
  ⟨a, _, _, _, _, _, _, kV, dc, pm, cd, ct, oc, an, od, sl, n1, f1, l, c, fs1, rfl, rfl, rfl, ck1, PySem.W.mg_of X G n, k, (L2.fun_mk (st := topS 8) l c k).binds (ps := t1.ps) (fun _ _ _ _ _ _ us hl => match us, hl with | [_], _ => rfl), fun sh hs => by
    simp only [t1, List.mem_cons, List.mem_nil_iff, or_false, List.not_mem_nil] at hs
    subst hs
    exact fun s us ws _ h1 h2 => match us, ws, h1, h2 with | [], [w0], _, _ => ⟨[w0], (.pos rfl .nil), .of_eq rfl⟩⟩
theorem ok2 {K : Fr'} {mg : Str → Option Value} {h : Heap} {a : Addr} {od an : Option Addr} {sl : Array (Option Value)} {oc kV dc pm cd ct : Value} (X : K.In h) (G : h.Ns mainGlobals mg) (n : PySem.W.nsIn K mainGlobals (Str.ofString "_law_bag") = some (some (.ref a)))
    (l : K.lookup a = some ⟨oc, od, .func (PySem.W.fnOf (Str.ofString "_law_bag") (Str.ofString "_law_bag") (L2.defArgs (topS 10)) (L2.defBody (topS 10)) (L2.defScope (topS 10)) .none kV dc pm an cd ct), sl⟩) (c : PySem.W.codeIn K cd (Str.ofString "_law_bag") = true) (k : PySem.W.keepIn K (.ref a) = true) : DefOk K mg tab pr 2 t2 :=
  ⟨a, _, _, _, _, _, _, kV, dc, pm, cd, ct, oc, an, od, sl, n2, f2, l, c, fs2, rfl, rfl, rfl, ck2, PySem.W.mg_of X G n, k, (L2.fun_mk (st := topS 10) l c k).binds (ps := t2.ps) (fun _ _ _ _ _ _ us hl => match us, hl with | [_, _], _ => rfl), fun sh hs => nomatch hs⟩
theorem ok3 {K : Fr'} {mg : Str → Option Value} {h : Heap} {a : Addr} {od an : Option Addr} {sl : Array (Option Value)} {oc kV dc pm cd ct : Value} (X : K.In h) (G : h.Ns mainGlobals mg) (n : PySem.W.nsIn K mainGlobals (Str.ofString "_law_take") = some (some (.ref a)))
    (l : K.lookup a = some ⟨oc, od, .func (PySem.W.fnOf (Str.ofString "_law_take") (Str.ofString "_law_take") (L2.defArgs (topS 11)) (L2.defBody (topS 11)) (L2.defScope (topS 11)) .none kV dc pm an cd ct), sl⟩) (c : PySem.W.codeIn K cd (Str.ofString "_law_take") = true) (k : PySem.W.keepIn K (.ref a) = true) : DefOk K mg tab pr 3 t3 :=
  ⟨a, _, _, _, _, _, _, kV, dc, pm, cd, ct, oc, an, od, sl, n3, f3, l, c, fs3, rfl, rfl, rfl, ck3, PySem.W.mg_of X G n, k, (L2.fun_mk (st := topS 11) l c k).binds (ps := t3.ps) (fun _ _ _ _ _ _ us hl => match us, hl with | [_, _], _ => rfl), fun sh hs => nomatch hs⟩
theorem ok4 {K : Fr'} {mg : Str → Option Value} {h : Heap} {a : Addr} {od an : Option Addr} {sl : Array (Option Value)} {oc kV dc pm cd ct : Value} (X : K.In h) (G : h.Ns mainGlobals mg) (n : PySem.W.nsIn K mainGlobals (Str.ofString "_law_pick") = some (some (.ref a)))
    (l : K.lookup a = some ⟨oc, od, .func (PySem.W.fnOf (Str.ofString "_law_pick") (Str.ofString "_law_pick") (L2.defArgs (topS 12)) (L2.defBody (topS 12)) (L2.defScope (topS 12)) .none kV dc pm an cd ct), sl⟩) (c : PySem.W.codeIn K cd (Str.ofString "_law_pick") = true) (k : PySem.W.keepIn K (.ref a) = true) : DefOk K mg tab pr 4 t4 :=
  ⟨a, _, _, _, _, _, _, kV, dc, pm, cd, ct, oc, an, od, sl, n4, f4, l, c, fs4, rfl, rfl, rfl, ck4, PySem.W.mg_of X G n, k, (L2.fun_mk (st := topS 12) l c k).binds (ps := t4.ps) (fun _ _ _ _ _ _ us hl => match us, hl with | [_, _], _ => rfl), fun sh hs => nomatch hs⟩
theorem ok5 {K : Fr'} {mg : Str → Option Value} {h : Heap} {a : Addr} {od an : Option Addr} {sl : Array (Option Value)} {oc kV dc pm cd ct : Value} (X : K.In h) (G : h.Ns mainGlobals mg) (n : PySem.W.nsIn K mainGlobals (Str.ofString "_law_characters") = some (some (.ref a)))
    (l : K.lookup a = some ⟨oc, od, .func (PySem.W.fnOf (Str.ofString "_law_characters") (Str.ofString "_law_characters") (L2.defArgs (topS 13)) (L2.defBody (topS 13)) (L2.defScope (topS 13)) .none kV dc pm an cd ct), sl⟩) (c : PySem.W.codeIn K cd (Str.ofString "_law_characters") = true) (k : PySem.W.keepIn K (.ref a) = true) : DefOk K mg tab pr 5 t5 :=
  ⟨a, _, _, _, _, _, _, kV, dc, pm, cd, ct, oc, an, od, sl, n5, f5, l, c, fs5, rfl, rfl, rfl, ck5, PySem.W.mg_of X G n, k, (L2.fun_mk (st := topS 13) l c k).binds (ps := t5.ps) (fun _ _ _ _ _ _ us hl => match us, hl with | [], _ => rfl), fun sh hs => nomatch hs⟩
theorem ok6 {K : Fr'} {mg : Str → Option Value} {h : Heap} {a : Addr} {od an : Option Addr} {sl : Array (Option Value)} {oc kV dc pm cd ct : Value} (X : K.In h) (G : h.Ns mainGlobals mg) (n : PySem.W.nsIn K mainGlobals (Str.ofString "_law_any") = some (some (.ref a)))
    (l : K.lookup a = some ⟨oc, od, .func (PySem.W.fnOf (Str.ofString "_law_any") (Str.ofString "_law_any") (L2.defArgs (topS 14)) (L2.defBody (topS 14)) (L2.defScope (topS 14)) .none kV dc pm an cd ct), sl⟩) (c : PySem.W.codeIn K cd (Str.ofString "_law_any") = true) (k : PySem.W.keepIn K (.ref a) = true) : DefOk K mg tab pr 6 t6 :=
  ⟨a, _, _, _, _, _, _, kV, dc, pm, cd, ct, oc, an, od, sl, n6, f6, l, c, fs6, rfl, rfl, rfl, ck6, PySem.W.mg_of X G n, k, (L2.fun_mk (st := topS 14) l c k).binds (ps := t6.ps) (fun _ _ _ _ _ _ us hl => match us, hl with | [_, _], _ => rfl), fun sh hs => nomatch hs⟩
theorem ok7 {K : Fr'} {mg : Str → Option Value} {h : Heap} {a : Addr} {od an : Option Addr} {sl : Array (Option Value)} {oc kV dc pm cd ct : Value} (X : K.In h) (G : h.Ns mainGlobals mg) (n : PySem.W.nsIn K mainGlobals (Str.ofString "_law_due") = some (some (.ref a)))
    (l : K.lookup a = some ⟨oc, od, .func (PySem.W.fnOf (Str.ofString "_law_due") (Str.ofString "_law_due") (L2.defArgs (topS 15)) (L2.defBody (topS 15)) (L2.defScope (topS 15)) .none kV dc pm an cd ct), sl⟩) (c : PySem.W.codeIn K cd (Str.ofString "_law_due") = true) (k : PySem.W.keepIn K (.ref a) = true) : DefOk K mg tab pr 7 t7 :=
  ⟨a, _, _, _, _, _, _, kV, dc, pm, cd, ct, oc, an, od, sl, n7, f7, l, c, fs7, rfl, rfl, rfl, ck7, PySem.W.mg_of X G n, k, (L2.fun_mk (st := topS 15) l c k).binds (ps := t7.ps) (fun _ _ _ _ _ _ us hl => match us, hl with | [_], _ => rfl), fun sh hs => nomatch hs⟩
theorem ok8 {K : Fr'} {mg : Str → Option Value} {h : Heap} {a : Addr} {od an : Option Addr} {sl : Array (Option Value)} {oc kV dc pm cd ct : Value} (X : K.In h) (G : h.Ns mainGlobals mg) (n : PySem.W.nsIn K mainGlobals (Str.ofString "_law_said") = some (some (.ref a)))
    (l : K.lookup a = some ⟨oc, od, .func (PySem.W.fnOf (Str.ofString "_law_said") (Str.ofString "_law_said") (L2.defArgs (topS 16)) (L2.defBody (topS 16)) (L2.defScope (topS 16)) .none kV dc pm an cd ct), sl⟩) (c : PySem.W.codeIn K cd (Str.ofString "_law_said") = true) (k : PySem.W.keepIn K (.ref a) = true) : DefOk K mg tab pr 8 t8 :=
  ⟨a, _, _, _, _, _, _, kV, dc, pm, cd, ct, oc, an, od, sl, n8, f8, l, c, fs8, rfl, rfl, rfl, ck8, PySem.W.mg_of X G n, k, (L2.fun_mk (st := topS 16) l c k).binds (ps := t8.ps) (fun _ _ _ _ _ _ us hl => match us, hl with | [_], _ => rfl), fun sh hs => nomatch hs⟩
theorem ok9 {K : Fr'} {mg : Str → Option Value} {h : Heap} {a : Addr} {od an : Option Addr} {sl : Array (Option Value)} {oc kV dc pm cd ct : Value} (X : K.In h) (G : h.Ns mainGlobals mg) (n : PySem.W.nsIn K mainGlobals (Str.ofString "law") = some (some (.ref a)))
    (l : K.lookup a = some ⟨oc, od, .func (PySem.W.fnOf (Str.ofString "law") (Str.ofString "law") (L2.defArgs (topS 17)) (L2.defBody (topS 17)) (L2.defScope (topS 17)) .none kV dc pm an cd ct), sl⟩) (c : PySem.W.codeIn K cd (Str.ofString "law") = true) (k : PySem.W.keepIn K (.ref a) = true) : DefOk K mg tab pr 9 t9 :=
  ⟨a, _, _, _, _, _, _, kV, dc, pm, cd, ct, oc, an, od, sl, n9, f9, l, c, fs9, rfl, rfl, rfl, ck9, PySem.W.mg_of X G n, k, (L2.fun_mk (st := topS 17) l c k).binds (ps := t9.ps) (fun _ _ _ _ _ _ us hl => match us, hl with | [_], _ => rfl), fun sh hs => nomatch hs⟩
abbrev xs0 : Stmt := L2.inClass (topS 1) 0
def xt0 : InitTxt := txOf (L2.defBody xs0)
theorem xo0 : xt0.Ok (Str.ofString "kind") (Str.ofString "bad line: ") := fun env => ⟨_, by rfl⟩
theorem xf0 : FnScope [Str.ofString "self", Str.ofString "kind"] [Str.ofString "self", Str.ofString "kind"] (L2.defScope xs0) := ⟨rfl, rfl, rfl, by decide +kernel, rfl, by decide +kernel, by decide +kernel⟩
theorem xk0 {P : Program} {w : World} {K : Fr'} {mg : Str → Option Value} {base h : Heap} {xi : XI} {C fI : Addr} {od an : Option Addr} {sl : Array (Option Value)} {oc kV dc pm cd ct : Value} {nm q : Str} {N : Addr} {bs bm : List Value} {sn sub ab col dd k0 k1 k2 k3 k5 : _} (X : K.In h) (G : h.Ns mainGlobals mg) (hx : xi 0 = some (C, [Str.ofString "kind"]))
    (nC : PySem.W.nsIn K mainGlobals (Str.ofString "BadLine") = some (some (.ref C))) (nV : PySem.W.nsIn K mainGlobals (Str.ofString "ValueError") = some none) (lC : K.lookup C = some (excClassObj nm q C N bs bm true sn sub ab col dd k0 k1 k2 k3 k5 "ValueError.__new__")) (bmC : PySem.HandSPX.refsVE bm = true)
    (sa : PySem.W.findIn K (.ref C) "__setattr__" = some (some (.builtin "object.__setattr__"))) (exC : PySem.W.subIn K (.ref C) (.type "BaseException") = some true) (tyC : PySem.W.typeIn K (.ref C) = some (.type "type")) (kC : PySem.W.keepIn K (.ref C) = true)
    (iC : PySem.W.findIn K (.ref C) "__init__" = some (some (.ref fI))) (tI : PySem.W.typeIn K (.ref fI) = some (.type "function")) (lI : K.lookup fI = some ⟨oc, od, .func (PySem.W.fnOf (Str.ofString "__init__") (Str.ofString "BadLine.__init__") (L2.defArgs xs0) (L2.defBody xs0) (L2.defScope xs0) .none kV dc pm an cd ct), sl⟩)
    (cI : PySem.W.codeIn K cd (Str.ofString "BadLine.__init__") = true) (kI : PySem.W.keepIn K (.ref fI) = true) (hno : PySem.W.findIn K (.ref C) (Str.ofString "kind") = some none) (ga : PySem.W.findIn K (.ref C) "__getattribute__" = some (some (.builtin "BaseException.__getattribute__"))) (gg : PySem.W.findIn K (.ref C) "__getattr__" = some none) (hdC : PySem.W.hasDictIn K C = true) :
    XCls P w K mg base xi 0 (Str.ofString "BadLine") (Str.ofString "kind") :=
  ⟨C, fI, _, hx, PySem.W.mg_of X G nC, ⟨⟨nm, q, N, bs, bm, sn, sub, ab, col, dd, k0, k1, k2, k3, k5, lC, bmC⟩, sa, exC, tyC, kC⟩, iC, tI, fun k => init_ok (lit := Str.ofString "bad line: ") lI cI xf0 xt0 rfl xo0 (by decide +kernel) (by decide +kernel) (PySem.W.mg_none_of X G nV) veF hno (by decide +kernel) (by decide +kernel),
    (L2.fun_mk (st := xs0) lI cI kI).binds (ps := [Str.ofString "self", Str.ofString "kind"]) (fun _ _ _ _ _ _ us hl => match us, hl with | [_, _], _ => rfl), ⟨ga, gg, exC, hdC⟩, hno⟩
theorem all_ok {K : Fr'} {mg : Str → Option Value} {h : Heap} {fa : Addr} {l : PySem.W.OpenLaw} {w : World} (X : K.In h) (G : h.Ns mainGlobals mg) (hfa : mg (Str.ofString "law") = some (.ref fa))
    {od0 an0 : Option Addr} {sl0 : Array (Option Value)} {oc0 kV0 dc0 pm0 cd0 ct0 : Value} {a0 : Addr} (n0 : PySem.W.nsIn K mainGlobals (Str.ofString "is_string") = some (some (.ref a0)))
    (l0 : K.lookup a0 = some ⟨oc0, od0, .func (PySem.W.fnOf (Str.ofString "is_string") (Str.ofString "is_string") (L2.defArgs (topS 4)) (L2.defBody (topS 4)) (L2.defScope (topS 4)) .none kV0 dc0 pm0 an0 cd0 ct0), sl0⟩) (c0 : PySem.W.codeIn K cd0 (Str.ofString "is_string") = true) (k0 : PySem.W.keepIn K (.ref a0) = true)
    {od1 an1 : Option Addr} {sl1 : Array (Option Value)} {oc1 kV1 dc1 pm1 cd1 ct1 : Value} {a1 : Addr} (n1 : PySem.W.nsIn K mainGlobals (Str.ofString "read_size") = some (some (.ref a1)))
    (l1 : K.lookup a1 = some ⟨oc1, od1, .func (PySem.W.fnOf (Str.ofString "read_size") (Str.ofString "read_size") (L2.defArgs (topS 8)) (L2.defBody (topS 8)) (L2.defScope (topS 8)) .none kV1 dc1 pm1 an1 cd1 ct1), sl1⟩) (c1 : PySem.W.codeIn K cd1 (Str.ofString "read_size") = true) (k1 : PySem.W.keepIn K (.ref a1) = true)
    {od2 an2 : Option Addr} {sl2 : Array (Option Value)} {oc2 kV2 dc2 pm2 cd2 ct2 : Value} {a2 : Addr} (n2 : PySem.W.nsIn K mainGlobals (Str.ofString "_law_bag") = some (some (.ref a2)))
    (l2 : K.lookup a2 = some ⟨oc2, od2, .func (PySem.W.fnOf (Str.ofString "_law_bag") (Str.ofString "_law_bag") (L2.defArgs (topS 10)) (L2.defBody (topS 10)) (L2.defScope (topS 10)) .none kV2 dc2 pm2 an2 cd2 ct2), sl2⟩) (c2 : PySem.W.codeIn K cd2 (Str.ofString "_law_bag") = true) (k2 : PySem.W.keepIn K (.ref a2) = true)
    {od3 an3 : Option Addr} {sl3 : Array (Option Value)} {oc3 kV3 dc3 pm3 cd3 ct3 : Value} {a3 : Addr} (n3 : PySem.W.nsIn K mainGlobals (Str.ofString "_law_take") = some (some (.ref a3)))
    (l3 : K.lookup a3 = some ⟨oc3, od3, .func (PySem.W.fnOf (Str.ofString "_law_take") (Str.ofString "_law_take") (L2.defArgs (topS 11)) (L2.defBody (topS 11)) (L2.defScope (topS 11)) .none kV3 dc3 pm3 an3 cd3 ct3), sl3⟩) (c3 : PySem.W.codeIn K cd3 (Str.ofString "_law_take") = true) (k3 : PySem.W.keepIn K (.ref a3) = true)
    {od4 an4 : Option Addr} {sl4 : Array (Option Value)} {oc4 kV4 dc4 pm4 cd4 ct4 : Value} {a4 : Addr} (n4 : PySem.W.nsIn K mainGlobals (Str.ofString "_law_pick") = some (some (.ref a4)))
    (l4 : K.lookup a4 = some ⟨oc4, od4, .func (PySem.W.fnOf (Str.ofString "_law_pick") (Str.ofString "_law_pick") (L2.defArgs (topS 12)) (L2.defBody (topS 12)) (L2.defScope (topS 12)) .none kV4 dc4 pm4 an4 cd4 ct4), sl4⟩) (c4 : PySem.W.codeIn K cd4 (Str.ofString "_law_pick") = true) (k4 : PySem.W.keepIn K (.ref a4) = true)
    {od5 an5 : Option Addr} {sl5 : Array (Option Value)} {oc5 kV5 dc5 pm5 cd5 ct5 : Value} {a5 : Addr} (n5 : PySem.W.nsIn K mainGlobals (Str.ofString "_law_characters") = some (some (.ref a5)))
    (l5 : K.lookup a5 = some ⟨oc5, od5, .func (PySem.W.fnOf (Str.ofString "_law_characters") (Str.ofString "_law_characters") (L2.defArgs (topS 13)) (L2.defBody (topS 13)) (L2.defScope (topS 13)) .none kV5 dc5 pm5 an5 cd5 ct5), sl5⟩) (c5 : PySem.W.codeIn K cd5 (Str.ofString "_law_characters") = true) (k5 : PySem.W.keepIn K (.ref a5) = true)
    {od6 an6 : Option Addr} {sl6 : Array (Option Value)} {oc6 kV6 dc6 pm6 cd6 ct6 : Value} {a6 : Addr} (n6 : PySem.W.nsIn K mainGlobals (Str.ofString "_law_any") = some (some (.ref a6)))
    (l6 : K.lookup a6 = some ⟨oc6, od6, .func (PySem.W.fnOf (Str.ofString "_law_any") (Str.ofString "_law_any") (L2.defArgs (topS 14)) (L2.defBody (topS 14)) (L2.defScope (topS 14)) .none kV6 dc6 pm6 an6 cd6 ct6), sl6⟩) (c6 : PySem.W.codeIn K cd6 (Str.ofString "_law_any") = true) (k6 : PySem.W.keepIn K (.ref a6) = true)
    {od7 an7 : Option Addr} {sl7 : Array (Option Value)} {oc7 kV7 dc7 pm7 cd7 ct7 : Value} {a7 : Addr} (n7 : PySem.W.nsIn K mainGlobals (Str.ofString "_law_due") = some (some (.ref a7)))
    (l7 : K.lookup a7 = some ⟨oc7, od7, .func (PySem.W.fnOf (Str.ofString "_law_due") (Str.ofString "_law_due") (L2.defArgs (topS 15)) (L2.defBody (topS 15)) (L2.defScope (topS 15)) .none kV7 dc7 pm7 an7 cd7 ct7), sl7⟩) (c7 : PySem.W.codeIn K cd7 (Str.ofString "_law_due") = true) (k7 : PySem.W.keepIn K (.ref a7) = true)
    {od8 an8 : Option Addr} {sl8 : Array (Option Value)} {oc8 kV8 dc8 pm8 cd8 ct8 : Value} {a8 : Addr} (n8 : PySem.W.nsIn K mainGlobals (Str.ofString "_law_said") = some (some (.ref a8)))
    (l8 : K.lookup a8 = some ⟨oc8, od8, .func (PySem.W.fnOf (Str.ofString "_law_said") (Str.ofString "_law_said") (L2.defArgs (topS 16)) (L2.defBody (topS 16)) (L2.defScope (topS 16)) .none kV8 dc8 pm8 an8 cd8 ct8), sl8⟩) (c8 : PySem.W.codeIn K cd8 (Str.ofString "_law_said") = true) (k8 : PySem.W.keepIn K (.ref a8) = true)
    {od9 an9 : Option Addr} {sl9 : Array (Option Value)} {oc9 kV9 dc9 pm9 cd9 ct9 : Value} {a9 : Addr} (n9 : PySem.W.nsIn K mainGlobals (Str.ofString "law") = some (some (.ref a9)))
    (l9 : K.lookup a9 = some ⟨oc9, od9, .func (PySem.W.fnOf (Str.ofString "law") (Str.ofString "law") (L2.defArgs (topS 17)) (L2.defBody (topS 17)) (L2.defScope (topS 17)) .none kV9 dc9 pm9 an9 cd9 ct9), sl9⟩) (c9 : PySem.W.codeIn K cd9 (Str.ofString "law") = true) (k9 : PySem.W.keepIn K (.ref a9) = true)
    {C0 fI0 : Addr} {xod0 xan0 : Option Addr} {xsl0 : Array (Option Value)} {xoc0 xkV0 xdc0 xpm0 xcd0 xct0 : Value} {xnm0 xq0 : Str} {xN0 : Addr} {xbs0 xbm0 : List Value} {xsn0 xsub0 xab0 xcol0 xdd0 xk00 xk10 xk20 xk30 xk50 : _}
    (xa0 : PySem.W.nsIn K mainGlobals (Str.ofString "BadLine") = some (some (.ref C0))) (xb0 : PySem.W.nsIn K mainGlobals (Str.ofString "ValueError") = some none) (xc0 : K.lookup C0 = some (excClassObj xnm0 xq0 C0 xN0 xbs0 xbm0 true xsn0 xsub0 xab0 xcol0 xdd0 xk00 xk10 xk20 xk30 xk50 "ValueError.__new__")) (xd0 : PySem.HandSPX.refsVE xbm0 = true)
    (xe0 : PySem.W.findIn K (.ref C0) "__setattr__" = some (some (.builtin "object.__setattr__"))) (xf0 : PySem.W.subIn K (.ref C0) (.type "BaseException") = some true) (xg0 : PySem.W.typeIn K (.ref C0) = some (.type "type")) (xh0 : PySem.W.keepIn K (.ref C0) = true)
    (xi0 : PySem.W.findIn K (.ref C0) "__init__" = some (some (.ref fI0))) (xj0 : PySem.W.typeIn K (.ref fI0) = some (.type "function")) (xl0 : K.lookup fI0 = some ⟨xoc0, xod0, .func (PySem.W.fnOf (Str.ofString "__init__") (Str.ofString "BadLine.__init__") (L2.defArgs xs0) (L2.defBody xs0) (L2.defScope xs0) .none xkV0 xdc0 xpm0 xan0 xcd0 xct0), xsl0⟩)
    (xm0 : PySem.W.codeIn K xcd0 (Str.ofString "BadLine.__init__") = true) (xn0 : PySem.W.keepIn K (.ref fI0) = true) (xo0 : PySem.W.findIn K (.ref C0) (Str.ofString "kind") = some none) (xp0 : PySem.W.findIn K (.ref C0) "__getattribute__" = some (some (.builtin "BaseException.__getattribute__"))) (xr0 : PySem.W.findIn K (.ref C0) "__getattr__" = some none) (xs0_ : PySem.W.hasDictIn K C0 = true)
    (xz0_0 : PySem.W.exmOne K (.ref C0) (.ref C0) = some true)
    {gt0 : Tok} (g0 : PySem.W.nsIn K mainGlobals (Str.ofString "CHARACTERS") = some (some (.str (Str.ofString " !\"#$&'()*+,-./0123456789:;<=>?@ABCDEFGHIJKLMNOPQRSTUVWXYZ[\\]^_`abcdefghijklmnopqrstuvwxyz{|}~") gt0))) {gt1 : Tok} (g1 : PySem.W.nsIn K mainGlobals (Str.ofString "HEXADECIMAL") = some (some (.str (Str.ofString "0123456789abcdef") gt1))) {gt2 : Tok} (g2 : PySem.W.nsIn K mainGlobals (Str.ofString "MOST_SIZE_DIGITS") = some (some (.int 6 gt2)))
    (b0 : PySem.W.nsIn K mainGlobals (Str.ofString "abs") = some none) (b1 : PySem.W.nsIn K mainGlobals (Str.ofString "all") = some none) (b2 : PySem.W.nsIn K mainGlobals (Str.ofString "int") = some none) (b3 : PySem.W.nsIn K mainGlobals (Str.ofString "isinstance") = some none) (b4 : PySem.W.nsIn K mainGlobals (Str.ofString "len") = some none) (b5 : PySem.W.nsIn K mainGlobals (Str.ofString "max") = some none) (b6 : PySem.W.nsIn K mainGlobals (Str.ofString "min") = some none) (b7 : PySem.W.nsIn K mainGlobals (Str.ofString "range") = some none) (b8 : PySem.W.nsIn K mainGlobals (Str.ofString "repr") = some none) (b9 : PySem.W.nsIn K mainGlobals (Str.ofString "str") = some none) :
    ∃ (xi : XI) (fd : FuncData), (∀ (s : Shared) (u : Value), BindsTo s fd ⟨[u], []⟩ [(Str.ofString "_law_script", u)]) ∧ ∀ base : Heap, FnG l.prog w K mg base 10 fa fd [Str.ofString "_law_script"] (spF K xi (run pr cs 8 9)) := by
  have e := hfa.symm.trans (PySem.W.mg_of X G n9)
  cases e
  have T : ∀ f d, tab.T[f]? = some d → DefOk K mg tab pr f d := by
    intro f d hd
    rcases f with _ | f
    · cases hd
      exact ok0 X G n0 l0 c0 k0
    rcases f with _ | f
    · cases hd
      exact ok1 X G n1 l1 c1 k1
    rcases f with _ | f
    · cases hd
      exact ok2 X G n2 l2 c2 k2
    rcases f with _ | f
    · cases hd
      exact ok3 X G n3 l3 c3 k3
    rcases f with _ | f
    · cases hd
      exact ok4 X G n4 l4 c4 k4
    rcases f with _ | f
    · cases hd
      exact ok5 X G n5 l5 c5 k5
    rcases f with _ | f
    · cases hd
      exact ok6 X G n6 l6 c6 k6
    rcases f with _ | f
    · cases hd
      exact ok7 X G n7 l7 c7 k7
    rcases f with _ | f
    · cases hd
      exact ok8 X G n8 l8 c8 k8
    rcases f with _ | f
    · cases hd
      exact ok9 X G n9 l9 c9 k9
    · cases hd
  have L : ∀ g x, tab.G[g]? = some x → ∃ d u v, cs.c g = some d ∧ mg (Str.ofString x) = some u ∧ RelV v u ∧ ∀ ι H, RelD K ι H d v := by
    intro g x hx
    rcases g with _ | g
    · cases hx
      exact ⟨_, _, .str (Str.ofString " !\"#$&'()*+,-./0123456789:;<=>?@ABCDEFGHIJKLMNOPQRSTUVWXYZ[\\]^_`abcdefghijklmnopqrstuvwxyz{|}~"), rfl, PySem.W.mg_of X G g0, ⟨_, rfl⟩, fun ι H => .str (s := [32, 33, 34, 35, 36, 38, 39, 40, 41, 42, 43, 44, 45, 46, 47, 48, 49, 50, 51, 52, 53, 54, 55, 56, 57, 58, 59, 60, 61, 62, 63, 64, 65, 66, 67, 68, 69, 70, 71, 72, 73, 74, 75, 76, 77, 78, 79, 80, 81, 82, 83, 84, 85, 86, 87, 88, 89, 90, 91, 92, 93, 94, 95, 96, 97, 98, 99, 100, 101, 102, 103, 104, 105, 106, 107, 108, 109, 110, 111, 112, 113, 114, 115, 116, 117, 118, 119, 120, 121, 122, 123, 124, 125, 126]) (by decide) (by decide)⟩
    rcases g with _ | g
    · cases hx
      exact ⟨_, _, .str (Str.ofString "0123456789abcdef"), rfl, PySem.W.mg_of X G g1, ⟨_, rfl⟩, fun ι H => .str (s := [48, 49, 50, 51, 52, 53, 54, 55, 56, 57, 97, 98, 99, 100, 101, 102]) (by decide) (by decide)⟩
    rcases g with _ | g
    · cases hx
      exact ⟨_, _, .int 6, rfl, PySem.W.mg_of X G g2, ⟨_, rfl⟩, fun ι H => .int _⟩
    · cases hx
  have B : ∀ x ∈ tab.B, mg (Str.ofString x) = none := by
    intro x hx
    simp only [tab, List.mem_cons, List.mem_nil_iff, or_false, List.not_mem_nil] at hx
    rcases hx with rfl | rfl | rfl | rfl | rfl | rfl | rfl | rfl | rfl | rfl
    · exact PySem.W.mg_none_of X G b0
    · exact PySem.W.mg_none_of X G b1
    · exact PySem.W.mg_none_of X G b2
    · exact PySem.W.mg_none_of X G b3
    · exact PySem.W.mg_none_of X G b4
    · exact PySem.W.mg_none_of X G b5
    · exact PySem.W.mg_none_of X G b6
    · exact PySem.W.mg_none_of X G b7
    · exact PySem.W.mg_none_of X G b8
    · exact PySem.W.mg_none_of X G b9
  have XI0 : ∃ xi : XI, xi = fun c => (([some (C0, [Str.ofString "kind"])] : List (Option (Addr × List Str)))[c]?).getD none := ⟨_, rfl⟩
  obtain ⟨xi, hxi⟩ := XI0
  have XC : ∀ (base : Heap) c nm fld, tab.X[c]? = some (nm, fld) → XCls l.prog w K mg base xi c (Str.ofString nm) (Str.ofString fld) := by
    intro base c nm fld hc
    rcases c with _ | c
    · cases hc
      exact xk0 X G (by rw [hxi]; rfl) xa0 xb0 xc0 xd0 xe0 xf0 xg0 xh0 xi0 xj0 xl0 xm0 xn0 xo0 xp0 xr0 xs0_
    · cases hc
  have XM : ∀ c C ns c' C' ns', xi c = some (C, ns) → xi c' = some (C', ns') → PySem.W.exmOne K (.ref C') (.ref C) = some (decide (c' = c)) := by
    intro c C ns c' C' ns' h1 h2
    rw [hxi] at h1 h2
    rcases c with _ | c
    · cases h1
      rcases c' with _ | c'
      · cases h2
        exact xz0_0
      · cases h2
    · cases h1
  refine ⟨xi, PySem.W.fnOf (Str.ofString "law") (Str.ofString "law") (L2.defArgs (topS 17)) (L2.defBody (topS 17)) (L2.defScope (topS 17)) .none kV9 dc9 pm9 an9 cd9 ct9, fun s u => .of_eq (by rfl), fun base => ?_⟩
  exact fnG_of l9 c9 fs9 (P' := pr) (f := 9) rfl rfl rfl ck9 (tab_ok (P := l.prog) (w := w) (base := base) (xi := xi) T L B (XC base) XM 7)
end K10

open PySem PySem.W PyProof.Rows
set_option maxHeartbeats 0 in
theorem PySem.Challenge.cw_chunkletters_k10_sizes_read_holds : PySem.Challenge.rw_chunkletters_k10_sizes_read.Holds := by
  w_on; o_law; k_head; (case hw => w_witness2)
  k_fill
  refine Cl.walk_law (l := PySem.Challenge.rw_chunkletters_k10_sizes_read) (n := 63) (k := 10) (x := Str.ofString "_law_script") (c := Cl.run K10.pr K10.cs 8 9) rfl (by decide) rfl ⟨rfl, by decide, by decide⟩ (fun w h Y => PySem.W.kIn_of Y) ?F (fun ns h hb => Cl.law_sim K10.ax_ok K10.mu_ok (K10.good ns h))
  case F =>
    intro w mg fa h KX G hmg
    refine' K10.all_ok KX G hmg ?hn0 ?hl0 ?hc0 ?hk0 ?hn1 ?hl1 ?hc1 ?hk1 ?hn2 ?hl2 ?hc2 ?hk2 ?hn3 ?hl3 ?hc3 ?hk3 ?hn4 ?hl4 ?hc4 ?hk4 ?hn5 ?hl5 ?hc5 ?hk5 ?hn6 ?hl6 ?hc6 ?hk6 ?hn7 ?hl7 ?hc7 ?hk7 ?hn8 ?hl8 ?hc8 ?hk8 ?hn9 ?hl9 ?hc9 ?hk9 ?hxa0 ?hxb0 ?hxc0 ?hxd0 ?hxe0 ?hxf0 ?hxg0 ?hxh0 ?hxi0 ?hxj0 ?hxl0 ?hxm0 ?hxn0 ?hxo0 ?hxp0 ?hxr0 ?hxs0 ?hz0_0 ?hg0 ?hg1 ?hg2 ?hb0 ?hb1 ?hb2 ?hb3 ?hb4 ?hb5 ?hb6 ?hb7 ?hb8 ?hb9
    (case hn0 => k_is); (case hl0 => k_is); (case hc0 => k_is); (case hk0 => k_is); (case hn1 => k_is); (case hl1 => k_is); (case hc1 => k_is); (case hk1 => k_is); (case hn2 => k_is); (case hl2 => k_is); (case hc2 => k_is); (case hk2 => k_is); (case hn3 => k_is); (case hl3 => k_is); (case hc3 => k_is); (case hk3 => k_is); (case hn4 => k_is); (case hl4 => k_is); (case hc4 => k_is); (case hk4 => k_is); (case hn5 => k_is); (case hl5 => k_is); (case hc5 => k_is); (case hk5 => k_is); (case hn6 => k_is); (case hl6 => k_is); (case hc6 => k_is); (case hk6 => k_is); (case hn7 => k_is); (case hl7 => k_is); (case hc7 => k_is); (case hk7 => k_is); (case hn8 => k_is); (case hl8 => k_is); (case hc8 => k_is); (case hk8 => k_is); (case hn9 => k_is); (case hl9 => k_is); (case hc9 => k_is); (case hk9 => k_is); (case hxa0 => k_is); (case hxb0 => k_is); (case hxc0 => k_is); (case hxd0 => decide +kernel); (case hxe0 => k_is); (case hxf0 => k_is); (case hxg0 => k_is); (case hxh0 => k_is); (case hxi0 => k_is); (case hxj0 => k_is); (case hxl0 => k_is); (case hxm0 => k_is); (case hxn0 => k_is); (case hxo0 => k_is); (case hxp0 => k_is); (case hxr0 => k_is); (case hxs0 => k_is); (case hz0_0 => kts_exm); (case hg0 => k_is); (case hg1 => k_is); (case hg2 => k_is); (case hb0 => k_is); (case hb1 => k_is); (case hb2 => k_is); (case hb3 => k_is); (case hb4 => k_is); (case hb5 => k_is); (case hb6 => k_is); (case hb7 => k_is); (case hb8 => k_is); (case hb9 => k_is)
