import PyProof.Rows.All
import Wide.All
import OpenK.AllK
import Wide.FinOn
import HandS.ForMost
import HandS.ForExc
import HandS.Zip
import HandS.Rev
import HandS.Wide
import HandS.CallSlots
import HandS.Defaults
import HandS.Style
import HandS.Flow
import HandS.ForDict
import HandS.Text
import HandS.DictComp
import PyProof.FString5
import HandS.Flt
import HandS.IsInst
import HandS.Conv
import HandS.RevRange
import HandS.SortInts
import PyProof.EqAt
import PyProof.NeKinds
import HandS.MakeKw
import HandS.Codes
import PySem.Challenge.RW_boxgrove_k01_what_are_boxes_and_spots
set_option Elab.async false
set_option linter.all false
set_option maxRecDepth 100000
/-! BX1: plain data, a resolved syntax, its evaluator. -/
namespace BX
open PySem L2

/-- data: immutable values; a list, a dict, an instance that nobody changes is a value too; ref n: the n-th object of the store; scr: the script -/
inductive D where
  | non | bl (b : Bool) | int (i : Int) | str (x : Str) | tup (l : List D) | lst (l : List D) | ref (n : Nat) | scr (l : List D)
  | dct (ks : List Key) (vs : List D) | obj (fs : List Str) (vs : List D)
  deriving Inhabited

/-- an exception: its class's name, its fields -/
structure Exc where
  cls : Str
  fs : List (Str × D)

inductive Ob where
  | lst (l : List D)
  | dct (ks : List Key) (vs : List D)
  | ins (cls : Str) (fs : List (Str × D))
abbrev Sto := List Ob

inductive R (α : Type) where
  | ok (a : α) (S : Sto)
  | exc (x : Exc) (S : Sto)
  | stuck

@[inline] def R.bd {α β : Type} : R α → (α → Sto → R β) → R β
  | .ok a S, f => f a S
  | .exc x S, _ => .exc x S
  | .stuck, _ => .stuck
@[simp] theorem R.bd_ok {α β : Type} (a : α) (S : Sto) (f : α → Sto → R β) : (R.ok a S).bd f = f a S := (rfl)
@[simp] theorem R.bd_exc {α β : Type} (x : Exc) (S : Sto) (f : α → Sto → R β) : (R.exc x S : R α).bd f = .exc x S := (rfl)
@[simp] theorem R.bd_stuck {α β : Type} (f : α → Sto → R β) : (R.stuck : R α).bd f = .stuck := (rfl)

/-- an option as a result -/
def R.of {α : Type} (S : Sto) : Option α → R α
  | some a => .ok a S
  | none => .stuck
@[simp] theorem R.of_some {α : Type} (S : Sto) (a : α) : R.of S (some a) = .ok a S := (rfl)
@[simp] theorem R.of_none {α : Type} (S : Sto) : R.of S (none : Option α) = .stuck := (rfl)

/-! ### operators on data -/
inductive BOp where | add | sub | mul | fdiv | mod | pow | shl | shr
inductive COp where | eq | ne | lt | le | gt | ge | is | isnot | inn | nin

def mulOk (i j : Int) : Bool := decide ((-(2 ^ 64) < i ∧ i < 2 ^ 64) ∨ (-(2 ^ 64) < j ∧ j < 2 ^ 64) ∨ i.natAbs.log2 + j.natAbs.log2 < 1000000)
def binF : BOp → D → D → Option D
  | .add, .int i, .int j => some (.int (i + j))
  | .add, .str x, .str y => if x.length + y.length ≤ sizeLine then some (.str (x ++ y)) else none
  | .add, .tup x, .tup y => if x.length + y.length ≤ sizeLine then some (.tup (x ++ y)) else none
  | .add, .lst x, .lst y => if x.length + y.length ≤ sizeLine then some (.lst (x ++ y)) else none
  | .sub, .int i, .int j => some (.int (i - j))
  | .mul, .int i, .int j => if mulOk i j then some (.int (i * j)) else none
  | .mul, .lst x, .int k => if -(2 ^ 63) ≤ k ∧ k < 2 ^ 63 ∧ x.length * k.toNat ≤ sizeLine then some (.lst (List.replicate k.toNat x).flatten) else none
  | .fdiv, .int i, .int j => if 0 < j ∧ j.natAbs.log2 < 9000 then some (.int (i / j)) else none
  | .mod, .int i, .int j => if 0 < j then some (.int (i % j)) else none
  | .pow, .int i, .int j => if 0 ≤ j ∧ j ≤ 1000000 ∧ (Builtin.Int.intBits i : Int) * j ≤ 2 ^ 27 then some (.int (i ^ j.toNat)) else none
  | .shl, .int i, .int j => if 0 ≤ j ∧ j ≤ 1000000 ∧ i.natAbs < 2 ^ 64 then some (.int (i * 2 ^ j.toNat)) else none
  | .shr, .int i, .int j => if 0 ≤ j then some (.int (i / 2 ^ j.toNat)) else none
  | _, _, _ => none

mutual
def toPy : D → Option PyData
  | .non => some .none
  | .bl b => some (.bool b)
  | .int i => some (.int i)
  | .str x => some (.str x)
  | .tup l => (toPys l).map .tuple
  | .lst l => (toPys l).map .list
  | .ref _ => none
  | .scr _ => none
  | .dct _ _ => none
  | .obj _ _ => none
def toPys : List D → Option (List PyData)
  | [] => some []
  | d :: ds => match toPy d, toPys ds with
    | some p, some ps => some (p :: ps)
    | _, _ => none
end
/-- == -/
def eqF (a b : D) : Option Bool := match toPy a, toPy b with
  | some p, some q => if SeqAt.shaped p = true ∧ SeqAt.shaped q = true then some (PyData.eqv p q) else none
  | _, _ => none
/-- values that may stand in a list that is searched -/
def flatD : D → Bool
  | .non | .bl _ | .int _ | .str _ => true
  | _ => false
def eqD : D → D → Bool
  | .non, .non => true
  | .bl a, .bl b => a == b
  | .bl a, .int j => (if a then 1 else 0) == j
  | .int i, .bl b => i == (if b then 1 else 0)
  | .int i, .int j => i == j
  | .str x, .str y => x == y
  | _, _ => false
def inF (x : D) : D → Option Bool
  | .tup l => if flatD x && l.all flatD then some (l.any fun y => eqD y x) else none
  | .lst l => if flatD x && l.all flatD then some (l.any fun y => eqD y x) else none
  | .str y => match x with
    | .str x => some (!(Builtin.Str.occurrences y x 0 y.length 1).isEmpty)
    | _ => none
  | _ => none
def isF (a b : D) : Option Bool := match b with
  | .non => some (match a with | .non => true | _ => false)
  | .bl c => match a with | .bl d => some (decide (d = c)) | _ => none
  | _ => none
def cmpF : COp → D → D → Option Bool
  | .lt, .int i, .int j => some (decide (i < j))
  | .le, .int i, .int j => some (decide (i ≤ j))
  | .gt, .int i, .int j => some (decide (j < i))
  | .ge, .int i, .int j => some (decide (j ≤ i))
  | .lt, .str x, .str y => some (decide (x.cps.toList < y.cps.toList))
  | .le, .str x, .str y => some (!decide (y.cps.toList < x.cps.toList))
  | .gt, .str x, .str y => some (decide (y.cps.toList < x.cps.toList))
  | .ge, .str x, .str y => some (!decide (x.cps.toList < y.cps.toList))
  | .eq, a, b => eqF a b
  | .ne, a, b => (eqF a b).map (!·)
  | .is, a, b => isF a b
  | .isnot, a, b => (isF a b).map (!·)
  | .inn, a, b => inF a b
  | .nin, a, b => (inF a b).map (!·)
  | _, _, _ => none
def truF : D → Option Bool
  | .non => some false
  | .bl b => some b
  | .int i => some (i != 0)
  | .str y => if y.length ≤ sizeLine then some ((y.length : Int) != 0) else none
  | .tup l => some (!l.isEmpty)
  | .lst l => some (!l.isEmpty)
  | .ref _ => none
  | .scr _ => none
  | .dct _ _ => none
  | .obj _ _ => none

/-- built-in types -/
inductive Ty where | int | bool | str | tuple | list | dict
/-- built-in functions of data -/
inductive Blt where | len | abs | max | min | sum | all | any | tuple | list
def intsOf : List D → Option (List Int)
  | [] => some []
  | .int i :: r => (intsOf r).map (i :: ·)
  | _ => none
def blsOf : List D → Option (List Bool)
  | [] => some []
  | .bl i :: r => (blsOf r).map (i :: ·)
  | _ => none
def maxI : List Int → Int → Int
  | [], m => m
  | x :: r, m => maxI r (if x > m then x else m)
def minI : List Int → Int → Int
  | [], m => m
  | x :: r, m => minI r (if x < m then x else m)
def bltF : Blt → List D → Option D
  | .len, [.str y] => if y.length ≤ sizeLine then some (.int y.length) else none
  | .len, [.tup l] => some (.int l.length)
  | .len, [.lst l] => some (.int l.length)
  | .len, [.scr l] => some (.int l.length)
  | .abs, [.int i] => some (.int (if i < 0 then -i else i))
  | .max, [.int i, .int j] => some (.int (if j > i then j else i))
  | .max, [.int i, .int j, .int k] => some (.int (if k > (if j > i then j else i) then k else (if j > i then j else i)))
  | .max, [.lst l] => match intsOf l with | some (m :: r) => some (.int (maxI r m)) | _ => none
  | .min, [.int i, .int j] => some (.int (if j < i then j else i))
  | .min, [.lst l] => match intsOf l with | some (m :: r) => some (.int (minI r m)) | _ => none
  | .sum, [.lst l] => (intsOf l).map fun ns => .int ns.sum
  | .all, [.lst l] => (blsOf l).map fun bs => .bl (bs.all id)
  | .any, [.lst l] => (blsOf l).map fun bs => .bl (bs.any id)
  | .tuple, [.lst l] => some (.tup l)
  | .tuple, [.tup l] => some (.tup l)
  | .list, [.lst l] => some (.lst l)
  | .list, [.tup l] => some (.lst l)
  | _, _ => none
def ixF : D → D → Option D
  | .lst l, .int i => atI l i
  | .tup l, .int i => atI l i
  | .scr l, .int i => atI l i
  | .str z, .int i => if z.length ≤ sizeLine then (atI z.cps.toList i).map fun c => .str ⟨#[c]⟩ else none
  | _, _ => none
def cutD (xs : List D) (lo hi : Option Int) : List D := (xs.drop (HT.sIx xs.length 0 lo)).take (HT.sIx xs.length xs.length hi - HT.sIx xs.length 0 lo)
def slF : D → Option Int → Option Int → Option D
  | .lst l, lo, hi => some (.lst (cutD l lo hi))
  | .scr l, lo, hi => some (.lst (cutD l lo hi))
  | .tup l, lo, hi => if ¬ (HT.sIx l.length 0 lo = 0 ∧ HT.sIx l.length l.length hi = l.length) then some (.tup (cutD l lo hi)) else none
  | _, _, _ => none

def sortI (ns : List Int) : List Int := ns.mergeSort fun a b => decide (a ≤ b)
def rngL0 (i j : Int) : List D := (List.range (j - i).toNat).map fun x => D.int (i + (x : Nat))
/-- further pure functions of one value: list(reversed(x)), list(range(n)) -/
inductive Op1 where | lrev | lrg | srt
/-- of two: list(range(a, b)) -/
inductive Op2 where | lrg2
def op1F : Op1 → D → Option D
  | .lrev, .lst l => some (.lst l.reverse)
  | .srt, .lst l => (intsOf l).map fun ns => .lst ((sortI ns).map .int)
  | .lrg, .int j => if 0 ≤ j ∧ j ≤ 16777216 then some (.lst (rngL0 0 j)) else none
  | _, _ => none
def op2F : Op2 → D → D → Option D
  | .lrg2, .int i, .int j => if 0 ≤ i ∧ i ≤ 16777216 ∧ 0 ≤ j ∧ j ≤ 16777216 then some (.lst (rngL0 i j)) else none
  | _, _, _ => none
/-- a call's arguments out of what is written: the j-th written one, or a default -/
def pmF (ds : List D) : List (Nat ⊕ D) → List D
  | [] => []
  | .inl j :: r => ds.getD j .non :: pmF ds r
  | .inr d :: r => d :: pmF ds r

/-! ### dicts, the store's objects -/
def keyD : D → Option Key
  | .int i => some (.inl i)
  | .str x => some (.inr x)
  | _ => none
def dOfKey : Key → D
  | .inl i => .int i
  | .inr x => .str x
def getK (ks : List Key) (vs : List D) (k : Key) : Option D := ((ks.zip vs).find? fun p => decide (p.1 = k)).map (·.2)
def hasK (ks : List Key) (vs : List D) (k : Key) : Bool := (getK ks vs k).isSome
def putKs (ks : List Key) (k : Key) : List Key := if ks.any (fun j => decide (j = k)) = true then ks else ks ++ [k]
def putVs (ks : List Key) (vs : List D) (k : Key) (v : D) : List D := if ks.any (fun j => decide (j = k)) = true then (ks.zip vs).map fun p => if p.1 = k then v else p.2 else vs ++ [v]
def dropKs (ks : List Key) (k : Key) : List Key := ks.filter fun j => decide (j ≠ k)
def dropVs (ks : List Key) (vs : List D) (k : Key) : List D := ((ks.zip vs).filter fun p => decide (p.1 ≠ k)).map (·.2)
/-- what a value shows where it is looked at -/
def dr (S : Sto) : D → D
  | .ref n => match S[n]? with
    | some (.lst l) => .lst l
    | some (.dct ks vs) => .dct ks vs
    | _ => .ref n
  | d => d
def fldF (S : Sto) (f : Str) : D → Option D
  | .obj fs vs => ((fs.zip vs).find? fun p => decide (p.1 = f)).map (·.2)
  | .ref n => match S[n]? with
    | some (.ins _ fs) => fs.lookup f
    | _ => none
  | _ => none
def keysL (ks : List Key) : List D := ks.map dOfKey
def strsOf : List D → Option (List Str)
  | [] => some []
  | .str x :: r => (strsOf r).map (x :: ·)
  | _ => none
def leS (x y : Str) : Bool := decide (x.cps.toList ≤ y.cps.toList)
def sortS (xs : List Str) : List Str := xs.mergeSort leS
def eqF2 (a b : D) : Option Bool := match toPy a, toPy b with
  | some p, some q => if SeqAt.shaped p = true ∧ SeqAt.shaped q = true ∧ p.depth ≤ 60 ∧ q.depth ≤ 60 then some (PyData.eqv p q) else none
  | _, _ => none
def eqDct (ks : List Key) (vs : List D) (js : List Key) (us : List D) : Option Bool :=
  if ks.length = js.length then (ks.zip vs).foldr (fun p r => match getK js us p.1 with
    | some u => match eqF2 p.2 u, r with
      | some e, some b => some (e && b)
      | _, _ => none
    | none => match r with
      | some _ => some false
      | none => none) (some true) else some false
/-- primitives of looked-at values -/
inductive Pr where
  | dnew | ndnew | dget | din | dnin | dget1 | dget2 | dlen | deq | dne | dcopy | ndcopy | dlist | dsort | ssort | join (y : Str) | fld (f : Str) | llen | lcopy | nlcopy | tlt | lemp | lnemp
def prF : Pr → List D → Sto → R D
  | .dnew, [], S => .ok (.dct [] []) S
  | .ndnew, [], S => .ok (.ref S.length) (S ++ [.dct [] []])
  | .dget, [d, k], S => match dr S d, keyD k with
    | .dct ks vs, some k => R.of S (getK ks vs k)
    | _, _ => .stuck
  | .din, [k, d], S => match dr S d, keyD k with
    | .dct ks vs, some k => .ok (.bl (hasK ks vs k)) S
    | _, _ => .stuck
  | .dnin, [k, d], S => match dr S d, keyD k with
    | .dct ks vs, some k => .ok (.bl (!hasK ks vs k)) S
    | _, _ => .stuck
  | .dget1, [d, k], S => match dr S d, keyD k with
    | .dct ks vs, some k => .ok ((getK ks vs k).getD .non) S
    | _, _ => .stuck
  | .dget2, [d, k, x], S => match dr S d, keyD k with
    | .dct ks vs, some k => .ok ((getK ks vs k).getD x) S
    | _, _ => .stuck
  | .dlen, [d], S => match dr S d with
    | .dct ks _ => .ok (.int ks.length) S
    | _ => .stuck
  | .deq, [a, b], S => match dr S a, dr S b with
    | .dct ks vs, .dct js us => R.of S ((eqDct ks vs js us).map .bl)
    | _, _ => .stuck
  | .dne, [a, b], S => match dr S a, dr S b with
    | .dct ks vs, .dct js us => R.of S ((eqDct ks vs js us).map fun k => .bl (!k))
    | _, _ => .stuck
  | .dcopy, [d], S => match dr S d with
    | .dct ks vs => .ok (.dct ks vs) S
    | _ => .stuck
  | .ndcopy, [d], S => match dr S d with
    | .dct ks vs => .ok (.ref S.length) (S ++ [.dct ks vs])
    | _ => .stuck
  | .dlist, [d], S => match dr S d with
    | .dct ks _ => .ok (.lst (keysL ks)) S
    | _ => .stuck
  | .dsort, [d], S => match dr S d with
    | .dct ks _ => R.of S ((strsOf (keysL ks)).bind fun xs => if xs.length < 64 then some (.lst ((sortS xs).map .str)) else none)
    | _ => .stuck
  | .ssort, [d], S => match dr S d with
    | .lst l => R.of S ((strsOf l).bind fun xs => if xs.length < 64 then some (.lst ((sortS xs).map .str)) else none)
    | _ => .stuck
  | .join y, [d], S => match dr S d with
    | .lst l => R.of S ((strsOf l).bind fun xs => if (xs.map (·.length)).sum + xs.length * y.length ≤ 16777216 then some (.str (Txt.join y xs)) else none)
    | _ => .stuck
  | .fld f, [d], S => R.of S (fldF S f d)
  | .llen, [d], S => match dr S d with
    | .lst l => .ok (.int l.length) S
    | _ => .stuck
  | .lcopy, [d], S => match dr S d with
    | .lst l => .ok (.lst l) S
    | _ => .stuck
  | .lemp, [d], S => match dr S d with
    | .lst l => .ok (.bl l.isEmpty) S
    | _ => .stuck
  | .lnemp, [d], S => match dr S d with
    | .lst l => .ok (.bl (!l.isEmpty)) S
    | _ => .stuck
  | .nlcopy, [d], S => match dr S d with
    | .lst l => .ok (.ref S.length) (S ++ [.lst l])
    | _ => .stuck
  | _, _, _ => .stuck

/-! ### the syntax -/
/-- targets: a slot, a tuple of targets -/
inductive Tg where
  | nm (i : Nat)
  | tp (l : List Tg)
mutual
inductive Ex where
  | cst (d : D)
  | var (i : Nat)
  | glb (x : Str) (d : D)
  | bin (o : BOp) (a b : Ex)
  | neg (a : Ex)
  | cmp (o : COp) (a b : Ex)
  | chn (o o' : COp) (a b c : Ex)
  | chn3 (o o' o2 : COp) (a b c d : Ex)
  | and (a b : Ex) | or (a b : Ex) | not (a : Ex)
  | ite (c a b : Ex)
  | tup (es : List Ex) | lst (es : List Ex) | nlst (es : List Ex)
  | ix (a b : Ex)
  | sl (a : Ex) (lo hi : Option Ex)
  | call (f : Nat) (es : List Ex) (dv : List D)
  | callK (f : Nat) (es : List Ex) (ks : List Str) (kes : List Ex) (pm : List (Nat ⊕ D))
  | op1 (o : Op1) (a : Ex)
  | op2 (o : Op2) (a b : Ex)
  | blt (b : Blt) (es : List Ex)
  | isi (a : Ex) (t : Ty)
  | lc (el : Ex) (tg : Tg) (it : Itx) (cond : Option Ex) (own : List Nat)
  | prim (p : Pr) (es : List Ex)
  | mth (f : Nat) (c m : Str) (o : Ex) (es : List Ex) (dv : List D)
  | mk (f : Nat) (c : Str) (es : List Ex) (dv : List D)
  | mthK (f : Nat) (c m : Str) (o : Ex) (es : List Ex) (ks : List Str) (kes : List Ex) (pm : List (Nat ⊕ D))
  | mkK (f : Nat) (c : Str) (es : List Ex) (ks : List Str) (kes : List Ex) (pm : List (Nat ⊕ D))
inductive Itx where
  | seq (e : Ex)
  | rng (a : Ex)
  | rng2 (a b : Ex)
  | zip (a b : Ex)
  | rev (a : Ex)
  | rrng (a : Ex)
end
inductive Sm where
  | asg (t : Tg) (e : Ex)
  | par (i j : Nat) (a b : Ex)
  | own (i : Nat) (e : Ex)
  | frz (i : Nat) (s : Sm)
  | aug (i : Nat) (o : BOp) (e : Ex)
  | star (i j : Nat) (e : Ex)
  | set (a i e : Ex)
  | app (i : Nat) (e : Ex)
  | setO (i : Nat) (k e : Ex)
  | augO (i : Nat) (k : Ex) (o : BOp) (e : Ex)
  | setOD (i : Nat) (k e : Ex)
  | setD (a k e : Ex)
  | setF (a : Ex) (c f : Str) (e : Ex)
  | popOD (i : Nat) (k : Ex)
  | popD (a k : Ex)
  | popO (t : Tg) (i : Nat)
  | extO (i : Nat) (e : Ex)
  | exp (e : Ex)
  | ret (e : Ex)
  | retN
  | ite (c : Ex) (a b : List Sm)
  | for (t : Tg) (it : Itx) (b : List Sm)
  | whl (c : Ex) (b : List Sm)
  | brk | cnt | pass
  | dead

inductive Sl where | un | val (d : D) | own (d : D)
abbrev Env := List Sl

inductive Fl where
  | nx (ε : Env) | bk (ε : Env) | ct (ε : Env) | rt (d : D) | ex (x : Exc) (ε : Env)
/-- an expression's end within a statement -/
def R.lf {α : Type} (r : R α) (ε : Env) (f : α → Sto → R Fl) : R Fl := match r with
  | .ok a S => f a S
  | .exc x S => .ok (.ex x ε) S
  | .stuck => .stuck
@[simp] theorem R.lf_ok {α : Type} (a : α) (S : Sto) (ε : Env) (f : α → Sto → R Fl) : (R.ok a S).lf ε f = f a S := (rfl)
@[simp] theorem R.lf_exc {α : Type} (x : Exc) (S : Sto) (ε : Env) (f : α → Sto → R Fl) : (R.exc x S : R α).lf ε f = .ok (.ex x ε) S := (rfl)
@[simp] theorem R.lf_stuck {α : Type} (ε : Env) (f : α → Sto → R Fl) : (R.stuck : R α).lf ε f = .stuck := (rfl)

def getV (ε : Env) (i : Nat) (S : Sto) : R D := match ε[i]? with
  | some (.val d) => .ok d S
  | _ => .stuck
/-- a variable in a place where its value is looked at, not kept -/
def opd (ε : Env) (e : Ex) (S : Sto) (r : R D) : R D := match e with
  | .var i => match ε[i]? with
    | some (.own d) => .ok d S
    | _ => r
  | _ => r
mutual
def setT : Tg → D → Env → Option Env
  | .nm i, d, ε => some (ε.set i (.val d))
  | .tp l, .tup ds, ε => setTs l ds ε
  | _, _, _ => none
def setTs : List Tg → List D → Env → Option Env
  | [], [], ε => some ε
  | t :: ts, d :: ds, ε => match setT t d ε with
    | some ε' => setTs ts ds ε'
    | none => none
  | _, _, _ => none
end
def wipeE (ε : Env) : List Nat → Env
  | [] => ε
  | v :: vs => (wipeE ε vs).set v .un

/-- one pass over the items -/
def forL (body : D → Env → Sto → R Fl) : List D → Env → Sto → R Fl
  | [], ε, S => .ok (.nx ε) S
  | d :: ds, ε, S => (body d ε S).bd fun f S' => match f with
    | .nx ε' => forL body ds ε' S'
    | .ct ε' => forL body ds ε' S'
    | .bk ε' => .ok (.nx ε') S'
    | f => .ok f S'
/-- the items of a comprehension; no exception leaves it -/
def lcL (elt : D → Sto → R (Option D)) : List D → Sto → R (List D)
  | [], S => .ok [] S
  | d :: ds, S => match elt d S with
    | .ok (some x) S' => match lcL elt ds S' with
      | .ok xs S'' => .ok (x :: xs) S''
      | _ => .stuck
    | .ok none S' => lcL elt ds S'
    | _ => .stuck
def seqOf : D → Option (List D)
  | .lst l => some l
  | .tup l => some l
  | .str z => if z.length ≤ sizeLine then some (z.cps.toList.map fun c => .str ⟨#[c]⟩) else none
  | _ => none
def rngL (lo : Int) (n : Nat) : List D := (List.range n).map fun i => D.int (lo + (i : Nat))
def rng1F : D → Option (List D)
  | .int j => if -(2 ^ 62) ≤ j ∧ j < 2 ^ 62 then some (rngL 0 j.toNat) else none
  | _ => none
def rng2F : D → D → Option (List D)
  | .int i, .int j => if -(2 ^ 62) ≤ i ∧ i < 2 ^ 62 ∧ -(2 ^ 62) ≤ j ∧ j < 2 ^ 62 then some (rngL i (j - i).toNat) else none
  | _, _ => none
def zipF : D → D → Option (List D)
  | .lst a, .lst b => some (List.zipWith (fun x y => D.tup [x, y]) a b)
  | .tup a, .tup b => some (List.zipWith (fun x y => D.tup [x, y]) a b)
  | _, _ => none
def kindIs : D → Ty → Option Bool
  | .non, _ => some false
  | .bl _, .bool => some true
  | .bl _, .int => some true
  | .int _, .int => some true
  | .str _, .str => some true
  | .tup _, .tuple => some true
  | .lst _, .list => some true
  | .dct _ _, .dict => some true
  | .ref _, _ => none
  | .obj _ _, _ => none
  | .scr _, _ => none
  | _, _ => some false
def intPart : D → Option Int
  | .int i => some i
  | _ => none

abbrev Call := Nat → List D → Sto → R D
section
variable (call : Call)
mutual
def evE : Ex → Env → Sto → R D
  | .cst d, _, S => .ok d S
  | .var i, ε, S => getV ε i S
  | .glb _ d, _, S => .ok d S
  | .bin o a b, ε, S => (opd ε a S (evE a ε S)).bd fun x S1 => (opd ε b S1 (evE b ε S1)).bd fun y S2 => R.of S2 (binF o x y)
  | .neg a, ε, S => (evE a ε S).bd fun x S1 => match x with
    | .int i => .ok (.int (-i)) S1
    | _ => .stuck
  | .cmp o a b, ε, S => (opd ε a S (evE a ε S)).bd fun x S1 => (opd ε b S1 (evE b ε S1)).bd fun y S2 => R.of S2 ((cmpF o x y).map .bl)
  | .chn o o' a b c, ε, S => (opd ε a S (evE a ε S)).bd fun x S1 => (opd ε b S1 (evE b ε S1)).bd fun y S2 => (R.of S2 (cmpF o x y)).bd fun k S3 =>
      if k = true then (opd ε c S3 (evE c ε S3)).bd fun z S4 => R.of S4 ((cmpF o' y z).map .bl) else .ok (.bl false) S3
  | .and a b, ε, S => (evE a ε S).bd fun x S1 => match x with
    | .bl true => evE b ε S1
    | .bl false => .ok (.bl false) S1
    | _ => .stuck
  | .or a b, ε, S => (evE a ε S).bd fun x S1 => match x with
    | .bl false => evE b ε S1
    | .bl true => .ok (.bl true) S1
    | _ => .stuck
  | .not a, ε, S => (opd ε a S (evE a ε S)).bd fun x S1 => R.of S1 ((truF x).map fun k => .bl (!k))
  | .ite c a b, ε, S => (evT c ε S).bd fun k S1 => if k = true then evE a ε S1 else evE b ε S1
  | .tup es, ε, S => (evEs es ε S).bd fun ds S1 => if ds.length ≤ sizeLine then .ok (.tup ds) S1 else .stuck
  | .lst es, ε, S => (evEs es ε S).bd fun ds S1 => if ds.length ≤ sizeLine then .ok (.lst ds) S1 else .stuck
  | .nlst es, ε, S => (evEs es ε S).bd fun ds S1 => if ds.length ≤ sizeLine then .ok (.ref S1.length) (S1 ++ [.lst ds]) else .stuck
  | .ix a b, ε, S => (opd ε a S (evE a ε S)).bd fun x S1 => (evE b ε S1).bd fun y S2 => match x with
    | .ref n => match S2[n]? with
      | some (.lst l) => R.of S2 (ixF (.lst l) y)
      | _ => .stuck
    | _ => R.of S2 (ixF x y)
  | .sl a lo hi, ε, S => (opd ε a S (evE a ε S)).bd fun x S1 => (evP lo ε S1).bd fun l S2 => (evP hi ε S2).bd fun h S3 => R.of S3 (slF x l h)
  | .call f es dv, ε, S => (evEs es ε S).bd fun ds S1 => call f (ds ++ dv) S1
  | .callK f es _ kes pm, ε, S => (evEs es ε S).bd fun ds S1 => (evEs kes ε S1).bd fun zs S2 => call f (pmF (ds ++ zs) pm) S2
  | .op1 o a, ε, S => (evE a ε S).bd fun x S1 => R.of S1 (op1F o x)
  | .op2 o a b, ε, S => (evE a ε S).bd fun x S1 => (evE b ε S1).bd fun y S2 => R.of S2 (op2F o x y)
  | .chn3 .., _, _ => .stuck
  | .blt b es, ε, S => (evOs es ε S).bd fun ds S1 => R.of S1 (bltF b ds)
  | .isi a t, ε, S => (opd ε a S (evE a ε S)).bd fun x S1 => R.of S1 ((kindIs x t).map .bl)
  | .lc el tg it cond own, ε, S => (evI it ε S).bd fun ds S1 =>
      match lcL (fun d S => match setT tg d (wipeE ε own) with
        | some ε' => (evC cond ε' S).bd fun k S2 => if k = true then (evE el ε' S2).bd fun x S3 => .ok (some x) S3 else .ok none S2
        | none => .stuck) ds S1 with
      | .ok xs S2 => if xs.length ≤ sizeLine then .ok (.lst xs) S2 else .stuck
      | _ => .stuck
  | .prim p es, ε, S => (evOs es ε S).bd fun ds S1 => prF p ds S1
  | .mth f c m o es dv, ε, S => (evE o ε S).bd fun x S1 => match x with
    | .ref n => match S1[n]? with
      | some (.ins c' fs) => if c' = c ∧ fs.lookup m = none then (evEs es ε S1).bd fun ds S2 => call f (.ref n :: (ds ++ dv)) S2 else .stuck
      | _ => .stuck
    | _ => .stuck
  | .mk f c es dv, ε, S => (evEs es ε S).bd fun ds S1 => (call f (.ref S1.length :: (ds ++ dv)) (S1 ++ [.ins c []])).bd fun x S2 => match x with
    | .non => .ok (.ref S1.length) S2
    | _ => .stuck
  | .mthK f c m o es _ kes pm, ε, S => (evE o ε S).bd fun x S1 => match x with
    | .ref n => match S1[n]? with
      | some (.ins c' fs) => if c' = c ∧ fs.lookup m = none then (evEs es ε S1).bd fun ds S2 => (evEs kes ε S2).bd fun zs S3 => call f (pmF (.ref n :: (ds ++ zs)) pm) S3 else .stuck
      | _ => .stuck
    | _ => .stuck
  | .mkK f c es _ kes pm, ε, S => (evEs es ε S).bd fun ds S1 => (evEs kes ε S1).bd fun zs S2 => (call f (pmF (.ref S2.length :: (ds ++ zs)) pm) (S2 ++ [.ins c []])).bd fun x S3 => match x with
    | .non => .ok (.ref S2.length) S3
    | _ => .stuck
/-- as a test -/
def evT : Ex → Env → Sto → R Bool
  | .and a b, ε, S => (evT a ε S).bd fun k S1 => if k = true then evT b ε S1 else .ok false S1
  | .or a b, ε, S => (evT a ε S).bd fun k S1 => if k = true then .ok true S1 else evT b ε S1
  | .not a, ε, S => (evT a ε S).bd fun k S1 => .ok (!k) S1
  | .var i, ε, S => (opd ε (.var i) S (evE (.var i) ε S)).bd fun x S1 => R.of S1 (truF x)
  | .cst d, _, S => R.of S (truF d)
  | .glb _ d, _, S => R.of S (truF d)
  | .cmp o a b, ε, S => (opd ε a S (evE a ε S)).bd fun x S1 => (opd ε b S1 (evE b ε S1)).bd fun y S2 => R.of S2 (cmpF o x y)
  | .chn o o' a b c, ε, S => (opd ε a S (evE a ε S)).bd fun x S1 => (opd ε b S1 (evE b ε S1)).bd fun y S2 => (R.of S2 (cmpF o x y)).bd fun k S3 =>
      if k = true then (opd ε c S3 (evE c ε S3)).bd fun z S4 => R.of S4 (cmpF o' y z) else .ok false S3
  | .chn3 o o' o2 a b c d, ε, S => (opd ε a S (evE a ε S)).bd fun x S1 => (opd ε b S1 (evE b ε S1)).bd fun y S2 => (R.of S2 (cmpF o x y)).bd fun k S3 =>
      if k = true then (opd ε c S3 (evE c ε S3)).bd fun z S4 => (R.of S4 (cmpF o' y z)).bd fun k2 S5 =>
        if k2 = true then (opd ε d S5 (evE d ε S5)).bd fun v S6 => R.of S6 (cmpF o2 z v) else .ok false S5
      else .ok false S3
  | .call f es dv, ε, S => ((evEs es ε S).bd fun ds S1 => call f (ds ++ dv) S1).bd fun x S1 => R.of S1 (truF x)
  | .callK f es _ kes pm, ε, S => ((evEs es ε S).bd fun ds S1 => (evEs kes ε S1).bd fun zs S2 => call f (pmF (ds ++ zs) pm) S2).bd fun x S1 => R.of S1 (truF x)
  | .blt b es, ε, S => ((evOs es ε S).bd fun ds S1 => R.of S1 (bltF b ds)).bd fun x S1 => R.of S1 (truF x)
  | .isi a t, ε, S => (opd ε a S (evE a ε S)).bd fun x S1 => R.of S1 (kindIs x t)
  | .ix a b, ε, S => ((opd ε a S (evE a ε S)).bd fun x S1 => (evE b ε S1).bd fun y S2 => match x with
    | .ref n => match S2[n]? with
      | some (.lst l) => R.of S2 (ixF (.lst l) y)
      | _ => .stuck
    | _ => R.of S2 (ixF x y)).bd fun x S1 => R.of S1 (truF x)
  | .prim p es, ε, S => ((evOs es ε S).bd fun ds S1 => prF p ds S1).bd fun x S1 => R.of S1 (truF x)
  | .mth f c m o es dv, ε, S => ((evE o ε S).bd fun x S1 => match x with
    | .ref n => match S1[n]? with
      | some (.ins c' fs) => if c' = c ∧ fs.lookup m = none then (evEs es ε S1).bd fun ds S2 => call f (.ref n :: (ds ++ dv)) S2 else .stuck
      | _ => .stuck
    | _ => .stuck).bd fun x S1 => R.of S1 (truF x)
  | _, _, _ => .stuck
def evEs : List Ex → Env → Sto → R (List D)
  | [], _, S => .ok [] S
  | e :: es, ε, S => (evE e ε S).bd fun d S1 => (evEs es ε S1).bd fun ds S2 => .ok (d :: ds) S2
def evOs : List Ex → Env → Sto → R (List D)
  | [], _, S => .ok [] S
  | e :: es, ε, S => (opd ε e S (evE e ε S)).bd fun d S1 => (evOs es ε S1).bd fun ds S2 => .ok (d :: ds) S2
def evP : Option Ex → Env → Sto → R (Option Int)
  | none, _, S => .ok none S
  | some e, ε, S => (evE e ε S).bd fun d S1 => match d with
    | .int i => .ok (some i) S1
    | _ => .stuck
def evC : Option Ex → Env → Sto → R Bool
  | none, _, S => .ok true S
  | some e, ε, S => evT e ε S
def evI : Itx → Env → Sto → R (List D)
  | .seq e, ε, S => (evE e ε S).bd fun x S1 => R.of S1 (seqOf x)
  | .rng a, ε, S => (evE a ε S).bd fun x S1 => R.of S1 (rng1F x)
  | .rng2 a b, ε, S => (evE a ε S).bd fun x S1 => (evE b ε S1).bd fun y S2 => R.of S2 (rng2F x y)
  | .zip a b, ε, S => (evE a ε S).bd fun x S1 => (evE b ε S1).bd fun y S2 => R.of S2 (zipF x y)
  | .rev a, ε, S => (evE a ε S).bd fun x S1 => match x with
    | .lst l => .ok l.reverse S1
    | .tup l => .ok l.reverse S1
    | _ => .stuck
  | .rrng a, ε, S => (evE a ε S).bd fun x S1 => R.of S1 ((rng1F x).map List.reverse)
end

/-- a while loop, by a bound on its turns -/
def whlL (test : Env → Sto → R Bool) (body : Env → Sto → R Fl) : Nat → Env → Sto → R Fl
  | 0, _, _ => .stuck
  | n + 1, ε, S => (test ε S).lf ε fun k S1 => if k = true then (body ε S1).bd fun f S' => (match f with
    | .nx ε' => whlL test body n ε' S'
    | .ct ε' => whlL test body n ε' S'
    | .bk ε' => .ok (.nx ε') S'
    | f => .ok f S') else .ok (.nx ε) S1
def lstAt : Sto → D → Option (List D)
  | S, .ref n => match S[n]? with
    | some (.lst l) => some l
    | _ => none
  | _, _ => none
def setDS (o k v : D) (S : Sto) : Option Sto := match o with
  | .ref n => match S[n]?, keyD k with
    | some (.dct ks vs), some k => if ks.length < sizeLine then some (S.set n (.dct (putKs ks k) (putVs ks vs k v))) else none
    | _, _ => none
  | _ => none
def popDS (o k : D) (S : Sto) : Option Sto := match o with
  | .ref n => match S[n]?, keyD k with
    | some (.dct ks vs), some k => if hasK ks vs k = true then some (S.set n (.dct (dropKs ks k) (dropVs ks vs k))) else none
    | _, _ => none
  | _ => none
def isDct : D → Sto → Bool
  | .ref n, S => match S[n]? with
    | some (.dct _ _) => true
    | _ => false
  | _, _ => false
def putFD (f : Str) (v : D) : List (Str × D) → List (Str × D)
  | [] => [(f, v)]
  | (g, u) :: r => if g = f then (g, v) :: r else (g, u) :: putFD f v r
def setFS (o : D) (c f : Str) (v : D) (S : Sto) : Option Sto := match o with
  | .ref n => match S[n]? with
    | some (.ins c' fs) => if c' = c ∧ fs.length < 1000 then some (S.set n (.ins c (putFD f v fs))) else none
    | _ => none
  | _ => none
def setL (o : D) (i v : D) (S : Sto) : Option Sto := match o, i with
  | .ref n, .int k => match S[n]? with
    | some (.lst l) => (ixN l.length k).map fun j => S.set n (.lst (l.set j v))
    | _ => none
  | _, _ => none
variable (turns : Nat)
mutual
def evS : Sm → Env → Sto → R Fl
  | .asg t e, ε, S => (evE call e ε S).lf ε fun d S1 => match setT t d ε with
    | some ε' => .ok (.nx ε') S1
    | none => .stuck
  | .par i j a b, ε, S => (evE call a ε S).lf ε fun x S1 => (evE call b ε S1).lf ε fun y S2 => .ok (.nx ((ε.set i (.val x)).set j (.val y))) S2
  | .own i e, ε, S => (evE call e ε S).lf ε fun d S1 => .ok (.nx (ε.set i (.own d))) S1
  | .frz i s, ε, S => match ε[i]? with
    | some (.own d) => evS s (ε.set i (.val d)) S
    | _ => evS s ε S
  | .aug i o e, ε, S => match ε[i]? with
    | some (.val (.int x)) => (evE call e ε S).lf ε fun y S1 => match y with
      | .int y => match binF o (.int x) (.int y) with
        | some z => .ok (.nx (ε.set i (.val z))) S1
        | none => .stuck
      | _ => .stuck
    | _ => .stuck
  | .star i j e, ε, S => (evE call e ε S).lf ε fun d S1 => match d with
    | .lst (x :: l) => if l.length < sizeLine then .ok (.nx ((ε.set i (.val x)).set j (.val (.lst l)))) S1 else .stuck
    | .tup (x :: l) => if l.length < sizeLine then .ok (.nx ((ε.set i (.val x)).set j (.val (.lst l)))) S1 else .stuck
    | _ => .stuck
  | .set a i e, ε, S => (evE call e ε S).lf ε fun v S1 => (evE call a ε S1).lf ε fun o S2 => (evE call i ε S2).lf ε fun k S3 => match setL o k v S3 with
    | some S4 => .ok (.nx ε) S4
    | none => .stuck
  | .app i e, ε, S => match ε[i]? with
    | some (.own (.lst l)) => (evE call e ε S).lf ε fun y S1 => if l.length < sizeLine then .ok (.nx (ε.set i (.own (.lst (l ++ [y]))))) S1 else .stuck
    | _ => .stuck
  | .setO i k e, ε, S => (evE call e ε S).lf ε fun v S1 => match ε[i]? with
    | some (.own (.lst l)) => (evE call k ε S1).lf ε fun kk S2 => match kk with
      | .int q => match ixN l.length q with
        | some j => .ok (.nx (ε.set i (.own (.lst (l.set j v))))) S2
        | none => .stuck
      | _ => .stuck
    | _ => .stuck
  | .augO i k o e, ε, S => match ε[i]? with
    | some (.own (.lst l)) => (evE call k ε S).lf ε fun kk S1 => match kk with
      | .int q => match atI l q, ixN l.length q with
        | some (.int x), some j => (evE call e ε S1).lf ε fun y S2 => match y with
          | .int y => match binF o (.int x) (.int y) with
            | some z => .ok (.nx (ε.set i (.own (.lst (l.set j z))))) S2
            | none => .stuck
          | _ => .stuck
        | _, _ => .stuck
      | _ => .stuck
    | _ => .stuck
  | .setOD i k e, ε, S => (evE call e ε S).lf ε fun v S1 => match ε[i]? with
    | some (.own (.dct ks vs)) => (evE call k ε S1).lf ε fun kk S2 => match keyD kk with
      | some q => if ks.length < sizeLine then .ok (.nx (ε.set i (.own (.dct (putKs ks q) (putVs ks vs q v))))) S2 else .stuck
      | none => .stuck
    | _ => .stuck
  | .setD a k e, ε, S => (evE call e ε S).lf ε fun v S1 => (evE call a ε S1).lf ε fun o S2 => (evE call k ε S2).lf ε fun kk S3 => match setDS o kk v S3 with
    | some S4 => .ok (.nx ε) S4
    | none => .stuck
  | .setF a c f e, ε, S => (evE call e ε S).lf ε fun v S1 => (evE call a ε S1).lf ε fun o S2 => match setFS o c f v S2 with
    | some S3 => .ok (.nx ε) S3
    | none => .stuck
  | .popOD i k, ε, S => match ε[i]? with
    | some (.own (.dct ks vs)) => (evE call k ε S).lf ε fun kk S1 => match keyD kk with
      | some q => if hasK ks vs q = true then .ok (.nx (ε.set i (.own (.dct (dropKs ks q) (dropVs ks vs q))))) S1 else .stuck
      | none => .stuck
    | _ => .stuck
  | .popD a k, ε, S => (evE call a ε S).lf ε fun o S1 => if isDct o S1 = true then (evE call k ε S1).lf ε fun kk S2 => match popDS o kk S2 with
    | some S3 => .ok (.nx ε) S3
    | none => .stuck
    else .stuck
  | .popO t i, ε, S => match ε[i]? with
    | some (.own (.lst l)) => match l.getLast? with
      | some d => match setT t d (ε.set i (.own (.lst l.dropLast))) with
        | some ε' => .ok (.nx ε') S
        | none => .stuck
      | none => .stuck
    | _ => .stuck
  | .extO i e, ε, S => match ε[i]? with
    | some (.own (.lst l)) => (evE call e ε S).lf ε fun y S1 => match y with
      | .lst m => if l.length + m.length ≤ sizeLine then .ok (.nx (ε.set i (.own (.lst (l ++ m))))) S1 else .stuck
      | _ => .stuck
    | _ => .stuck
  | .exp e, ε, S => (evE call e ε S).lf ε fun _ S1 => .ok (.nx ε) S1
  | .ret e, ε, S => (evE call e ε S).lf ε fun d S1 => .ok (.rt d) S1
  | .retN, _, S => .ok (.rt .non) S
  | .ite c a b, ε, S => (evT call c ε S).lf ε fun k S1 => if k = true then evB a ε S1 else evB b ε S1
  | .for t it b, ε, S => (evI call it ε S).lf ε fun ds S1 => forL (fun d ε S => match setT t d ε with
    | some ε' => evB b ε' S
    | none => .stuck) ds ε S1
  | .whl c b, ε, S => whlL (fun ε S => evT call c ε S) (fun ε S => evB b ε S) turns ε S
  | .brk, ε, S => .ok (.bk ε) S
  | .cnt, ε, S => .ok (.ct ε) S
  | .pass, ε, S => .ok (.nx ε) S
  | .dead, _, _ => .stuck
def evB : List Sm → Env → Sto → R Fl
  | [], ε, S => .ok (.nx ε) S
  | s :: ss, ε, S => (evS s ε S).bd fun f S1 => match f with
    | .nx ε' => evB ss ε' S1
    | f => .ok f S1
end
end

/-- a def: how many parameters, how many slots, its body -/
structure Fn where
  par : Nat
  slots : Nat
  body : List Sm
abbrev Tab := Nat → Option Fn
def startE (n : Nat) (ds : List D) : Env := ds.map .val ++ List.replicate (n - ds.length) .un
def flOut : R Fl → R D
  | .ok (.rt d) S => .ok d S
  | .ok (.nx _) S => .ok .non S
  | .ok (.ex x _) S => .exc x S
  | .ok _ _ => .stuck
  | .exc x S => .exc x S
  | .stuck => .stuck
def evCall (Γ : Tab) (turns : Nat) : Nat → Call
  | 0, _, _, _ => .stuck
  | k + 1, f, ds, S => match Γ f with
    | some F => if ds.length = F.par then flOut (evB (evCall Γ turns k) turns F.body (startE F.slots ds) S) else .stuck
    | none => .stuck
end BX
set_option Elab.async false
set_option linter.all false
set_option maxRecDepth 100000
/-! BX2: how data lie in the heap. -/
namespace BX
open PySem L2

/-- what is tracked: the store's objects' addresses; the addresses of what never changes -/
structure Wd where
  ρ : List Addr
  Φ : Addr → Prop
  dis : ∀ a ∈ ρ, ¬ Φ a
  nd : ρ.Nodup

/-- what a law's text gives: the classes' addresses, what an exception is -/
structure Gx where
  K : PySem.W.Frag
  cls : Str → Option Addr
  rx : Wd → Hp → Exc → Value → Option Addr → Prop

def KtT (K : PySem.W.Frag) (a : Addr) (xs : List V) : Prop :=
  ∃ (o : Obj) (its : Array Value) (n : Nat), K.lookup a = some o ∧ o.cls = .type "tuple" ∧ o.data = .seq its n ∧ its.size ≤ sizeLine ∧ Vals xs its.toList

def KtL (K : PySem.W.Frag) (a : Addr) (xs : List V) : Prop :=
  ∃ (o : Obj) (its : Array Value) (n : Nat), K.lookup a = some o ∧ o.cls = .type "list" ∧ o.dict = none ∧ o.data = .seq its n ∧ its.size ≤ sizeLine ∧ Vals xs its.toList
section
variable (K : PySem.W.Frag) (w : Wd) (H : Hp)
def ImT (a : Addr) (vs : List V) : Prop := (w.Φ a ∧ Rd H a (.tup vs)) ∨ KtT K a vs
def ImL (a : Addr) (vs : List V) : Prop := w.Φ a ∧ Rd H a (.lst vs)
def ImS (a : Addr) (vs : List V) : Prop := (w.Φ a ∧ Rd H a (.lst vs)) ∨ KtL K a vs
mutual
def RV : V → D → Prop
  | v, .non => v = .non
  | v, .bl b => v = .bl b
  | v, .int i => v = .int i
  | v, .str x => v = .str x
  | v, .tup l => ∃ a vs, v = .ref a ∧ ImT K w H a vs ∧ RVs vs l
  | v, .lst l => ∃ a vs, v = .ref a ∧ ImL w H a vs ∧ RVs vs l
  | v, .ref n => ∃ a, w.ρ[n]? = some a ∧ v = .ref a
  | v, .scr l => ∃ a vs, v = .ref a ∧ ImS K w H a vs ∧ RVs vs l
  | v, .dct ks ds => ∃ a kvs, v = .ref a ∧ w.Φ a ∧ Rd H a (.dK kvs) ∧ kvs.map (·.1) = ks ∧ RVs (kvs.map (·.2)) ds
  | v, .obj fs ds => ∃ a C dx fv, v = .ref a ∧ w.Φ a ∧ H a = some (.ins C dx fv) ∧ Cls K C ∧ (∀ f ∈ fs, NoAttr K C f) ∧ fv.map (·.1) = fs ∧ RVs (fv.map (·.2)) ds
def RVs : List V → List D → Prop
  | vs, [] => vs = []
  | vs, d :: ds => ∃ v r, vs = v :: r ∧ RV v d ∧ RVs r ds
end
/-- what stands at an own list's, an own dict's address -/
def OwnAt (a : Addr) : D → Prop
  | .lst l => ∃ vs, H a = some (.lst vs) ∧ RVs K w H vs l
  | .dct ks ds => ∃ kvs, H a = some (.dK kvs) ∧ kvs.map (·.1) = ks ∧ RVs K w H (kvs.map (·.2)) ds
  | _ => False
/-- looked at, not kept -/
def RO (v : V) (d : D) : Prop := RV K w H v d ∨ ∃ a, v = .ref a ∧ a ∉ w.ρ ∧ OwnAt K w H a d
def ROs : List V → List D → Prop
  | vs, [] => vs = []
  | vs, d :: ds => ∃ v r, vs = v :: r ∧ RO K w H v d ∧ ROs r ds
end

structure Ext (w : Wd) (H : Hp) (w' : Wd) (H' : Hp) : Prop where
  ρ : ∃ t, w'.ρ = w.ρ ++ t ∧ ∀ a ∈ t, H a = none
  Φ : ∀ a, w.Φ a → w'.Φ a
  new : ∀ a, w'.Φ a → w.Φ a ∨ H a = none
  keep : ∀ a o, H a = some o → a ∉ w.ρ → H' a = some o

/-- between two states of one body: own lists may have changed -/
structure ExtS (w : Wd) (H : Hp) (w' : Wd) (H' : Hp) : Prop where
  ρ : ∃ t, w'.ρ = w.ρ ++ t
  Φ : ∀ a, w.Φ a → w'.Φ a
  keep : ∀ a o, w.Φ a → H a = some o → H' a = some o

section
variable {K : PySem.W.Frag} {w w' w'' : Wd} {H H' H'' : Hp}
theorem Ext.toS (e : Ext w H w' H') : ExtS w H w' H' := ⟨let ⟨t, h, _⟩ := e.ρ; ⟨t, h⟩, e.Φ, fun a o h q => e.keep a o q fun z => w.dis a z h⟩
theorem ExtS.refl : ExtS w H w H := ⟨⟨[], by simp⟩, fun _ h => h, fun _ _ _ h => h⟩
theorem ExtS.trans (e : ExtS w H w' H') (f : ExtS w' H' w'' H'') : ExtS w H w'' H'' := by
  obtain ⟨t, et⟩ := e.ρ
  obtain ⟨u, eu⟩ := f.ρ
  exact ⟨⟨t ++ u, by rw [eu, et, List.append_assoc]⟩, fun a h => f.Φ a (e.Φ a h), fun a o h q => f.keep a o (e.Φ a h) (e.keep a o h q)⟩
theorem Rd.keep {a : Addr} {u : HO} (h : Rd H a u) (k : ∀ o, H a = some o → H' a = some o) : Rd H' a u := by
  rcases h with h | ⟨o, h⟩
  · exact .inl (k _ h)
  · exact .inr ⟨o, k _ h⟩
theorem Rd.ne {a : Addr} {u : HO} (h : Rd H a u) : H a ≠ none := by
  rcases h with h | ⟨o, h⟩ <;> (rw [h]; exact fun z => nomatch z)
theorem Ext.refl : Ext w H w H := ⟨⟨[], by simp, fun _ z => by simp at z⟩, fun _ h => h, fun _ h => .inl h, fun _ _ h _ => h⟩
/-- what stood stands -/
theorem Ext.trans (e : Ext w H w' H') (f : Ext w' H' w'' H'') : Ext w H w'' H'' := by
  obtain ⟨t, et, ht⟩ := e.ρ
  obtain ⟨u, eu, hu⟩ := f.ρ
  have nn : ∀ a, H a ≠ none → a ∉ w.ρ → H' a ≠ none := fun a h1 h2 => by
    cases q : H a with
    | none => exact absurd q h1
    | some o => rw [e.keep a o q h2]; exact fun z => nomatch z
  refine ⟨⟨t ++ u, by rw [eu, et, List.append_assoc], fun a ha => ?_⟩, fun a h => f.Φ a (e.Φ a h), fun a h => ?_, fun a o h n => f.keep a o (e.keep a o h n) fun z => ?_⟩
  · rcases List.mem_append.mp ha with h | h
    · exact ht a h
    · cases q : H a with
      | none => rfl
      | some o =>
        have na : a ∉ w.ρ := fun z => by
          have q2 := w''.nd
          rw [eu, et, List.append_assoc] at q2
          have := (List.nodup_append.mp q2).2.2 a z a (List.mem_append.mpr (.inr h))
          exact this rfl
        have := hu a h
        rw [e.keep a o q na] at this
        cases this
  · rcases f.new a h with h1 | h1
    · exact e.new a h1
    · cases q : H a with
      | none => exact .inr rfl
      | some o =>
        by_cases na : a ∈ w.ρ
        · exact absurd h (w''.dis a (by rw [eu, et]; simp [na]))
        · rw [e.keep a o q na] at h1; cases h1
  · rw [et] at z
    rcases List.mem_append.mp z with z | z
    · exact n z
    · rw [ht a z] at h; cases h
theorem ExtS.imT (e : ExtS w H w' H') {a : Addr} {vs : List V} (h : ImT K w H a vs) : ImT K w' H' a vs := by
  rcases h with ⟨h1, h2⟩ | h
  · exact .inl ⟨e.Φ a h1, Rd.keep h2 fun o q => e.keep a o h1 q⟩
  · exact .inr h
theorem ExtS.imL (e : ExtS w H w' H') {a : Addr} {vs : List V} (h : ImL w H a vs) : ImL w' H' a vs :=
  ⟨e.Φ a h.1, Rd.keep h.2 fun o q => e.keep a o h.1 q⟩
theorem ExtS.rdK (e : ExtS w H w' H') {a : Addr} {u : HO} (h1 : w.Φ a) (h2 : Rd H a u) : Rd H' a u := Rd.keep h2 fun o q => e.keep a o h1 q
theorem ExtS.imS (e : ExtS w H w' H') {a : Addr} {vs : List V} (h : ImS K w H a vs) : ImS K w' H' a vs := by
  rcases h with ⟨h1, h2⟩ | h
  · exact .inl ⟨e.Φ a h1, Rd.keep h2 fun o q => e.keep a o h1 q⟩
  · exact .inr h
theorem ExtS.at (e : ExtS w H w' H') {n : Nat} {a : Addr} (h : w.ρ[n]? = some a) : w'.ρ[n]? = some a := by
  obtain ⟨t, et⟩ := e.ρ
  have hl : n < w.ρ.length := (List.getElem?_eq_some_iff.mp h).1
  rw [et, List.getElem?_append_left hl]; exact h
mutual
theorem RV.exts (e : ExtS w H w' H') : ∀ (d : D) (v : V), RV K w H v d → RV K w' H' v d
  | .non, _, h => by simp only [RV] at h ⊢; exact h
  | .bl _, _, h => by simp only [RV] at h ⊢; exact h
  | .int _, _, h => by simp only [RV] at h ⊢; exact h
  | .str _, _, h => by simp only [RV] at h ⊢; exact h
  | .tup l, v, h => by
    simp only [RV] at h ⊢
    obtain ⟨a, vs, h1, h2, h3⟩ := h
    exact ⟨a, vs, h1, e.imT h2, RVs.exts e l vs h3⟩
  | .lst l, v, h => by
    simp only [RV] at h ⊢
    obtain ⟨a, vs, h1, h2, h3⟩ := h
    exact ⟨a, vs, h1, e.imL h2, RVs.exts e l vs h3⟩
  | .ref n, v, h => by
    simp only [RV] at h ⊢
    obtain ⟨a, h1, h2⟩ := h
    exact ⟨a, e.at h1, h2⟩
  | .scr l, v, h => by
    simp only [RV] at h ⊢
    obtain ⟨a, vs, h1, h2, h3⟩ := h
    exact ⟨a, vs, h1, e.imS h2, RVs.exts e l vs h3⟩
  | .dct ks ds, v, h => by
    simp only [RV] at h ⊢
    obtain ⟨a, kvs, h1, h2, h3, h4, h5⟩ := h
    exact ⟨a, kvs, h1, e.Φ a h2, e.rdK h2 h3, h4, RVs.exts e ds _ h5⟩
  | .obj fs ds, v, h => by
    simp only [RV] at h ⊢
    obtain ⟨a, C, dx, fv, h1, h2, h3, h4, h5, h6, h7⟩ := h
    exact ⟨a, C, dx, fv, h1, e.Φ a h2, e.keep a _ h2 h3, h4, h5, h6, RVs.exts e ds _ h7⟩
theorem RVs.exts (e : ExtS w H w' H') : ∀ (ds : List D) (vs : List V), RVs K w H vs ds → RVs K w' H' vs ds
  | [], _, h => by simp only [RVs] at h ⊢; exact h
  | d :: ds, vs, h => by
    simp only [RVs] at h ⊢
    obtain ⟨v, r, h1, h2, h3⟩ := h
    exact ⟨v, r, h1, RV.exts e d v h2, RVs.exts e ds r h3⟩
end
theorem RV.ext (e : Ext w H w' H') (d : D) (v : V) (h : RV K w H v d) : RV K w' H' v d := RV.exts e.toS d v h
theorem RVs.ext (e : Ext w H w' H') (ds : List D) (vs : List V) (h : RVs K w H vs ds) : RVs K w' H' vs ds := RVs.exts e.toS ds vs h
theorem Ext.at (e : Ext w H w' H') {n : Nat} {a : Addr} (h : w.ρ[n]? = some a) : w'.ρ[n]? = some a := e.toS.at h
theorem OwnAt.ne {a : Addr} {d : D} (h : OwnAt K w H a d) : H a ≠ none := by
  cases d <;> try exact h.elim
  · obtain ⟨vs, h, _⟩ := h; rw [h]; exact fun z => nomatch z
  · obtain ⟨vs, h, _⟩ := h; rw [h]; exact fun z => nomatch z
theorem OwnAt.exts (e : ExtS w H w' H') {a : Addr} {d : D} (h : OwnAt K w H a d) (k : H' a = H a) : OwnAt K w' H' a d := by
  cases d <;> try exact h.elim
  · obtain ⟨vs, h1, h2⟩ := h; exact ⟨vs, k.trans h1, RVs.exts e _ _ h2⟩
  · obtain ⟨vs, h1, h2, h3⟩ := h; exact ⟨vs, k.trans h1, h2, RVs.exts e _ _ h3⟩
theorem OwnAt.ext (e : Ext w H w' H') {a : Addr} {d : D} (h : OwnAt K w H a d) (n : a ∉ w.ρ) : OwnAt K w' H' a d := h.exts e.toS (by
  cases q : H a with
  | none => exact absurd q h.ne
  | some o => exact e.keep a o q n)
theorem RO.ext (e : Ext w H w' H') {d : D} {v : V} (h : RO K w H v d) : RO K w' H' v d := by
  rcases h with h | ⟨a, h1, h2, h3⟩
  · exact .inl (RV.ext e d v h)
  · refine .inr ⟨a, h1, fun z => ?_, h3.ext e h2⟩
    obtain ⟨t, et, ht⟩ := e.ρ
    rw [et] at z
    rcases List.mem_append.mp z with z | z
    · exact h2 z
    · exact h3.ne (ht a z)
theorem ROs.ext (e : Ext w H w' H') : ∀ {ds : List D} {vs : List V}, ROs K w H vs ds → ROs K w' H' vs ds
  | [], _, h => h
  | d :: ds, vs, ⟨v, r, h1, h2, h3⟩ => ⟨v, r, h1, RO.ext e h2, ROs.ext e h3⟩
theorem RVs.toO : ∀ {ds : List D} {vs : List V}, RVs K w H vs ds → ROs K w H vs ds
  | [], _, h => by simp only [RVs] at h; exact h
  | d :: ds, vs, h => by
    simp only [RVs] at h
    obtain ⟨v, r, h1, h2, h3⟩ := h
    exact ⟨v, r, h1, .inl h2, RVs.toO h3⟩
theorem RVs.length : ∀ {ds : List D} {vs : List V}, RVs K w H vs ds → vs.length = ds.length
  | [], _, h => by simp only [RVs] at h; subst h; rfl
  | d :: ds, vs, h => by
    simp only [RVs] at h
    obtain ⟨v, r, h1, h2, h3⟩ := h
    subst h1
    simp [RVs.length h3]
theorem RVs.append : ∀ {ds es : List D} {vs us : List V}, RVs K w H vs ds → RVs K w H us es → RVs K w H (vs ++ us) (ds ++ es)
  | [], _, _, _, h, g => by simp only [RVs] at h; subst h; exact g
  | d :: ds, _, vs, us, h, g => by
    simp only [RVs] at h
    obtain ⟨v, r, h1, h2, h3⟩ := h
    subst h1
    simp only [List.cons_append, RVs]
    exact ⟨v, _, rfl, h2, RVs.append h3 g⟩
theorem RVs.get : ∀ {ds : List D} {vs : List V} {i : Nat} {d : D}, RVs K w H vs ds → ds[i]? = some d → ∃ v, vs[i]? = some v ∧ RV K w H v d
  | [], _, _, _, _, e => by simp at e
  | d :: ds, vs, i, d', h, e => by
    simp only [RVs] at h
    obtain ⟨v, r, h1, h2, h3⟩ := h
    subst h1
    cases i with
    | zero => simp at e; subst e; exact ⟨v, by simp, h2⟩
    | succ i =>
      obtain ⟨u, g1, g2⟩ := RVs.get (i := i) h3 (by simpa using e)
      exact ⟨u, by simpa using g1, g2⟩
theorem RVs.set {d : D} {v : V} (hv : RV K w H v d) : ∀ {ds : List D} {vs : List V} (i : Nat), RVs K w H vs ds → RVs K w H (vs.set i v) (ds.set i d)
  | [], _, _, h => by simp only [RVs] at h; subst h; simp [RVs]
  | e :: ds, vs, i, h => by
    simp only [RVs] at h
    obtain ⟨u, r, h1, h2, h3⟩ := h
    subst h1
    cases i with
    | zero => simp only [List.set_cons_zero, RVs]; exact ⟨v, r, rfl, hv, h3⟩
    | succ i => simp only [List.set_cons_succ, RVs]; exact ⟨u, _, rfl, h2, RVs.set hv i h3⟩
theorem RVs.drop : ∀ {ds : List D} {vs : List V} (n : Nat), RVs K w H vs ds → RVs K w H (vs.drop n) (ds.drop n)
  | _, _, 0, h => h
  | [], _, _ + 1, h => by simp only [RVs] at h; subst h; simp [RVs]
  | e :: ds, vs, n + 1, h => by
    simp only [RVs] at h
    obtain ⟨u, r, h1, h2, h3⟩ := h
    subst h1
    exact RVs.drop n h3
theorem RVs.take : ∀ {ds : List D} {vs : List V} (n : Nat), RVs K w H vs ds → RVs K w H (vs.take n) (ds.take n)
  | _, _, 0, h => by simp [RVs]
  | [], _, _ + 1, h => by simp only [RVs] at h; subst h; simp [RVs]
  | e :: ds, vs, n + 1, h => by
    simp only [RVs] at h
    obtain ⟨u, r, h1, h2, h3⟩ := h
    subst h1
    simp only [List.take_succ_cons, RVs]
    exact ⟨u, _, rfl, h2, RVs.take n h3⟩
theorem RVs.rep {ds : List D} {vs : List V} (h : RVs K w H vs ds) : ∀ k : Nat, RVs K w H (List.replicate k vs).flatten (List.replicate k ds).flatten
  | 0 => by simp [RVs]
  | k + 1 => by
    simp only [List.replicate_succ, List.flatten_cons]
    exact h.append (RVs.rep h k)
theorem RVs.atI {ds : List D} {vs : List V} {i : Int} {d : D} (h : RVs K w H vs ds) (e : L2.atI ds i = some d) : ∃ v, L2.atI vs i = some v ∧ RV K w H v d := by
  unfold L2.atI at e ⊢
  rw [h.length]
  cases q : ixN ds.length i with
  | none => rw [q] at e; cases e
  | some j =>
    rw [q] at e
    exact RVs.get h e

/-- the store -/
structure RF (G : Gx) (w : Wd) (H : Hp) (fv : List (Str × V)) (fs : List (Str × D)) : Prop where
  ks : fv.map (·.1) = fs.map (·.1)
  vs : RVs G.K w H (fv.map (·.2)) (fs.map (·.2))
def ROb (G : Gx) (w : Wd) (H : Hp) (a : Addr) : Ob → Prop
  | .lst l => ∃ vs, H a = some (.lst vs) ∧ RVs G.K w H vs l
  | .dct ks ds => ∃ kvs, H a = some (.dK kvs) ∧ kvs.map (·.1) = ks ∧ RVs G.K w H (kvs.map (·.2)) ds
  | .ins c fs => ∃ C dx fv, G.cls c = some C ∧ H a = some (.ins C dx fv) ∧ RF G w H fv fs ∧ Cls G.K C ∧ ∀ f ∈ fs.map (·.1), NoAttr G.K C f
structure RSt (G : Gx) (w : Wd) (S : Sto) (H : Hp) : Prop where
  len : w.ρ.length = S.length
  ob : ∀ (n : Nat) (o : Ob), S[n]? = some o → ∃ a, w.ρ[n]? = some a ∧ ROb G w H a o
  phi : ∀ a, w.Φ a → H a ≠ none
theorem ROb.ne {G : Gx} {a : Addr} {o : Ob} (h : ROb G w H a o) : H a ≠ none := by
  cases o with
  | lst l => obtain ⟨vs, h, _⟩ := h; rw [h]; exact fun z => nomatch z
  | dct ks ds => obtain ⟨vs, h, _⟩ := h; rw [h]; exact fun z => nomatch z
  | ins c fs => obtain ⟨C, dx, fv, _, h, _⟩ := h; rw [h]; exact fun z => nomatch z
theorem RSt.rho {G : Gx} {S : Sto} (r : RSt G w S H) : ∀ a ∈ w.ρ, H a ≠ none := fun a h => by
  obtain ⟨n, hn, e⟩ := List.mem_iff_getElem.mp h
  have hs : n < S.length := by rw [← r.len]; exact hn
  obtain ⟨b, e1, h1⟩ := r.ob n S[n] (by simp [hs])
  have : a = b := by rw [List.getElem?_eq_getElem hn] at e1; rw [← e]; exact Option.some.inj e1
  subst this
  exact h1.ne
/-- an object whose own content is what it was -/
theorem ROb.exts {G : Gx} {a : Addr} {o : Ob} (e : ExtS w H w' H') (h : ROb G w H a o) (k : H' a = H a) : ROb G w' H' a o := by
  cases o with
  | lst l => obtain ⟨vs, h1, h2⟩ := h; exact ⟨vs, k.trans h1, RVs.exts e _ _ h2⟩
  | dct ks ds => obtain ⟨vs, h1, h2, h3⟩ := h; exact ⟨vs, k.trans h1, h2, RVs.exts e _ _ h3⟩
  | ins c fs => obtain ⟨C, dx, fv, h1, h2, h3, h4⟩ := h; exact ⟨C, dx, fv, h1, k.trans h2, ⟨h3.ks, RVs.exts e _ _ h3.vs⟩, h4⟩
theorem ROb.ext {G : Gx} {a : Addr} {o : Ob} (e : Ext w H w' H') (h : ROb G w H a o) (k : H' a = H a) : ROb G w' H' a o := h.exts e.toS k

/-- the frame: H0 the heap at the def's entry (what an own list's address was not in) -/
def RSl (K : PySem.W.Frag) (w : Wd) (H0 H : Hp) : Option (Option V) → Sl → Prop
  | _, .un => True
  | o, .val d => ∃ v, o = some (some v) ∧ RV K w H v d
  | o, .own d => ∃ a, o = some (some (.ref a)) ∧ OwnAt K w H a d ∧ a ∉ w.ρ ∧ ¬ w.Φ a ∧ H0 a = none
structure REn (K : PySem.W.Frag) (w : Wd) (H0 : Hp) (σ : St) (H : Hp) (ε : Env) : Prop where
  len : σ.length = ε.length
  sl : ∀ (i : Nat) (s : Sl), ε[i]? = some s → RSl K w H0 H σ[i]? s
  ap : ∀ (i j : Nat) (d e : D) (a : Addr), i ≠ j → ε[i]? = some (.own d) → ε[j]? = some (.own e) → σ[i]? = some (some (.ref a)) → σ[j]? ≠ some (some (.ref a))
theorem RSl.ext {H0 : Hp} {o : Option (Option V)} {s : Sl} (e : Ext w H w' H') (h : RSl K w H0 H o s) : RSl K w' H0 H' o s := by
  cases s with
  | un => trivial
  | val d => obtain ⟨v, h1, h2⟩ := h; exact ⟨v, h1, RV.ext e _ _ h2⟩
  | own d =>
    obtain ⟨a, h2, h3, h5, h6, h7⟩ := h
    refine ⟨a, h2, h3.ext e h5, fun z => ?_, fun z => ?_, h7⟩
    · obtain ⟨t, et, ht⟩ := e.ρ
      rw [et] at z
      rcases List.mem_append.mp z with z | z
      · exact h5 z
      · exact h3.ne (ht a z)
    · rcases e.new a z with z | z
      · exact h6 z
      · exact h3.ne z
theorem REn.ext {H0 : Hp} {σ : St} {ε : Env} (e : Ext w H w' H') (h : REn K w H0 σ H ε) : REn K w' H0 σ H' ε :=
  ⟨h.len, fun i s q => (h.sl i s q).ext e, h.ap⟩

/-- a new immutable object -/
def Wd.imm (w : Wd) (p : Addr) (h : p ∉ w.ρ) : Wd := ⟨w.ρ, fun a => w.Φ a ∨ a = p, fun a ha z => by
  rcases z with z | z
  · exact w.dis a ha z
  · exact h (z ▸ ha), w.nd⟩
def Wd.obj (w : Wd) (p : Addr) (h : p ∉ w.ρ) (g : ¬ w.Φ p) : Wd := ⟨w.ρ ++ [p], w.Φ, fun a ha z => by
  rcases List.mem_append.mp ha with q | q
  · exact w.dis a q z
  · exact g ((List.mem_singleton.mp q) ▸ z), List.nodup_append.mpr ⟨w.nd, List.nodup_cons.mpr ⟨by simp, List.nodup_nil⟩, fun a ha b hb => by
    rintro rfl
    exact h ((List.mem_singleton.mp hb) ▸ ha)⟩⟩
variable {G : Gx} {S : Sto}
theorem RSt.fresh (r : RSt G w S H) {p : Addr} (h : H p = none) : p ∉ w.ρ ∧ ¬ w.Φ p := ⟨fun z => r.rho p z h, fun z => r.phi p z h⟩
theorem ext_imm (r : RSt G w S H) {p : Addr} {o : HO} (h : H p = none) : Ext w H (w.imm p (r.fresh h).1) (upd H p o) :=
  ⟨⟨[], by simp [Wd.imm], fun _ z => by simp at z⟩, fun a q => .inl q, fun a q => by
    rcases q with q | q
    · exact .inl q
    · exact .inr (q ▸ h), fun a u q _ => by
    by_cases e : a = p
    · subst e; rw [h] at q; cases q
    · rw [upd_ne e]; exact q⟩
theorem rst_imm (r : RSt G w S H) {p : Addr} {o : HO} (h : H p = none) : RSt G (w.imm p (r.fresh h).1) S (upd H p o) :=
  ⟨r.len, fun n ob q => by
    obtain ⟨a, e, k⟩ := r.ob n ob q
    refine ⟨a, e, k.ext (ext_imm r h) (upd_ne fun z => ?_)⟩
    subst z
    exact k.ne h, fun a q => by
    by_cases e : a = p
    · subst e; rw [upd_same]; exact fun z => nomatch z
    · rw [upd_ne e]
      rcases q with q | q
      · exact r.phi a q
      · exact absurd q e⟩
/-- a new object that nobody will keep (a list looked at): the heap alone -/
theorem ext_tmp {p : Addr} {o : HO} (h : H p = none) : Ext w H w (upd H p o) :=
  ⟨⟨[], by simp, fun _ z => by simp at z⟩, fun a q => q, fun a q => .inl q, fun a u q _ => by
    by_cases e : a = p
    · subst e; rw [h] at q; cases q
    · rw [upd_ne e]; exact q⟩
theorem rst_tmp (r : RSt G w S H) {p : Addr} {o : HO} (h : H p = none) : RSt G w S (upd H p o) :=
  ⟨r.len, fun n ob q => by
    obtain ⟨a, e, k⟩ := r.ob n ob q
    refine ⟨a, e, k.ext (ext_tmp h) (upd_ne fun z => ?_)⟩
    subst z
    exact k.ne h, fun a q => by
    by_cases e : a = p
    · subst e; rw [upd_same]; exact fun z => nomatch z
    · rw [upd_ne e]; exact r.phi a q⟩
theorem rv_tup (r : RSt G w S H) {p : Addr} {vs : List V} {ds : List D} (h : H p = none) (hv : RVs G.K w H vs ds) : RV G.K (w.imm p (r.fresh h).1) (upd H p (.tup vs)) (.ref p) (.tup ds) := by
  simp only [RV]
  exact ⟨p, vs, rfl, .inl ⟨.inr rfl, .inl upd_same⟩, RVs.ext (ext_imm r h) _ _ hv⟩
theorem rv_lst (r : RSt G w S H) {p : Addr} {vs : List V} {ds : List D} (h : H p = none) (hv : RVs G.K w H vs ds) : RV G.K (w.imm p (r.fresh h).1) (upd H p (.lst vs)) (.ref p) (.lst ds) := by
  simp only [RV]
  exact ⟨p, vs, rfl, ⟨.inr rfl, .inl upd_same⟩, RVs.ext (ext_imm r h) _ _ hv⟩
theorem rv_dct (r : RSt G w S H) {p : Addr} {kvs : List (Key × V)} {ks : List Key} {ds : List D} (h : H p = none) (hk : kvs.map (·.1) = ks) (hv : RVs G.K w H (kvs.map (·.2)) ds) : RV G.K (w.imm p (r.fresh h).1) (upd H p (.dK kvs)) (.ref p) (.dct ks ds) := by
  simp only [RV]
  exact ⟨p, kvs, rfl, .inr rfl, .inl upd_same, hk, RVs.ext (ext_imm r h) _ _ hv⟩
theorem ext_obj (r : RSt G w S H) {p : Addr} {o : HO} (h : H p = none) : Ext w H (w.obj p (r.fresh h).1 (r.fresh h).2) (upd H p o) :=
  ⟨⟨[p], rfl, fun a z => (List.mem_singleton.mp z) ▸ h⟩, fun a q => q, fun a q => .inl q, fun a u q _ => by
    by_cases e : a = p
    · subst e; rw [h] at q; cases q
    · rw [upd_ne e]; exact q⟩
/-- what a new object of the store is -/
def NewO (G : Gx) (w : Wd) (H : Hp) : HO → Ob → Prop
  | .lst vs, .lst l => RVs G.K w H vs l
  | .dK kvs, .dct ks ds => kvs.map (·.1) = ks ∧ RVs G.K w H (kvs.map (·.2)) ds
  | _, _ => False
theorem rst_objO (r : RSt G w S H) {p : Addr} {o : HO} {ob : Ob} (h : H p = none) (hv : NewO G w H o ob) : RSt G (w.obj p (r.fresh h).1 (r.fresh h).2) (S ++ [ob]) (upd H p o) :=
  ⟨by simp [Wd.obj, r.len], fun n u q => by
    by_cases hn : n < S.length
    · rw [List.getElem?_append_left hn] at q
      obtain ⟨a, e, k⟩ := r.ob n u q
      refine ⟨a, (ext_obj (o := o) r h).at e, k.ext (ext_obj r h) (upd_ne fun z => ?_)⟩
      subst z
      exact k.ne h
    · have hn' : n = S.length := by
        have := (List.getElem?_eq_some_iff.mp q).1
        simp at this
        omega
      subst hn'
      simp at q
      subst q
      refine ⟨p, ?_, ?_⟩
      · show (w.ρ ++ [p])[S.length]? = some p
        rw [← r.len]
        simp
      · cases o <;> cases ob <;> try exact hv.elim
        · exact ⟨_, upd_same, RVs.ext (ext_obj r h) _ _ hv⟩
        · exact ⟨_, upd_same, hv.1, RVs.ext (ext_obj r h) _ _ hv.2⟩, fun a q => by
    by_cases e : a = p
    · subst e; rw [upd_same]; exact fun z => nomatch z
    · rw [upd_ne e]; exact r.phi a q⟩
theorem rst_obj (r : RSt G w S H) {p : Addr} {vs : List V} {ds : List D} (h : H p = none) (hv : RVs G.K w H vs ds) : RSt G (w.obj p (r.fresh h).1 (r.fresh h).2) (S ++ [.lst ds]) (upd H p (.lst vs)) :=
  ⟨by simp [Wd.obj, r.len], fun n ob q => by
    by_cases hn : n < S.length
    · rw [List.getElem?_append_left hn] at q
      obtain ⟨a, e, k⟩ := r.ob n ob q
      refine ⟨a, (ext_obj (o := .lst vs) r h).at e, k.ext (ext_obj r h) (upd_ne fun z => ?_)⟩
      subst z
      exact k.ne h
    · have hn' : n = S.length := by
        have := (List.getElem?_eq_some_iff.mp q).1
        simp at this
        omega
      subst hn'
      simp at q
      subst q
      refine ⟨p, ?_, vs, upd_same, RVs.ext (ext_obj r h) _ _ hv⟩
      show (w.ρ ++ [p])[S.length]? = some p
      rw [← r.len]
      simp, fun a q => by
    by_cases e : a = p
    · subst e; rw [upd_same]; exact fun z => nomatch z
    · rw [upd_ne e]; exact r.phi a q⟩
theorem rv_obj (r : RSt G w S H) {p : Addr} {o : HO} (h : H p = none) : RV G.K (w.obj p (r.fresh h).1 (r.fresh h).2) (upd H p o) (.ref p) (.ref S.length) := by
  simp only [RV]
  refine ⟨p, ?_, rfl⟩
  show (w.ρ ++ [p])[S.length]? = some p
  rw [← r.len]
  simp

theorem Ext.out (e : Ext w H w' H') {a : Addr} (h : H a ≠ none) (n : a ∉ w.ρ) : a ∉ w'.ρ := fun z => by
  obtain ⟨t, et, ht⟩ := e.ρ
  rw [et] at z
  rcases List.mem_append.mp z with z | z
  · exact n z
  · exact h (ht a z)
theorem Ext.outΦ (e : Ext w H w' H') {a : Addr} (h : H a ≠ none) (n : ¬ w.Φ a) : ¬ w'.Φ a := fun z => by
  rcases e.new a z with z | z
  · exact n z
  · exact h z
/-- an own list becomes a value -/
theorem exts_own {p : Addr} (hp : p ∉ w.ρ) : ExtS w H (w.imm p hp) H := ⟨⟨[], by simp [Wd.imm]⟩, fun a q => .inl q, fun a o _ h => h⟩
theorem rst_own (r : RSt G w S H) {p : Addr} (hp : p ∉ w.ρ) (hn : H p ≠ none) : RSt G (w.imm p hp) S H :=
  ⟨r.len, fun n ob q => by
    obtain ⟨a, e, k⟩ := r.ob n ob q
    exact ⟨a, e, k.exts (exts_own hp) rfl⟩, fun a q => by
    rcases q with q | q
    · exact r.phi a q
    · rw [q]; exact hn⟩
/-- an own list changes -/
theorem exts_upd {p : Addr} {o : HO} (hp : ¬ w.Φ p) : ExtS w H w (upd H p o) := ⟨⟨[], by simp⟩, fun a q => q, fun a u q h => by
  rw [upd_ne (fun z => by subst z; exact hp q)]; exact h⟩
theorem rst_upd (r : RSt G w S H) {p : Addr} {o : HO} (hp : p ∉ w.ρ) (hq : ¬ w.Φ p) : RSt G w S (upd H p o) :=
  ⟨r.len, fun n ob q => by
    obtain ⟨a, e, k⟩ := r.ob n ob q
    refine ⟨a, e, k.exts (exts_upd hq) (upd_ne fun z => ?_)⟩
    subst z
    exact hp (List.mem_of_getElem? e), fun a q => by
    by_cases e : a = p
    · subst e; exact absurd q hq
    · rw [upd_ne e]; exact r.phi a q⟩
/-- an object of the store changes -/
theorem exts_obj {p : Addr} {o : HO} (hp : p ∈ w.ρ) : ExtS w H w (upd H p o) := exts_upd (w.dis p hp)
theorem ext_set {p : Addr} {o : HO} (hp : p ∈ w.ρ) : Ext w H w (upd H p o) := ⟨⟨[], by simp, fun _ z => by simp at z⟩, fun a q => q, fun a q => .inl q, fun a u q n => by
  rw [upd_ne (fun z => by subst z; exact n hp)]; exact q⟩
theorem rst_setO (r : RSt G w S H) {p : Addr} {n : Nat} {o : HO} {nb : Ob} (e : w.ρ[n]? = some p) (hn : n < S.length) (hv : ROb G w (upd H p o) p nb) : RSt G w (S.set n nb) (upd H p o) := by
  have hp : p ∈ w.ρ := List.mem_of_getElem? e
  refine ⟨by simp [r.len], fun m ob q => ?_, fun a q => ?_⟩
  · by_cases hm : n = m
    · subst hm
      rw [List.getElem?_set_self hn] at q
      cases q
      exact ⟨p, e, hv⟩
    · rw [List.getElem?_set_ne hm] at q
      obtain ⟨a, e', k⟩ := r.ob m ob q
      refine ⟨a, e', k.exts (exts_obj hp) (upd_ne fun z => hm ?_)⟩
      subst z
      have h1 := List.getElem?_eq_some_iff.mp e
      have h2 := List.getElem?_eq_some_iff.mp e'
      exact (List.getElem_inj w.nd).mp (h1.2.trans h2.2.symm)
  · by_cases z : a = p
    · subst z; exact absurd q (w.dis a hp)
    · rw [upd_ne z]; exact r.phi a q
theorem rst_set (r : RSt G w S H) {p : Addr} {n : Nat} {vs : List V} {l : List D} (e : w.ρ[n]? = some p) (hn : n < S.length) (hv : RVs G.K w H vs l) : RSt G w (S.set n (.lst l)) (upd H p (.lst vs)) :=
  rst_setO r e hn ⟨vs, upd_same, RVs.exts (exts_obj (List.mem_of_getElem? e)) _ _ hv⟩
theorem rst_setD (r : RSt G w S H) {p : Addr} {n : Nat} {kvs : List (Key × V)} {ks : List Key} {ds : List D} (e : w.ρ[n]? = some p) (hn : n < S.length) (hk : kvs.map (·.1) = ks) (hv : RVs G.K w H (kvs.map (·.2)) ds) : RSt G w (S.set n (.dct ks ds)) (upd H p (.dK kvs)) :=
  rst_setO r e hn ⟨kvs, upd_same, hk, RVs.exts (exts_obj (List.mem_of_getElem? e)) _ _ hv⟩
end
end BX
set_option Elab.async false
set_option linter.all false
set_option maxRecDepth 100000
set_option maxHeartbeats 2000000
/-! BX3: the operators. -/
namespace BX
open PySem L2 PyProof.Rows

section
variable {K : PySem.W.Frag} {w w' : Wd} {H H' : Hp} {v : V}
theorem RO.non (h : RO K w H v .non) : v = .non := by
  rcases h with h | ⟨a, _, _, h⟩
  · simpa [RV] using h
  · exact h.elim
theorem RO.bl {b : Bool} (h : RO K w H v (.bl b)) : v = .bl b := by
  rcases h with h | ⟨a, _, _, h⟩
  · simpa [RV] using h
  · exact h.elim
theorem RO.int {i : Int} (h : RO K w H v (.int i)) : v = .int i := by
  rcases h with h | ⟨a, _, _, h⟩
  · simpa [RV] using h
  · exact h.elim
theorem RO.str {x : Str} (h : RO K w H v (.str x)) : v = .str x := by
  rcases h with h | ⟨a, _, _, h⟩
  · simpa [RV] using h
  · exact h.elim
theorem ImT.sq {a : Addr} {vs : List V} (h : ImT K w H a vs) : SqT K H a vs := by
  rcases h with ⟨_, h⟩ | h
  · exact .inl h
  · exact .inr h
theorem RO.tup {l : List D} (h : RO K w H v (.tup l)) : RV K w H v (.tup l) ∧ ∃ a vs, v = .ref a ∧ SqT K H a vs ∧ RVs K w H vs l := by
  rcases h with h | ⟨a, _, _, h⟩
  · refine ⟨h, ?_⟩
    simp only [RV] at h
    obtain ⟨a, vs, h1, h2, h3⟩ := h
    exact ⟨a, vs, h1, h2.sq, h3⟩
  · exact h.elim
theorem RO.lst {l : List D} (h : RO K w H v (.lst l)) : ∃ a vs, v = .ref a ∧ Rd H a (.lst vs) ∧ RVs K w H vs l := by
  rcases h with h | ⟨a, h1, h2, vs, h3, h5⟩
  · simp only [RV] at h
    obtain ⟨a, vs, h1, h2, h3⟩ := h
    exact ⟨a, vs, h1, h2.2, h3⟩
  · exact ⟨a, vs, h1, .inl h3, h5⟩
theorem RO.dct {ks : List Key} {ds : List D} (h : RO K w H v (.dct ks ds)) : ∃ a kvs, v = .ref a ∧ Rd H a (.dK kvs) ∧ kvs.map (·.1) = ks ∧ RVs K w H (kvs.map (·.2)) ds := by
  rcases h with h | ⟨a, h1, h2, kvs, h3, h4, h5⟩
  · simp only [RV] at h
    obtain ⟨a, kvs, h1, h2, h3, h4, h5⟩ := h
    exact ⟨a, kvs, h1, h3, h4, h5⟩
  · exact ⟨a, kvs, h1, .inl h3, h4, h5⟩
theorem RO.obj {fs : List Str} {ds : List D} (h : RO K w H v (.obj fs ds)) : ∃ a C dx fv, v = .ref a ∧ H a = some (.ins C dx fv) ∧ Cls K C ∧ (∀ f ∈ fs, NoAttr K C f) ∧ fv.map (·.1) = fs ∧ RVs K w H (fv.map (·.2)) ds := by
  rcases h with h | ⟨a, _, _, h⟩
  · simp only [RV] at h
    obtain ⟨a, C, dx, fv, h1, h2, h3, h4, h5, h6, h7⟩ := h
    exact ⟨a, C, dx, fv, h1, h3, h4, h5, h6, h7⟩
  · exact h.elim
theorem RO.refn {n : Nat} (h : RO K w H v (.ref n)) : ∃ a, w.ρ[n]? = some a ∧ v = .ref a := by
  rcases h with h | ⟨a, _, _, h⟩
  · simpa only [RV] using h
  · exact h.elim
theorem ImS.sq {a : Addr} {vs : List V} (h : ImS K w H a vs) : SqL K H a vs := by
  rcases h with ⟨_, h⟩ | h
  · exact .inl h
  · exact .inr h
theorem RO.scr {l : List D} (h : RO K w H v (.scr l)) : ∃ a vs, v = .ref a ∧ SqL K H a vs ∧ RVs K w H vs l := by
  rcases h with h | ⟨a, _, _, h⟩
  · simp only [RV] at h
    obtain ⟨a, vs, h1, h2, h3⟩ := h
    exact ⟨a, vs, h1, h2.sq, h3⟩
  · exact h.elim
@[simp] theorem RV_int {i : Int} : RV K w H (.int i) (.int i) := by simp [RV]
@[simp] theorem RV_bl {i : Bool} : RV K w H (.bl i) (.bl i) := by simp [RV]
@[simp] theorem RV_str {i : Str} : RV K w H (.str i) (.str i) := by simp [RV]
@[simp] theorem RV_non : RV K w H .non .non := by simp [RV]
end

/-- the answer of a value-level rule -/
def An (G : Gx) (w : Wd) (S : Sto) (H : Hp) (d : D) (Q : VK) : Prop := ∀ w' H' v, Ext w H w' H' → RSt G w' S H' → RV G.K w' H' v d → Q v H'
def rD2 (G : Gx) (f : D → D → Option D) : R2 := fun x y H Q => ∃ w S a b d, RSt G w S H ∧ RO G.K w H x a ∧ RO G.K w H y b ∧ f a b = some d ∧ An G w S H d Q
section
variable {G : Gx} {w : Wd} {S : Sto} {H : Hp} {d : D} {Q : VK}
theorem An.here {v : V} (q : An G w S H d Q) (hS : RSt G w S H) (h : RV G.K w H v d) : Q v H := q w H v Ext.refl hS h
theorem An.tup {p : Addr} {vs : List V} {ds : List D} (q : An G w S H (.tup ds) Q) (hS : RSt G w S H) (hp : H p = none) (h : RVs G.K w H vs ds) : Q (.ref p) (upd H p (.tup vs)) :=
  q _ _ _ (ext_imm hS hp) (rst_imm hS hp) (rv_tup hS hp h)
theorem An.lst {p : Addr} {vs : List V} {ds : List D} (q : An G w S H (.lst ds) Q) (hS : RSt G w S H) (hp : H p = none) (h : RVs G.K w H vs ds) : Q (.ref p) (upd H p (.lst vs)) :=
  q _ _ _ (ext_imm hS hp) (rst_imm hS hp) (rv_lst hS hp h)
end

section
variable {X : Cx}
def rCatR : R2 := fun x y H Q => ∃ l b xs zs, x = .ref l ∧ y = .ref b ∧ Rd H l (.lst xs) ∧ Rd H b (.lst zs) ∧ xs.length + zs.length ≤ sizeLine ∧ ∀ p, H p = none → Q (.ref p) (upd H p (.lst (xs ++ zs)))
theorem op_catR : OpR X (binaryOp .Add) rCatR := by
  intro pins s σ H x y v u Q I rx ry h
  obtain ⟨l, b, xs, zs, rfl, rfl, hH, hB, hz, q⟩ := h
  cases rx
  cases ry
  obtain ⟨z, its, n, r, e⟩ := hH.ok I.hok
  obtain ⟨z2, its2, n2, r2, e2⟩ := hB.ok I.hok
  have hl := r.length
  have hl2 := r2.length
  refine PySem.P.add_list e e2 ?_ (by rw [List.size_toArray, List.size_toArray]; omega)
  have ea : its.toArray ++ its2.toArray = (its ++ its2).toArray := by simp
  rw [ea]
  exact ⟨.ref _, _, I.lnew (t' := s.toks) (r.append r2) (by rw [List.length_append]; omega), rfl, q _ I.fresh⟩
theorem op_catT0 : OpR X (binaryOp .Add) (fun x y H Q => ∃ a b ys, x = .ref a ∧ y = .ref b ∧ SqT X.K H a [] ∧ SqT X.K H b ys ∧ Q (.ref b) H) := by
  intro pins s σ H x y v u Q I rx ry h
  obtain ⟨a, b, ys, rfl, rfl, ha, hb, q⟩ := h
  cases rx
  cases ry
  obtain ⟨its, r1, p1, _⟩ := I.tuple ha
  obtain ⟨its2, r2, p2, _⟩ := I.tuple hb
  cases r1
  obtain ⟨⟨cls, dd, data, sl⟩, ho, hc, n, hd⟩ := id p1
  obtain ⟨⟨cls2, dd2, data2, sl2⟩, ho2, hc2, n2, hd2⟩ := id p2
  simp only at hc hd hc2 hd2
  subst hc hd hc2 hd2
  exact concat_meets ⟨_, ho, rfl⟩ ⟨_, ho2, rfl⟩ noFill_tuple_add seq_tuple_add PySem.F.slot_tuple_add PySem.F.entry_tuple_add (PySem.F.args_tuple_add_2 _ _)
      (tuple_addW0 a b _ _ n n2 dd dd2 sl sl2 (by rfl)) ⟨ho, ho2, ⟨.ref b, H, I, rfl, q⟩⟩
/-- the operator's name -/
def bopN : BOp → Operator
  | .add => .Add | .sub => .Sub | .mul => .Mult | .fdiv => .FloorDiv | .mod => .Mod | .pow => .Pow | .shl => .LShift | .shr => .RShift
theorem mulOk_ok {i j : Int} (h : mulOk i j = true) : IntMulOk i j := by
  unfold mulOk at h
  rcases of_decide_eq_true h with h | h | h
  · exact CMul.ok (.inl h)
  · exact CMul.ok (.inr h)
  · exact CMulW.ok h
theorem op_mulD : OpR X (binaryOp .Mult) (rI (fun i j => mulOk i j = true) fun i j => .int (i * j)) := opI fun _ _ _ _ _ _ _ hc q => mul_int q (mulOk_ok hc)
theorem op_powD : OpR X (binaryOp .Pow) (rI (fun i j => 0 ≤ j ∧ j ≤ 1000000 ∧ (Builtin.Int.intBits i : Int) * j ≤ 2 ^ 27) fun i j => .int (i ^ j.toNat)) := opI fun _ _ _ _ _ _ _ hc q => pow_int hc.1 hc.2.2 q
def rRep : R2 := fun x y H Q => ∃ a vs k, x = .ref a ∧ y = .int k ∧ Rd H a (.lst vs) ∧ -(2 ^ 63) ≤ k ∧ k < 2 ^ 63 ∧ vs.length * k.toNat ≤ sizeLine ∧ ∀ p, H p = none → Q (.ref p) (upd H p (.lst (List.replicate k.toNat vs).flatten))
theorem op_rep : OpR X (binaryOp .Mult) rRep := by
  intro pins s σ H x y v u Q I rx ry h
  obtain ⟨a, vs, k, rfl, rfl, hr, h1, h2', hz, q⟩ := h
  cases rx
  obtain ⟨t, rfl⟩ := ry
  obtain ⟨z, its, n, r, e⟩ := hr.ok I.hok
  have hl := r.length
  have hlen : its.toArray.size * k.toNat ≤ sizeLine := by rw [List.size_toArray, ← hl]; exact hz
  have hcap : ¬ its.toArray.size * k.toNat > (2 ^ 63 - 1) / 8 := by
    have : (sizeLine : Nat) ≤ (2 ^ 63 - 1) / 8 := by decide
    omega
  have hfit : ¬ (!Builtin.List.listFitsIndex k) = true := by
    rw [fitsIndex_both h1 h2']
    exact Bool.false_ne_true
  have hlong : ¬ Builtin.List.listTooLong (its.toArray.size * k.toNat) = true := by
    rw [notLongL hlen]
    exact Bool.false_ne_true
  have hnew : List.foldl (fun x1 x2 => x1 ++ x2) #[] (List.replicate (if its.toArray.isEmpty = true then 0 else k.toNat) its.toArray) = (List.replicate k.toNat its).flatten.toArray := by
    have f0 : ∀ m : Nat, List.foldl (fun x1 x2 => x1 ++ x2) #[] (List.replicate m its.toArray) = (List.replicate m its).flatten.toArray := fun m => by
      have := foldl_rep its m []
      rw [List.nil_append] at this
      exact this
    rw [f0]
    cases its with
    | nil => simp
    | cons a r' => rw [if_neg (by simp)]
  refine wpAny_binaryOp_repeat_ref (T := "list") (U := "int") (by decide) ⟨_, e, rfl⟩ (fun s' => typeIs_int s' k t) noFill_list_mul F.fills_int_mul F.slot_int_rmul repeat_list F.slot_int_index.lookup
    (call_meets F.slot_int_rmul (typeIs_int s k t) F.entry_int_rmul (F.args_int_rmul_2 _ _) (int___rmul___int_list k t a its.toArray n)
      ⟨e, rfl, ⟨_, e, rfl⟩, call_meets F.slot_list_mul ⟨_, e, rfl⟩ F.entry_list_mul (F.args_list_mul_2 _ _) (AutoListH.list___mul___list_int_3 a its.toArray n k t hfit hcap hlong) ⟨e, ?_⟩⟩)
  rw [hnew]
  exact ⟨.ref _, _, I.lnew (t' := s.toks) (r.rep k.toNat) (by rw [PyProof.Rows.lm_len_rep_flat, Nat.mul_comm]; exact hz), rfl, q _ I.fresh⟩
theorem rep_ok {G : Gx} (hK : G.K = X.K) : OpR X (binaryOp .Mult) (rD2 G fun a b => match a, b with
  | .lst x, .int k => if -(2 ^ 63) ≤ k ∧ k < 2 ^ 63 ∧ x.length * k.toNat ≤ sizeLine then some (.lst (List.replicate k.toNat x).flatten) else none
  | _, _ => none) := by
  intro pins s σ H x y v u Q I rx ry h
  obtain ⟨w, S, a, b, d, hS, ra, rb, hf, q⟩ := h
  dsimp only at hf
  split at hf
  · rename_i l k
    split at hf
    · rename_i hc
      cases hf
      obtain ⟨a, vs, rfl, h2, h3⟩ := ra.lst
      obtain rfl := rb.int
      obtain ⟨h1, h2', hz⟩ := hc
      exact op_rep pins s σ H _ _ v u Q I rx ry ⟨a, vs, k, rfl, rfl, h2, h1, h2', by rw [h3.length]; exact hz, fun p hp => q.lst hS hp (h3.rep _)⟩
    · cases hf
  · cases hf
theorem bin_ok {G : Gx} (hK : G.K = X.K) (o : BOp) : OpR X (binaryOp (bopN o)) (rD2 G (binF o)) := by
  intro pins s σ H x y v u Q I rx ry h
  obtain ⟨w, S, a, b, d, hS, ra, rb, hf, q⟩ := h
  unfold binF at hf
  split at hf
  · cases hf; obtain rfl := ra.int; obtain rfl := rb.int
    exact op_add pins s σ H _ _ v u Q I rx ry ⟨_, _, rfl, rfl, q.here hS RV_int⟩
  · split at hf
    · rename_i hc
      cases hf; obtain rfl := ra.str; obtain rfl := rb.str
      exact op_add_str pins s σ H _ _ v u Q I rx ry ⟨_, _, rfl, rfl, hc, q.here hS RV_str⟩
    · cases hf
  · split at hf
    · rename_i hc
      cases hf
      obtain ⟨r1, a, vs, rfl, h1, h2⟩ := ra.tup
      obtain ⟨r2, b, us, rfl, g1, g2⟩ := rb.tup
      rw [hK] at h1 g1
      by_cases e0 : vs = []
      · have e := h2.length
        rw [e0] at e
        have e := List.eq_nil_of_length_eq_zero e.symm
        subst e e0
        exact op_catT0 pins s σ H _ _ v u Q I rx ry ⟨a, b, us, rfl, rfl, h1, g1, q.here hS r2⟩
      · refine op_catT pins s σ H _ _ v u Q I rx ry ⟨a, b, vs, us, rfl, rfl, h1, g1, e0, by rw [h2.length, g2.length]; exact hc, fun z => ?_, fun _ p hp => q.tup hS hp (h2.append g2)⟩
        have e := g2.length
        rw [z] at e
        have e := List.eq_nil_of_length_eq_zero e.symm
        subst e
        rw [List.append_nil] at q
        exact q.here hS r1
    · cases hf
  · split at hf
    · rename_i hc
      cases hf
      obtain ⟨a, vs, rfl, h1, h2⟩ := ra.lst
      obtain ⟨b, us, rfl, g1, g2⟩ := rb.lst
      exact op_catR pins s σ H _ _ v u Q I rx ry ⟨a, b, vs, us, rfl, rfl, h1, g1, by rw [h2.length, g2.length]; exact hc, fun p hp => q.lst hS hp (h2.append g2)⟩
    · cases hf
  · cases hf; obtain rfl := ra.int; obtain rfl := rb.int
    exact op_sub pins s σ H _ _ v u Q I rx ry ⟨_, _, rfl, rfl, q.here hS RV_int⟩
  · split at hf
    · rename_i hc
      cases hf; obtain rfl := ra.int; obtain rfl := rb.int
      exact op_mulD pins s σ H _ _ v u Q I rx ry ⟨_, _, rfl, rfl, hc, q.here hS RV_int⟩
    · cases hf
  · exact rep_ok hK pins s σ H x y v u Q I rx ry ⟨w, S, _, _, d, hS, ra, rb, hf, q⟩
  · split at hf
    · rename_i hc
      cases hf; obtain rfl := ra.int; obtain rfl := rb.int
      exact op_fdivW pins s σ H _ _ v u Q I rx ry ⟨_, _, rfl, rfl, hc, q.here hS RV_int⟩
    · cases hf
  · split at hf
    · rename_i hc
      cases hf; obtain rfl := ra.int; obtain rfl := rb.int
      exact op_mod pins s σ H _ _ v u Q I rx ry ⟨_, _, rfl, rfl, hc, q.here hS RV_int⟩
    · cases hf
  · split at hf
    · rename_i hc
      cases hf; obtain rfl := ra.int; obtain rfl := rb.int
      exact op_powD pins s σ H _ _ v u Q I rx ry ⟨_, _, rfl, rfl, hc, q.here hS RV_int⟩
    · cases hf
  · split at hf
    · rename_i hc
      cases hf; obtain rfl := ra.int; obtain rfl := rb.int
      exact op_shl pins s σ H _ _ v u Q I rx ry ⟨_, _, rfl, rfl, hc, q.here hS RV_int⟩
    · cases hf
  · split at hf
    · rename_i hc
      cases hf; obtain rfl := ra.int; obtain rfl := rb.int
      exact op_shr pins s σ H _ _ v u Q I rx ry ⟨_, _, rfl, rfl, hc, q.here hS RV_int⟩
    · cases hf
  · cases hf
theorem neg_ok {G : Gx} : UnR X (unaryOp .USub) (fun x H Q => ∃ w S i, RSt G w S H ∧ RO G.K w H x (.int i) ∧ An G w S H (.int (-i)) Q) := by
  intro pins s σ H x v Q I rx h
  obtain ⟨w, S, i, hS, ra, q⟩ := h
  obtain rfl := ra.int
  exact un_neg pins s σ H _ v Q I rx ⟨_, rfl, q.here hS RV_int⟩

/-! ### comparisons -/
mutual
theorem RV.dp {K : PySem.W.Frag} {w : Wd} {H : Hp} : ∀ (d : D) (v : V) (p : PyData), RV K w H v d → toPy d = some p → Dp K H v p
  | .non, v, p, h, e => by simp only [RV] at h; subst h; simp only [toPy] at e; cases e; exact .non
  | .bl b, v, p, h, e => by simp only [RV] at h; subst h; simp only [toPy] at e; cases e; exact .bl _
  | .int b, v, p, h, e => by simp only [RV] at h; subst h; simp only [toPy] at e; cases e; exact .int _
  | .str b, v, p, h, e => by simp only [RV] at h; subst h; simp only [toPy] at e; cases e; exact .str _
  | .tup l, v, p, h, e => by
    simp only [RV] at h
    obtain ⟨a, vs, rfl, h2, h3⟩ := h
    simp only [toPy] at e
    cases q : toPys l with
    | none => rw [q] at e; cases e
    | some ps => rw [q] at e; cases e; exact .tup h2.sq (RVs.dp l vs ps h3 q)
  | .lst l, v, p, h, e => by
    simp only [RV] at h
    obtain ⟨a, vs, rfl, h2, h3⟩ := h
    simp only [toPy] at e
    cases q : toPys l with
    | none => rw [q] at e; cases e
    | some ps => rw [q] at e; cases e; exact .lst (.inl h2.2) (RVs.dp l vs ps h3 q)
  | .ref _, _, _, _, e => by simp only [toPy] at e; cases e
  | .scr _, _, _, _, e => by simp only [toPy] at e; cases e
  | .dct _ _, _, _, _, e => by simp only [toPy] at e; cases e
  | .obj _ _, _, _, _, e => by simp only [toPy] at e; cases e
theorem RVs.dp {K : PySem.W.Frag} {w : Wd} {H : Hp} : ∀ (ds : List D) (vs : List V) (ps : List PyData), RVs K w H vs ds → toPys ds = some ps → DpAll K H vs ps
  | [], vs, ps, h, e => by simp only [RVs] at h; subst h; simp only [toPys] at e; cases e; exact .nil
  | d :: ds, vs, ps, h, e => by
    simp only [RVs] at h
    obtain ⟨v, r, rfl, h2, h3⟩ := h
    simp only [toPys] at e
    split at e
    · rename_i p' ps' e1 e2
      cases e
      exact .cons (RV.dp d v p' h2 e1) (RVs.dp ds r ps' h3 e2)
    · cases e
end
theorem RO.dp {K : PySem.W.Frag} {w : Wd} {H : Hp} {d : D} {v : V} {p : PyData} (h : RO K w H v d) (e : toPy d = some p) : Dp K H v p := by
  rcases h with h | ⟨a, rfl, _, h3⟩
  · exact RV.dp d v p h e
  · cases d <;> try exact h3.elim
    case dct => simp only [toPy] at e; cases e
    rename_i l
    obtain ⟨vs, h3, h5⟩ := h3
    simp only [toPy] at e
    cases q : toPys l with
    | none => rw [q] at e; cases e
    | some ps => rw [q] at e; cases e; exact .lst (.inl (.inl h3)) (RVs.dp l vs ps h5 q)
theorem eqF_some {a b : D} {k : Bool} (h : eqF a b = some k) : ∃ p q, toPy a = some p ∧ toPy b = some q ∧ SeqAt.shaped p = true ∧ SeqAt.shaped q = true ∧ k = PyData.eqv p q := by
  unfold eqF at h
  split at h
  · rename_i p q e1 e2
    split at h
    · rename_i hc
      cases h
      exact ⟨p, q, e1, e2, hc.1, hc.2, rfl⟩
    · cases h
  · cases h
def vOf : D → V
  | .bl b => .bl b
  | .int i => .int i
  | .str x => .str x
  | _ => .non
theorem RV.flat {K : PySem.W.Frag} {w : Wd} {H : Hp} {d : D} {v : V} (h : RV K w H v d) (f : flatD d = true) : v = vOf d ∧ flatV v = true := by
  cases d <;> simp [flatD] at f <;> simp only [RV] at h <;> subst h <;> exact ⟨rfl, rfl⟩
theorem RO.flat {K : PySem.W.Frag} {w : Wd} {H : Hp} {d : D} {v : V} (h : RO K w H v d) (f : flatD d = true) : v = vOf d ∧ flatV v = true := by
  rcases h with h | ⟨a, rfl, _, h3⟩
  · exact h.flat f
  · cases d <;> first | exact h3.elim | (simp [flatD] at f)
theorem RVs.flat {K : PySem.W.Frag} {w : Wd} {H : Hp} : ∀ {ds : List D} {vs : List V}, RVs K w H vs ds → ds.all flatD = true → vs = ds.map vOf ∧ vs.all flatV = true
  | [], _, h, _ => by simp only [RVs] at h; subst h; simp
  | d :: ds, _, h, f => by
    simp only [RVs] at h
    obtain ⟨v, r, rfl, h2, h3⟩ := h
    simp only [List.all_cons, Bool.and_eq_true] at f
    obtain ⟨e1, e2⟩ := h2.flat f.1
    obtain ⟨e3, e4⟩ := RVs.flat h3 f.2
    subst e1 e3
    simp [e2]
    intro x hx
    have := List.all_eq_true.mp e4 (vOf x) (List.mem_map.mpr ⟨x, hx, rfl⟩)
    exact this
theorem eqV_of {y x : D} (fy : flatD y = true) (fx : flatD x = true) : eqV (vOf y) (vOf x) = eqD y x := by
  cases y <;> simp [flatD] at fy <;> cases x <;> simp [flatD] at fx <;> rfl
theorem inV_of {x : D} (fx : flatD x = true) : ∀ {l : List D}, l.all flatD = true → inV (vOf x) (l.map vOf) = l.any fun y => eqD y x
  | [], _ => rfl
  | y :: l, f => by
    simp only [List.all_cons, Bool.and_eq_true] at f
    show (eqV (vOf y) (vOf x) || inV (vOf x) (l.map vOf)) = (eqD y x || l.any fun y => eqD y x)
    rw [eqV_of f.1 fx, inV_of fx f.2]
def copN : COp → CmpOp
  | .eq => .Eq | .ne => .NotEq | .lt => .Lt | .le => .LtE | .gt => .Gt | .ge => .GtE | .is => .Is | .isnot => .IsNot | .inn => .In | .nin => .NotIn
theorem isF_ok {K : PySem.W.Frag} {w : Wd} {H : Hp} {x y : V} {a b : D} {k : Bool} (ra : RO K w H x a) (rb : RO K w H y b) (h : isF a b = some k) : (y = .non ∧ k = decide (x = V.non)) ∨ ∃ c d : Bool, x = .bl c ∧ y = .bl d ∧ k = decide (c = d) := by
  unfold isF at h
  split at h
  · cases h
    refine .inl ⟨rb.non, ?_⟩
    cases a with
    | non => rw [ra.non]; rfl
    | bl _ => rw [ra.bl]; rfl
    | int _ => rw [ra.int]; rfl
    | str _ => rw [ra.str]; rfl
    | tup _ => obtain ⟨_, a, vs, rfl, _⟩ := ra.tup; rfl
    | lst _ => obtain ⟨a, vs, rfl, _⟩ := ra.lst; rfl
    | ref _ => obtain ⟨a, _, rfl⟩ := ra.refn; rfl
    | scr _ => obtain ⟨a, vs, rfl, _⟩ := ra.scr; rfl
    | dct _ _ => obtain ⟨a, vs, rfl, _⟩ := ra.dct; rfl
    | obj _ _ => obtain ⟨a, _, _, _, rfl, _⟩ := ra.obj; rfl
  · split at h
    · cases h
      exact .inr ⟨_, _, ra.bl, rb.bl, rfl⟩
    · cases h
  · cases h
theorem cmp_ok {G : Gx} (hK : G.K = X.K) (hu : X.A.units + 64 < cLine) (o : COp) : OpR X (compareOp (copN o)) (rD2 G fun a b => (cmpF o a b).map .bl) := by
  intro pins s σ H x y v u Q I rx ry h
  obtain ⟨w, S, a, b, d, hS, ra, rb, hf, q⟩ := h
  dsimp only at hf
  cases hc : cmpF o a b with
  | none => rw [hc] at hf; cases hf
  | some k =>
    rw [hc] at hf
    cases hf
    have fin : Q (.bl k) H := q.here hS RV_bl
    unfold cmpF at hc
    split at hc
    · cases hc; obtain rfl := ra.int; obtain rfl := rb.int
      exact op_lt pins s σ H _ _ v u Q I rx ry ⟨_, _, rfl, rfl, fin⟩
    · cases hc; obtain rfl := ra.int; obtain rfl := rb.int
      exact op_le pins s σ H _ _ v u Q I rx ry ⟨_, _, rfl, rfl, fin⟩
    · cases hc; obtain rfl := ra.int; obtain rfl := rb.int
      exact op_gt pins s σ H _ _ v u Q I rx ry ⟨_, _, rfl, rfl, fin⟩
    · cases hc; obtain rfl := ra.int; obtain rfl := rb.int
      exact op_ge pins s σ H _ _ v u Q I rx ry ⟨_, _, rfl, rfl, fin⟩
    · cases hc; obtain rfl := ra.str; obtain rfl := rb.str
      obtain ⟨t, rfl⟩ := rx; obtain ⟨t', rfl⟩ := ry
      exact PyProof.Rows.lt_str (fin_bl I fin rfl)
    · cases hc; obtain rfl := ra.str; obtain rfl := rb.str
      obtain ⟨t, rfl⟩ := rx; obtain ⟨t', rfl⟩ := ry
      exact PySem.P.le_str (fin_bl I fin rfl)
    · cases hc; obtain rfl := ra.str; obtain rfl := rb.str
      obtain ⟨t, rfl⟩ := rx; obtain ⟨t', rfl⟩ := ry
      exact PySem.P.gt_str (fin_bl I fin rfl)
    · cases hc; obtain rfl := ra.str; obtain rfl := rb.str
      obtain ⟨t, rfl⟩ := rx; obtain ⟨t', rfl⟩ := ry
      exact PySem.P.ge_str (fin_bl I fin rfl)
    · obtain ⟨p, p', e1, e2, s1, s2, rfl⟩ := eqF_some hc
      exact op_eqD hu pins s σ H _ _ v u Q I rx ry ⟨p, p', hK ▸ ra.dp e1, hK ▸ rb.dp e2, s1, s2, fin⟩
    · cases hc' : eqF a b with
      | none => rw [hc'] at hc; cases hc
      | some k' =>
        rw [hc'] at hc
        cases hc
        obtain ⟨p, p', e1, e2, s1, s2, rfl⟩ := eqF_some hc'
        exact op_neD hu pins s σ H _ _ v u Q I rx ry ⟨p, p', hK ▸ ra.dp e1, hK ▸ rb.dp e2, s1, s2, fin⟩
    · rcases isF_ok ra rb hc with ⟨e1, e2⟩ | ⟨c, d, e1, e2, e3⟩
      · subst e2
        exact op_isN pins s σ H _ _ v u Q I rx ry ⟨e1, fin⟩
      · subst e3
        exact op_isBl pins s σ H _ _ v u Q I rx ry ⟨c, d, e1, e2, fin⟩
    · cases hc' : isF a b with
      | none => rw [hc'] at hc; cases hc
      | some k' =>
        rw [hc'] at hc
        cases hc
        rcases isF_ok ra rb hc' with ⟨e1, e2⟩ | ⟨c, d, e1, e2, e3⟩
        · subst e2
          exact op_notN pins s σ H _ _ v u Q I rx ry ⟨e1, fin⟩
        · subst e3
          exact op_notBl pins s σ H _ _ v u Q I rx ry ⟨c, d, e1, e2, fin⟩
    · unfold inF at hc
      split at hc
      · split at hc
        · rename_i l hf
          cases hc
          simp only [Bool.and_eq_true] at hf
          obtain ⟨e1, e2⟩ := ra.flat hf.1
          obtain ⟨_, p, vs, rfl, h1, h2⟩ := rb.tup
          obtain ⟨e3, e4⟩ := h2.flat hf.2
          exact op_in_seq pins s σ H _ _ v u Q I rx ry ⟨p, vs, rfl, .inr (hK ▸ h1), e2, e4, by simp only [Bool.false_eq_true, if_false]; rw [e1, e3, inV_of hf.1 hf.2]; exact fin⟩
        · cases hc
      · split at hc
        · rename_i l hf
          cases hc
          simp only [Bool.and_eq_true] at hf
          obtain ⟨e1, e2⟩ := ra.flat hf.1
          obtain ⟨p, vs, rfl, h1, h2⟩ := rb.lst
          obtain ⟨e3, e4⟩ := h2.flat hf.2
          exact op_in_seq pins s σ H _ _ v u Q I rx ry ⟨p, vs, rfl, .inl (.inl h1), e2, e4, by simp only [Bool.false_eq_true, if_false]; rw [e1, e3, inV_of hf.1 hf.2]; exact fin⟩
        · cases hc
      · split at hc
        · cases hc
          obtain rfl := ra.str
          obtain rfl := rb.str
          exact op_in_str pins s σ H _ _ v u Q I rx ry ⟨_, _, rfl, rfl, fin⟩
        · cases hc
      · cases hc
    · unfold inF at hc
      split at hc
      · split at hc
        · rename_i l hf
          cases hc
          simp only [Bool.and_eq_true] at hf
          obtain ⟨e1, e2⟩ := ra.flat hf.1
          obtain ⟨_, p, vs, rfl, h1, h2⟩ := rb.tup
          obtain ⟨e3, e4⟩ := h2.flat hf.2
          exact op_notIn_seq pins s σ H _ _ v u Q I rx ry ⟨p, vs, rfl, .inr (hK ▸ h1), e2, e4, by simp only [if_true]; rw [e1, e3, inV_of hf.1 hf.2]; exact fin⟩
        · cases hc
      · split at hc
        · rename_i l hf
          cases hc
          simp only [Bool.and_eq_true] at hf
          obtain ⟨e1, e2⟩ := ra.flat hf.1
          obtain ⟨p, vs, rfl, h1, h2⟩ := rb.lst
          obtain ⟨e3, e4⟩ := h2.flat hf.2
          exact op_notIn_seq pins s σ H _ _ v u Q I rx ry ⟨p, vs, rfl, .inl (.inl h1), e2, e4, by simp only [if_true]; rw [e1, e3, inV_of hf.1 hf.2]; exact fin⟩
        · cases hc
      · split at hc
        · cases hc
          obtain rfl := ra.str
          obtain rfl := rb.str
          exact op_notIn_str pins s σ H _ _ v u Q I rx ry ⟨_, _, rfl, rfl, fin⟩
        · cases hc
      · cases hc
    · cases hc
theorem RVs.nil_iff {K : PySem.W.Frag} {w : Wd} {H : Hp} {ds : List D} {vs : List V} (h : RVs K w H vs ds) : vs.isEmpty = ds.isEmpty := by
  have := h.length
  cases vs <;> cases ds <;> simp_all
theorem tru_of {G : Gx} {w : Wd} {H : Hp} {x : V} {d : D} {k : Bool} (hK : G.K = X.K) (r : RO G.K w H x d) (h : truF d = some k) : TruV X.K x H k := by
  cases d with
  | non => obtain rfl := r.non; simp only [truF] at h; cases h; rfl
  | bl _ => obtain rfl := r.bl; simp only [truF] at h; cases h; rfl
  | int _ => obtain rfl := r.int; simp only [truF] at h; cases h; rfl
  | str _ =>
    obtain rfl := r.str
    simp only [truF] at h
    split at h
    · rename_i hc; cases h; exact ⟨hc, rfl⟩
    · cases h
  | tup l =>
    obtain ⟨_, a, vs, rfl, h1, h2⟩ := r.tup
    simp only [truF] at h
    cases h
    exact .inr (.inl ⟨vs, hK ▸ h1, by rw [h2.nil_iff]⟩)
  | lst l =>
    obtain ⟨a, vs, rfl, h1, h2⟩ := r.lst
    simp only [truF] at h
    cases h
    exact .inl ⟨vs, .inl h1, by rw [h2.nil_iff]⟩
  | ref _ => simp only [truF] at h; cases h
  | scr _ => simp only [truF] at h; cases h
  | obj _ _ => simp only [truF] at h; cases h
  | dct _ _ => simp only [truF] at h; cases h
end
end BX
set_option Elab.async false
set_option linter.all false
set_option maxRecDepth 100000
set_option maxHeartbeats 2000000
/-! BX3b: built-in functions, items, slices, isinstance. -/
namespace BX
open PySem L2 PyProof.Rows
section
variable {X : Cx}
def rDL (G : Gx) (f : List D → Option D) : List V → Hp → VK → Prop := fun vs H Q => ∃ w S ds d, RSt G w S H ∧ ROs G.K w H vs ds ∧ f ds = some d ∧ An G w S H d Q
def bltN : Blt → Str
  | .len => "len" | .abs => "abs" | .max => "max" | .min => "min" | .sum => "sum" | .all => "all" | .any => "any" | .tuple => "tuple" | .list => "list"
def bltV : Blt → Value
  | .len => .builtin "len" | .abs => .builtin "abs" | .max => .builtin "max" | .min => .builtin "min" | .sum => .builtin "sum" | .all => .builtin "all" | .any => .builtin "any" | .tuple => .type "tuple" | .list => .type "list"
theorem blt_boot : ∀ b : Blt, bootBuiltins (bltN b) = some (bltV b)
  | .len => by decide +kernel
  | .abs => by decide +kernel
  | .max => by decide +kernel
  | .min => by decide +kernel
  | .sum => by decide +kernel
  | .all => by decide +kernel
  | .any => by decide +kernel
  | .tuple => by decide +kernel
  | .list => by decide +kernel
section
variable {K : PySem.W.Frag} {w : Wd} {H : Hp}
theorem ROs.one {vs : List V} {d : D} (h : ROs K w H vs [d]) : ∃ v, vs = [v] ∧ RO K w H v d := by
  obtain ⟨v, r, rfl, h1, h2⟩ := h
  obtain rfl : r = [] := h2
  exact ⟨v, rfl, h1⟩
theorem ROs.two {vs : List V} {d e : D} (h : ROs K w H vs [d, e]) : ∃ v u, vs = [v, u] ∧ RO K w H v d ∧ RO K w H u e := by
  obtain ⟨v, r, rfl, h1, h2⟩ := h
  obtain ⟨u, rfl, h3⟩ := ROs.one h2
  exact ⟨v, u, rfl, h1, h3⟩
theorem ROs.three {vs : List V} {d e f : D} (h : ROs K w H vs [d, e, f]) : ∃ v u t, vs = [v, u, t] ∧ RO K w H v d ∧ RO K w H u e ∧ RO K w H t f := by
  obtain ⟨v, r, rfl, h1, h2⟩ := h
  obtain ⟨u, t, rfl, h3, h4⟩ := ROs.two h2
  exact ⟨v, u, t, rfl, h1, h3, h4⟩
theorem RVs.ints : ∀ {l : List D} {vs : List V} {ns : List Int}, RVs K w H vs l → intsOf l = some ns → vs = ns.map V.int
  | [], vs, ns, h, e => by simp only [RVs] at h; subst h; simp only [intsOf] at e; cases e; rfl
  | d :: l, vs, ns, h, e => by
    simp only [RVs] at h
    obtain ⟨v, r, rfl, h2, h3⟩ := h
    cases d <;> simp only [intsOf] at e <;> try cases e
    rename_i i
    cases q : intsOf l with
    | none => rw [q] at e; cases e
    | some ms =>
      rw [q] at e
      cases e
      simp only [RV] at h2
      subst h2
      rw [RVs.ints h3 q]
      rfl
theorem RVs.bls : ∀ {l : List D} {vs : List V} {bs : List Bool}, RVs K w H vs l → blsOf l = some bs → vs = bs.map V.bl
  | [], vs, ns, h, e => by simp only [RVs] at h; subst h; simp only [blsOf] at e; cases e; rfl
  | d :: l, vs, ns, h, e => by
    simp only [RVs] at h
    obtain ⟨v, r, rfl, h2, h3⟩ := h
    cases d <;> simp only [blsOf] at e <;> try cases e
    rename_i i
    cases q : blsOf l with
    | none => rw [q] at e; cases e
    | some ms =>
      rw [q] at e
      cases e
      simp only [RV] at h2
      subst h2
      rw [RVs.bls h3 q]
      rfl
end
theorem maxI_spec : ∀ (r : List Int) (m : Int), maxI r m ∈ m :: r ∧ ∀ y ∈ m :: r, y ≤ maxI r m
  | [], m => by simp [maxI]
  | x :: r, m => by
    simp only [maxI]
    obtain ⟨h1, h2⟩ := maxI_spec r (if x > m then x else m)
    have hz : ∀ z, (if x > m then x else m) = z → (z = x ∨ z = m) ∧ x ≤ z ∧ m ≤ z := fun z e => by split at e <;> omega
    generalize (if x > m then x else m) = z at h1 h2 hz ⊢
    obtain ⟨e0, e1, e2⟩ := hz z rfl
    refine ⟨?_, fun y hy => ?_⟩
    · rcases List.mem_cons.mp h1 with h | h
      · rw [h]; rcases e0 with e | e <;> simp [e]
      · simp [h]
    · have h0 := h2 _ (List.mem_cons_self ..)
      rcases List.mem_cons.mp hy with h | hy
      · subst h; omega
      · rcases List.mem_cons.mp hy with h | hy
        · subst h; omega
        · exact h2 y (List.mem_cons_of_mem _ hy)
theorem minI_spec : ∀ (r : List Int) (m : Int), minI r m ∈ m :: r ∧ ∀ y ∈ m :: r, minI r m ≤ y
  | [], m => by simp [minI]
  | x :: r, m => by
    simp only [minI]
    obtain ⟨h1, h2⟩ := minI_spec r (if x < m then x else m)
    have hz : ∀ z, (if x < m then x else m) = z → (z = x ∨ z = m) ∧ z ≤ x ∧ z ≤ m := fun z e => by split at e <;> omega
    generalize (if x < m then x else m) = z at h1 h2 hz ⊢
    obtain ⟨e0, e1, e2⟩ := hz z rfl
    refine ⟨?_, fun y hy => ?_⟩
    · rcases List.mem_cons.mp h1 with h | h
      · rw [h]; rcases e0 with e | e <;> simp [e]
      · simp [h]
    · have h0 := h2 _ (List.mem_cons_self ..)
      rcases List.mem_cons.mp hy with h | hy
      · subst h; omega
      · rcases List.mem_cons.mp hy with h | hy
        · subst h; omega
        · exact h2 y (List.mem_cons_of_mem _ hy)
theorem blt_ok {G : Gx} (hK : G.K = X.K) (hc : X.calm = true) (b : Blt) : CallR X (bltV b) (rDL G (bltF b)) := by
  intro pins s σ H xs us Q I r h
  obtain ⟨w, S, ds, d, hS, rs, hf, q⟩ := h
  unfold bltF at hf
  split at hf
  · obtain ⟨v, rfl, rv⟩ := rs.one
    obtain rfl := rv.str
    split at hf
    · rename_i hz
      cases hf
      exact call_len_str pins s σ H _ us Q I r ⟨_, rfl, hz, q.here hS RV_int⟩
    · cases hf
  · obtain ⟨v, rfl, rv⟩ := rs.one
    obtain ⟨_, a, vs, rfl, h1, h2⟩ := rv.tup
    cases hf
    exact call_len_seq pins s σ H _ us Q I r ⟨a, vs, rfl, .inr (hK ▸ h1), by rw [h2.length]; exact q.here hS RV_int⟩
  · obtain ⟨v, rfl, rv⟩ := rs.one
    obtain ⟨a, vs, rfl, h1, h2⟩ := rv.lst
    cases hf
    exact call_len_seq pins s σ H _ us Q I r ⟨a, vs, rfl, .inl (.inl h1), by rw [h2.length]; exact q.here hS RV_int⟩
  · obtain ⟨v, rfl, rv⟩ := rs.one
    obtain ⟨a, vs, rfl, h1, h2⟩ := rv.scr
    cases hf
    exact call_len_seq pins s σ H _ us Q I r ⟨a, vs, rfl, .inl (hK ▸ h1), by rw [h2.length]; exact q.here hS RV_int⟩
  · obtain ⟨v, rfl, rv⟩ := rs.one
    obtain rfl := rv.int
    cases hf
    exact call_abs pins s σ H _ us Q I r ⟨_, rfl, q.here hS RV_int⟩
  · obtain ⟨v, u, rfl, rv, ru⟩ := rs.two
    obtain rfl := rv.int
    obtain rfl := ru.int
    cases hf
    exact call_max2 hc pins s σ H _ us Q I r ⟨_, _, rfl, q.here hS RV_int⟩
  · obtain ⟨v, u, t, rfl, rv, ru, rt⟩ := rs.three
    obtain rfl := rv.int
    obtain rfl := ru.int
    obtain rfl := rt.int
    cases hf
    refine call_max3Nu hc pins s σ H _ us Q I r ⟨_, _, _, _, rfl, ?_, q.here hS RV_int⟩
    rename_i i j k
    simp only [nuMax3, nuMax2, nuLt, nuCB, Option.map_some, Option.bind_some]
    by_cases h1 : i < j
    · simp only [h1, decide_true, if_true, gt_iff_lt, Option.map_some]
      by_cases h2 : j < k <;> simp [h2]
    · simp only [h1, decide_false, Bool.false_eq_true, if_false, gt_iff_lt, Option.map_some]
      by_cases h2 : i < k <;> simp [h2]
  · obtain ⟨v, rfl, rv⟩ := rs.one
    obtain ⟨a, vs, rfl, h1, h2⟩ := rv.lst
    split at hf
    · rename_i m r' e
      cases hf
      have e1 := h2.ints e
      subst e1
      refine cr_max hc pins s σ H _ us Q I r ⟨a, m :: r', rfl, .inl h1, by simp, fun m' h3 h4 => ?_⟩
      obtain ⟨g1, g2⟩ := maxI_spec r' m
      have e2 : m' = maxI r' m := Int.le_antisymm (g2 m' h3) (h4 _ g1)
      rw [e2]
      exact q.here hS RV_int
    · cases hf
  · obtain ⟨v, u, rfl, rv, ru⟩ := rs.two
    obtain rfl := rv.int
    obtain rfl := ru.int
    cases hf
    exact call_min2 hc pins s σ H _ us Q I r ⟨_, _, rfl, q.here hS RV_int⟩
  · obtain ⟨v, rfl, rv⟩ := rs.one
    obtain ⟨a, vs, rfl, h1, h2⟩ := rv.lst
    split at hf
    · rename_i m r' e
      cases hf
      have e1 := h2.ints e
      subst e1
      refine cr_min hc pins s σ H _ us Q I r ⟨a, m :: r', rfl, .inl h1, by simp, fun m' h3 h4 => ?_⟩
      obtain ⟨g1, g2⟩ := minI_spec r' m
      have e2 : m' = minI r' m := Int.le_antisymm (h4 _ g1) (g2 m' h3)
      rw [e2]
      exact q.here hS RV_int
    · cases hf
  · obtain ⟨v, rfl, rv⟩ := rs.one
    obtain ⟨a, vs, rfl, h1, h2⟩ := rv.lst
    rename_i l
    cases e : intsOf l with
    | none => rw [e] at hf; cases hf
    | some ns =>
      rw [e] at hf
      cases hf
      have e1 := h2.ints e
      subst e1
      exact cr_sum hc pins s σ H _ us Q I r ⟨a, ns, rfl, .inl h1, q.here hS RV_int⟩
  · obtain ⟨v, rfl, rv⟩ := rs.one
    obtain ⟨a, vs, rfl, h1, h2⟩ := rv.lst
    rename_i l
    cases e : blsOf l with
    | none => rw [e] at hf; cases hf
    | some ns =>
      rw [e] at hf
      cases hf
      have e1 := h2.bls e
      subst e1
      exact cr_all hc pins s σ H _ us Q I r ⟨a, ns, rfl, .inl h1, q.here hS RV_bl⟩
  · obtain ⟨v, rfl, rv⟩ := rs.one
    obtain ⟨a, vs, rfl, h1, h2⟩ := rv.lst
    rename_i l
    cases e : blsOf l with
    | none => rw [e] at hf; cases hf
    | some ns =>
      rw [e] at hf
      cases hf
      have e1 := h2.bls e
      subst e1
      exact cr_any hc pins s σ H _ us Q I r ⟨a, ns, rfl, .inl h1, q.here hS RV_bl⟩
  · obtain ⟨v, rfl, rv⟩ := rs.one
    obtain ⟨a, vs, rfl, h1, h2⟩ := rv.lst
    cases hf
    exact call_tuple_of pins s σ H _ us Q I r ⟨a, vs, rfl, .inl ⟨.inl h1, fun p hp => q.tup hS hp h2⟩⟩
  · obtain ⟨v, rfl, rv⟩ := rs.one
    obtain ⟨r1, a, vs, rfl, h1, h2⟩ := rv.tup
    cases hf
    exact call_tuple_of pins s σ H _ us Q I r ⟨a, vs, rfl, .inr ⟨hK ▸ h1, q.here hS r1⟩⟩
  · obtain ⟨v, rfl, rv⟩ := rs.one
    obtain ⟨a, vs, rfl, h1, h2⟩ := rv.lst
    cases hf
    exact call_list_of pins s σ H _ us Q I r ⟨a, vs, rfl, .inl (.inl h1), fun p hp => q.lst hS hp h2⟩
  · obtain ⟨v, rfl, rv⟩ := rs.one
    obtain ⟨r1, a, vs, rfl, h1, h2⟩ := rv.tup
    cases hf
    exact call_list_of pins s σ H _ us Q I r ⟨a, vs, rfl, .inr (hK ▸ h1), fun p hp => q.lst hS hp h2⟩
  · cases hf

/-! ### items, slices -/
/-- x[y], x a value or an object of the store -/
def ixS (S : Sto) (x y : D) : Option D := match x with
  | .ref n => match S[n]? with
    | some (.lst l) => ixF (.lst l) y
    | _ => none
  | _ => ixF x y
def rIxD (G : Gx) : R2 := fun x y H Q => ∃ w S a b d, RSt G w S H ∧ RO G.K w H x a ∧ RO G.K w H y b ∧ ixS S a b = some d ∧ An G w S H d Q
theorem ixF_int {a b d : D} (h : ixF a b = some d) : ∃ i, b = .int i := by
  cases b <;> cases a <;> simp [ixF] at h
  all_goals exact ⟨_, rfl⟩
theorem ix_ok {G : Gx} (hK : G.K = X.K) : IxR X (rIxD G) := by
  intro value slice pins s σ H x y v u Q I rx ry h hsub
  obtain ⟨w, S, a, b, d, hS, ra, rb, hf, q⟩ := h
  refine ix_seq value slice pins s σ H x y v u Q I rx ry ?_ hsub
  cases a with
  | ref n =>
    simp only [ixS] at hf
    split at hf
    · rename_i l e
      obtain ⟨i, rfl⟩ := ixF_int hf
      obtain rfl := rb.int
      obtain ⟨p, e1, rfl⟩ := ra.refn
      obtain ⟨p', e2, vs, e3, e4⟩ := hS.ob n _ e
      rw [e1] at e2
      cases e2
      obtain ⟨v', h1, h2⟩ := RVs.atI e4 (by simpa only [ixF] using hf)
      exact .inl ⟨p, vs, i, v', rfl, rfl, .inl (.inl e3), h1, q.here hS h2⟩
    · cases hf
  | lst l =>
    simp only [ixS] at hf
    obtain ⟨i, rfl⟩ := ixF_int hf
    obtain rfl := rb.int
    obtain ⟨p, vs, rfl, e3, e4⟩ := ra.lst
    obtain ⟨v', h1, h2⟩ := RVs.atI e4 (by simpa only [ixF] using hf)
    exact .inl ⟨p, vs, i, v', rfl, rfl, .inl e3, h1, q.here hS h2⟩
  | scr l =>
    simp only [ixS] at hf
    obtain ⟨i, rfl⟩ := ixF_int hf
    obtain rfl := rb.int
    obtain ⟨p, vs, rfl, e3, e4⟩ := ra.scr
    obtain ⟨v', h1, h2⟩ := RVs.atI e4 (by simpa only [ixF] using hf)
    exact .inl ⟨p, vs, i, v', rfl, rfl, hK ▸ e3, h1, q.here hS h2⟩
  | tup l =>
    simp only [ixS] at hf
    obtain ⟨i, rfl⟩ := ixF_int hf
    obtain rfl := rb.int
    obtain ⟨_, p, vs, rfl, e3, e4⟩ := ra.tup
    obtain ⟨v', h1, h2⟩ := RVs.atI e4 (by simpa only [ixF] using hf)
    exact .inr (.inl ⟨p, vs, i, v', rfl, rfl, hK ▸ e3, h1, q.here hS h2⟩)
  | str z =>
    simp only [ixS] at hf
    obtain ⟨i, rfl⟩ := ixF_int hf
    obtain rfl := rb.int
    obtain rfl := ra.str
    simp only [ixF] at hf
    split at hf
    · rename_i hz
      cases e : atI z.cps.toList i with
      | none => rw [e] at hf; cases hf
      | some c =>
        rw [e] at hf
        cases hf
        exact .inr (.inr ⟨z, i, c, rfl, rfl, hz, e, q.here hS RV_str⟩)
    · cases hf
  | non => simp [ixS, ixF] at hf
  | bl _ => simp [ixS, ixF] at hf
  | int _ => simp [ixS, ixF] at hf
  | dct _ _ => simp [ixS, ixF] at hf
  | obj _ _ => simp [ixS, ixF] at hf
theorem RVs.cut {K : PySem.W.Frag} {w : Wd} {H : Hp} {ds : List D} {vs : List V} (h : RVs K w H vs ds) (lo hi : Option Int) : RVs K w H (cutV vs lo hi) (cutD ds lo hi) := by
  unfold cutV cutD
  rw [h.length]
  exact (h.drop _).take _
theorem sl_ok {G : Gx} (hK : G.K = X.K) : SlR X (fun x lo hi H Q => ∃ w S a d, RSt G w S H ∧ RO G.K w H x a ∧ slF a lo hi = some d ∧ An G w S H d Q) := by
  intro pins s σ H x v vl vu lo hi sl Q I rx hs pl pu h
  obtain ⟨w, S, a, d, hS, ra, hf, q⟩ := h
  cases a with
  | lst l =>
    simp only [slF] at hf
    cases hf
    obtain ⟨p, vs, rfl, e3, e4⟩ := ra.lst
    exact sl_list pins s σ H _ v vl vu lo hi sl Q I rx hs pl pu ⟨p, vs, rfl, .inl e3, fun p' hp => q.lst hS hp (e4.cut lo hi)⟩
  | scr l =>
    simp only [slF] at hf
    cases hf
    obtain ⟨p, vs, rfl, e3, e4⟩ := ra.scr
    exact sl_list pins s σ H _ v vl vu lo hi sl Q I rx hs pl pu ⟨p, vs, rfl, hK ▸ e3, fun p' hp => q.lst hS hp (e4.cut lo hi)⟩
  | tup l =>
    simp only [slF] at hf
    obtain ⟨_, p, vs, rfl, e3, e4⟩ := ra.tup
    split at hf
    · rename_i hw
      cases hf
      exact sl_tup pins s σ H _ v vl vu lo hi sl Q I rx hs pl pu ⟨p, vs, rfl, hK ▸ e3, by rw [e4.length]; exact hw, fun p' hp => q.tup hS hp (e4.cut lo hi)⟩
    · cases hf
  | non => simp [slF] at hf
  | bl _ => simp [slF] at hf
  | int _ => simp [slF] at hf
  | str _ => simp [slF] at hf
  | ref _ => simp [slF] at hf
  | dct _ _ => simp [slF] at hf
  | obj _ _ => simp [slF] at hf

/-! ### isinstance -/
def tyN : Ty → String
  | .int => "int" | .bool => "bool" | .str => "str" | .tuple => "tuple" | .list => "list" | .dict => "dict"
theorem ty_boot : ∀ t : Ty, bootBuiltins (Str.ofString (tyN t)) = some (.type (tyN t))
  | .int => by decide +kernel
  | .bool => by decide +kernel
  | .str => by decide +kernel
  | .tuple => by decide +kernel
  | .list => by decide +kernel
  | .dict => by decide +kernel
def tyD : D → String
  | .non => "NoneType" | .bl _ => "bool" | .int _ => "int" | .str _ => "str" | .tup _ => "tuple" | .lst _ => "list" | .ref _ => "" | .scr _ => "" | .dct _ _ => "dict" | .obj _ _ => ""
theorem kit_all : ∀ (n : String), n ∈ ["NoneType", "bool", "int", "str", "tuple", "list", "dict"] → ∀ t : Ty, kitB n (tyN t) = some (n == tyN t || (n == "bool" && tyN t == "int")) := by
  intro n hn t
  simp only [List.mem_cons, List.not_mem_nil, or_false] at hn
  rcases hn with rfl | rfl | rfl | rfl | rfl | rfl | rfl <;> cases t <;> decide +kernel
theorem tyX_of {K : PySem.W.Frag} {w : Wd} {H : Hp} {x : V} {d : D} (r : RO K w H x d) (h : (∀ n, d ≠ .ref n) ∧ (∀ l, d ≠ .scr l) ∧ ∀ l m, d ≠ .obj l m) : TyX K H x (.type (tyD d)) := by
  cases d with
  | non => obtain rfl := r.non; exact .base .non
  | bl _ => obtain rfl := r.bl; exact .base (.bl _)
  | int _ => obtain rfl := r.int; exact .base (.int _)
  | str _ => obtain rfl := r.str; exact .base (.str _)
  | tup l =>
    obtain ⟨r1, _⟩ := r.tup
    simp only [RV] at r1
    obtain ⟨a, vs, rfl, h2, _⟩ := r1
    rcases h2 with ⟨_, h2 | ⟨o, h2⟩⟩ | ⟨o, its, n, h1, h2, _⟩
    · exact .base (.tup h2)
    · exact .fTuple h2
    · exact .kTuple h1 h2
  | lst l =>
    obtain ⟨a, vs, rfl, h2, _⟩ := r.lst
    rcases h2 with h2 | ⟨o, h2⟩
    · exact .base (.lst h2)
    · exact .base (.frz h2)
  | ref n => exact absurd rfl (h.1 n)
  | scr n => exact absurd rfl (h.2.1 n)
  | obj l m => exact absurd rfl (h.2.2 l m)
  | dct ks ds =>
    obtain ⟨a, kvs, rfl, h2, _⟩ := r.dct
    rcases h2 with h2 | ⟨o, h2⟩
    · exact .base (.dK h2)
    · exact .fDict h2
theorem kindIs_kit {d : D} {t : Ty} {k : Bool} (h : kindIs d t = some k) : ((∀ n, d ≠ .ref n) ∧ (∀ l, d ≠ .scr l) ∧ ∀ l m, d ≠ .obj l m) ∧ kitB (tyD d) (tyN t) = some k := by
  cases d with
  | ref n => cases t <;> simp [kindIs] at h
  | scr n => cases t <;> simp [kindIs] at h
  | non => refine ⟨⟨(fun n z => nomatch z), (fun n z => nomatch z), (fun n m z => nomatch z)⟩, ?_⟩; rw [kit_all _ (by simp [tyD])]; rw [← h]; cases t <;> decide +kernel
  | bl b => refine ⟨⟨(fun n z => nomatch z), (fun n z => nomatch z), (fun n m z => nomatch z)⟩, ?_⟩; rw [kit_all _ (by simp [tyD])]; rw [← h]; cases t <;> simp only [kindIs, tyD] <;> decide +kernel
  | int b => refine ⟨⟨(fun n z => nomatch z), (fun n z => nomatch z), (fun n m z => nomatch z)⟩, ?_⟩; rw [kit_all _ (by simp [tyD])]; rw [← h]; cases t <;> simp only [kindIs, tyD] <;> decide +kernel
  | str b => refine ⟨⟨(fun n z => nomatch z), (fun n z => nomatch z), (fun n m z => nomatch z)⟩, ?_⟩; rw [kit_all _ (by simp [tyD])]; rw [← h]; cases t <;> simp only [kindIs, tyD] <;> decide +kernel
  | tup b => refine ⟨⟨(fun n z => nomatch z), (fun n z => nomatch z), (fun n m z => nomatch z)⟩, ?_⟩; rw [kit_all _ (by simp [tyD])]; rw [← h]; cases t <;> simp only [kindIs, tyD] <;> decide +kernel
  | obj n m => cases t <;> simp [kindIs] at h
  | dct b c => refine ⟨⟨(fun n z => nomatch z), (fun n z => nomatch z), (fun n m z => nomatch z)⟩, ?_⟩; rw [kit_all _ (by simp [tyD])]; rw [← h]; cases t <;> simp only [kindIs, tyD] <;> decide +kernel
  | lst b => refine ⟨⟨(fun n z => nomatch z), (fun n z => nomatch z), (fun n m z => nomatch z)⟩, ?_⟩; rw [kit_all _ (by simp [tyD])]; rw [← h]; cases t <;> simp only [kindIs, tyD] <;> decide +kernel
theorem isi_ok {G : Gx} (hK : G.K = X.K) (t : Ty) : CallR X (.builtin "isinstance") (fun vs H Q => ∃ w S x a k, vs = [x, .ty (tyN t)] ∧ RSt G w S H ∧ RO G.K w H x a ∧ kindIs a t = some k ∧ Q (.bl k) H) := by
  intro pins s σ H xs us Q I r h
  obtain ⟨w, S, x, a, k, rfl, hS, ra, hk, q⟩ := h
  obtain ⟨h1, h2⟩ := kindIs_kit hk
  exact call_isi pins s σ H _ us Q I r ⟨x, _, _, _, k, rfl, .ty _, tyX_of (hK ▸ ra) h1, kit_ty h2, q⟩
end
end BX
set_option Elab.async false
set_option linter.all false
set_option maxRecDepth 100000
set_option maxHeartbeats 2000000
/-! BX3c: rules that the layer lacks: first, *rest = x; list(reversed(x)); a op b op c op d as a test. -/
namespace BX
open PySem L2 PyProof.Rows
section
variable {prog : Program} {w : World} {A : Around} {E : Value → Shared → Prop} {s : Shared}
/-- a walk begun further on -/
theorem walk_from {wd : World} {pr : Program} {Ar : Around} {I : Addr} {fp wr : List Addr} {Gp : Array GenState → Array GenState → Prop} {n j : Nat} {P : Nat → Value → Prop} {St : Nat → Shared → Prop} (W : WalksS pr wd Ar I fp wr Gp n P St) (hj : j ≤ n) :
    WalksS pr wd Ar I fp wr Gp (n - j) (fun i => P (i + j)) (fun i => St (i + j)) where
  sub := W.sub
  grefl := W.grefl
  gtrans := W.gtrans
  frame := fun i => W.frame (i + j)
  item := fun i t Q E' hi st hQ => W.item (i + j) t Q E' (by omega) st fun v t' p st' m => hQ v t' p (by rw [show i + 1 + j = i + j + 1 by omega]; exact st') m
  done := fun t Q E' st hQ => W.done t Q E' (by rw [show n - j + j = n by omega] at st; exact st) hQ
  self := fun i => W.self (i + j)
theorem items_tail {items acc : Array Value} {j : Nat} (hj : j ≤ items.size) (h : ItemsOf (fun i v => items[i + j]? = some v) acc (items.size - j)) : acc.toList = items.toList.drop j := by
  apply List.ext_getElem?
  intro m
  have hs : acc.toList.length = items.size - j := by rw [Array.length_toList]; exact h.1
  by_cases hm : m < items.size - j
  · have e1 : acc.toList[m]? = some acc.toList[m] := List.getElem?_eq_getElem (by omega)
    have e2 := h.2 m _ (by rw [← Array.getElem?_toList]; exact e1)
    rw [e1, List.getElem?_drop, ← e2, Array.getElem?_toList, Nat.add_comm]
  · rw [List.getElem?_eq_none (by omega), List.getElem?_eq_none (by rw [List.length_drop, Array.length_toList]; omega)]
theorem collect_li {it l : Addr} {items : Array Value} {j : Nat} {Q : List Value → Shared → Prop} (hh : A.handled = none) (hit : s.heap.IsListIter it l j) (hl : s.heap.IsList l items) (hne : l ≠ it) (hj : j ≤ items.size) (hz : items.size ≤ sizeLine)
    (hQ : ∀ (h' : Heap) (tk : Nat), (∀ b o, b ≠ it → s.heap.get? b = some o → h'.get? b = some o) → Q (items.toList.drop j) { s with heap := h', toks := tk }) : wpAny (model prog w) A (collect (.ref it)) Q E s := by
  have W := walk_from (j := j) (Walks.list (prog := prog) (w := w) (A := A.in1) hh it l hne items).toS hj
  obtain ⟨oi, hoi, _⟩ := id hit
  obtain ⟨ol, hol, _⟩ := id hl
  refine wpAny_collect_iter (.inr (.inr (.inl rfl))) W (fun i t st => Heap.IsListIter.typeIs st.1) ⟨by rw [Nat.zero_add]; exact hit, hl⟩ (fun b hb => ?_) (by simp) (fun s' acc hm ha => ?_) (by omega)
  · simp only [List.mem_cons, List.not_mem_nil, or_false] at hb
    rcases hb with rfl | rfl
    · exact Heap.lt_size hoi
    · exact Heap.lt_size hol
  · rw [items_tail hj ha, Moved.eq_with hm]
    exact hQ _ _ fun b o hb e => hm.heap b o (fun z => hb (List.mem_singleton.mp z)) e
theorem collect_ti {it l : Addr} {items : Array Value} {j : Nat} {Q : List Value → Shared → Prop} (hh : A.handled = none) (hit : IsTupIter s.heap it l j) (hl : IsTup s.heap l items) (hne : l ≠ it) (hj : j ≤ items.size) (hz : items.size ≤ sizeLine)
    (hQ : ∀ (h' : Heap) (tk : Nat), (∀ b o, b ≠ it → s.heap.get? b = some o → h'.get? b = some o) → Q (items.toList.drop j) { s with heap := h', toks := tk }) : wpAny (model prog w) A (collect (.ref it)) Q E s := by
  have W := walk_from (j := j) (Walks.tuple (prog := prog) (w := w) (A := A.in1) hh it l hne items).toS hj
  obtain ⟨oi, hoi, hoc, _⟩ := id hit
  obtain ⟨ol, hol, _⟩ := id hl
  refine wpAny_collect_iter (.inr (.inr (.inr rfl))) W (fun i t st => ?_) ⟨by rw [Nat.zero_add]; exact hit, hl⟩ (fun b hb => ?_) (by simp) (fun s' acc hm ha => ?_) (by omega)
  · obtain ⟨o, e1, e2, _⟩ := st.1
    exact ⟨o, e1, e2⟩
  · simp only [List.mem_cons, List.not_mem_nil, or_false] at hb
    rcases hb with rfl | rfl
    · exact Heap.lt_size hoi
    · exact Heap.lt_size hol
  · rw [items_tail hj ha, Moved.eq_with hm]
    exact hQ _ _ fun b o hb e => hm.heap b o (fun z => hb (List.mem_singleton.mp z)) e
/-- x, *xs of a list -/
theorem star_list {l : Addr} {x : Value} {xs : List Value} {Q : List Value → Shared → Prop} (hh : A.handled = none) (hl : s.heap.IsList l (x :: xs).toArray) (hz : xs.length < sizeLine)
    (hQ : ∀ (h' : Heap) (tk : Nat), (∀ b o, s.heap.get? b = some o → h'.get? b = some o) → Q [x, .ref h'.objs.size] { s with heap := h'.push { cls := .type "list", data := .seq xs.toArray }, toks := tk }) :
    wpAny (model prog w) A (unpackItems (.ref l) 2 (some 1)) Q E s := by
  have hlt : l ≠ s.heap.objs.size := by obtain ⟨o, ho, _⟩ := hl; exact Nat.ne_of_lt (Heap.lt_size ho)
  unfold unpackItems
  refine wpAny_bind ?_
  unfold notIterableAtAll
  refine wpAny_bind (wpAny_specialOf hl.typeIs slot_list_iter.lookup ?_)
  refine wpAny_pure ?_
  simp only [Bool.false_eq_true, if_false]
  refine wpAny_bind (wpAny_holding (wpAny_pyIter_list hl ?_))
  refine wpAny_bind (wpAny_holding (PySem.W.kun_draw hlt 1 0 _ _ ⟨_, Heap.get?_push_size _ rfl, rfl, rfl⟩ (hl.push _) (by simp) fun h1 it1 sb => ?_))
  have l1 : h1.IsList l (x :: xs).toArray := (hl.push _).extBut sb.extBut hlt
  simp only [List.drop_zero, List.take_succ_cons, List.take_zero, List.length_cons, List.length_nil]
  rw [if_neg (by omega)]
  refine wpAny_bind (wpAny_holding (collect_li (s := { s with heap := h1 }) (j := 1) hh it1 l1 hlt (by simp) (by simp; omega) fun h2 tk k2 => ?_))
  simp only [List.drop_succ_cons, List.drop_zero]
  rw [if_neg (by omega)]
  refine wpAny_bind ?_
  refine wpAny_newList (wpAny_pure ?_) (by simp; omega)
  simp only [Nat.sub_self, Nat.sub_zero, List.take_length, List.drop_length, List.append_nil, List.cons_append, List.nil_append]
  exact hQ h2 tk fun b o e => k2 b o (Nat.ne_of_lt (Heap.lt_size e)) (sb.extBut b o (Nat.ne_of_lt (Heap.lt_size e)) (Heap.get?_push_of_some _ e))
/-- x, *xs of a tuple -/
theorem star_tup {l : Addr} {x : Value} {xs : List Value} {Q : List Value → Shared → Prop} (hh : A.handled = none) (hl : IsTup s.heap l (x :: xs).toArray) (hz : xs.length < sizeLine)
    (hQ : ∀ (h' : Heap) (tk : Nat), (∀ b o, s.heap.get? b = some o → h'.get? b = some o) → Q [x, .ref h'.objs.size] { s with heap := h'.push { cls := .type "list", data := .seq xs.toArray }, toks := tk }) :
    wpAny (model prog w) A (unpackItems (.ref l) 2 (some 1)) Q E s := by
  have hlt : l ≠ s.heap.objs.size := by obtain ⟨o, ho, _⟩ := hl; exact Nat.ne_of_lt (Heap.lt_size ho)
  unfold unpackItems
  refine wpAny_bind ?_
  unfold notIterableAtAll
  refine wpAny_bind (wpAny_specialOf hl.typeIs slot_tuple_iter.lookup ?_)
  refine wpAny_pure ?_
  simp only [Bool.false_eq_true, if_false]
  refine wpAny_bind (wpAny_holding (iter_tuple hl ?_))
  refine wpAny_bind (wpAny_holding (draw_tuple hlt 1 0 _ _ ⟨_, Heap.get?_push_size _ rfl, rfl, rfl⟩ (hl.push _) (by simp) fun h1 it1 sb => ?_))
  have l1 : IsTup h1 l (x :: xs).toArray := (hl.push _).extBut sb.extBut hlt
  simp only [List.drop_zero, List.take_succ_cons, List.take_zero, List.length_cons, List.length_nil]
  rw [if_neg (by omega)]
  refine wpAny_bind (wpAny_holding (collect_ti (s := { s with heap := h1 }) (j := 1) hh it1 l1 hlt (by simp) (by simp; omega) fun h2 tk k2 => ?_))
  simp only [List.drop_succ_cons, List.drop_zero]
  rw [if_neg (by omega)]
  refine wpAny_bind ?_
  refine wpAny_newList (wpAny_pure ?_) (by simp; omega)
  simp only [Nat.sub_self, Nat.sub_zero, List.take_length, List.drop_length, List.append_nil, List.cons_append, List.nil_append]
  exact hQ h2 tk fun b o e => k2 b o (Nat.ne_of_lt (Heap.lt_size e)) (sb.extBut b o (Nat.ne_of_lt (Heap.lt_size e)) (Heap.get?_push_of_some _ e))
end
section
variable {X : Cx} {pos p1 p2 sp : Pos}
/-- x, *y = a list or a tuple -/
def gStar (K : PySem.W.Frag) (i j : Nat) : TG := fun v σ H Q => ∃ a x xs, v = .ref a ∧ (SqL K H a (x :: xs) ∨ SqT K H a (x :: xs)) ∧ xs.length < sizeLine ∧ ∀ q, H q = none → Q ((σ.set i (some x)).set j (some (.ref q))) (upd H q (.lst xs))
theorem pg_star {i j k : Nat} {x y : Str} (hc : X.calm = true) (hN : X.N.Nodup) (hi : X.N[i]? = some x) (hj : X.N[j]? = some y) (hx : Loc X.env.scope x) (hy : Loc X.env.scope y)
    (hf : X.fn x = true ∨ X.env.scope.names.lookup x = some .local) (hf2 : X.fn y = true ∨ X.env.scope.names.lookup y = some .local) : PG X (.Tuple [.Name x p1, .Starred (.Name y p2) sp] k pos) (gStar X.K i j) := by
  refine ⟨fun pins s σ H v u Q I r hw => ?_⟩
  obtain ⟨a, z, zs, rfl, hq, hz, hw⟩ := hw
  obtain rfl : u = Value.ref a := r
  rw [PyProof.Rows.assign_Tuple]
  refine wpAny_bind (wpAny_standAt ?_)
  show wpAny _ _ (unpack (.ref a) [(false, assign (.Name x p1) X.env), (true, assign (.Name y p2) X.env)]) _ _ s
  unfold unpack
  have key : ∀ (zv : Value) (zvs : List Value) (h' : Heap) (tk : Nat), RelV z zv → Vals zs zvs → (∀ b o, s.heap.get? b = some o → h'.get? b = some o) →
      wpAny (model X.prog X.w) X.A (assignInOrder ([(false, assign (.Name x p1) X.env), (true, assign (.Name y p2) X.env)].map (·.2)) [zv, .ref h'.objs.size]) (fun _ s' => ∃ σ' H', Inv X pins σ' H' s' ∧ Q σ' H') X.xe { s with heap := h'.push { cls := .type "list", data := .seq zvs.toArray }, toks := tk } := by
    intro zv zvs h' tk rz rzs hk
    have I1 : Inv X pins σ H { s with heap := h', toks := tk } := I.kept hk
    have hfr : H h'.objs.size = none := I1.hok.fresh (Nat.le_refl _)
    have I2 : Inv X pins σ (upd H h'.objs.size (.lst zs)) { s with heap := h'.push { cls := .type "list", data := .seq zvs.toArray }, toks := tk } := I1.laid (t' := tk) (fun b o e => Heap.get?_push_of_some _ e) (Nat.le_refl _)
      (show ObjOk X.prog X.w _ _ _ (.lst zs) from ⟨by omega, zvs, 0, rzs, Heap.get?_push_size _ rfl⟩)
    have g1 := pg_name (pos := p1) hN hi hx hf
    have g2 := pg_name (pos := p2) hN hj hy hf2
    refine assignInOrder_cons (thn (g1.run pins _ σ _ z zv (fun σ' H' => σ' = σ.set i (some z) ∧ H' = upd H h'.objs.size (.lst zs)) I2 rz ⟨rfl, rfl⟩) fun _ s2 q2 => ?_)
    obtain ⟨σ2, H2, I3, rfl, rfl⟩ := q2
    refine assignInOrder_cons (thn (g2.run pins s2 _ _ (.ref h'.objs.size) (.ref h'.objs.size) (fun σ' H' => σ' = (σ.set i (some z)).set j (some (.ref h'.objs.size)) ∧ H' = upd H h'.objs.size (.lst zs)) I3 rfl ⟨rfl, rfl⟩) fun _ s3 q3 => ?_)
    obtain ⟨σ3, H3, I4, rfl, rfl⟩ := q3
    exact assignInOrder_nil ⟨_, _, I4, hw _ hfr⟩
  show wpAny _ _ (holding [Value.ref a] (unpackItems (.ref a) 2 (some 1)) >>= _) _ _ s
  rcases hq with hq | hq
  · obtain ⟨its, rv, pl, _⟩ := I.list hq
    cases rv with
    | cons rz rzs =>
      refine wpAny_bind (wpAny_holding (star_list (I.ok.hd hc) pl.isList (by rw [← rzs.length]; exact hz) fun h' tk hk => key _ _ h' tk rz rzs hk))
  · obtain ⟨its, rv, pl, _⟩ := I.tuple hq
    cases rv with
    | cons rz rzs =>
      refine wpAny_bind (wpAny_holding (star_tup (I.ok.hd hc) pl (by rw [← rzs.length]; exact hz) fun h' tk hk => key _ _ h' tk rz rzs hk))
end
/-! list(reversed(list)) -/
section
variable {prog : Program} {w : World} {A : Around} {E : Value → Shared → Prop} {s : Shared}
theorem ext_rev {R : Result → Shared → Prop} {it l : Addr} {items : Array Value} (hh : A.handled = none) (hit : s.heap.IsRevIter it l ((items.size : Int) - 1)) (hl : s.heap.IsList l items) (hne : l ≠ it) (hn : items.size ≤ sizeLine) (D : Addr) (res : Value) (c0 : Nat)
    (hD : s.heap.get? D = some { cls := .type "list", data := .seq #[] c0 }) (hDi : D ≠ it) (hDl : D ≠ l)
    (hR : ∀ (h' : Heap) (tk : Nat) (acc : Array Value) (c' : Nat), (∀ b o, b ≠ D → b ≠ it → s.heap.get? b = some o → h'.get? b = some o) → h'.get? D = some { cls := .type "list", dict := none, data := .seq acc c', slots := #[] } →
      ItemsOf (fun i v => items[items.size - 1 - i]? = some v) acc items.size → R (.ok (.ret res)) { s with heap := h', toks := tk }) :
    wpAny (model prog w) A.in1 (Builtin.List.listExtendWith (.ref D) (.ref it) res)
      (fun fin s' => match fin with | .done f => R (.ok f) s' | .again c' => c'.quiet = true ∧ codeAny (model prog w) A c' R s') (fun e s' => R (.error e) s') s := by
  have W := (Walks.listRev (prog := prog) (w := w) (A := A.in1) hh it l hne items).toS
  have hT : s.TypeIs (.ref it) "list_reverseiterator" := hit.typeIs
  have hDf : D ∉ [it, l] := by simp only [List.mem_cons, List.not_mem_nil, or_false, not_or]; exact ⟨hDi, hDl⟩
  have n1 : Builtin.List.listSameRef (.ref D) (.ref it) = false := by simp [Builtin.List.listSameRef, hDi]
  unfold Builtin.List.listExtendWith
  refine wpAny_bind (wpAny_typeOf hT ?_)
  rw [if_neg (by rw [n1]; decide)]
  refine wpAny_bind (wpAny_pyIter_revIter hit ?_)
  refine wpAny_bind (wpAny_holding ?_)
  unfold Builtin.List.listLengthHint
  refine wpAny_bind (wpAny_specialOf hT RT.nolen_lri ?_)
  show wpAny _ A.in1 (specialOf (Value.ref it) (Str.ofString "__length_hint__") >>= _) _ _ _
  refine wpAny_bind (wpAny_specialOf hT RT.hint_lri ?_)
  generalize hid : ("list_reverseiterator.__length_hint__" : String) = idr
  wp_delta
  rw [show splitId idr = some ("list_reverseiterator", "__length_hint__") from by subst hid; decide +kernel]
  subst hid
  refine wpAny_bind (wpAny_isInstance (b := true) hT (by rw [isSubtype_type]; kernel_rfl) ?_)
  refine wpAny_pure ?_
  rw [if_neg (by decide)]
  have z0 : ((items.size : Nat) : Int) - 1 - ((0 : Nat) : Int) = (items.size : Int) - 1 := by omega
  refine wpAny_pure ⟨plainId_quiet F.plain_extend_loop _, codeAny_extend_loopS W hn D hDf res items.size 0 _ _ c0 rfl (Nat.zero_le _) ⟨Nat.zero_le _, by rw [z0]; exact hit, hl⟩ hD (ItemsOf.nil _) fun s' acc c' hm hD' ha => ?_⟩
  rw [Moved.eq_with hm]
  refine hR _ _ acc c' (fun b o hb hbi e => hm.heap b o (fun z => ?_) e) hD' ha
  rcases List.mem_cons.mp z with z | z
  · exact hb z
  · exact hbi (List.mem_singleton.mp z)
theorem call_list_rev {it l : Addr} {items : Array Value} {Q : Value → Shared → Prop} (hh : A.handled = none) (hit : s.heap.IsRevIter it l ((items.size : Int) - 1)) (hl : s.heap.IsList l items) (hne : l ≠ it) (hn : items.size ≤ sizeLine)
    (hQ : ∀ (h' : Heap) (tk : Nat) (acc : Array Value) (c' : Nat), (∀ b o, b ≠ it → s.heap.get? b = some o → h'.get? b = some o) → h'.get? s.heap.objs.size = some { cls := .type "list", dict := none, data := .seq acc c', slots := #[] } →
      ItemsOf (fun i v => items[items.size - 1 - i]? = some v) acc items.size → Q (.ref s.heap.objs.size) { s with heap := h', toks := tk }) :
    wpAny (model prog w) A (call (.type "list") [.ref it]) Q E s := by
  obtain ⟨oi, hoi, _⟩ := id hit
  obtain ⟨ol, hol, _⟩ := id hl
  refine callType_codes (Q₁ := fun obj s1 => obj = .ref s.heap.objs.size ∧ s1 = { s with heap := s.heap.push { cls := .type "list", data := .seq #[] } }) F.called_list (F.typeCall_list_1 _) F.entry_list_init (code_list_new _ ⟨rfl, rfl⟩) fun obj s1 q1 => ?_
  obtain ⟨rfl, rfl⟩ := q1
  have hS : (s.heap.push { cls := .type "list", data := .seq #[] }).get? s.heap.objs.size = some { cls := .type "list", data := .seq #[] } := Heap.get?_push_size _ rfl
  refine ⟨⟨_, hS, rfl⟩, F.args_list_init_2 _ _, ?_⟩
  show wpAny _ _ (do let old ← Builtin.List.listItems (.ref s.heap.objs.size); Builtin.List.listUpdate (.ref s.heap.objs.size) (fun _ => #[]); letGo old.toList.reverse; Builtin.List.listExtendWith (.ref s.heap.objs.size) (.ref it) .none) _ _ _
  refine wpAny_bind ?_
  unfold Builtin.List.listItems
  refine wpAny_bind (wpAny_seqItems hS rfl (wpAny_pure ?_))
  show wpAny _ _ (updateSeq s.heap.objs.size (fun _ => #[]) >>= fun _ => letGo (#[] : Array Value).toList.reverse >>= fun _ => Builtin.List.listExtendWith (.ref s.heap.objs.size) (.ref it) .none) _ _ _
  refine wpAny_bind (wpAny_updateSeq hS rfl ?_)
  have hS2 := Heap.get?_update_self (Obj.mapSeq (fun _ => (#[] : Array Value))) hS rfl
  have oth : ∀ b o, s.heap.get? b = some o → ((s.heap.push { cls := .type "list", data := .seq #[] }).update s.heap.objs.size (Obj.mapSeq (fun _ => (#[] : Array Value)))).get? b = some o :=
    fun b o e => (Heap.get?_update_other _ _ (Ne.symm (Nat.ne_of_lt (Heap.lt_size e)))).trans (Heap.get?_push_of_some _ e)
  refine wpAny_bind (wpAny_letGo ?_)
  refine ext_rev (A := A.in1) hh (hit.at fun o e => oth _ _ e) (hl.at fun o e => oth _ _ e) hne hn _ _ _ hS2 (Nat.ne_of_gt (Heap.lt_size hoi)) (Nat.ne_of_gt (Heap.lt_size hol)) fun h' tk acc c' hk hS' ha => ?_
  exact ⟨rfl, hQ h' tk acc c' (fun b o hb e => hk b o (Nat.ne_of_lt (Heap.lt_size e)) hb (oth b o e)) hS' ha⟩
end
section
variable {X : Cx} {pos p1 p2 pos2 : Pos}
def tLstRev (K : PySem.W.Frag) (te : TE) : TE := fun σ H Q => te σ H fun v H1 => ∃ (a : Addr) (xs : List V), v = .ref a ∧ SqL K H1 a xs ∧ ∀ q, H1 q = none → Q (.ref q) (upd H1 q (.lst xs.reverse))
theorem pe_lstRev {e : Expr} {te : TE} (hc : X.calm = true) (hg : Gl X "list") (hm : X.mg "list" = none) (hg2 : Gl X "reversed") (hm2 : X.mg "reversed" = none) (he : PE X e te) (hs : starEach [e] X.env = (false, eval e X.env) :: starEach [] X.env) :
    PE X (.Call (.Name "list" p1) [.Call (.Name "reversed" p2) [e] [] pos2] [] pos) (tLstRev X.K te) := by
  have hs2 : starEach [.Call (.Name "reversed" p2) [e] [] pos2] X.env = (false, eval (.Call (.Name "reversed" p2) [e] [] pos2) X.env) :: starEach [] X.env := rfl
  refine ⟨fun pins s σ H Q I h => ?_⟩
  refine Call_ (ld_blt I hg hm boot_list (PyProof.Rows.callWith_type1 (args_cons (Call_ (ld_blt I hg2 hm2 PyProof.Rows.boot_reversed (PyProof.Rows.callWith_type1 (args_cons (thn (he.run pins s σ H _ I h) fun u t1 ⟨v, H1, I1, r1, q1⟩ => args_nil ?_) hs) hs rfl))) hs2) hs2 rfl))
  obtain ⟨a, xs, rfl, hq, q⟩ := q1
  obtain rfl : u = Value.ref a := r1
  obtain ⟨its, rv, p', hz⟩ := I1.list hq
  refine call_reversed_list p'.isList (args_nil ?_)
  have I2 : Inv X pins σ H1 { t1 with heap := t1.heap.push (revObj a ((its.toArray.size : Int) - 1)) } := I1.kept (t' := t1.toks) fun b o e => Heap.get?_push_of_some _ e
  obtain ⟨f0, f1, f2, f3, f4, f5⟩ := I1.fpOk (H' := H1) (b := t1.heap.objs.size) (Nat.le_refl _) (I1.hok.fresh (Nat.le_refl _))
  have hl := p'.isList
  obtain ⟨ol, hol, _⟩ := id hl
  have hne : a ≠ t1.heap.objs.size := Nat.ne_of_lt (Heap.lt_size hol)
  have hn : its.toArray.size ≤ sizeLine := by rw [List.size_toArray, ← rv.length]; exact hz
  refine call_list_rev (s := { t1 with heap := t1.heap.push (revObj a ((its.toArray.size : Int) - 1)) }) (I1.ok.hd hc) ⟨_, Heap.get?_push_size _ rfl, rfl, rfl⟩ (hl.push _) hne hn fun h' tk acc c' hk hS ha => ?_
  refine ⟨.ref _, upd H1 _ (.lst xs.reverse), I2.turnedNew (t' := tk) (ch := [t1.heap.objs.size]) (fun b o hb e => hk b o (fun z => hb (by simp [z])) e) (fun b hb => ?_) (Nat.le_refl _) ⟨by rw [List.length_reverse]; exact hz, acc.toList, c', RT.vals_rev rv ha, ?_⟩, rfl, q _ (I2.hok.fresh (Nat.le_refl _))⟩
  · obtain rfl := List.mem_singleton.mp hb
    exact I1.fpOk (H' := H1) (Nat.le_refl _) (I1.hok.fresh (Nat.le_refl _))
  · rw [Array.toArray_toList]; exact hS
end
/-! sorted -/
theorem sortI_perm (ns : List Int) : (sortI ns).Perm ns := List.mergeSort_perm ..
theorem sortI_le (ns : List Int) : (sortI ns).Pairwise (· ≤ ·) := by
  have := List.pairwise_mergeSort (le := fun a b : Int => decide (a ≤ b)) (fun a b c h1 h2 => by simp only [decide_eq_true_eq] at h1 h2 ⊢; omega) (fun a b => by simp only [Bool.or_eq_true, decide_eq_true_eq]; omega) ns
  exact this.imp fun h => by simpa using h
theorem sortI_eq {ns ns' : List Int} (hp : ns'.Perm ns) (hs : ns'.Pairwise (· ≤ ·)) : ns' = sortI ns :=
  List.Perm.eq_of_pairwise (le := fun a b : Int => a ≤ b) (fun a b _ _ h1 h2 => Int.le_antisymm h1 h2) hs (sortI_le ns) (hp.trans (sortI_perm ns).symm)
/-! l[i] of a list, for l[i] op= e -/
section
variable {X : Cx}
theorem get_lst : PGet X (rIxL X.K) := by
  intro pins s σ H x y v u Q I rx ry h
  obtain ⟨p, xs, i, z, rfl, rfl, hq, he, q⟩ := h
  cases rx
  obtain ⟨t, rfl⟩ := ry
  obtain ⟨its, r, pl, hz⟩ := I.list hq
  obtain ⟨j, h1, h2, h3, h4, h5⟩ := atI_get he
  obtain ⟨u, ew, rw'⟩ := r.get h2
  have hl := r.length
  have hn := line63
  have fin : EP X pins σ Q u s := ⟨z, H, I, rw', q⟩
  by_cases h0 : 0 ≤ i
  · have hj : i.toNat = j := by
      rw [seqIndex_of h0 h5] at h1
      exact Option.some.inj h1
    exact wpAny_getItem_list pl.isList h0 (by omega) (by rw [hj]; simpa using ew) fin
  · have hj : (i + (its.toArray.size : Int)).toNat = j := by
      rw [seqIndex_neg (by omega) h4] at h1
      rw [List.size_toArray, ← hl]
      exact Option.some.inj h1
    exact wpAny_getItem_list_neg pl.isList (by omega) (by rw [List.size_toArray] <;> omega) (by omega) (by rw [hj]; simpa using ew) fin
end
/-! a op b op c op d as a test -/
section
variable {X : Cx} {a b c d : Expr} {ta tb tc td : TE} {pos : Pos}
def tChain3 (r r' r2 : R2) (ta tb tc td : TE) : TT := fun σ H Q => ta σ H fun x H1 => tb σ H1 fun y H2 => r x y H2 fun z H3 => ∃ k, z = .bl k ∧
  (if k = true then tc σ H3 fun x3 H4 => r' y x3 H4 fun z2 H5 => ∃ k2, z2 = .bl k2 ∧ (if k2 = true then td σ H5 fun x4 H6 => r2 x3 x4 H6 fun z3 H7 => ∃ k3, z3 = .bl k3 ∧ Q k3 H7 else Q false H5) else Q false H3)
theorem pt_chain3 {o o' o2 : CmpOp} {r r' r2 : R2} (ho : OpR X (compareOp o) r) (ho' : OpR X (compareOp o') r') (ho2 : OpR X (compareOp o2) r2) (ha : PE X a ta) (hb : PE X b tb) (hc : PE X c tc) (hd : PE X d td)
    (hm : lastMarks [o, o', o2] [b, c, d] = false) : PT X (.Compare a [o, o', o2] [b, c, d] pos) (tChain3 r r' r2 ta tb tc td) := by
  refine ⟨fun pins s σ H Q I h => ?_⟩
  refine isTrue_chain (thn (ha.run pins s σ H _ I h) fun v s1 ⟨x, H1, I1, r1, q1⟩ => test_link (thn (hb.run pins s1 σ H1 _ I1 q1) fun u s2 ⟨y, H2, I2, rr2, q2⟩ =>
    thn (ho pins s2 σ H2 x y v u _ I2 r1 rr2 q2) fun d1 s3 ⟨z, H3, I3, r3, k, e, q3⟩ => ?_)) hm
  subst e
  cases r3
  refine wpAny_truthy_bool ?_
  cases k with
  | false => exact ite_ff ⟨H3, I3, q3⟩
  | true =>
    refine ite_tt (test_link (thn (hc.run pins s3 σ H3 _ I3 q3) fun w3 s4 ⟨x3, H4, I4, r4, q4⟩ => thn (ho' pins s4 σ H4 y x3 u w3 _ I4 rr2 r4 q4) fun d2 s5 ⟨z2, H5, I5, r5, k2, e2, q5⟩ => ?_))
    subst e2
    cases r5
    refine wpAny_truthy_bool ?_
    cases k2 with
    | false => exact ite_ff ⟨H5, I5, q5⟩
    | true =>
      refine ite_tt (test_last (thn (hd.run pins s5 σ H5 _ I5 q5) fun w4 s6 ⟨x4, H6, I6, r6, q6⟩ => thn (ho2 pins s6 σ H6 x3 x4 w3 w4 _ I6 r4 r6 q6) fun d3 s7 ⟨z3, H7, I7, r7, k3, e3, q7⟩ => ?_))
      subst e3
      cases r7
      exact wpAny_truthy_bool ⟨H7, I7, q7⟩
end
end BX
set_option Elab.async false
set_option linter.all false
set_option maxRecDepth 100000
set_option maxHeartbeats 2000000
/-! BX3d: dicts, fields, sorted texts: what the primitives ask. -/
namespace BX
open PySem L2 PyProof.Rows

section
variable {K : PySem.W.Frag} {G : Gx} {w : Wd} {S : Sto} {H : Hp} {v : V} {d : D}
/-- what a looked-at value is, seen through the store -/
theorem dr_dct (hS : RSt G w S H) (r : RO G.K w H v d) {ks : List Key} {ds : List D} (e : dr S d = .dct ks ds) : ∃ a kvs, v = .ref a ∧ Rd H a (.dK kvs) ∧ kvs.map (·.1) = ks ∧ RVs G.K w H (kvs.map (·.2)) ds := by
  cases d <;> simp only [dr] at e <;> try cases e
  case ref n =>
    split at e
    · cases e
    · rename_i ks' vs' h
      cases e
      obtain ⟨a, e1, rfl⟩ := r.refn
      obtain ⟨a', e2, kvs, h1, h2, h3⟩ := hS.ob n _ h
      rw [e1] at e2
      cases e2
      exact ⟨a, kvs, rfl, .inl h1, h2, h3⟩
    · cases e
  case dct => exact r.dct
theorem dr_lst (hS : RSt G w S H) (r : RO G.K w H v d) {l : List D} (e : dr S d = .lst l) : ∃ a vs, v = .ref a ∧ Rd H a (.lst vs) ∧ RVs G.K w H vs l := by
  cases d <;> simp only [dr] at e <;> try cases e
  case ref n =>
    split at e
    · rename_i l' h
      cases e
      obtain ⟨a, e1, rfl⟩ := r.refn
      obtain ⟨a', e2, vs, h1, h2⟩ := hS.ob n _ h
      rw [e1] at e2
      cases e2
      exact ⟨a, vs, rfl, .inl h1, h2⟩
    · cases e
    · cases e
  case lst => exact r.lst
theorem key_of (r : RO K w H v d) {k : Key} (e : keyD d = some k) : v = kV k := by
  cases d <;> simp only [keyD] at e <;> cases e
  · exact r.int
  · exact r.str
theorem keyD_rv (k : Key) : RV K w H (kV k) (dOfKey k) := by
  cases k <;> simp [kV, dOfKey, RV]
theorem keys_rvs : ∀ (ks : List Key), RVs K w H (ks.map kV) (keysL ks)
  | [] => by simp [keysL, RVs]
  | k :: ks => by simp only [keysL, List.map_cons, RVs]; exact ⟨_, _, rfl, keyD_rv k, keys_rvs ks⟩
theorem getK_nil (k : Key) (ds : List D) : getK [] ds k = none := rfl
theorem getK_cons (j : Key) (ks : List Key) (x : D) (ds : List D) (k : Key) : getK (j :: ks) (x :: ds) k = if j = k then some x else getK ks ds k := by
  unfold getK
  simp only [List.zip_cons_cons, List.find?_cons]
  by_cases h : j = k <;> simp [h]
theorem getK_rel : ∀ {kvs : List (Key × V)} {ks : List Key} {ds : List D}, kvs.map (·.1) = ks → RVs K w H (kvs.map (·.2)) ds → ∀ k, (getK ks ds k = none ∧ valV kvs k = none) ∨ ∃ x u, getK ks ds k = some x ∧ valV kvs k = some u ∧ RV K w H u x
  | [], ks, ds, hk, hr, k => by
    subst hk
    exact .inl ⟨rfl, rfl⟩
  | (j, u) :: kvs, ks, ds, hk, hr, k => by
    subst hk
    cases ds with
    | nil => simp only [List.map_cons, RVs] at hr; cases hr
    | cons x ds =>
      simp only [List.map_cons, RVs] at hr ⊢
      obtain ⟨v, r, e, h1, h2⟩ := hr
      cases e
      rw [getK_cons]
      by_cases h : j = k
      · rw [if_pos h, valV_pos (p := (j, u)) h]
        exact .inr ⟨x, u, rfl, rfl, h1⟩
      · rw [if_neg h, valV_neg (p := (j, u)) h]
        exact getK_rel rfl h2 k
theorem getK_isSome {kvs : List (Key × V)} {ks : List Key} {ds : List D} (hk : kvs.map (·.1) = ks) (hr : RVs K w H (kvs.map (·.2)) ds) (k : Key) : hasK ks ds k = (valV kvs k).isSome := by
  rcases getK_rel hk hr k with ⟨h1, h2⟩ | ⟨x, u, h1, h2, _⟩ <;> simp [hasK, h1, h2]
theorem kvs_len {kvs : List (Key × V)} {ks : List Key} (hk : kvs.map (·.1) = ks) : kvs.length = ks.length := by rw [← hk, List.length_map]
/-- d[k] = v -/
theorem put_rel {kvs : List (Key × V)} {ks : List Key} {ds : List D} (hk : kvs.map (·.1) = ks) (hr : RVs K w H (kvs.map (·.2)) ds) {u : V} {x : D} (hx : RV K w H u x) (k : Key) : (putK kvs k u).map (·.1) = putKs ks k ∧ RVs K w H ((putK kvs k u).map (·.2)) (putVs ks ds k x) := by
  have hany : (kvs.any fun kv => decide (kv.1 = k)) = ks.any fun j => decide (j = k) := by rw [← hk, List.any_map]; rfl
  unfold putK putKs putVs
  rw [hany]
  split
  · refine ⟨?_, ?_⟩
    · rw [← hk, List.map_map]
      apply List.map_congr_left
      intro p _
      show (if p.1 = k then _ else _ : Key × V).1 = p.1
      split <;> rfl
    · clear hany
      rename_i hh
      clear hh
      induction kvs generalizing ks ds with
      | nil => subst hk; simp [RVs]
      | cons p kvs ih =>
        subst hk
        cases ds with
        | nil => simp only [List.map_cons, RVs] at hr; obtain ⟨_, _, h, _⟩ := hr
        | cons y ds =>
          simp only [List.map_cons, RVs, List.zip_cons_cons] at hr ⊢
          obtain ⟨v, r, e, h1, h2⟩ := hr
          cases e
          refine ⟨_, _, rfl, ?_, ih rfl h2⟩
          by_cases hpk : p.1 = k
          · simp only [hpk, if_true]; exact hx
          · simp only [hpk, if_false]; exact h1
  · refine ⟨by simp [hk], ?_⟩
    rw [List.map_append]
    exact hr.append (by simp only [List.map_cons, List.map_nil, RVs]; exact ⟨_, _, rfl, hx, rfl⟩)
theorem drop_rel {kvs : List (Key × V)} {ks : List Key} {ds : List D} (hk : kvs.map (·.1) = ks) (hr : RVs K w H (kvs.map (·.2)) ds) (k : Key) : (dropK kvs k).map (·.1) = dropKs ks k ∧ RVs K w H ((dropK kvs k).map (·.2)) (dropVs ks ds k) := by
  unfold dropK dropKs dropVs
  refine ⟨by rw [← hk, List.filter_map]; rfl, ?_⟩
  induction kvs generalizing ks ds with
  | nil => subst hk; simp [RVs]
  | cons p kvs ih =>
    subst hk
    cases ds with
    | nil => simp only [List.map_cons, RVs] at hr; obtain ⟨_, _, h, _⟩ := hr
    | cons y ds =>
      simp only [List.map_cons, RVs, List.zip_cons_cons] at hr ⊢
      obtain ⟨v, r, e, h1, h2⟩ := hr
      cases e
      by_cases hpk : p.1 = k
      · simpa [List.filter_cons, hpk] using ih rfl h2
      · simp only [List.filter_cons, hpk, ne_eq, not_false_eq_true, decide_true, if_true, List.map_cons, RVs]
        exact ⟨_, _, rfl, h1, ih rfl h2⟩
/-- an instance's field -/
theorem fld_zip : ∀ {fv : List (Str × V)} {fs : List Str} {ds : List D} {f : Str} {x : D}, fv.map (·.1) = fs → RVs K w H (fv.map (·.2)) ds → ((fs.zip ds).find? fun p => decide (p.1 = f)).map (·.2) = some x → ∃ u, fv.lookup f = some u ∧ RV K w H u x ∧ f ∈ fs
  | [], fs, ds, f, x, hk, hr, e => by subst hk; simp at e
  | (g, u) :: fv, fs, ds, f, x, hk, hr, e => by
    subst hk
    cases ds with
    | nil => simp only [List.map_cons, RVs] at hr; obtain ⟨_, _, h, _⟩ := hr
    | cons y ds =>
      simp only [List.map_cons, RVs, List.zip_cons_cons, List.find?_cons] at hr e ⊢
      obtain ⟨v, r, e1, h1, h2⟩ := hr
      cases e1
      by_cases h : g = f
      · subst h
        simp at e
        subst e
        exact ⟨u, by simp [List.lookup], h1, List.mem_cons_self ..⟩
      · simp only [h, decide_false] at e
        obtain ⟨u', h3, h4, h5⟩ := fld_zip rfl h2 e
        refine ⟨u', ?_, h4, List.mem_cons_of_mem _ h5⟩
        have hb : (f == g) = false := by simpa using fun z => h z.symm
        simp only [List.lookup, hb]
        exact h3
theorem look_zip {fs : List (Str × D)} {f : Str} : fs.lookup f = (((fs.map (·.1)).zip (fs.map (·.2))).find? fun p => decide (p.1 = f)).map (·.2) := by
  induction fs with
  | nil => rfl
  | cons p fs ih =>
    obtain ⟨g, x⟩ := p
    simp only [List.map_cons, List.zip_cons_cons, List.find?_cons, List.lookup]
    by_cases h : g = f
    · subst h; simp
    · have hb : (f == g) = false := by simpa using fun z => h z.symm
      simp only [hb, h, decide_false]
      exact ih
theorem fld_rel (hS : RSt G w S H) (r : RO G.K w H v d) {f : Str} {x : D} (e : fldF S f d = some x) : ∃ a C dx fv u, v = .ref a ∧ H a = some (.ins C dx fv) ∧ Cls G.K C ∧ NoAttr G.K C f ∧ fv.lookup f = some u ∧ RV G.K w H u x := by
  cases d <;> simp only [fldF] at e <;> try cases e
  case ref n =>
    split at e
    · rename_i c fs h
      obtain ⟨a, e1, rfl⟩ := r.refn
      obtain ⟨a', e2, C, dx, fv, h1, h2, h3, h4, h5⟩ := hS.ob n _ h
      rw [e1] at e2
      cases e2
      rw [look_zip] at e
      obtain ⟨u, k1, k2, k3⟩ := fld_zip h3.ks h3.vs e
      exact ⟨a, C, dx, fv, u, rfl, h2, h4, h5 f k3, k1, k2⟩
    · cases e
  case obj fs ds =>
    obtain ⟨a, C, dx, fv, rfl, h1, h2, h3, h4, h5⟩ := r.obj
    obtain ⟨u, k1, k2, k3⟩ := fld_zip h4 h5 e
    exact ⟨a, C, dx, fv, u, rfl, h1, h2, h3 f k3, k1, k2⟩
end
/-! texts -/
theorem strsOf_rvs {K : PySem.W.Frag} {w : Wd} {H : Hp} : ∀ {l : List D} {vs : List V} {xs : List Str}, RVs K w H vs l → strsOf l = some xs → vs = xs.map V.str
  | [], vs, xs, h, e => by simp only [RVs] at h; simp only [strsOf] at e; cases e; exact h
  | d :: l, vs, xs, h, e => by
    simp only [RVs] at h
    obtain ⟨v, r, rfl, h1, h2⟩ := h
    cases d <;> simp only [strsOf] at e <;> try cases e
    rename_i x
    cases q : strsOf l with
    | none => rw [q] at e; cases e
    | some ys =>
      rw [q] at e
      cases e
      simp only [RV] at h1
      subst h1
      simp [strsOf_rvs h2 q]
theorem strs_rvs {K : PySem.W.Frag} {w : Wd} {H : Hp} : ∀ (xs : List Str), RVs K w H (xs.map V.str) (xs.map D.str)
  | [] => by simp [RVs]
  | x :: xs => by simp only [List.map_cons, RVs]; exact ⟨_, _, rfl, by simp [RV], strs_rvs xs⟩
theorem leS_tot (x y : Str) : (leS x y || leS y x) = true := by
  unfold leS
  have := List.le_total x.cps.toList y.cps.toList
  simpa using this
theorem leS_tr (x y z : Str) (h1 : leS x y = true) (h2 : leS y z = true) : leS x z = true := by
  unfold leS at *
  simp only [decide_eq_true_eq] at *
  exact List.le_trans h1 h2
theorem leS_anti {x y : Str} (h1 : leS x y = true) (h2 : leS y x = true) : x = y := by
  unfold leS at *
  simp only [decide_eq_true_eq] at *
  have := List.le_antisymm h1 h2
  cases x; cases y
  simp only [Str.mk.injEq]
  exact Array.toList_inj.mp this
theorem sortS_perm (xs : List Str) : (sortS xs).Perm xs := List.mergeSort_perm ..
theorem sortS_le (xs : List Str) : (sortS xs).Pairwise (fun a b => leS a b = true) := List.pairwise_mergeSort leS_tr leS_tot xs
theorem sortS_eq {xs ys : List Str} (hp : ys.Perm xs) (hs : ys.Pairwise (fun a b => leS a b = true)) : ys = sortS xs :=
  List.Perm.eq_of_pairwise (le := fun a b => leS a b = true) (fun a b _ _ h1 h2 => leS_anti h1 h2) hs (sortS_le xs) (hp.trans (sortS_perm xs).symm)
theorem ltCps_iff : ∀ a b : List Nat, Spec.ltCps a b = decide (a < b)
  | [], [] => by simp [Spec.ltCps]
  | [], _ :: _ => by simp [Spec.ltCps]
  | _ :: _, [] => by simp [Spec.ltCps]
  | a :: r, b :: t => by
    simp only [Spec.ltCps, ltCps_iff r t, List.cons_lt_cons_iff]
    by_cases h1 : a < b
    · simp [h1]
    · by_cases h2 : a = b
      · simp [h2]
      · simp [h1, h2]
theorem rising_le : ∀ (ys : List Str) (p : Str), risingS p ys = true → (∀ y ∈ ys, leS p y = true) ∧ ys.Pairwise (fun a b => leS a b = true)
  | [], p, _ => ⟨(fun y hy => by cases hy), List.Pairwise.nil⟩
  | x :: r, p, h => by
    simp only [risingS, Bool.and_eq_true, Bool.not_eq_true'] at h
    obtain ⟨h1, h2⟩ := rising_le r x h.2
    have hpx : leS p x = true := by
      unfold leS
      have h3 := h.1
      rw [ltCps_iff, decide_eq_false_iff_not] at h3
      exact decide_eq_true (List.not_lt.mp h3)
    refine ⟨fun y hy => ?_, List.pairwise_cons.mpr ⟨h1, h2⟩⟩
    rcases List.mem_cons.mp hy with rfl | hy
    · exact hpx
    · exact leS_tr _ _ _ hpx (h1 y hy)
theorem sorted_le {ys : List Str} (h : sortedS ys = true) : ys.Pairwise (fun a b => leS a b = true) := by
  cases ys with
  | nil => exact .nil
  | cons x r =>
    obtain ⟨h1, h2⟩ := rising_le r x h
    exact List.pairwise_cons.mpr ⟨h1, h2⟩
end BX
set_option Elab.async false
set_option linter.all false
set_option maxRecDepth 100000
set_option maxHeartbeats 2000000
/-! BX3e: a list against the empty list. -/
namespace BX
open PySem L2
open PyProof.Rows hiding St Binds

section
variable {X : Cx}
theorem op_eq0 (hu : X.A.units < cLine) : OpR X (compareOp .Eq) (fun x y H Q => ∃ a b vs, x = .ref a ∧ y = .ref b ∧ Rd H a (.lst vs) ∧ Rd H b (.lst []) ∧ Q (.bl vs.isEmpty) H) := by
  intro pins s σ H x y v u Q I rx ry h
  obtain ⟨a, b, vs, rfl, rfl, h1, h2, q⟩ := h
  obtain rfl : v = Value.ref a := rx
  obtain rfl : u = Value.ref b := ry
  obtain ⟨its, r1, p1, _⟩ := I.list (.inl h1)
  obtain ⟨its2, r2, p2, _⟩ := I.list (.inl h2)
  have l1 := r1.length
  have l2 := r2.length
  simp only [List.length_nil] at l2
  cases vs with
  | nil =>
    simp only [List.length_nil] at l1
    refine SeqAt.eq_listAt (e := fun _ => true) p1.isList p2.isList (by simp [← l1, ← l2]) hu (fun j h1 => ?_) (fin_bl I q ?_)
    · simp [← l1] at h1
    · simp
  | cons w ws =>
    refine SeqAt.eq_list_lengthsAt p1.isList p2.isList ?_ hu (fin_bl I q rfl)
    simp only [List.length_cons] at l1
    simp [← l1, ← l2]
theorem op_ne0 (hu : X.A.units < cLine) : OpR X (compareOp .NotEq) (fun x y H Q => ∃ a b vs, x = .ref a ∧ y = .ref b ∧ Rd H a (.lst vs) ∧ Rd H b (.lst []) ∧ Q (.bl (!vs.isEmpty)) H) := by
  intro pins s σ H x y v u Q I rx ry h
  obtain ⟨a, b, vs, rfl, rfl, h1, h2, q⟩ := h
  obtain rfl : v = Value.ref a := rx
  obtain rfl : u = Value.ref b := ry
  obtain ⟨its, r1, p1, _⟩ := I.list (.inl h1)
  obtain ⟨its2, r2, p2, _⟩ := I.list (.inl h2)
  have l1 := r1.length
  have l2 := r2.length
  simp only [List.length_nil] at l2
  cases vs with
  | nil =>
    simp only [List.length_nil] at l1
    refine SeqAt.RcNeAt.lists (e := fun _ => true) p1.isList p2.isList (by simp [← l1, ← l2]) hu (fun j h1 => ?_) X.prog X.w _ _ (fin_bl I q ?_)
    · simp [← l1] at h1
    · simp
  | cons w ws =>
    refine SeqAt.RcNeAt.lists_lengths p1.isList p2.isList ?_ hu X.prog X.w _ _ (fin_bl I q rfl)
    simp only [List.length_cons] at l1
    simp [← l1, ← l2]
end
end BX
set_option Elab.async false
set_option linter.all false
set_option maxRecDepth 100000
set_option maxHeartbeats 2000000
/-! BX4: which text a term of the syntax is; readings by data; the cases of soundness for expressions. -/
namespace BX
open PySem L2
open PyProof.Rows hiding St Binds

/-! ### the check: this text is that term -/
structure Tb where
  isF : Nat → Bool
  nm : Nat → Str
  dvB : Nat → Nat → List D → Bool
  conB : Str → D → Bool
  kwB : Nat → Nat → List Str → List (Nat ⊕ D) → Bool
  mthB : Nat → Str → Str → Bool := fun _ _ _ => false
  mkB : Nat → Str → Bool := fun _ _ => false
  fldB : Str → Str → Bool := fun _ _ => false

def visB (sc : Scope) (x : Str) : Bool := (match sc.names.lookup x with | some .local => true | some .cell => true | some .free => true | _ => false) && !(x == ("__debug__" : Str)) && !(x == ("__classdict__" : Str))
def glB (sc : Scope) (x : Str) : Bool := (match sc.names.lookup x with | some .globalImplicit => true | _ => false) && !(x == ("__debug__" : Str))
def notStar : Expr → Bool
  | .Starred .. => false
  | _ => true
def notSlice : Expr → Bool
  | .Slice .. => false
  | _ => true
def notSet : Expr → Bool
  | .Set .. => false
  | _ => true
def isTup : Expr → Bool
  | .Tuple .. => true
  | _ => false
def opB : BOp → Operator → Bool
  | .add, .Add => true | .sub, .Sub => true | .mul, .Mult => true | .fdiv, .FloorDiv => true | .mod, .Mod => true | .pow, .Pow => true | .shl, .LShift => true | .shr, .RShift => true
  | _, _ => false
def cpB : COp → CmpOp → Bool
  | .eq, .Eq => true | .ne, .NotEq => true | .lt, .Lt => true | .le, .LtE => true | .gt, .Gt => true | .ge, .GtE => true | .is, .Is => true | .isnot, .IsNot => true | .inn, .In => true | .nin, .NotIn => true
  | _, _ => false
def litB : D → Const → Bool
  | .non, .none => true
  | .bl b, .bool c => b == c
  | .int i, .int j => i == j
  | .str x, .str y => x == y
  | _, _ => false
def notCall0 : Expr → Bool
  | .Call (.Name _ _) [] [] _ => false
  | _ => true
/-- f(z), f a built-in -/
def blX (n : Str) (sc : Scope) : Expr → Option (List Expr)
  | .Call (.Name x _) [z] [] _ => if (x == n && glB sc x && notStar z) = true then some [z] else none
  | _ => none
/-- o.m(k) -/
def atX (n : Str) : Expr → Option (List Expr)
  | .Call (.Attribute o m ap) [k] [] cp => if (m == n && notStar k && (ap.endLine == cp.line) && notCall0 o) = true then some [o, k] else none
  | _ => none
def atX2 (n : Str) : Expr → Option (List Expr)
  | .Call (.Attribute o m ap) [k, z] [] cp => if (m == n && notStar k && notStar z && (ap.endLine == cp.line) && notCall0 o) = true then some [o, k, z] else none
  | _ => none
def cmX (o : CmpOp) : Expr → Option (List Expr)
  | .Compare x [p] [y] _ => if (decide (p = o) && !behindInMarks p y) = true then some [x, y] else none
  | _ => none
/-- x == [], x != [] -/
def emX (o : CmpOp) : Expr → Option (List Expr)
  | .Compare x [p] [.List [] _] _ => if decide (p = o) = true then some [x] else none
  | _ => none
/-- the parts of a primitive's text -/
def prX : Pr → Scope → Expr → Option (List Expr)
  | .dnew, _, e => match e with | .Dict [] [] _ => some [] | _ => none
  | .ndnew, _, e => match e with | .Dict [] [] _ => some [] | _ => none
  | .dget, _, e => match e with | .Subscript o i _ => if notSlice i = true then some [o, i] else none | _ => none
  | .din, _, e => cmX .In e
  | .dnin, _, e => cmX .NotIn e
  | .dget1, _, e => atX "get" e
  | .dget2, _, e => atX2 "get" e
  | .dlen, sc, e => blX "len" sc e
  | .llen, sc, e => blX "len" sc e
  | .dcopy, sc, e => blX "dict" sc e
  | .ndcopy, sc, e => blX "dict" sc e
  | .dlist, sc, e => blX "list" sc e
  | .lcopy, sc, e => blX "list" sc e
  | .nlcopy, sc, e => blX "list" sc e
  | .dsort, sc, e => blX "sorted" sc e
  | .ssort, sc, e => blX "sorted" sc e
  | .join y, _, e => match e with | .Call (.Attribute (.Constant (.str y') j p) m ap) [k] [] cp => if (y' == y && m == ("join" : Str) && notStar k && (ap.endLine == cp.line)) = true then some [k] else none | _ => none
  | .deq, _, e => cmX .Eq e
  | .dne, _, e => cmX .NotEq e
  | .lemp, _, e => emX .Eq e
  | .lnemp, _, e => emX .NotEq e
  | .fld f, _, e => match e with | .Attribute o g _ => if (g == f && notCall0 o) = true then some [o] else none | _ => none
  | _, _, _ => none
/-- what raises nothing -/
def simpE : Ex → Bool
  | .var _ => true
  | .cst _ => true
  | .tup es => es.all fun e => match e with | .cst _ => true | _ => false
  | _ => false
def prOk : Pr → List Ex → Bool
  | .dget1, es => es.tail.all simpE
  | .dget2, es => es.tail.all simpE && match es with | [_, _, .var _] => false | _ => true
  | _, _ => true
mutual
def chT (N : List Str) (fnc : Str → Bool) : Tg → Expr → Bool
  | .nm i, e => match e with | .Name x _ => decide (N[i]? = some x) && fnc x | _ => false
  | .tp l, e => match e with | .Tuple es _ _ => chTs N fnc l es | _ => false
def chTs (N : List Str) (fnc : Str → Bool) : List Tg → List Expr → Bool
  | [], es => match es with | [] => true | _ => false
  | t :: ts, es => match es with | e :: es => notStar e && chT N fnc t e && chTs N fnc ts es | _ => false
end
mutual
def tgIn (own : List Nat) : Tg → Bool
  | .nm i => own.contains i
  | .tp l => tgsIn own l
def tgsIn (own : List Nat) : List Tg → Bool
  | [] => true
  | t :: ts => tgIn own t && tgsIn own ts
end
def ownN (N : List Str) (own : List Nat) : List (Str × Nat) := own.map fun i => (N.getD i "", i)
def blkF (scope : Scope) : Str → Bool := fun x => match scope.names.lookup x with | some .local => true | some .cell => true | _ => false
section
variable (T : Tb) (N : List Str)
mutual
def chE : Ex → Scope → (Str → Bool) → Expr → Bool
  | .cst d, _, _, e => match e with | .Constant c _ _ => litB d c | _ => false
  | .var i, sc, _, e => match e with | .Name x _ => decide (N[i]? = some x) && visB sc x | _ => false
  | .glb y d, sc, _, e => match e with | .Name x _ => x == y && glB sc x && T.conB x d | _ => false
  | .bin o a b, sc, fn, e => match e with | .BinOp x p y _ => opB o p && chE a sc fn x && chE b sc fn y | _ => false
  | .neg a, sc, fn, e => match e with | .UnaryOp .USub x _ => chE a sc fn x | _ => false
  | .cmp o a b, sc, fn, e => match e with | .Compare x [p] [y] _ => cpB o p && !behindInMarks p y && chE a sc fn x && chE b sc fn y | _ => false
  | .chn o o' a b c, sc, fn, e => match e with | .Compare x [p, p'] [y, z] _ => cpB o p && cpB o' p' && !lastMarks [p, p'] [y, z] && chE a sc fn x && chE b sc fn y && chE c sc fn z | _ => false
  | .and a b, sc, fn, e => match e with
    | .BoolOp .And [x, y] _ => chE a sc fn x && chE b sc fn y
    | .BoolOp .And (x :: y :: z :: r) p => chE a sc fn x && chE b sc fn (.BoolOp .And (y :: z :: r) p)
    | _ => false
  | .or a b, sc, fn, e => match e with
    | .BoolOp .Or [x, y] _ => chE a sc fn x && chE b sc fn y
    | .BoolOp .Or (x :: y :: z :: r) p => chE a sc fn x && chE b sc fn (.BoolOp .Or (y :: z :: r) p)
    | _ => false
  | .not a, sc, fn, e => match e with | .UnaryOp .Not x _ => chE a sc fn x | _ => false
  | .ite c a b, sc, fn, e => match e with | .IfExp z x y _ => chE c sc fn z && chE a sc fn x && chE b sc fn y | _ => false
  | .tup es, sc, fn, e => match e with | .Tuple xs _ _ => chEs es sc fn xs | _ => false
  | .lst es, sc, fn, e => match e with | .List xs _ => chEs es sc fn xs | _ => false
  | .nlst es, sc, fn, e => match e with | .List xs _ => chEs es sc fn xs | _ => false
  | .ix a b, sc, fn, e => match e with | .Subscript x y _ => notSlice y && chE a sc fn x && chE b sc fn y | _ => false
  | .sl a lo hi, sc, fn, e => match e with | .Subscript x (.Slice l h none _) _ => chE a sc fn x && chP lo sc fn l && chP hi sc fn h | _ => false
  | .call f es dv, sc, fn, e => match e with | .Call (.Name x _) xs [] _ => x == T.nm f && glB sc x && T.isF f && T.dvB f xs.length dv && chEs es sc fn xs | _ => false
  | .callK f es ks kes pm, sc, fn, e => match e with | .Call (.Name x _) (y :: xs) kws _ => x == T.nm f && glB sc x && T.isF f && T.kwB f (xs.length + 1) ks pm && chEs es sc fn (y :: xs) && chKs kes sc fn kws ks | _ => false
  | .op1 o a, sc, fn, e => match o with
    | .lrev => match e with | .Call (.Name x _) [.Call (.Name y _) [z] [] _] [] _ => x == ("list" : Str) && glB sc x && y == ("reversed" : Str) && glB sc y && notStar z && chE a sc fn z | _ => false
    | .srt => match e with | .Call (.Name x _) [z] [] _ => x == ("sorted" : Str) && glB sc x && notStar z && chE a sc fn z | _ => false
    | .lrg => match e with | .Call (.Name x _) [.Call (.Name y _) [z] [] _] [] _ => x == ("list" : Str) && glB sc x && y == ("range" : Str) && glB sc y && notStar z && chE a sc fn z | _ => false
  | .op2 o a b, sc, fn, e => match o with
    | .lrg2 => match e with | .Call (.Name x _) [.Call (.Name y _) [z, v] [] _] [] _ => x == ("list" : Str) && glB sc x && y == ("range" : Str) && glB sc y && notStar z && notStar v && chE a sc fn z && chE b sc fn v | _ => false
  | .chn3 o o' o2 a b c d, sc, fn, e => match e with | .Compare x [p, p', p2] [y, z, v] _ => cpB o p && cpB o' p' && cpB o2 p2 && !lastMarks [p, p', p2] [y, z, v] && chE a sc fn x && chE b sc fn y && chE c sc fn z && chE d sc fn v | _ => false
  | .blt b es, sc, fn, e => match e with | .Call (.Name x _) (y :: xs) [] _ => x == bltN b && glB sc x && chEs es sc fn (y :: xs) | _ => false
  | .isi a t, sc, fn, e => match e with
    | .Call (.Name x _) [y, .Name z _] [] _ => x == ("isinstance" : Str) && glB sc x && notStar y && chE a sc fn y && z == Str.ofString (tyN t) && glB sc z
    | _ => false
  | .lc el tg it cond own, sc, fn, e => match e with
    | .ListComp x [⟨tx, ix, ifs, 0⟩] scope _ => notSet ix && blkC N sc scope (ownN N own) && tgIn own tg && chI it sc fn tx ix && chT N (blkF scope) tg tx && chC cond (relS scope sc) (blkF scope) ifs && chE el (relS scope sc) (blkF scope) x
    | _ => false
  | .prim p es, sc, fn, e => match prX p sc e with
    | some xs => prOk p es && chEs es sc fn xs
    | none => false
  | .mth f c m o es dv, sc, fn, e => match e with | .Call (.Attribute x y ap) xs [] cp => y == m && T.mthB f c m && T.dvB f (xs.length + 1) dv && notCall0 x && (ap.endLine == cp.line) && decide (xs.length < 29) && chE o sc fn x && chEs es sc fn xs | _ => false
  | .mthK f c m o es ks kes pm, sc, fn, e => match e with | .Call (.Attribute x y ap) xs kws cp => y == m && T.mthB f c m && T.kwB f (xs.length + 1) ks pm && notCall0 x && (ap.endLine == cp.line) && decide (xs.length + kws.length < 29) && chE o sc fn x && chEs es sc fn xs && chKs kes sc fn kws ks | _ => false
  | .mkK f c es ks kes pm, sc, fn, e => match e with | .Call (.Name x _) (y :: xs) kws _ => x == c && glB sc x && T.mkB f c && T.kwB f (xs.length + 2) ks pm && chEs es sc fn (y :: xs) && chKs kes sc fn kws ks | _ => false
  | .mk f c es dv, sc, fn, e => match e with | .Call (.Name x _) xs [] _ => x == c && glB sc x && T.mkB f c && T.dvB f (xs.length + 1) dv && chEs es sc fn xs | _ => false
def chEs : List Ex → Scope → (Str → Bool) → List Expr → Bool
  | [], _, _, xs => match xs with | [] => true | _ => false
  | a :: es, sc, fn, xs => match xs with | x :: xs => notStar x && chE a sc fn x && chEs es sc fn xs | _ => false
def chKs : List Ex → Scope → (Str → Bool) → List Keyword → List Str → Bool
  | [], _, _, kws, ks => match kws, ks with | [], [] => true | _, _ => false
  | a :: es, sc, fn, kws, ks => match kws, ks with | ⟨some n, x, _⟩ :: kws, k :: ks => n == k && chE a sc fn x && chKs es sc fn kws ks | _, _ => false
def chP : Option Ex → Scope → (Str → Bool) → Option Expr → Bool
  | none, _, _, e => match e with | none => true | _ => false
  | some a, sc, fn, e => match e with | some x => chE a sc fn x | _ => false
def chC : Option Ex → Scope → (Str → Bool) → List Expr → Bool
  | none, _, _, es => match es with | [] => true | _ => false
  | some a, sc, fn, es => match es with | [x] => chE a sc fn x | _ => false
def chI : Itx → Scope → (Str → Bool) → Expr → Expr → Bool
  | .seq a, sc, fn, _, e => chE a sc fn e
  | .rng a, sc, fn, _, e => match e with | .Call (.Name x _) [y] [] _ => x == ("range" : Str) && glB sc x && notStar y && chE a sc fn y | _ => false
  | .rng2 a b, sc, fn, _, e => match e with | .Call (.Name x _) [y, z] [] _ => x == ("range" : Str) && glB sc x && notStar y && notStar z && chE a sc fn y && chE b sc fn z | _ => false
  | .zip a b, sc, fn, t, e => match e with | .Call (.Name x _) [y, z] [] _ => isTup t && x == ("zip" : Str) && glB sc x && notStar y && notStar z && chE a sc fn y && chE b sc fn z | _ => false
  | .rrng a, sc, fn, _, e => match e with | .Call (.Name x _) [.Call (.Name z _) [y] [] _] [] _ => x == ("reversed" : Str) && glB sc x && z == ("range" : Str) && glB sc z && notStar y && chE a sc fn y | _ => false
  | .rev a, sc, fn, _, e => match e with | .Call (.Name x _) [y] [] _ => x == ("reversed" : Str) && glB sc x && notStar y && chE a sc fn y | _ => false
end
end

/-! ### results -/
def Pst {α : Type} (r : R α) (P : α → Sto → Prop) (PX : Exc → Sto → Prop) : Prop := match r with
  | .ok a S => P a S
  | .exc x S => PX x S
  | .stuck => False
theorem Pst.bd {α β : Type} {r : R α} {f : α → Sto → R β} {P : β → Sto → Prop} {PX : Exc → Sto → Prop} (h : Pst (r.bd f) P PX) : Pst r (fun a S => Pst (f a S) P PX) PX := by
  cases r <;> exact h
theorem Pst.imp {α : Type} {r : R α} {P P' : α → Sto → Prop} {PX PX' : Exc → Sto → Prop} (h : Pst r P PX) (hp : ∀ a S, P a S → P' a S) (hx : ∀ x S, PX x S → PX' x S) : Pst r P' PX' := by
  cases r
  · exact hp _ _ h
  · exact hx _ _ h
  · exact h
theorem Pst.of {α : Type} {o : Option α} {S : Sto} {P : α → Sto → Prop} {PX : Exc → Sto → Prop} (h : Pst (R.of S o) P PX) : ∃ a, o = some a ∧ P a S := by
  cases o with
  | none => exact h.elim
  | some a => exact ⟨a, rfl, h⟩
abbrev Po (α : Type) := Wd → Hp → α → Sto → Prop
structure Mon {α : Type} (P : Po α) : Prop where
  m : ∀ {w H w' H' a S}, Ext w H w' H' → P w H a S → P w' H' a S
/-- what is wanted of an exception -/
def PXe (G : Gx) (E : XK) (w : Wd) (H : Hp) : Exc → Sto → Prop := fun x S' => ∀ w' H' c dx, Ext w H w' H' → RSt G w' S' H' → G.rx w' H' x c dx → E c dx H'
abbrev PX (G : Gx) (W : WX) (σ : St) (w : Wd) (H : Hp) : Exc → Sto → Prop := PXe G (fun c d H' => W c d σ H') w H
theorem PXe.ext {G : Gx} {E : XK} {w w' : Wd} {H H' : Hp} {x : Exc} {S : Sto} (e : Ext w H w' H') (h : PXe G E w H x S) : PXe G E w' H' x S := fun w2 H2 c dx e2 => h w2 H2 c dx (e.trans e2)
/-- the wanted end -/
def finP (G : Gx) {α β : Type} (rel : Wd → Hp → β → α → Prop) (Q : β → Hp → Prop) : Po α := fun w H a S' => ∀ w' H' b, Ext w H w' H' → RSt G w' S' H' → rel w' H' b a → Q b H'
theorem monF {G : Gx} {α β : Type} {rel : Wd → Hp → β → α → Prop} {Q : β → Hp → Prop} : Mon (finP G rel Q) := ⟨fun e h w2 H2 b e2 => h w2 H2 b (e.trans e2)⟩
/-- a reading by data -/
def rd (G : Gx) (W : WX) {α β : Type} (rel : Wd → Hp → β → α → Prop) (ev : Env → Sto → R α) : St → Hp → (β → Hp → Prop) → Prop := fun σ H Q =>
  ∃ w H0 ε S, RSt G w S H ∧ REn G.K w H0 σ H ε ∧ Pst (ev ε S) (finP G rel Q w H) (PX G W σ w H)
def eqR {α : Type} : Wd → Hp → α → α → Prop := fun _ _ a b => a = b
theorem rd_step {G : Gx} {W : WX} {α β γ : Type} {rel : Wd → Hp → β → α → Prop} {ev : Env → Sto → R α} {f : α → Sto → R γ} {P : Po γ} {w : Wd} {H H0 : Hp} {σ : St} {ε : Env} {S : Sto} {Q : β → Hp → Prop}
    (mP : Mon P) (hS : RSt G w S H) (hE : REn G.K w H0 σ H ε) (h : Pst ((ev ε S).bd f) (P w H) (PX G W σ w H))
    (k : ∀ a S' w' H' b, Ext w H w' H' → RSt G w' S' H' → REn G.K w' H0 σ H' ε → rel w' H' b a → Pst (f a S') (P w' H') (PX G W σ w' H') → Q b H') : rd G W rel ev σ H Q :=
  ⟨w, H0, ε, S, hS, hE, h.bd.imp (fun a S' q w' H' b e hS' r => k a S' w' H' b e hS' (hE.ext e) r (q.imp (fun _ _ => mP.m e) fun _ _ => PXe.ext e)) fun _ _ q => q⟩
/-- the last step -/
theorem rd_last {G : Gx} {W : WX} {α β : Type} {rel : Wd → Hp → β → α → Prop} {ev : Env → Sto → R α} {w : Wd} {H H0 : Hp} {σ : St} {ε : Env} {S : Sto} {Q Q' : β → Hp → Prop}
    (hS : RSt G w S H) (hE : REn G.K w H0 σ H ε) (h : Pst (ev ε S) (finP G rel Q w H) (PX G W σ w H)) (hq : ∀ b H', Q b H' → Q' b H') : rd G W rel ev σ H Q' :=
  ⟨w, H0, ε, S, hS, hE, h.imp (fun a S' q w' H' b e hS' r => hq _ _ (q w' H' b e hS' r)) fun _ _ q => q⟩

/-! ### the context -/
/-- arguments with keywords, as values of the layer -/
def pmV (vs : List V) : List (Nat ⊕ D) → List V
  | [] => []
  | .inl j :: r => vs.getD j .non :: pmV vs r
  | .inr d :: r => vOf d :: pmV vs r
def pmFlat : List (Nat ⊕ D) → Bool
  | [] => true
  | .inl _ :: r => pmFlat r
  | .inr d :: r => flatD d && pmFlat r
theorem flat_rv {K : PySem.W.Frag} {w : Wd} {H : Hp} {d : D} (h : flatD d = true) : RV K w H (vOf d) d := by
  cases d <;> simp [flatD] at h <;> simp [vOf, RV]
theorem RVs.getD {K : PySem.W.Frag} {w : Wd} {H : Hp} : ∀ {ds : List D} {vs : List V} (j : Nat), RVs K w H vs ds → RV K w H (vs.getD j .non) (ds.getD j .non)
  | [], vs, j, h => by
    simp only [RVs] at h
    subst h
    simp [RV]
  | d :: ds, vs, j, h => by
    simp only [RVs] at h
    obtain ⟨v, r, rfl, h1, h2⟩ := h
    cases j with
    | zero => simpa using h1
    | succ j => simpa using RVs.getD j h2
theorem pm_rvs {K : PySem.W.Frag} {w : Wd} {H : Hp} {ds : List D} {vs : List V} (h : RVs K w H vs ds) : ∀ {pm : List (Nat ⊕ D)}, pmFlat pm = true → RVs K w H (pmV vs pm) (pmF ds pm)
  | [], _ => by simp [pmV, pmF, RVs]
  | .inl j :: r, f => by
    simp only [pmFlat] at f
    simp only [pmV, pmF, RVs]
    exact ⟨_, _, rfl, h.getD j, pm_rvs h f⟩
  | .inr d :: r, f => by
    simp only [pmFlat, Bool.and_eq_true] at f
    simp only [pmV, pmF, RVs]
    exact ⟨_, _, rfl, flat_rv f.1, pm_rvs h f.2⟩
def spOf (G : Gx) (c : List D → Sto → R D) : Sp := fun vs H Q E => ∃ w S ds, RSt G w S H ∧ RVs G.K w H vs ds ∧ Pst (c ds S) (finP G (RV G.K) Q w H) (PXe G E w H)
structure Lw (T : Tb) (G : Gx) (call : Call) (P : Program) (wo : World) (K : PySem.W.Frag) (mg : Str → Option Value) (base : Heap) (k : Nat) : Prop where
  hK : G.K = K
  fns : ∀ f, T.isF f = true → ∃ a fd ps, mg (T.nm f) = some (.ref a) ∧ PySem.W.keepIn K (.ref a) = true ∧ FnOk P wo K mg base (L2.CX P wo) (2 * k) a fd ps (spOf G (call f)) ∧
    (∀ n dv, T.dvB f n dv = true → dv.all flatD = true ∧ ∃ ds, Vals (dv.map vOf) ds ∧ Binds K fd ps ds) ∧
    ∀ n ks pm, T.kwB f n ks pm = true → pmFlat pm = true ∧ ∃ g, KBn K fd ps n ks g fun vs zs => pmV (vs ++ zs) pm
  rev : mg "reversed" = none
  srt : mg "sorted" = none
  blt : ∀ b, mg (bltN b) = none
  rng : mg "range" = none
  zip : mg "zip" = none
  isi : mg "isinstance" = none
  tys : ∀ t, mg (Str.ofString (tyN t)) = none
  con : ∀ x d, T.conB x d = true → flatD d = true ∧ ∃ u, mg x = some u ∧ RelV (vOf d) u
  mth : ∀ f c m, T.mthB f c m = true → ∃ C a fd ps, G.cls c = some C ∧ Cls K C ∧ Meth K C m a ∧ FnOk P wo K mg base (L2.CX P wo) (2 * k) a fd ps (spOf G (call f)) ∧
    (∀ n dv, T.dvB f n dv = true → dv.all flatD = true ∧ ∃ ds, Vals (dv.map vOf) ds ∧ Binds K fd ps ds) ∧
    ∀ n ks pm, T.kwB f n ks pm = true → pmFlat pm = true ∧ ∃ g, KBn K fd ps n ks g fun vs zs => pmV (vs ++ zs) pm
  mkd : ∀ f c, T.mkB f c = true → ∃ C a fd ps, mg c = some (.ref C) ∧ G.cls c = some C ∧ Cls K C ∧ Mk K C a ∧ FnOk P wo K mg base (L2.CX P wo) (2 * k) a fd ps (spOf G (call f)) ∧
    (∀ n dv, T.dvB f n dv = true → dv.all flatD = true ∧ ∃ ds, Vals (dv.map vOf) ds ∧ Binds K fd ps ds) ∧
    ∀ n ks pm, T.kwB f n ks pm = true → pmFlat pm = true ∧ ∃ g, KBn K fd ps n ks g fun vs zs => pmV (vs ++ zs) pm
  fld : ∀ c f C, T.fldB c f = true → G.cls c = some C → NoAttr K C f
  dct : mg "dict" = none
structure Good (T : Tb) (G : Gx) (call : Call) (N : List Str) (sc : Scope) (fn : Str → Bool) (W : WX) (k : Nat) (X : Cx) : Prop where
  calm : X.calm = true
  hN : X.N = N
  nd : N.Nodup
  hsc : X.env.scope = sc
  hfn : ∀ x, fn x = true → Loc sc x ∧ (X.fn x = true ∨ sc.names.lookup x = some .local)
  rm : Room (2 * k + 1) X.A
  tk : Takes X W
  lw : Lw T G call X.prog X.w X.K X.mg X.base k

theorem Good.room {T : Tb} {G : Gx} {call : Call} {N : List Str} {sc : Scope} {fn : Str → Bool} {W : WX} {k : Nat} {X : Cx} (g : Good T G call N sc fn W k X) : Room (2 * k) X.A := g.rm.mono (Nat.le_succ _)
theorem _root_.L2.PE.imp {X : Cx} {e : Expr} {t t' : TE} (h : PE X e t) (k : ∀ σ H Q, t' σ H Q → t σ H Q) : PE X e t' := ⟨fun pins s σ H Q I q => h.run pins s σ H Q I (k _ _ _ q)⟩
theorem _root_.L2.PT.imp {X : Cx} {e : Expr} {t t' : TT} (h : PT X e t) (k : ∀ σ H Q, t' σ H Q → t σ H Q) : PT X e t' := ⟨fun pins s σ H Q I q => h.run pins s σ H Q I (k _ _ _ q)⟩
theorem _root_.L2.PW.imp {X : Cx} {e : Expr} {t t' : TT} (h : PW X e t) (k : ∀ σ H Q, t' σ H Q → t σ H Q) : PW X e t' := ⟨fun wh pins s σ H Q I q => h.run wh pins s σ H Q I (k _ _ _ q)⟩
theorem _root_.L2.PA.imp {X : Cx} {e : List Expr} {t t' : TA} (h : PA X e t) (k : ∀ σ H Q, t' σ H Q → t σ H Q) : PA X e t' := ⟨fun pos pins s σ H Q I q => h.run pos pins s σ H Q I (k _ _ _ q)⟩

theorem starEach_cons {x : Expr} {xs : List Expr} {env : PySem.Env} (h : notStar x = true) : starEach (x :: xs) env = (false, eval x env) :: starEach xs env := by
  cases x <;> first | rfl | (simp [notStar] at h)
theorem starAll {env : PySem.Env} {pos : Pos} : ∀ {xs : List Expr}, xs.all notStar = true → (backTo pos (starEach xs env)).any (·.1) = false
  | [], _ => rfl
  | x :: xs, h => by
    simp only [List.all_cons, Bool.and_eq_true] at h
    rw [starEach_cons h.1]
    show (false || (backTo pos (starEach xs env)).any (·.1)) = false
    rw [starAll h.2]; rfl
theorem chEs_star {T : Tb} {N : List Str} {sc : Scope} {fn : Str → Bool} : ∀ {es : List Ex} {xs : List Expr}, chEs T N es sc fn xs = true → xs.all notStar = true
  | [], xs, h => by
    simp only [chEs] at h
    split at h
    · rfl
    · cases h
  | e :: es, xs, h => by
    simp only [chEs] at h
    split at h
    · simp only [Bool.and_eq_true] at h
      simp only [List.all_cons, Bool.and_eq_true]
      exact ⟨h.1.1, chEs_star h.2⟩
    · cases h
theorem plainIx_of {y : Expr} (h : notSlice y = true) : PlainIx y := by
  intro o i
  cases y <;> first | rfl | (simp [notSlice] at h)
theorem setIter_of {y : Expr} {env : PySem.Env} (h : notSet y = true) : ∀ x, foldedSetIterable y env x = pure x := by
  intro x
  cases y <;> first | rfl | (simp [notSet] at h)
theorem vis_of {sc : Scope} {x : Str} (h : visB sc x = true) : Vis sc x ∧ (x == ("__debug__" : Str)) = false ∧ (x == ("__classdict__" : Str)) = false := by
  unfold visB at h
  simp only [Bool.and_eq_true, Bool.not_eq_true'] at h
  obtain ⟨⟨h1, h2⟩, h3⟩ := h
  refine ⟨?_, h2, h3⟩
  split at h1
  · exact .inl (by assumption)
  · exact .inr (.inl (by assumption))
  · exact .inr (.inr (by assumption))
  · cases h1
theorem gl_of {sc : Scope} {x : Str} (h : glB sc x = true) : sc.names.lookup x = some .globalImplicit ∧ (x == ("__debug__" : Str)) = false := by
  unfold glB at h
  simp only [Bool.and_eq_true, Bool.not_eq_true'] at h
  obtain ⟨h1, h2⟩ := h
  refine ⟨?_, h2⟩
  split at h1
  · assumption
  · cases h1
theorem opB_eq {o : BOp} {p : Operator} (h : opB o p = true) : p = bopN o := by
  cases o <;> cases p <;> first | rfl | (simp [opB] at h)
theorem cpB_eq {o : COp} {p : CmpOp} (h : cpB o p = true) : p = copN o := by
  cases o <;> cases p <;> first | rfl | (simp [cpB] at h)

/-! ### expressions -/
section
variable {T : Tb} {G : Gx} {call : Call} {N : List Str} {sc : Scope} {fn : Str → Bool} {W : WX} {k : Nat} {X : Cx} {pos p1 p2 : Pos}
abbrev JE (G : Gx) (W : WX) (X : Cx) (x : Expr) (ev : Env → Sto → R D) : Prop := PE X x (rd G W (RV G.K) ev)
abbrev JO (G : Gx) (W : WX) (X : Cx) (x : Expr) (ev : Env → Sto → R D) : Prop := PE X x (rd G W (RO G.K) ev)
abbrev JT (G : Gx) (W : WX) (X : Cx) (x : Expr) (ev : Env → Sto → R Bool) : Prop := PT X x (rd G W eqR ev)

theorem Good.gl (g : Good T G call N sc fn W k X) {x : Str} (h : glB sc x = true) : Gl X x := by
  show X.env.scope.names.lookup x = _
  rw [g.hsc]; exact (gl_of h).1
theorem s_cst {d : D} {c : Const} {j : Nat} (h : litB d c = true) : JE G W X (.Constant c j pos) (evE call (.cst d)) := by
  have fin : ∀ {v : V} {σ : St} {H : Hp} {Q : VK}, rd G W (RV G.K) (evE call (.cst d)) σ H Q → (∀ w : Wd, RV G.K w H v d) → Q v H := by
    rintro v σ H Q ⟨w, H0, ε, S, hS, hE, q⟩ hv
    simp only [evE] at q
    exact q w H v Ext.refl hS (hv w)
  cases d <;> cases c <;> simp [litB] at h
  · exact pe_non.imp fun σ H Q q => fin q fun w => RV_non
  · subst h; exact pe_bl.imp fun σ H Q q => fin q fun w => RV_bl
  · subst h; exact pe_int.imp fun σ H Q q => fin q fun w => RV_int
  · subst h; exact pe_str.imp fun σ H Q q => fin q fun w => RV_str
theorem s_var (g : Good T G call N sc fn W k X) {i : Nat} {x : Str} (h1 : N[i]? = some x) (h2 : visB sc x = true) : JE G W X (.Name x pos) (evE call (.var i)) := by
  obtain ⟨hv, hd, hc⟩ := vis_of h2
  refine (pe_var (by rw [g.hN]; exact h1) (by rw [g.hsc]; exact hv) hd hc).imp fun σ H Q q => ?_
  obtain ⟨w, H0, ε, S, hS, hE, q⟩ := q
  simp only [evE, getV] at q
  cases e : ε[i]? with
  | none => rw [e] at q; exact q.elim
  | some s =>
    rw [e] at q
    cases s with
    | un => exact q.elim
    | own d => exact q.elim
    | val d =>
      obtain ⟨v, e1, r⟩ := hE.sl i _ e
      exact ⟨v, e1, q w H v Ext.refl hS r⟩
/-- a value looked at -/
theorem s_opd (g : Good T G call N sc fn W k X) {a : Ex} {x : Expr} (h : JE G W X x (evE call a)) (hc : chE T N a sc fn x = true) : JO G W X x (fun ε S => opd ε a S (evE call a ε S)) := by
  by_cases hv : ∃ i, a = .var i
  · obtain ⟨i, rfl⟩ := hv
    simp only [chE] at hc
    split at hc
    · rename_i y pos
      simp only [Bool.and_eq_true, decide_eq_true_eq] at hc
      obtain ⟨h1, h2⟩ := hc
      obtain ⟨hv, hd, hcd⟩ := vis_of h2
      refine (pe_var (by rw [g.hN]; exact h1) (by rw [g.hsc]; exact hv) hd hcd).imp fun σ H Q q => ?_
      obtain ⟨w, H0, ε, S, hS, hE, q⟩ := q
      simp only [opd, evE, getV] at q
      cases e : ε[i]? with
      | none => rw [e] at q; exact q.elim
      | some s =>
        rw [e] at q
        cases s with
        | un => exact q.elim
        | own d =>
          obtain ⟨a, e1, e2, e3, _⟩ := hE.sl i _ e
          exact ⟨.ref a, e1, q w H _ Ext.refl hS (.inr ⟨a, rfl, e3, e2⟩)⟩
        | val d =>
          obtain ⟨v, e1, r⟩ := hE.sl i _ e
          exact ⟨v, e1, q w H v Ext.refl hS (.inl r)⟩
    · cases hc
  · refine h.imp fun σ H Q q => ?_
    obtain ⟨w, H0, ε, S, hS, hE, q⟩ := q
    refine ⟨w, H0, ε, S, hS, hE, ?_⟩
    have e : opd ε a S (evE call a ε S) = evE call a ε S := by
      unfold opd
      cases a <;> first | rfl | exact absurd ⟨_, rfl⟩ hv
    simp only [e] at q
    exact q.imp (fun d S' q w' H' v e hS' r => q w' H' v e hS' (.inl r)) fun _ _ q => q
theorem s_glb (g : Good T G call N sc fn W k X) {x : Str} {d : D} (h1 : glB sc x = true) (h2 : T.conB x d = true) : JE G W X (.Name x pos) (evE call (.glb x d)) := by
  obtain ⟨hf, u, hm, r⟩ := g.lw.con x d h2
  refine (pe_glob (g.gl h1) hm r (gl_of h1).2).imp fun σ H Q q => ?_
  obtain ⟨w, H0, ε, S, hS, hE, q⟩ := q
  simp only [evE] at q
  refine q w H _ Ext.refl hS ?_
  cases d <;> simp [flatD] at hf <;> simp [vOf, RV]
theorem s_bin (g : Good T G call N sc fn W k X) {o : BOp} {a b : Ex} {x y : Expr} (ha : JO G W X x (fun ε S => opd ε a S (evE call a ε S))) (hb : JO G W X y (fun ε S => opd ε b S (evE call b ε S))) :
    JE G W X (.BinOp x (bopN o) y pos) (evE call (.bin o a b)) := by
  refine (pe_op (bin_ok g.lw.hK o) ha hb).imp fun σ H Q q => ?_
  obtain ⟨w, H0, ε, S, hS, hE, q⟩ := q
  simp only [evE] at q
  refine rd_step (ev := fun ε S => opd ε a S (evE call a ε S)) monF hS hE q fun d1 S1 w1 H1 v e1 hS1 hE1 r1 q1 => ?_
  refine rd_step (ev := fun ε S => opd ε b S (evE call b ε S)) monF hS1 hE1 q1 fun d2 S2 w2 H2 u e2 hS2 hE2 r2 q2 => ?_
  obtain ⟨d, hd, q3⟩ := q2.of
  exact ⟨w2, S2, _, _, d, hS2, RO.ext e2 r1, r2, hd, q3⟩
theorem s_neg (g : Good T G call N sc fn W k X) {a : Ex} {x : Expr} (ha : JE G W X x (evE call a)) : JE G W X (.UnaryOp .USub x pos) (evE call (.neg a)) := by
  refine (pe_un (neg_ok (G := G)) ha).imp fun σ H Q q => ?_
  obtain ⟨w, H0, ε, S, hS, hE, q⟩ := q
  simp only [evE] at q
  refine rd_step (ev := evE call a) monF hS hE q fun d1 S1 w1 H1 v e1 hS1 hE1 r1 q1 => ?_
  cases d1 <;> try exact q1.elim
  exact ⟨w1, S1, _, hS1, .inl r1, q1⟩
theorem s_cmp (g : Good T G call N sc fn W k X) {o : COp} {a b : Ex} {x y : Expr} (ha : JO G W X x (fun ε S => opd ε a S (evE call a ε S))) (hb : JO G W X y (fun ε S => opd ε b S (evE call b ε S))) (hm : behindInMarks (copN o) y = false) :
    JE G W X (.Compare x [copN o] [y] pos) (evE call (.cmp o a b)) := by
  refine (pe_cmpR (cmp_ok g.lw.hK g.room.units o) ha hb hm).imp fun σ H Q q => ?_
  obtain ⟨w, H0, ε, S, hS, hE, q⟩ := q
  simp only [evE] at q
  refine rd_step (ev := fun ε S => opd ε a S (evE call a ε S)) monF hS hE q fun d1 S1 w1 H1 v e1 hS1 hE1 r1 q1 => ?_
  refine rd_step (ev := fun ε S => opd ε b S (evE call b ε S)) monF hS1 hE1 q1 fun d2 S2 w2 H2 u e2 hS2 hE2 r2 q2 => ?_
  obtain ⟨d, hd, q3⟩ := q2.of
  exact ⟨w2, S2, _, _, d, hS2, RO.ext e2 r1, r2, hd, q3⟩
theorem map_bl {o : Option Bool} {d : D} (h : o.map D.bl = some d) : ∃ k, o = some k ∧ d = .bl k := by
  cases o with
  | none => cases h
  | some k => cases h; exact ⟨k, rfl, rfl⟩
theorem t_cmp (g : Good T G call N sc fn W k X) {o : COp} {a b : Ex} {x y : Expr} (ha : JO G W X x (fun ε S => opd ε a S (evE call a ε S))) (hb : JO G W X y (fun ε S => opd ε b S (evE call b ε S))) (hm : behindInMarks (copN o) y = false) :
    JT G W X (.Compare x [copN o] [y] pos) (evT call (.cmp o a b)) := by
  refine (pt_cmpR (cmp_ok g.lw.hK g.room.units o) ha hb hm).imp fun σ H Q q => ?_
  obtain ⟨w, H0, ε, S, hS, hE, q⟩ := q
  simp only [evT] at q
  refine rd_step (ev := fun ε S => opd ε a S (evE call a ε S)) monF hS hE q fun d1 S1 w1 H1 v e1 hS1 hE1 r1 q1 => ?_
  refine rd_step (ev := fun ε S => opd ε b S (evE call b ε S)) monF hS1 hE1 q1 fun d2 S2 w2 H2 u e2 hS2 hE2 r2 q2 => ?_
  obtain ⟨d, hd, q3⟩ := q2.of
  refine ⟨w2, S2, _, _, .bl d, hS2, RO.ext e2 r1, r2, by simp [hd], fun w' H' v e hS' r => ?_⟩
  simp only [RV] at r
  exact ⟨d, r, q3 w' H' d e hS' rfl⟩
theorem s_chn (g : Good T G call N sc fn W k X) {o o' : COp} {a b c : Ex} {x y z : Expr} (ha : JO G W X x (fun ε S => opd ε a S (evE call a ε S))) (hb : JO G W X y (fun ε S => opd ε b S (evE call b ε S)))
    (hc : JO G W X z (fun ε S => opd ε c S (evE call c ε S))) (hm : lastMarks [copN o, copN o'] [y, z] = false) : JE G W X (.Compare x [copN o, copN o'] [y, z] pos) (evE call (.chn o o' a b c)) := by
  refine (pe_chain (cmp_ok g.lw.hK g.room.units o) (cmp_ok g.lw.hK g.room.units o') ha hb hc hm).imp fun σ H Q q => ?_
  obtain ⟨w, H0, ε, S, hS, hE, q⟩ := q
  simp only [evE] at q
  refine rd_step (ev := fun ε S => opd ε a S (evE call a ε S)) monF hS hE q fun d1 S1 w1 H1 v e1 hS1 hE1 r1 q1 => ?_
  refine rd_step (ev := fun ε S => opd ε b S (evE call b ε S)) monF hS1 hE1 q1 fun d2 S2 w2 H2 u e2 hS2 hE2 r2 q2 => ?_
  obtain ⟨kk, hk, q3⟩ := q2.bd.of
  refine ⟨w2, S2, _, _, .bl kk, hS2, RO.ext e2 r1, r2, by simp [hk], fun w3 H3 v' e3 hS3 r3 => ?_⟩
  simp only [RV] at r3
  have hE3 := hE2.ext e3
  refine ⟨kk, r3, ?_⟩
  cases kk with
  | true =>
    simp only [if_true] at q3 ⊢
    have q4 := q3.imp (P' := finP G (RV G.K) Q w3 H3) (PX' := PX G W σ w3 H3) (fun _ _ => monF.m e3) (fun _ _ => PXe.ext e3)
    refine rd_step (ev := fun ε S => opd ε c S (evE call c ε S)) monF hS3 hE3 q4 fun d4 S4 w4 H4 t e4 hS4 hE4 r4 q5 => ?_
    obtain ⟨d, hd, q6⟩ := q5.of
    exact ⟨w4, S4, _, _, d, hS4, RO.ext e4 (RO.ext e3 r2), r4, hd, q6⟩
  | false =>
    simp only [Bool.false_eq_true, if_false] at q3 ⊢
    exact q3 w3 H3 _ e3 hS3 RV_bl
theorem t_chn (g : Good T G call N sc fn W k X) {o o' : COp} {a b c : Ex} {x y z : Expr} (ha : JO G W X x (fun ε S => opd ε a S (evE call a ε S))) (hb : JO G W X y (fun ε S => opd ε b S (evE call b ε S)))
    (hc : JO G W X z (fun ε S => opd ε c S (evE call c ε S))) (hm : lastMarks [copN o, copN o'] [y, z] = false) : JT G W X (.Compare x [copN o, copN o'] [y, z] pos) (evT call (.chn o o' a b c)) := by
  refine (pt_chain (cmp_ok g.lw.hK g.room.units o) (cmp_ok g.lw.hK g.room.units o') ha hb hc hm).imp fun σ H Q q => ?_
  obtain ⟨w, H0, ε, S, hS, hE, q⟩ := q
  simp only [evT] at q
  refine rd_step (ev := fun ε S => opd ε a S (evE call a ε S)) monF hS hE q fun d1 S1 w1 H1 v e1 hS1 hE1 r1 q1 => ?_
  refine rd_step (ev := fun ε S => opd ε b S (evE call b ε S)) monF hS1 hE1 q1 fun d2 S2 w2 H2 u e2 hS2 hE2 r2 q2 => ?_
  obtain ⟨kk, hk, q3⟩ := q2.bd.of
  refine ⟨w2, S2, _, _, .bl kk, hS2, RO.ext e2 r1, r2, by simp [hk], fun w3 H3 v' e3 hS3 r3 => ?_⟩
  simp only [RV] at r3
  have hE3 := hE2.ext e3
  refine ⟨kk, r3, ?_⟩
  cases kk with
  | true =>
    simp only [if_true] at q3 ⊢
    have q4 := q3.imp (P' := finP G eqR Q w3 H3) (PX' := PX G W σ w3 H3) (fun _ _ => monF.m e3) (fun _ _ => PXe.ext e3)
    refine rd_step (ev := fun ε S => opd ε c S (evE call c ε S)) monF hS3 hE3 q4 fun d4 S4 w4 H4 t e4 hS4 hE4 r4 q5 => ?_
    obtain ⟨d, hd, q6⟩ := q5.of
    refine ⟨w4, S4, _, _, .bl d, hS4, RO.ext e4 (RO.ext e3 r2), r4, by simp [hd], fun w' H' v e hS' r => ?_⟩
    simp only [RV] at r
    exact ⟨d, r, q6 w' H' d e hS' rfl⟩
  | false =>
    simp only [Bool.false_eq_true, if_false] at q3 ⊢
    exact ⟨false, rfl, q3 w3 H3 _ e3 hS3 rfl⟩
theorem s_and {a b : Ex} {x y : Expr} {r : List Expr} (ha : JE G W X x (evE call a)) (hb : JE G W X (.BoolOp .And (y :: r) pos) (evE call b)) : JE G W X (.BoolOp .And (x :: y :: r) pos) (evE call (.and a b)) := by
  refine (pe_and ha hb).imp fun σ H Q q => ?_
  obtain ⟨w, H0, ε, S, hS, hE, q⟩ := q
  simp only [evE] at q
  refine rd_step (ev := evE call a) monF hS hE q fun d1 S1 w1 H1 v e1 hS1 hE1 r1 q1 => ?_
  cases d1 <;> try exact q1.elim
  rename_i c
  simp only [RV] at r1
  refine ⟨c, r1, ?_⟩
  cases c with
  | true =>
    simp only [if_true]
    exact ⟨w1, H0, ε, S1, hS1, hE1, q1⟩
  | false =>
    simp only [Bool.false_eq_true, if_false]
    exact q1 w1 H1 _ Ext.refl hS1 RV_bl
theorem s_or {a b : Ex} {x y : Expr} {r : List Expr} (ha : JE G W X x (evE call a)) (hb : JE G W X (.BoolOp .Or (y :: r) pos) (evE call b)) : JE G W X (.BoolOp .Or (x :: y :: r) pos) (evE call (.or a b)) := by
  refine (pe_or ha hb).imp fun σ H Q q => ?_
  obtain ⟨w, H0, ε, S, hS, hE, q⟩ := q
  simp only [evE] at q
  refine rd_step (ev := evE call a) monF hS hE q fun d1 S1 w1 H1 v e1 hS1 hE1 r1 q1 => ?_
  cases d1 <;> try exact q1.elim
  rename_i c
  simp only [RV] at r1
  refine ⟨c, r1, ?_⟩
  cases c with
  | false =>
    simp only [Bool.false_eq_true, if_false]
    exact ⟨w1, H0, ε, S1, hS1, hE1, q1⟩
  | true =>
    simp only [if_true]
    exact q1 w1 H1 _ Ext.refl hS1 RV_bl
theorem t_and {a b : Ex} {x y : Expr} {r : List Expr} (ha : JT G W X x (evT call a)) (hb : PW X (.BoolOp .And (y :: r) pos) (rd G W eqR (evT call b))) : PW X (.BoolOp .And (x :: y :: r) pos) (rd G W eqR (evT call (.and a b))) := by
  refine (pw_and ha hb).imp fun σ H Q q => ?_
  obtain ⟨w, H0, ε, S, hS, hE, q⟩ := q
  simp only [evT] at q
  refine rd_step (ev := evT call a) monF hS hE q fun c S1 w1 H1 v e1 hS1 hE1 r1 q1 => ?_
  obtain rfl : v = c := r1
  cases v with
  | true =>
    simp only [if_true] at q1 ⊢
    exact ⟨w1, H0, ε, S1, hS1, hE1, q1⟩
  | false =>
    simp only [Bool.false_eq_true, if_false] at q1 ⊢
    exact q1 w1 H1 _ Ext.refl hS1 rfl
theorem t_or {a b : Ex} {x y : Expr} {r : List Expr} (ha : JT G W X x (evT call a)) (hb : PW X (.BoolOp .Or (y :: r) pos) (rd G W eqR (evT call b))) : PW X (.BoolOp .Or (x :: y :: r) pos) (rd G W eqR (evT call (.or a b))) := by
  refine (pw_or ha hb).imp fun σ H Q q => ?_
  obtain ⟨w, H0, ε, S, hS, hE, q⟩ := q
  simp only [evT] at q
  refine rd_step (ev := evT call a) monF hS hE q fun c S1 w1 H1 v e1 hS1 hE1 r1 q1 => ?_
  obtain rfl : v = c := r1
  cases v with
  | true =>
    simp only [if_true] at q1 ⊢
    exact q1 w1 H1 _ Ext.refl hS1 rfl
  | false =>
    simp only [Bool.false_eq_true, if_false] at q1 ⊢
    exact ⟨w1, H0, ε, S1, hS1, hE1, q1⟩
theorem t_not {a : Ex} {x : Expr} (ha : JT G W X x (evT call a)) : JT G W X (.UnaryOp .Not x pos) (evT call (.not a)) := by
  refine (pt_not ha).imp fun σ H Q q => ?_
  obtain ⟨w, H0, ε, S, hS, hE, q⟩ := q
  simp only [evT] at q
  refine rd_step (ev := evT call a) monF hS hE q fun c S1 w1 H1 v e1 hS1 hE1 r1 q1 => ?_
  obtain rfl : v = c := r1
  exact q1 w1 H1 _ Ext.refl hS1 rfl
/-- not x, by x's truth -/
theorem s_not (g : Good T G call N sc fn W k X) {a : Ex} {x : Expr} (ha : JO G W X x (fun ε S => opd ε a S (evE call a ε S))) : JE G W X (.UnaryOp .Not x pos) (evE call (.not a)) := by
  refine ⟨fun pins s σ H Q I q => ?_⟩
  obtain ⟨w, H0, ε, S, hS, hE, q⟩ := q
  simp only [evE] at q
  refine UnaryOp_ (thn (ha.run pins s σ H (fun v H' => ∃ kk, TruV X.K v H' kk ∧ Q (.bl (!kk)) H') I ?_) fun v s1 ⟨y, H1, I1, r1, kk, t1, q1⟩ => ?_)
  · refine rd_step (ev := fun ε S => opd ε a S (evE call a ε S)) monF hS hE q fun d1 S1 w1 H1 v e1 hS1 hE1 r1 q1 => ?_
    obtain ⟨d, hd, q2⟩ := q1.of
    cases hk : truF d1 with
    | none => rw [hk] at hd; cases hd
    | some kk =>
      rw [hk] at hd
      cases hd
      exact ⟨kk, tru_of g.lw.hK r1 hk, q2 w1 H1 _ Ext.refl hS1 RV_bl⟩
  · refine not_of (thn (tru_ok pins s1 σ H1 y v (fun kk H' => Q (.bl (!kk)) H') I1 r1 ⟨kk, t1, q1⟩) fun b s2 ⟨H2, I2, q2⟩ => ?_)
    exact ⟨.bl (!b), H2, I2, rfl, q2⟩
theorem s_ite {c a b : Ex} {z x y : Expr} (hc : JT G W X z (evT call c)) (ha : JE G W X x (evE call a)) (hb : JE G W X y (evE call b)) : JE G W X (.IfExp z x y pos) (evE call (.ite c a b)) := by
  refine (pe_ifExp hc ha hb).imp fun σ H Q q => ?_
  obtain ⟨w, H0, ε, S, hS, hE, q⟩ := q
  simp only [evE] at q
  refine rd_step (ev := evT call c) monF hS hE q fun c' S1 w1 H1 v e1 hS1 hE1 r1 q1 => ?_
  obtain rfl : v = c' := r1
  cases v with
  | true =>
    simp only [if_true] at q1 ⊢
    exact ⟨w1, H0, ε, S1, hS1, hE1, q1⟩
  | false =>
    simp only [Bool.false_eq_true, if_false] at q1 ⊢
    exact ⟨w1, H0, ε, S1, hS1, hE1, q1⟩
/-- a test by the value's truth -/
theorem t_val (g : Good T G call N sc fn W k X) {ev : Env → Sto → R D} {x : Expr} (ha : PE X x (rd G W (RO G.K) ev)) (he : ∀ whole, isTrue x X.env whole = (do let v ← whole; standAt x.pos; holding [v] (truthy v))) :
    JT G W X x (fun ε S => (ev ε S).bd fun d S1 => R.of S1 (truF d)) := by
  refine (pt_truth ha he).imp fun σ H Q q => ?_
  obtain ⟨w, H0, ε, S, hS, hE, q⟩ := q
  refine rd_step (ev := ev) monF hS hE q fun d1 S1 w1 H1 v e1 hS1 hE1 r1 q1 => ?_
  obtain ⟨d, hd, q2⟩ := q1.of
  exact ⟨d, tru_of g.lw.hK r1 hd, q2 w1 H1 _ Ext.refl hS1 rfl⟩
theorem je_toO {ev : Env → Sto → R D} {x : Expr} (h : JE G W X x ev) : JO G W X x ev := h.imp fun σ H Q ⟨w, H0, ε, S, hS, hE, q⟩ => ⟨w, H0, ε, S, hS, hE, q.imp (fun d S' q w' H' v e hS' r => q w' H' v e hS' (.inl r)) fun _ _ q => q⟩
/-! argument lists -/
abbrev JA (G : Gx) (W : WX) (X : Cx) (xs : List Expr) (ev : Env → Sto → R (List D)) : Prop := PA X xs (rd G W (RVs G.K) ev)
abbrev JAo (G : Gx) (W : WX) (X : Cx) (xs : List Expr) (ev : Env → Sto → R (List D)) : Prop := PA X xs (rd G W (ROs G.K) ev)
theorem a_nil : JA G W X [] (evEs call []) := by
  refine pa_nil.imp fun σ H Q q => ?_
  obtain ⟨w, H0, ε, S, hS, hE, q⟩ := q
  simp only [evEs] at q
  exact q w H [] Ext.refl hS (by simp [RVs])
theorem a_cons {e : Ex} {es : List Ex} {x : Expr} {xs : List Expr} (h1 : JE G W X x (evE call e)) (h2 : JA G W X xs (evEs call es)) (hn : notStar x = true) : JA G W X (x :: xs) (evEs call (e :: es)) := by
  refine (pa_cons h1 h2 (starEach_cons hn)).imp fun σ H Q q => ?_
  obtain ⟨w, H0, ε, S, hS, hE, q⟩ := q
  simp only [evEs] at q
  refine rd_step (ev := evE call e) monF hS hE q fun d1 S1 w1 H1 v e1 hS1 hE1 r1 q1 => ?_
  refine rd_step (ev := evEs call es) monF hS1 hE1 q1 fun d2 S2 w2 H2 u e2 hS2 hE2 r2 q2 => ?_
  refine q2 w2 H2 _ Ext.refl hS2 ?_
  simp only [RVs]
  exact ⟨v, u, rfl, RV.ext e2 _ _ r1, r2⟩
theorem o_nil : JAo G W X [] (evOs call []) := by
  refine pa_nil.imp fun σ H Q q => ?_
  obtain ⟨w, H0, ε, S, hS, hE, q⟩ := q
  simp only [evOs] at q
  exact q w H [] Ext.refl hS rfl
theorem o_cons {e : Ex} {es : List Ex} {x : Expr} {xs : List Expr} (h1 : JO G W X x (fun ε S => opd ε e S (evE call e ε S))) (h2 : JAo G W X xs (evOs call es)) (hn : notStar x = true) : JAo G W X (x :: xs) (evOs call (e :: es)) := by
  refine (pa_cons h1 h2 (starEach_cons hn)).imp fun σ H Q q => ?_
  obtain ⟨w, H0, ε, S, hS, hE, q⟩ := q
  simp only [evOs] at q
  refine rd_step (ev := fun ε S => opd ε e S (evE call e ε S)) monF hS hE q fun d1 S1 w1 H1 v e1 hS1 hE1 r1 q1 => ?_
  refine rd_step (ev := evOs call es) monF hS1 hE1 q1 fun d2 S2 w2 H2 u e2 hS2 hE2 r2 q2 => ?_
  exact q2 w2 H2 _ Ext.refl hS2 ⟨v, u, rfl, RO.ext e2 r1, r2⟩
theorem s_tup {es : List Ex} {xs : List Expr} {j : Nat} (h : JA G W X xs (evEs call es)) : JE G W X (.Tuple xs j pos) (evE call (.tup es)) := by
  refine (pe_tup h).imp fun σ H Q q => ?_
  obtain ⟨w, H0, ε, S, hS, hE, q⟩ := q
  simp only [evE] at q
  refine rd_step (ev := evEs call es) monF hS hE q fun ds S1 w1 H1 vs e1 hS1 hE1 r1 q1 => ?_
  split at q1
  · rename_i hz
    exact ⟨by rw [r1.length]; exact hz, fun p hp => An.tup q1 hS1 hp r1⟩
  · exact q1.elim
theorem s_lst {es : List Ex} {xs : List Expr} (h : JA G W X xs (evEs call es)) : JE G W X (.List xs pos) (evE call (.lst es)) := by
  refine (pe_lst h).imp fun σ H Q q => ?_
  obtain ⟨w, H0, ε, S, hS, hE, q⟩ := q
  simp only [evE] at q
  refine rd_step (ev := evEs call es) monF hS hE q fun ds S1 w1 H1 vs e1 hS1 hE1 r1 q1 => ?_
  split at q1
  · rename_i hz
    exact ⟨by rw [r1.length]; exact hz, fun p hp => An.lst q1 hS1 hp r1⟩
  · exact q1.elim
theorem s_nlst {es : List Ex} {xs : List Expr} (h : JA G W X xs (evEs call es)) : JE G W X (.List xs pos) (evE call (.nlst es)) := by
  refine (pe_lst h).imp fun σ H Q q => ?_
  obtain ⟨w, H0, ε, S, hS, hE, q⟩ := q
  simp only [evE] at q
  refine rd_step (ev := evEs call es) monF hS hE q fun ds S1 w1 H1 vs e1 hS1 hE1 r1 q1 => ?_
  split at q1
  · rename_i hz
    exact ⟨by rw [r1.length]; exact hz, fun p hp => q1 _ _ _ (ext_obj hS1 hp) (rst_obj hS1 hp r1) (rv_obj hS1 hp)⟩
  · exact q1.elim
theorem s_ix (g : Good T G call N sc fn W k X) {a b : Ex} {x y : Expr} (ha : JO G W X x (fun ε S => opd ε a S (evE call a ε S))) (hb : JE G W X y (evE call b)) (hn : notSlice y = true) : JE G W X (.Subscript x y pos) (evE call (.ix a b)) := by
  refine (pe_ix (ix_ok g.lw.hK) ha hb (plainIx_of hn)).imp fun σ H Q q => ?_
  obtain ⟨w, H0, ε, S, hS, hE, q⟩ := q
  simp only [evE] at q
  refine rd_step (ev := fun ε S => opd ε a S (evE call a ε S)) monF hS hE q fun d1 S1 w1 H1 v e1 hS1 hE1 r1 q1 => ?_
  refine rd_step (ev := evE call b) monF hS1 hE1 q1 fun d2 S2 w2 H2 u e2 hS2 hE2 r2 q2 => ?_
  have : ∃ d, ixS S2 d1 d2 = some d ∧ An G w2 S2 H2 d Q := by
    cases d1 <;> try (obtain ⟨d, hd, q3⟩ := q2.of; exact ⟨d, hd, q3⟩)
    rename_i n
    dsimp only at q2
    split at q2
    · rename_i l e
      obtain ⟨d, hd, q3⟩ := q2.of
      exact ⟨d, by simp only [ixS, e]; exact hd, q3⟩
    · exact q2.elim
  obtain ⟨d, hd, q3⟩ := this
  exact ⟨w2, S2, _, _, d, hS2, RO.ext e2 r1, .inl r2, hd, q3⟩
abbrev JP (G : Gx) (W : WX) (X : Cx) (o : Option Expr) (ev : Env → Sto → R (Option Int)) : Prop := PO X o (rd G W eqR ev)
theorem p_none : JP G W X none (evP call none) := by
  refine ⟨fun pins s σ H Q I q => po_none.run pins s σ H Q I ?_⟩
  obtain ⟨w, H0, ε, S, hS, hE, q⟩ := q
  simp only [evP] at q
  exact q w H none Ext.refl hS rfl
theorem p_some {a : Ex} {x : Expr} (ha : JE G W X x (evE call a)) : JP G W X (some x) (evP call (some a)) := by
  refine ⟨fun pins s σ H Q I q => (po_some ha).run pins s σ H Q I ?_⟩
  obtain ⟨w, H0, ε, S, hS, hE, q⟩ := q
  simp only [evP] at q
  refine rd_step (ev := evE call a) monF hS hE q fun d1 S1 w1 H1 v e1 hS1 hE1 r1 q1 => ?_
  cases d1 <;> try exact q1.elim
  simp only [RV] at r1
  exact ⟨_, r1, q1 w1 H1 _ Ext.refl hS1 rfl⟩
theorem s_sl (g : Good T G call N sc fn W k X) {a : Ex} {lo hi : Option Ex} {x : Expr} {l h : Option Expr} (ha : JO G W X x (fun ε S => opd ε a S (evE call a ε S))) (hl : JP G W X l (evP call lo)) (hh : JP G W X h (evP call hi)) :
    JE G W X (.Subscript x (.Slice l h none p2) pos) (evE call (.sl a lo hi)) := by
  refine (pe_slice (sl_ok (G := G) g.lw.hK) ha hl hh).imp fun σ H Q q => ?_
  obtain ⟨w, H0, ε, S, hS, hE, q⟩ := q
  simp only [evE] at q
  refine rd_step (ev := fun ε S => opd ε a S (evE call a ε S)) monF hS hE q fun d1 S1 w1 H1 v e1 hS1 hE1 r1 q1 => ?_
  refine rd_step (ev := evP call lo) monF hS1 hE1 q1 fun d2 S2 w2 H2 u e2 hS2 hE2 r2 q2 => ?_
  refine rd_step (ev := evP call hi) monF hS2 hE2 q2 fun d3 S3 w3 H3 u3 e3 hS3 hE3 r3 q3 => ?_
  obtain rfl : u = d2 := r2
  obtain rfl : u3 = d3 := r3
  obtain ⟨d, hd, q4⟩ := q3.of
  exact ⟨w3, S3, _, d, hS3, RO.ext e3 (RO.ext e2 r1), hd, q4⟩
theorem s_blt (g : Good T G call N sc fn W k X) {b : Blt} {es : List Ex} {y : Expr} {xs : List Expr} (hg : glB sc (bltN b) = true) (h : JAo G W X (y :: xs) (evOs call es)) (hn : (y :: xs).all notStar = true) :
    JE G W X (.Call (.Name (bltN b) p1) (y :: xs) [] pos) (evE call (.blt b es)) := by
  simp only [List.all_cons, Bool.and_eq_true] at hn
  have hnn : bltN b ≠ "__name__" := by cases b <;> decide +kernel
  have key : PE X (.Call (.Name (bltN b) p1) (y :: xs) [] pos) (tCB (rDL G (bltF b)) (rd G W (ROs G.K) (evOs call es))) := by
    have ok := blt_ok g.lw.hK g.calm b
    have bo := blt_boot b
    cases b <;> first
      | exact pe_callB ok (g.gl hg) (g.lw.blt _) bo h hnn (gl_of hg).2 (starEach_cons hn.1) (starAll hn.2)
      | exact pe_callTy ok (g.gl hg) (g.lw.blt _) bo h hnn (gl_of hg).2 (starEach_cons hn.1) (starAll hn.2)
  refine key.imp fun σ H Q q => ?_
  obtain ⟨w, H0, ε, S, hS, hE, q⟩ := q
  simp only [evE] at q
  refine rd_step (ev := evOs call es) monF hS hE q fun ds S1 w1 H1 vs e1 hS1 hE1 r1 q1 => ?_
  obtain ⟨d, hd, q2⟩ := q1.of
  exact ⟨w1, S1, ds, d, hS1, r1, hd, q2⟩
theorem tyV_bltn (g : Good T G call N sc fn W k X) {t : Ty} (hg : glB sc (Str.ofString (tyN t)) = true) : PE X (.Name (Str.ofString (tyN t)) pos) (tC (.ty (tyN t))) :=
  pe_bltn (g.gl hg) (g.lw.tys t) (ty_boot t) rfl (by cases t <;> decide +kernel) (gl_of hg).2
theorem s_isi (g : Good T G call N sc fn W k X) {a : Ex} {t : Ty} {y : Expr} (hg : glB sc "isinstance" = true) (ha : JO G W X y (fun ε S => opd ε a S (evE call a ε S))) (hn : notStar y = true) (ht : glB sc (Str.ofString (tyN t)) = true) :
    JE G W X (.Call (.Name "isinstance" p1) [y, .Name (Str.ofString (tyN t)) p2] [] pos) (evE call (.isi a t)) := by
  have h2 : PA X [y, .Name (Str.ofString (tyN t)) p2] _ := pa_cons ha (pa_cons (tyV_bltn g ht) pa_nil rfl) (starEach_cons hn)
  refine (pe_callB (isi_ok (G := G) g.lw.hK t) (g.gl hg) g.lw.isi PyProof.Rows.boot_isinstance h2 (by decide) (gl_of hg).2 (starEach_cons hn) rfl).imp fun σ H Q q => ?_
  obtain ⟨w, H0, ε, S, hS, hE, q⟩ := q
  simp only [evE] at q
  refine rd_step (ev := fun ε S => opd ε a S (evE call a ε S)) monF hS hE q fun d1 S1 w1 H1 v e1 hS1 hE1 r1 q1 => ?_
  obtain ⟨d, hd, q2⟩ := q1.of
  obtain ⟨kk, hk, rfl⟩ := map_bl hd
  exact ⟨w1, S1, v, d1, kk, rfl, hS1, r1, hk, q2 w1 H1 _ Ext.refl hS1 RV_bl⟩
theorem t_isi (g : Good T G call N sc fn W k X) {a : Ex} {t : Ty} {y : Expr} (hg : glB sc "isinstance" = true) (ha : JO G W X y (fun ε S => opd ε a S (evE call a ε S))) (hn : notStar y = true) (ht : glB sc (Str.ofString (tyN t)) = true) :
    JT G W X (.Call (.Name "isinstance" p1) [y, .Name (Str.ofString (tyN t)) p2] [] pos) (evT call (.isi a t)) := by
  refine (t_val g (je_toO (s_isi (p1 := p1) (p2 := p2) (pos := pos) g hg ha hn ht)) fun _ => rfl).imp fun σ H Q q => ?_
  obtain ⟨w, H0, ε, S, hS, hE, q⟩ := q
  refine ⟨w, H0, ε, S, hS, hE, ?_⟩
  simp only [evT, evE] at q ⊢
  cases e : opd ε a S (evE call a ε S) with
  | ok d S1 =>
    rw [e] at q
    simp only [R.bd_ok] at q ⊢
    cases e2 : kindIs d t with
    | none => rw [e2] at q; exact q.elim
    | some kk => rw [e2] at q; exact q
  | exc x S1 => rw [e] at q; exact q
  | stuck => rw [e] at q; exact q
theorem s_call (g : Good T G call N sc fn W k X) {f : Nat} {es : List Ex} {dv : List D} {xs : List Expr} (hg : glB sc (T.nm f) = true) (hf : T.isF f = true) (hd : T.dvB f xs.length dv = true) (hl : es.length = xs.length) (h : JA G W X xs (evEs call es)) (hn : xs.all notStar = true) :
    JE G W X (.Call (.Name (T.nm f) p1) xs [] pos) (evE call (.call f es dv)) := by
  obtain ⟨a, fd, ps, hm, hk, F, hb⟩ := g.lw.fns f hf
  obtain ⟨hfl, ds, hv, hB⟩ := hb.1 _ dv hd
  have fin : ∀ {σ : St} {H : Hp} {Q : VK}, rd G W (RV G.K) (evE call (.call f es dv)) σ H Q → rd G W (RVs G.K) (evEs call es) σ H (fun vs H1 => spOf G (call f) (vs ++ dv.map vOf) H1 Q (WE W σ)) := by
    rintro σ H Q ⟨w, H0, ε, S, hS, hE, q⟩
    simp only [evE] at q
    refine rd_step (ev := evEs call es) monF hS hE q fun ds1 S1 w1 H1 vs e1 hS1 hE1 r1 q1 => ?_
    refine ⟨w1, S1, ds1 ++ dv, hS1, r1.append ?_, q1⟩
    clear hd q1 r1 q hv hB hb
    induction dv with
    | nil => simp [RVs]
    | cons d dv ih =>
      simp only [List.all_cons, Bool.and_eq_true] at hfl
      simp only [List.map_cons, RVs]
      refine ⟨_, _, rfl, ?_, ih hfl.2⟩
      have := hfl.1
      cases d <;> simp [flatD] at this <;> simp [vOf, RV]
  cases xs with
  | nil => 
    refine (⟨fun pins s σ H Q I h => ?_⟩ : PE X (.Call (.Name (T.nm f) p1) [] [] pos) (fun σ H Q => spOf G (call f) (dv.map vOf) H Q (WE W σ))).imp fun σ H Q q => ?_
    · refine wpAny_Call_Name_kw (ld_glob I (g.gl hg) hm ?_ (gl_of hg).2)
      exact PySem.W.callWith_K0 I.kIn hk (run_fnSD (E := WE W) (us := []) (vs := []) F g.room hB hv (passAt g.tk σ) I .nil h)
    · obtain ⟨w, H0, ε, S, hS, hE, q⟩ := fin q
      cases es with
      | nil =>
        simp only [evEs] at q
        exact q w H [] Ext.refl hS (by simp [RVs])
      | cons e es => simp at hl
  | cons y xs =>
    simp only [List.all_cons, Bool.and_eq_true] at hn
    exact (pe_callSD (E := WE W) F g.room (g.gl hg) hm hk hB hv (fun σ => passAt g.tk σ) h (gl_of hg).2 (starEach_cons hn.1) (starAll hn.2)).imp fun σ H Q q => fin q
/-! keywords -/
abbrev JK (G : Gx) (W : WX) (X : Cx) (kws : List Keyword) (ev : Env → Sto → R (List D)) : Prop := PK X kws (rd G W (RVs G.K) ev)
theorem _root_.L2.PK.imp {X : Cx} {e : List Keyword} {t t' : TA} (h : PK X e t) (k : ∀ σ H Q, t' σ H Q → t σ H Q) : PK X e t' := ⟨fun pos pins s σ H Q I q => h.run pos pins s σ H Q I (k _ _ _ q)⟩
theorem k_nil : JK G W X [] (evEs call []) := by
  refine pk_nil.imp fun σ H Q q => ?_
  obtain ⟨w, H0, ε, S, hS, hE, q⟩ := q
  simp only [evEs] at q
  exact q w H [] Ext.refl hS (by simp [RVs])
theorem k_cons {e : Ex} {es : List Ex} {x : Expr} {kws : List Keyword} {nm : Option Str} {kp : Pos} (h1 : JE G W X x (evE call e)) (h2 : JK G W X kws (evEs call es)) : JK G W X (⟨nm, x, kp⟩ :: kws) (evEs call (e :: es)) := by
  refine (pk_cons h1 h2).imp fun σ H Q q => ?_
  obtain ⟨w, H0, ε, S, hS, hE, q⟩ := q
  simp only [evEs] at q
  refine rd_step (ev := evE call e) monF hS hE q fun d1 S1 w1 H1 v e1 hS1 hE1 r1 q1 => ?_
  refine rd_step (ev := evEs call es) monF hS1 hE1 q1 fun d2 S2 w2 H2 u e2 hS2 hE2 r2 q2 => ?_
  refine q2 w2 H2 _ Ext.refl hS2 ?_
  simp only [RVs]
  exact ⟨v, u, rfl, RV.ext e2 _ _ r1, r2⟩
theorem chKs_all : ∀ {es : List Ex} {kws : List Keyword} {ks : List Str} {env : PySem.Env}, chKs T N es sc fn kws ks = true →
    (backToKw pos (keywordEach kws env)).all (·.1.isSome) = true ∧ (backToKw pos (keywordEach kws env)).filterMap (·.1) = ks ∧ (backToKw pos (keywordEach kws env)).any (·.1.isNone) = false ∧ es.length = ks.length
  | [], kws, ks, env, h => by
    simp only [chKs] at h
    split at h
    · exact ⟨rfl, rfl, rfl, rfl⟩
    · cases h
  | e :: es, kws, ks, env, h => by
    simp only [chKs] at h
    split at h
    · rename_i n x kp kws k2 ks
      simp only [Bool.and_eq_true, beq_iff_eq] at h
      obtain ⟨⟨rfl, h2⟩, h3⟩ := h
      obtain ⟨a1, a2, a3, a4⟩ := chKs_all (env := env) h3
      refine ⟨?_, ?_, ?_, by simp [a4]⟩
      · show (true && (backToKw pos (keywordEach kws env)).all (·.1.isSome)) = true
        rw [a1]; rfl
      · show n :: (backToKw pos (keywordEach kws env)).filterMap (·.1) = _
        rw [a2]
      · show (false || (backToKw pos (keywordEach kws env)).any (·.1.isNone)) = false
        rw [a3]; rfl
    · cases h
theorem s_callK (g : Good T G call N sc fn W k X) {f : Nat} {es kes : List Ex} {ks : List Str} {pm : List (Nat ⊕ D)} {y : Expr} {xs : List Expr} {kws : List Keyword} (hg : glB sc (T.nm f) = true) (hf : T.isF f = true) (hd : T.kwB f (xs.length + 1) ks pm = true)
    (hl : es.length = xs.length + 1) (h : JA G W X (y :: xs) (evEs call es)) (hn : (y :: xs).all notStar = true) (hk : JK G W X kws (evEs call kes)) (hc : chKs T N kes sc fn kws ks = true) :
    JE G W X (.Call (.Name (T.nm f) p1) (y :: xs) kws pos) (evE call (.callK f es ks kes pm)) := by
  obtain ⟨a, fd, ps, hm, hkp, F, _, hb⟩ := g.lw.fns f hf
  obtain ⟨hfl, gg, hB⟩ := hb _ ks pm hd
  obtain ⟨c1, c2, c3, c4⟩ := chKs_all (pos := pos) (env := X.env) hc
  simp only [List.all_cons, Bool.and_eq_true] at hn
  have key : PE X (.Call (.Name (T.nm f) p1) (y :: xs) kws pos) (fun σ H Q => rd G W (RVs G.K) (evEs call es) σ H fun vs H1 => rd G W (RVs G.K) (evEs call kes) σ H1 fun zs H2 => vs.length = xs.length + 1 ∧ zs.length = ks.length ∧ spOf G (call f) (pmV (vs ++ zs) pm) H2 Q (WE W σ)) := by
    refine ⟨fun pins s σ H Q I q => ?_⟩
    refine wpAny_Call_Name_kw (ld_glob I (g.gl hg) hm ?_ (gl_of hg).2)
    refine PySem.W.callWith_KW (h₀ := X.base) I.ok.mod.kin hkp c1 (thn (h.run pos pins s σ H _ I q) fun us s1 ⟨vs, H1, I1, r, q1⟩ => ?_) (by rw [starEach_cons hn.1]; show (false || (backTo pos (starEach xs X.env)).any (·.1) || _) = false; rw [starAll hn.2, c3]; rfl) (starEach_cons hn.1)
    refine thn (hk.run pos pins s1 σ H1 _ I1 q1) fun ws s2 ⟨zs, H2, I2, rz, l1, l2, q2⟩ => ⟨I2.kIn, ?_⟩
    rw [c2]
    have r2 := hB.rel r rz
    refine wpAny_call (codeAny_mono (F.run X.A X.stack s2 H2 ⟨us, ks.zip ws⟩ (gg us ws) _ Q (WE W σ) g.room I2.env0 (hB.to s2 us ws I2.kIn (r.length.symm.trans l1) (rz.length.symm.trans l2)) r2 q2) fun res s3 hq => ?_)
    cases res with
    | error e => exact passAt g.tk σ pins H2 s2 e s3 I2 hq
    | ok fl =>
      cases fl with
      | ret u => exact I2.after hq
      | next => exact False.elim hq
      | brk => exact False.elim hq
      | cont => exact False.elim hq
  refine key.imp fun σ H Q q => ?_
  obtain ⟨w, H0, ε, S, hS, hE, q⟩ := q
  simp only [evE] at q
  have len : ∀ {es : List Ex} {ε : Env} {S S' : Sto} {ds : List D}, evEs call es ε S = .ok ds S' → ds.length = es.length := by
    intro es
    induction es with
    | nil => intro ε S S' ds h; simp only [evEs] at h; cases h; rfl
    | cons e es ih =>
      intro ε S S' ds h
      simp only [evEs] at h
      cases e1 : evE call e ε S with
      | ok d S1 =>
        rw [e1] at h
        simp only [R.bd_ok] at h
        cases e2 : evEs call es ε S1 with
        | ok d2 S2 => rw [e2] at h; simp only [R.bd_ok] at h; cases h; simp [ih e2]
        | exc _ _ => rw [e2] at h; cases h
        | stuck => rw [e2] at h; cases h
      | exc _ _ => rw [e1] at h; cases h
      | stuck => rw [e1] at h; cases h
  cases e1 : evEs call es ε S with
  | stuck => rw [e1] at q; exact q.elim
  | exc x S1 =>
    refine ⟨w, H0, ε, S, hS, hE, ?_⟩
    rw [e1] at q ⊢
    exact q
  | ok ds S1 =>
    refine ⟨w, H0, ε, S, hS, hE, ?_⟩
    rw [e1] at q ⊢
    simp only [R.bd_ok] at q
    intro w1 H1 vs x1 hS1 r1
    have hE1 := hE.ext x1
    cases e2 : evEs call kes ε S1 with
    | stuck => rw [e2] at q; exact q.elim
    | exc x S2 =>
      refine ⟨w1, H0, ε, S1, hS1, hE1, ?_⟩
      rw [e2] at q ⊢
      exact PXe.ext x1 q
    | ok zs S2 =>
      refine ⟨w1, H0, ε, S1, hS1, hE1, ?_⟩
      rw [e2] at q ⊢
      simp only [R.bd_ok] at q
      intro w2 H2 us x2 hS2 r2
      refine ⟨by rw [r1.length, len e1, hl], by rw [r2.length, len e2, c4], w2, S2, pmF (ds ++ zs) pm, hS2, pm_rvs ((RVs.ext x2 _ _ r1).append r2) hfl, ?_⟩
      exact q.imp (fun _ _ => monF.m (x1.trans x2)) fun _ _ => PXe.ext (x1.trans x2)
/-! further functions of values -/
theorem RVs.rev {K : PySem.W.Frag} {w : Wd} {H : Hp} : ∀ {ds : List D} {vs : List V}, RVs K w H vs ds → RVs K w H vs.reverse ds.reverse
  | [], vs, h => by simp only [RVs] at h; subst h; simp [RVs]
  | d :: ds, vs, h => by
    simp only [RVs] at h
    obtain ⟨v, r, rfl, h1, h2⟩ := h
    rw [List.reverse_cons, List.reverse_cons]
    exact h2.rev.append (by simp only [RVs]; exact ⟨v, [], rfl, h1, rfl⟩)
theorem s_lrev (g : Good T G call N sc fn W k X) {a : Ex} {z : Expr} {pos2 : Pos} (h1 : glB sc "list" = true) (h2 : glB sc "reversed" = true) (hn : notStar z = true) (ha : JE G W X z (evE call a)) :
    JE G W X (.Call (.Name "list" p1) [.Call (.Name "reversed" p2) [z] [] pos2] [] pos) (evE call (.op1 .lrev a)) := by
  refine (pe_lstRev g.calm (g.gl h1) (g.lw.blt .list) (g.gl h2) g.lw.rev ha (starEach_cons hn)).imp fun σ H Q q => ?_
  obtain ⟨w, H0, ε, S, hS, hE, q⟩ := q
  simp only [evE] at q
  refine rd_step (ev := evE call a) monF hS hE q fun d1 S1 w1 H1 v e1 hS1 hE1 r1 q1 => ?_
  obtain ⟨d, hd, q2⟩ := q1.of
  cases d1 <;> simp only [op1F] at hd <;> try cases hd
  simp only [RV] at r1
  obtain ⟨a, vs, rfl, r2, r3⟩ := r1
  exact ⟨a, vs, rfl, .inl r2.2, fun p hp => An.lst q2 hS1 hp r3.rev⟩
theorem rvs_rg {K : PySem.W.Frag} {w : Wd} {H : Hp} {i j : Int} : RVs K w H (rgV i j) (rngL0 i j) := by
  unfold rgV rngL0
  generalize List.range (j - i).toNat = l
  induction l with
  | nil => simp [RVs]
  | cons x l ih => simp only [List.map_cons, RVs]; exact ⟨_, _, rfl, RV_int, ih⟩
theorem rvs_ints {K : PySem.W.Frag} {w : Wd} {H : Hp} : ∀ (ns : List Int), RVs K w H (ns.map V.int) (ns.map D.int)
  | [] => by simp [RVs]
  | n :: ns => by simp only [List.map_cons, RVs]; exact ⟨_, _, rfl, RV_int, rvs_ints ns⟩
theorem s_srt (g : Good T G call N sc fn W k X) {a : Ex} {z : Expr} (h1 : glB sc "sorted" = true) (hn : notStar z = true) (ha : JE G W X z (evE call a)) : JE G W X (.Call (.Name "sorted" p1) [z] [] pos) (evE call (.op1 .srt a)) := by
  refine (pe_callB cr_sortedI (g.gl h1) g.lw.srt PyProof.Rows.boot_sorted (pa_cons ha pa_nil (starEach_cons hn)) (by decide) (gl_of h1).2 (starEach_cons hn) rfl).imp fun σ H Q q => ?_
  obtain ⟨w, H0, ε, S, hS, hE, q⟩ := q
  simp only [evE] at q
  refine rd_step (ev := evE call a) monF hS hE q fun d1 S1 w1 H1 v e1 hS1 hE1 r1 q1 => ?_
  obtain ⟨d, hd, q2⟩ := q1.of
  cases d1 <;> simp only [op1F] at hd <;> try cases hd
  rename_i l
  cases hi : intsOf l with
  | none => rw [hi] at hd; cases hd
  | some ns =>
    rw [hi] at hd
    cases hd
    simp only [RV] at r1
    obtain ⟨a, vs, rfl, r2, r3⟩ := r1
    obtain rfl := r3.ints hi
    exact ⟨a, ns, rfl, .inl r2.2, fun ns' p hp hs hpn => by rw [sortI_eq hp hs]; exact An.lst q2 hS1 hpn (rvs_ints _)⟩
theorem s_lrg (g : Good T G call N sc fn W k X) {a : Ex} {z : Expr} {pos2 : Pos} (h1 : glB sc "list" = true) (h2 : glB sc "range" = true) (hn : notStar z = true) (ha : JE G W X z (evE call a)) :
    JE G W X (.Call (.Name "list" p1) [.Call (.Name "range" p2) [z] [] pos2] [] pos) (evE call (.op1 .lrg a)) := by
  refine (pe_listRg g.calm (g.gl h1) (g.lw.blt .list) (prg_1 (g.gl h2) g.lw.rng ha (starEach_cons hn))).imp fun σ H Q q => ?_
  obtain ⟨w, H0, ε, S, hS, hE, q⟩ := q
  simp only [evE] at q
  refine rd_step (ev := evE call a) monF hS hE q fun d1 S1 w1 H1 v e1 hS1 hE1 r1 q1 => ?_
  obtain ⟨d, hd, q2⟩ := q1.of
  cases d1 <;> simp only [op1F] at hd <;> try cases hd
  split at hd
  · rename_i hc
    cases hd
    simp only [RV] at r1
    subst r1
    exact ⟨_, rfl, .of_le (by omega) (by omega) (by omega) (by omega), fun p hp => An.lst q2 hS1 hp rvs_rg⟩
  · cases hd
theorem s_lrg2 (g : Good T G call N sc fn W k X) {a b : Ex} {z v : Expr} {pos2 : Pos} (h1 : glB sc "list" = true) (h2 : glB sc "range" = true) (hn : notStar z = true) (hn2 : notStar v = true) (ha : JE G W X z (evE call a)) (hb : JE G W X v (evE call b)) :
    JE G W X (.Call (.Name "list" p1) [.Call (.Name "range" p2) [z, v] [] pos2] [] pos) (evE call (.op2 .lrg2 a b)) := by
  refine (pe_listRg g.calm (g.gl h1) (g.lw.blt .list) (prg_2 (g.gl h2) g.lw.rng ha hb (starEach_cons hn) (starEach_cons hn2) (by rw [starEach_cons hn2]; rfl))).imp fun σ H Q q => ?_
  obtain ⟨w, H0, ε, S, hS, hE, q⟩ := q
  simp only [evE] at q
  refine rd_step (ev := evE call a) monF hS hE q fun d1 S1 w1 H1 v e1 hS1 hE1 r1 q1 => ?_
  refine rd_step (ev := evE call b) monF hS1 hE1 q1 fun d2 S2 w2 H2 u e2 hS2 hE2 r2 q2 => ?_
  obtain ⟨d, hd, q3⟩ := q2.of
  cases d1 <;> cases d2 <;> simp only [op2F] at hd <;> try cases hd
  split at hd
  · rename_i hc
    cases hd
    simp only [RV] at r1 r2
    subst r1 r2
    exact ⟨_, _, rfl, rfl, .of_le (by omega) (by omega) (by omega) (by omega), fun p hp => An.lst q3 hS2 hp rvs_rg⟩
  · cases hd
theorem t_chn3 (g : Good T G call N sc fn W k X) {o o' o2 : COp} {a b c d : Ex} {x y z v : Expr} (ha : JO G W X x (fun ε S => opd ε a S (evE call a ε S))) (hb : JO G W X y (fun ε S => opd ε b S (evE call b ε S)))
    (hc : JO G W X z (fun ε S => opd ε c S (evE call c ε S))) (hd : JO G W X v (fun ε S => opd ε d S (evE call d ε S))) (hm : lastMarks [copN o, copN o', copN o2] [y, z, v] = false) : JT G W X (.Compare x [copN o, copN o', copN o2] [y, z, v] pos) (evT call (.chn3 o o' o2 a b c d)) := by
  refine (pt_chain3 (cmp_ok g.lw.hK g.room.units o) (cmp_ok g.lw.hK g.room.units o') (cmp_ok g.lw.hK g.room.units o2) ha hb hc hd hm).imp fun σ H Q q => ?_
  obtain ⟨w, H0, ε, S, hS, hE, q⟩ := q
  simp only [evT] at q
  refine rd_step (ev := fun ε S => opd ε a S (evE call a ε S)) monF hS hE q fun d1 S1 w1 H1 v e1 hS1 hE1 r1 q1 => ?_
  refine rd_step (ev := fun ε S => opd ε b S (evE call b ε S)) monF hS1 hE1 q1 fun d2 S2 w2 H2 u e2 hS2 hE2 r2 q2 => ?_
  obtain ⟨kk, hk, q3⟩ := q2.bd.of
  refine ⟨w2, S2, _, _, .bl kk, hS2, RO.ext e2 r1, r2, by simp [hk], fun w3 H3 v' e3 hS3 r3 => ?_⟩
  simp only [RV] at r3
  have hE3 := hE2.ext e3
  refine ⟨kk, r3, ?_⟩
  cases kk with
  | true =>
    simp only [if_true] at q3 ⊢
    have q4 := q3.imp (P' := finP G eqR Q w3 H3) (PX' := PX G W σ w3 H3) (fun _ _ => monF.m e3) (fun _ _ => PXe.ext e3)
    refine rd_step (ev := fun ε S => opd ε c S (evE call c ε S)) monF hS3 hE3 q4 fun d4 S4 w4 H4 t e4 hS4 hE4 r4 q5 => ?_
    obtain ⟨k2, hk2, q6⟩ := q5.bd.of
    refine ⟨w4, S4, _, _, .bl k2, hS4, RO.ext e4 (RO.ext e3 r2), r4, by simp [hk2], fun w5 H5 v5 e5 hS5 r5 => ?_⟩
    simp only [RV] at r5
    have hE5 := hE4.ext e5
    refine ⟨k2, r5, ?_⟩
    cases k2 with
    | true =>
      simp only [if_true] at q6 ⊢
      have q7 := q6.imp (P' := finP G eqR Q w5 H5) (PX' := PX G W σ w5 H5) (fun _ _ => monF.m e5) (fun _ _ => PXe.ext e5)
      refine rd_step (ev := fun ε S => opd ε d S (evE call d ε S)) monF hS5 hE5 q7 fun d6 S6 w6 H6 t6 e6 hS6 hE6 r6 q8 => ?_
      obtain ⟨d, hd, q9⟩ := q8.of
      refine ⟨w6, S6, _, _, .bl d, hS6, RO.ext e6 (RO.ext e5 r4), r6, by simp [hd], fun w' H' v e hS' r => ?_⟩
      simp only [RV] at r
      exact ⟨d, r, q9 w' H' d e hS' rfl⟩
    | false =>
      simp only [Bool.false_eq_true, if_false] at q6 ⊢
      exact q6 w5 H5 _ e5 hS5 rfl
  | false =>
    simp only [Bool.false_eq_true, if_false] at q3 ⊢
    exact q3 w3 H3 _ e3 hS3 rfl
end
end BX
set_option Elab.async false
set_option linter.all false
set_option maxRecDepth 100000
set_option maxHeartbeats 2000000
/-! BX4b: primitives, methods, new instances. -/
namespace BX
open PySem L2
open PyProof.Rows hiding St Binds

section
variable {T : Tb} {G : Gx} {call : Call} {N : List Str} {sc : Scope} {fn : Str → Bool} {W : WX} {k : Nat} {X : Cx} {pos p1 p2 : Pos}
/-- the parts, each looked at -/
inductive JOs (G : Gx) (W : WX) (X : Cx) (call : Call) : List Expr → List Ex → Prop
  | nil : JOs G W X call [] []
  | cons {x : Expr} {e : Ex} {xs : List Expr} {es : List Ex} : JO G W X x (fun ε S => opd ε e S (evE call e ε S)) → JE G W X x (evE call e) → JOs G W X call xs es → JOs G W X call (x :: xs) (e :: es)
theorem os1 {a : Ex} {ε : Env} {S : Sto} {α : Type} {f : List D → Sto → R α} : (evOs call [a] ε S).bd f = (opd ε a S (evE call a ε S)).bd fun d S1 => f [d] S1 := by
  simp only [evOs]
  cases opd ε a S (evE call a ε S) <;> rfl
theorem os2 {a b : Ex} {ε : Env} {S : Sto} {α : Type} {f : List D → Sto → R α} : (evOs call [a, b] ε S).bd f = (opd ε a S (evE call a ε S)).bd fun d S1 => (opd ε b S1 (evE call b ε S1)).bd fun e S2 => f [d, e] S2 := by
  simp only [evOs]
  cases opd ε a S (evE call a ε S) with
  | ok d S1 => simp only [R.bd_ok]; cases opd ε b S1 (evE call b ε S1) <;> rfl
  | exc _ _ => rfl
  | stuck => rfl
theorem os3 {a b c : Ex} {ε : Env} {S : Sto} {α : Type} {f : List D → Sto → R α} : (evOs call [a, b, c] ε S).bd f = (opd ε a S (evE call a ε S)).bd fun d S1 => (opd ε b S1 (evE call b ε S1)).bd fun e S2 => (opd ε c S2 (evE call c ε S2)).bd fun g S3 => f [d, e, g] S3 := by
  simp only [evOs]
  cases opd ε a S (evE call a ε S) with
  | ok d S1 =>
    simp only [R.bd_ok]
    cases opd ε b S1 (evE call b ε S1) with
    | ok e S2 => simp only [R.bd_ok]; cases opd ε c S2 (evE call c ε S2) <;> rfl
    | exc _ _ => rfl
    | stuck => rfl
  | exc _ _ => rfl
  | stuck => rfl
theorem base_of {o : Expr} {m : Str} {env : PySem.Env} (h : notCall0 o = true) : attributeBase o m env (eval o env) = eval o env := by
  cases o <;> try rfl
  rename_i f as ks p
  cases f <;> try rfl
  cases as <;> try rfl
  cases ks <;> try rfl
  simp [notCall0] at h
theorem m1_of {o e : Expr} {m : Str} {ap cp : Pos} (h1 : notCall0 o = true) (h2 : notStar e = true) (h3 : (ap.endLine == cp.line) = true) : M1 X o m ap e cp := by
  refine ⟨base_of h1, ?_, h3, ?_⟩
  · rw [starEach_cons h2]; rfl
  · rw [starEach_cons h2]; rfl
theorem m2_of {o e f : Expr} {m : Str} {ap cp : Pos} (h1 : notCall0 o = true) (h2 : notStar e = true) (h4 : notStar f = true) (h3 : (ap.endLine == cp.line) = true) : M2 X o m ap e f cp := by
  refine ⟨base_of h1, ?_, h3, ?_⟩
  · rw [starEach_cons h2, starEach_cons h4]; rfl
  · rw [starEach_cons h2, starEach_cons h4]; rfl
/-- what is left of the first operand -/
theorem pst_ok {d : D} {S : Sto} {P : D → Sto → Prop} {PX : Exc → Sto → Prop} (h : Pst (.ok d S) P PX) : P d S := h
section
variable {w : Wd} {S : Sto} {H : Hp} {d : D} {Q : VK}
theorem An.of {P : Exc → Sto → Prop} (h : Pst (R.ok d S) (finP G (RV G.K) Q w H) P) : An G w S H d Q := fun w' H' v e hS' r => h w' H' v e hS' r
theorem An.dct {p : Addr} {kvs : List (Key × V)} {ks : List Key} {ds : List D} (q : An G w S H (.dct ks ds) Q) (hS : RSt G w S H) (hp : H p = none) (hk : kvs.map (·.1) = ks) (h : RVs G.K w H (kvs.map (·.2)) ds) : Q (.ref p) (upd H p (.dK kvs)) :=
  q _ _ _ (ext_imm hS hp) (rst_imm hS hp) (rv_dct hS hp hk h)
/-- a new object of the store -/
theorem new_obj {P : Exc → Sto → Prop} {p : Addr} {o : HO} {ob : Ob} (h : Pst (R.ok (.ref S.length) (S ++ [ob])) (finP G (RV G.K) Q w H) P) (hS : RSt G w S H) (hp : H p = none) (hn : NewO G w H o ob) : Q (.ref p) (upd H p o) :=
  h _ _ _ (ext_obj hS hp) (rst_objO hS hp hn) (rv_obj hS hp)
end
theorem blX_some {n : Str} {e : Expr} {xs : List Expr} (h : blX n sc e = some xs) : ∃ p z pos, e = .Call (.Name n p) [z] [] pos ∧ glB sc n = true ∧ notStar z = true ∧ xs = [z] := by
  unfold blX at h
  split at h
  · split at h
    · rename_i hc
      simp only [Bool.and_eq_true, beq_iff_eq] at hc
      obtain ⟨⟨rfl, h2⟩, h3⟩ := hc
      cases h
      exact ⟨_, _, _, rfl, h2, h3, rfl⟩
    · cases h
  · cases h
theorem atX_some {n : Str} {e : Expr} {xs : List Expr} (h : atX n e = some xs) : ∃ o ap z cp, e = .Call (.Attribute o n ap) [z] [] cp ∧ notStar z = true ∧ (ap.endLine == cp.line) = true ∧ notCall0 o = true ∧ xs = [o, z] := by
  unfold atX at h
  split at h
  · split at h
    · rename_i hc
      simp only [Bool.and_eq_true] at hc
      obtain ⟨⟨⟨h1, h2⟩, h3⟩, h4⟩ := hc
      obtain rfl := beq_iff_eq.mp h1
      cases h
      exact ⟨_, _, _, _, rfl, h2, h3, h4, rfl⟩
    · cases h
  · cases h
theorem atX2_some {n : Str} {e : Expr} {xs : List Expr} (h : atX2 n e = some xs) : ∃ o ap z y cp, e = .Call (.Attribute o n ap) [z, y] [] cp ∧ notStar z = true ∧ notStar y = true ∧ (ap.endLine == cp.line) = true ∧ notCall0 o = true ∧ xs = [o, z, y] := by
  unfold atX2 at h
  split at h
  · split at h
    · rename_i hc
      simp only [Bool.and_eq_true] at hc
      obtain ⟨⟨⟨⟨h1, h2⟩, h3⟩, h4⟩, h5⟩ := hc
      obtain rfl := beq_iff_eq.mp h1
      cases h
      exact ⟨_, _, _, _, _, rfl, h2, h3, h4, h5, rfl⟩
    · cases h
  · cases h
theorem cmX_some {o : CmpOp} {e : Expr} {xs : List Expr} (h : cmX o e = some xs) : ∃ x y pos, e = .Compare x [o] [y] pos ∧ behindInMarks o y = false ∧ xs = [x, y] := by
  unfold cmX at h
  split at h
  · split at h
    · rename_i hc
      simp only [Bool.and_eq_true, decide_eq_true_eq, Bool.not_eq_true'] at hc
      obtain ⟨rfl, h2⟩ := hc
      cases h
      exact ⟨_, _, _, rfl, h2, rfl⟩
    · cases h
  · cases h
/-- one looked-at operand -/
theorem rd_os1 {a : Ex} {p : Pr} {σ : St} {H : Hp} {Q P : VK} (q : rd G W (RV G.K) (evE call (.prim p [a])) σ H Q)
    (k : ∀ w S H d v, RSt G w S H → RO G.K w H v d → Pst (prF p [d] S) (finP G (RV G.K) Q w H) (PX G W σ w H) → P v H) : rd G W (RO G.K) (fun ε S => opd ε a S (evE call a ε S)) σ H P := by
  obtain ⟨w, H0, ε, S, hS, hE, q⟩ := q
  simp only [evE, os1] at q
  exact rd_step (ev := fun ε S => opd ε _ S (evE call _ ε S)) monF hS hE q fun d1 S1 w1 H1 v e1 hS1 hE1 r1 q1 => k w1 S1 H1 d1 v hS1 r1 q1
theorem emX_some {o : CmpOp} {e : Expr} {xs : List Expr} (h : emX o e = some xs) : ∃ x p pos, e = .Compare x [o] [.List [] p] pos ∧ xs = [x] := by
  unfold emX at h
  split at h
  · split at h
    · rename_i hc
      cases h
      rw [decide_eq_true_eq] at hc
      subst hc
      exact ⟨_, _, _, rfl, rfl⟩
    · cases h
  · cases h
theorem rd_os2 {a b : Ex} {p : Pr} {σ : St} {H : Hp} {Q : VK} {P : V → V → Hp → Prop} (q : rd G W (RV G.K) (evE call (.prim p [a, b])) σ H Q)
    (k : ∀ w S H d v d2 v2, RSt G w S H → RO G.K w H v d → RO G.K w H v2 d2 → Pst (prF p [d, d2] S) (finP G (RV G.K) Q w H) (PX G W σ w H) → P v v2 H) :
    rd G W (RO G.K) (fun ε S => opd ε a S (evE call a ε S)) σ H fun v H1 => rd G W (RO G.K) (fun ε S => opd ε b S (evE call b ε S)) σ H1 fun v2 H2 => P v v2 H2 := by
  obtain ⟨w, H0, ε, S, hS, hE, q⟩ := q
  simp only [evE, os2] at q
  refine rd_step (ev := fun ε S => opd ε _ S (evE call _ ε S)) monF hS hE q fun d1 S1 w1 H1 v e1 hS1 hE1 r1 q1 => ?_
  exact rd_step (ev := fun ε S => opd ε _ S (evE call _ ε S)) monF hS1 hE1 q1 fun d2 S2 w2 H2 u e2 hS2 hE2 r2 q2 => k w2 S2 H2 d1 v d2 u hS2 (RO.ext e2 r1) r2 q2
theorem call_lenDr : CallR X (.builtin "len") (fun xs H Q => ∃ a kvs, xs = [V.ref a] ∧ Rd H a (.dK kvs) ∧ Q (.int kvs.length) H) := by
  intro pins s σ H xs us Q I r h
  obtain ⟨a, kvs, rfl, ha, q⟩ := h
  obtain ⟨u, rfl, ru⟩ := vals1 r
  cases ru
  exact d_len I ha fun t s' I' => ⟨.int kvs.length, H, I', ⟨t, rfl⟩, q⟩
theorem seqL_of {K : PySem.W.Frag} {H : Hp} {a : Addr} {vs : List V} (h : Rd H a (.lst vs)) : SqL K H a vs := .inl h
/-- == of dicts of plain values -/
theorem hits_D {P : Program} {wo : World} {w : Wd} {H : Hp} {s : Shared} {σ : St} {pins : List (Addr × Obj)} (I : Inv X pins σ H s) {A : Around} (hA : A.units + 60 < cLine) {ls : List (Key × V)} {js : List Key} {us : List D} (hj : ls.map (·.1) = js) (hu : RVs X.K w H (ls.map (·.2)) us) {vb : List (Key × Value)} (rb : KV ls vb) :
    ∀ {kvs : List (Key × V)} {ks : List Key} {ds : List D} {va : List (Key × Value)} {b : Bool}, kvs.map (·.1) = ks → RVs X.K w H (kvs.map (·.2)) ds → KV kvs va →
      (ks.zip ds).foldr (fun p r => match getK js us p.1 with
        | some u => match eqF2 p.2 u, r with
          | some e, some b => some (e && b)
          | _, _ => none
        | none => match r with
          | some _ => some false
          | none => none) (some true) = some b → PySem.W.KeqHits A s vb va b := by
  intro kvs
  induction kvs with
  | nil =>
    intro ks ds va b hk hr ra e
    subst hk
    simp only [List.map_nil, List.zip_nil_left, List.foldr_nil] at e
    cases e
    unfold KV at ra
    cases ra
    exact .nil
  | cons p kvs ih =>
    intro ks ds va b hk hr ra e
    subst hk
    cases ds with
    | nil => simp only [List.map_cons, RVs] at hr; obtain ⟨_, _, h, _⟩ := hr
    | cons y ds =>
      simp only [List.map_cons, RVs, List.zip_cons_cons, List.foldr_cons] at hr e
      obtain ⟨v, r, e1, h1, h2⟩ := hr
      cases e1
      unfold KV at ra
      cases ra with
      | @cons _ q _ va' hq t =>
        obtain ⟨k', u'⟩ := q
        obtain ⟨hq1, hq2⟩ := hq
        simp only at hq1
        subst hq1
        rcases getK_rel hj hu p.1 with ⟨g1, g2⟩ | ⟨x, ux, g1, g2, gr⟩
        · have rr := rb.val p.1
          rw [g2] at rr
          have hn : valueAt vb p.1 = none := by
            cases hv : valueAt vb p.1 with
            | none => rfl
            | some z => rw [hv] at rr; exact rr.elim
          rw [g1] at e
          simp only at e
          split at e
          · cases e; exact .miss hn
          · cases e
        · have rr := rb.val p.1
          rw [g2] at rr
          obtain ⟨yv, hyv, ry⟩ := rr.some_of
          rw [g1] at e
          simp only at e
          split at e
          · rename_i e2 b2 he2 hb2
            cases e
            unfold eqF2 at he2
            split at he2
            · rename_i pp qq hp hqq
              split at he2
              · rename_i hc
                cases he2
                obtain ⟨as, ra1⟩ := Dp.reads I pp _ _ (RV.dp _ _ _ h1 hp) hq2
                obtain ⟨bs, rb1⟩ := Dp.reads I qq _ _ (RV.dp _ _ _ gr hqq) ry
                refine .hit hyv (SeqAt.eqAt_reads pp qq A s _ _ as bs ra1 rb1 (SeqAt.canLay_of_shaped hc.1) (SeqAt.canLay_of_shaped hc.2.1) (by omega)) (ih rfl h2 t hb2)
              · cases he2
            · cases he2
          · cases e
theorem deq_ok (hK : G.K = X.K) (hu : X.A.units + 64 < cLine) : OpR X (compareOp .Eq) (fun x y H Q => ∃ w S a b ks vs js us k, RSt G w S H ∧ RO G.K w H x a ∧ RO G.K w H y b ∧ dr S a = .dct ks vs ∧ dr S b = .dct js us ∧ eqDct ks vs js us = some k ∧ Q (.bl k) H) := by
  intro pins s σ H x y v u Q I rx ry h
  obtain ⟨w, S, a, b, ks, vs, js, us, k, hS, ra, rb, da, db, e, q⟩ := h
  obtain ⟨a1, kvs, rfl, h1, h2, h3⟩ := dr_dct hS ra da
  obtain ⟨b1, ls, rfl, g1, g2, g3⟩ := dr_dct hS rb db
  obtain rfl : v = Value.ref a1 := rx
  obtain rfl : u = Value.ref b1 := ry
  obtain ⟨_, ya, va, ka, oa⟩ := h1.ok I.hok
  obtain ⟨_, yb, vb, kb, ob⟩ := g1.ok I.hok
  have la : va.length = ks.length := by rw [← ka.length, kvs_len h2]
  have lb : vb.length = js.length := by rw [← kb.length, kvs_len g2]
  unfold eqDct at e
  split at e
  · rename_i hl
    refine PySem.W.keq_eq (knd := mixKind X.prog X.w) (r := k) ya yb oa ob (by omega) (fun _ => hits_D I (P := X.prog) (wo := X.w) (by show X.A.units + 1 + 60 < cLine; omega) g2 (hK ▸ g3) kb h2 (hK ▸ h3) ka e) (fin_bl I q (by simp [la, lb, hl]))
  · rename_i hl
    cases e
    refine PySem.W.keq_eq (knd := mixKind X.prog X.w) (r := false) ya yb oa ob (by omega) (fun z => absurd (by rw [← la, ← lb]; exact z) hl) (fin_bl I q (by simp))
theorem dne_ok (hK : G.K = X.K) (hu : X.A.units + 64 < cLine) : OpR X (compareOp .NotEq) (fun x y H Q => ∃ w S a b ks vs js us k, RSt G w S H ∧ RO G.K w H x a ∧ RO G.K w H y b ∧ dr S a = .dct ks vs ∧ dr S b = .dct js us ∧ eqDct ks vs js us = some k ∧ Q (.bl (!k)) H) := by
  intro pins s σ H x y v u Q I rx ry h
  obtain ⟨w, S, a, b, ks, vs, js, us, k, hS, ra, rb, da, db, e, q⟩ := h
  obtain ⟨a1, kvs, rfl, h1, h2, h3⟩ := dr_dct hS ra da
  obtain ⟨b1, ls, rfl, g1, g2, g3⟩ := dr_dct hS rb db
  obtain rfl : v = Value.ref a1 := rx
  obtain rfl : u = Value.ref b1 := ry
  obtain ⟨_, ya, va, ka, oa⟩ := h1.ok I.hok
  obtain ⟨_, yb, vb, kb, ob⟩ := g1.ok I.hok
  have la : va.length = ks.length := by rw [← ka.length, kvs_len h2]
  have lb : vb.length = js.length := by rw [← kb.length, kvs_len g2]
  unfold eqDct at e
  split at e
  · rename_i hl
    refine PySem.W.keq_ne (knd := mixKind X.prog X.w) (r := k) ya yb oa ob (by omega) (fun _ => hits_D I (P := X.prog) (wo := X.w) (by show X.A.units + 1 + 60 < cLine; omega) g2 (hK ▸ g3) kb h2 (hK ▸ h3) ka e) (fin_bl I q (by simp [la, lb, hl]))
  · rename_i hl
    cases e
    refine PySem.W.keq_ne (knd := mixKind X.prog X.w) (r := false) ya yb oa ob (by omega) (fun z => absurd (by rw [← la, ← lb]; exact z) hl) (fin_bl I q (by simp))
theorem evEs_cst {ε : Env} {S : Sto} : ∀ {es : List Ex}, (es.all fun e => match e with | .cst _ => true | _ => false) = true → ∃ ds, evEs call es ε S = .ok ds S
  | [], _ => ⟨[], by simp only [evEs]⟩
  | e :: es, h => by
    simp only [List.all_cons, Bool.and_eq_true] at h
    obtain ⟨ds, e2⟩ := evEs_cst (ε := ε) (S := S) h.2
    cases e <;> simp only [Bool.false_eq_true, false_and] at h
    rename_i d
    exact ⟨d :: ds, by simp only [evEs, evE, R.bd_ok, e2]⟩
theorem simp_nox {a : Ex} {ε : Env} {S : Sto} {x : Exc} {S' : Sto} (h : simpE a = true) : opd ε a S (evE call a ε S) ≠ .exc x S' := by
  intro z
  cases a <;> simp only [simpE, Bool.false_eq_true] at h
  case cst => simp [opd, evE] at z
  case var i =>
    simp only [opd, evE, getV] at z
    split at z
    · cases z
    · split at z <;> cases z
  case tup es =>
    obtain ⟨ds, e⟩ := evEs_cst (call := call) (ε := ε) (S := S) h
    simp only [opd, evE, e, R.bd_ok] at z
    split at z <;> cases z
theorem simp_sto {a : Ex} {ε : Env} {S : Sto} {d : D} {S' : Sto} (h : simpE a = true) (z : opd ε a S (evE call a ε S) = .ok d S') : S' = S := by
  cases a <;> simp only [simpE, Bool.false_eq_true] at h
  case cst => simp only [opd, evE] at z; cases z; rfl
  case var i =>
    simp only [opd, evE, getV] at z
    split at z
    · cases z; rfl
    · split at z <;> cases z; rfl
  case tup es =>
    obtain ⟨ds, e⟩ := evEs_cst (call := call) (ε := ε) (S := S) h
    simp only [opd, evE, e, R.bd_ok] at z
    split at z <;> cases z; rfl
theorem s_prim (g : Good T G call N sc fn W k X) {p : Pr} {es : List Ex} {e : Expr} {xs : List Expr} (h : prX p sc e = some xs) (hok : prOk p es = true) (js : JOs G W X call xs es) : JE G W X e (evE call (.prim p es)) := by
  have hu : X.A.units + 1 < cLine := by have := g.room.units; omega
  cases p with
  | dnew =>
    simp only [prX] at h
    split at h
    · cases h; cases js
      refine pe_dnewK.imp fun σ H Q q => ?_
      obtain ⟨w, H0, ε, S, hS, hE, q⟩ := q
      simp only [evE, evOs, R.bd_ok, prF] at q
      exact fun p hp => (An.of q).dct hS hp rfl (by simp [RVs])
    · cases h
  | ndnew =>
    simp only [prX] at h
    split at h
    · cases h; cases js
      refine pe_dnewK.imp fun σ H Q q => ?_
      obtain ⟨w, H0, ε, S, hS, hE, q⟩ := q
      simp only [evE, evOs, R.bd_ok, prF] at q
      exact fun p hp => new_obj q hS hp ⟨rfl, by simp [RVs]⟩
    · cases h
  | dget =>
    simp only [prX] at h
    split at h
    · split at h
      · rename_i o i pp hsl
        cases h
        cases js with | cons j1 je1 js => cases js with | cons j2 je2 js => cases js with | nil =>
        refine (pe_dget hu j1 j2 (fun ov iv => by cases i <;> first | rfl | (simp [notSlice] at hsl))).imp fun σ H Q q => ?_
        refine rd_os2 q fun w S2 H2 d v d2 u hS2 r1 r2 q2 => ?_
        simp only [prF] at q2
        split at q2
        · rename_i ks vs kk hd hk
          obtain ⟨d, hd2, q3⟩ := q2.of
          obtain ⟨a, kvs, rfl, h1, h2, h3⟩ := dr_dct hS2 r1 hd
          rcases getK_rel h2 h3 kk with ⟨e1, _⟩ | ⟨x, u', e1, e2', r⟩
          · rw [e1] at hd2; cases hd2
          · rw [e1] at hd2; cases hd2
            exact ⟨a, u', rfl, .inl ⟨kvs, kk, h1, key_of r2 hk, e2'.symm⟩, q3 _ _ _ Ext.refl hS2 r⟩
        · exact q2.elim
      · cases h
    · cases h
  | din =>
    obtain ⟨x, y, pos, rfl, hb, rfl⟩ := cmX_some h
    cases js with | cons j1 je1 js => cases js with | cons j2 je2 js => cases js with | nil =>
    refine (pe_cmp (pc_din hu j1 j2) hb).imp fun σ H Q q => ?_
    refine rd_os2 q fun w S2 H2 d v d2 u hS2 r1 r2 q2 => ?_
    simp only [prF] at q2
    split at q2
    · rename_i ks vs kk hd hk
      obtain ⟨a, kvs, rfl, h1, h2, h3⟩ := dr_dct hS2 r2 hd
      refine ⟨a, _, rfl, .inl ⟨kvs, kk, h1, key_of r1 hk, rfl⟩, ?_⟩
      rw [← getK_isSome h2 h3]
      exact q2 _ _ _ Ext.refl hS2 RV_bl
    · exact q2.elim
  | dnin =>
    obtain ⟨x, y, pos, rfl, hb, rfl⟩ := cmX_some h
    cases js with | cons j1 je1 js => cases js with | cons j2 je2 js => cases js with | nil =>
    refine (pe_cmp (pc_dnotin hu j1 j2) hb).imp fun σ H Q q => ?_
    refine rd_os2 q fun w S2 H2 d v d2 u hS2 r1 r2 q2 => ?_
    simp only [prF] at q2
    split at q2
    · rename_i ks vs kk hd hk
      obtain ⟨a, kvs, rfl, h1, h2, h3⟩ := dr_dct hS2 r2 hd
      refine ⟨a, _, rfl, .inl ⟨kvs, kk, h1, key_of r1 hk, rfl⟩, ?_⟩
      rw [← getK_isSome h2 h3]
      exact q2 _ _ _ Ext.refl hS2 RV_bl
    · exact q2.elim
  | deq =>
    obtain ⟨x, y, pos, rfl, hb, rfl⟩ := cmX_some h
    cases js with | cons j1 je1 js => cases js with | cons j2 je2 js => cases js with | nil =>
    refine (pe_cmpR (deq_ok g.lw.hK g.room.units) j1 j2 hb).imp fun σ H Q q => ?_
    refine rd_os2 q fun w S2 H2 d v d2 u hS2 r1 r2 q2 => ?_
    simp only [prF] at q2
    split at q2
    · rename_i ks vs js us h1 h2
      obtain ⟨x, hx, q3⟩ := q2.of
      cases he : eqDct ks vs js us with
      | none => rw [he] at hx; cases hx
      | some k =>
        rw [he] at hx
        cases hx
        exact ⟨w, S2, d, d2, ks, vs, js, us, k, hS2, r1, r2, h1, h2, he, q3 _ _ _ Ext.refl hS2 RV_bl⟩
    · exact q2.elim
  | dne =>
    obtain ⟨x, y, pos, rfl, hb, rfl⟩ := cmX_some h
    cases js with | cons j1 je1 js => cases js with | cons j2 je2 js => cases js with | nil =>
    refine (pe_cmpR (dne_ok g.lw.hK g.room.units) j1 j2 hb).imp fun σ H Q q => ?_
    refine rd_os2 q fun w S2 H2 d v d2 u hS2 r1 r2 q2 => ?_
    simp only [prF] at q2
    split at q2
    · rename_i ks vs js us h1 h2
      obtain ⟨x, hx, q3⟩ := q2.of
      cases he : eqDct ks vs js us with
      | none => rw [he] at hx; cases hx
      | some k =>
        rw [he] at hx
        cases hx
        exact ⟨w, S2, d, d2, ks, vs, js, us, k, hS2, r1, r2, h1, h2, he, q3 _ _ _ Ext.refl hS2 RV_bl⟩
    · exact q2.elim
  | lemp =>
    obtain ⟨x, p, pos, rfl, rfl⟩ := emX_some h
    cases js with | cons j1 je1 js => cases js with | nil =>
    refine (pe_cmpR (op_eq0 (by omega)) j1 (pe_lst pa_nil) rfl).imp fun σ H Q q => ?_
    refine rd_os1 q fun w S2 H2 d v hS2 r1 q2 => ?_
    simp only [prF] at q2
    split at q2
    · rename_i l hd
      obtain ⟨a, vs, rfl, h1, h2⟩ := dr_lst hS2 r1 hd
      refine ⟨by show 0 ≤ _; omega, fun p hp => ⟨a, p, vs, rfl, rfl, Rd.keep h1 fun o e => by rw [upd_ne (fun z => by subst z; rw [hp] at e; cases e)]; exact e, .inl upd_same, ?_⟩⟩
      have e : vs.isEmpty = l.isEmpty := by have := h2.length; cases vs <;> cases l <;> simp at this ⊢
      rw [e]
      exact q2 _ _ _ (ext_tmp hp) (rst_tmp hS2 hp) RV_bl
    · exact q2.elim
  | lnemp =>
    obtain ⟨x, p, pos, rfl, rfl⟩ := emX_some h
    cases js with | cons j1 je1 js => cases js with | nil =>
    refine (pe_cmpR (op_ne0 (by omega)) j1 (pe_lst pa_nil) rfl).imp fun σ H Q q => ?_
    refine rd_os1 q fun w S2 H2 d v hS2 r1 q2 => ?_
    simp only [prF] at q2
    split at q2
    · rename_i l hd
      obtain ⟨a, vs, rfl, h1, h2⟩ := dr_lst hS2 r1 hd
      refine ⟨by show 0 ≤ _; omega, fun p hp => ⟨a, p, vs, rfl, rfl, Rd.keep h1 fun o e => by rw [upd_ne (fun z => by subst z; rw [hp] at e; cases e)]; exact e, .inl upd_same, ?_⟩⟩
      have e : vs.isEmpty = l.isEmpty := by have := h2.length; cases vs <;> cases l <;> simp at this ⊢
      rw [e]
      exact q2 _ _ _ (ext_tmp hp) (rst_tmp hS2 hp) RV_bl
    · exact q2.elim
  | dlen =>
    obtain ⟨p, z, pos, rfl, hg, hn, rfl⟩ := blX_some h
    cases js with | cons j1 je1 js => cases js with | nil =>
    refine (pe_callB call_lenDr (g.gl hg) (g.lw.blt .len) PySem.boot_len (pa_cons j1 pa_nil (starEach_cons hn)) (by decide) (gl_of hg).2 (starEach_cons hn) rfl).imp fun σ H Q q => ?_
    refine rd_os1 q fun w S2 H2 d v hS2 r1 q2 => ?_
    simp only [prF] at q2
    split at q2
    · rename_i ks vs hd
      obtain ⟨a, kvs, rfl, h1, h2, h3⟩ := dr_dct hS2 r1 hd
      refine ⟨a, kvs, rfl, h1, ?_⟩
      rw [kvs_len h2]
      exact q2 _ _ _ Ext.refl hS2 RV_int
    · exact q2.elim
  | llen =>
    obtain ⟨p, z, pos, rfl, hg, hn, rfl⟩ := blX_some h
    cases js with | cons j1 je1 js => cases js with | nil =>
    refine (pe_callB call_len_seq (g.gl hg) (g.lw.blt .len) PySem.boot_len (pa_cons j1 pa_nil (starEach_cons hn)) (by decide) (gl_of hg).2 (starEach_cons hn) rfl).imp fun σ H Q q => ?_
    refine rd_os1 q fun w S2 H2 d v hS2 r1 q2 => ?_
    simp only [prF] at q2
    split at q2
    · rename_i l hd
      obtain ⟨a, vs, rfl, h1, h2⟩ := dr_lst hS2 r1 hd
      refine ⟨a, vs, rfl, .inl (.inl h1), ?_⟩
      rw [h2.length]
      exact q2 _ _ _ Ext.refl hS2 RV_int
    · exact q2.elim
  | lcopy =>
    obtain ⟨p, z, pos, rfl, hg, hn, rfl⟩ := blX_some h
    cases js with | cons j1 je1 js => cases js with | nil =>
    refine (pe_callTy call_list_of (g.gl hg) (g.lw.blt .list) boot_list (pa_cons j1 pa_nil (starEach_cons hn)) (by decide) (gl_of hg).2 (starEach_cons hn) rfl).imp fun σ H Q q => ?_
    refine rd_os1 q fun w S2 H2 d v hS2 r1 q2 => ?_
    simp only [prF] at q2
    split at q2
    · rename_i l hd
      obtain ⟨a, vs, rfl, h1, h2⟩ := dr_lst hS2 r1 hd
      exact ⟨a, vs, rfl, .inl (.inl h1), fun p hp => (An.of q2).lst hS2 hp h2⟩
    · exact q2.elim
  | nlcopy =>
    obtain ⟨p, z, pos, rfl, hg, hn, rfl⟩ := blX_some h
    cases js with | cons j1 je1 js => cases js with | nil =>
    refine (pe_callTy call_list_of (g.gl hg) (g.lw.blt .list) boot_list (pa_cons j1 pa_nil (starEach_cons hn)) (by decide) (gl_of hg).2 (starEach_cons hn) rfl).imp fun σ H Q q => ?_
    refine rd_os1 q fun w S2 H2 d v hS2 r1 q2 => ?_
    simp only [prF] at q2
    split at q2
    · rename_i l hd
      obtain ⟨a, vs, rfl, h1, h2⟩ := dr_lst hS2 r1 hd
      exact ⟨a, vs, rfl, .inl (.inl h1), fun p hp => new_obj q2 hS2 hp h2⟩
    · exact q2.elim
  | dcopy =>
    obtain ⟨p, z, pos, rfl, hg, hn, rfl⟩ := blX_some h
    cases js with | cons j1 je1 js => cases js with | nil =>
    refine (pe_callTy call_dictD (g.gl hg) g.lw.dct (by decide +kernel) (pa_cons j1 pa_nil (starEach_cons hn)) (by decide) (gl_of hg).2 (starEach_cons hn) rfl).imp fun σ H Q q => ?_
    refine rd_os1 q fun w S2 H2 d v hS2 r1 q2 => ?_
    simp only [prF] at q2
    split at q2
    · rename_i ks vs hd
      obtain ⟨a, kvs, rfl, h1, h2, h3⟩ := dr_dct hS2 r1 hd
      exact ⟨a, kvs, rfl, h1, fun p hp => (An.of q2).dct hS2 hp h2 h3⟩
    · exact q2.elim
  | ndcopy =>
    obtain ⟨p, z, pos, rfl, hg, hn, rfl⟩ := blX_some h
    cases js with | cons j1 je1 js => cases js with | nil =>
    refine (pe_callTy call_dictD (g.gl hg) g.lw.dct (by decide +kernel) (pa_cons j1 pa_nil (starEach_cons hn)) (by decide) (gl_of hg).2 (starEach_cons hn) rfl).imp fun σ H Q q => ?_
    refine rd_os1 q fun w S2 H2 d v hS2 r1 q2 => ?_
    simp only [prF] at q2
    split at q2
    · rename_i ks vs hd
      obtain ⟨a, kvs, rfl, h1, h2, h3⟩ := dr_dct hS2 r1 hd
      exact ⟨a, kvs, rfl, h1, fun p hp => new_obj q2 hS2 hp ⟨h2, h3⟩⟩
    · exact q2.elim
  | dlist =>
    obtain ⟨p, z, pos, rfl, hg, hn, rfl⟩ := blX_some h
    cases js with | cons j1 je1 js => cases js with | nil =>
    refine (pe_callTy (call_listD g.calm) (g.gl hg) (g.lw.blt .list) boot_list (pa_cons j1 pa_nil (starEach_cons hn)) (by decide) (gl_of hg).2 (starEach_cons hn) rfl).imp fun σ H Q q => ?_
    refine rd_os1 q fun w S2 H2 d v hS2 r1 q2 => ?_
    simp only [prF] at q2
    split at q2
    · rename_i ks vs hd
      obtain ⟨a, kvs, rfl, h1, h2, h3⟩ := dr_dct hS2 r1 hd
      refine ⟨a, kvs, rfl, h1, fun p hp => (An.of q2).lst hS2 hp ?_⟩
      have := keys_rvs (K := G.K) (w := w) (H := H2) ks
      rw [← h2, List.map_map] at this
      rw [← h2]
      exact this
    · exact q2.elim
  | dsort =>
    obtain ⟨p, z, pos, rfl, hg, hn, rfl⟩ := blX_some h
    cases js with | cons j1 je1 js => cases js with | nil =>
    refine (pe_callB (call_sortedD g.calm) (g.gl hg) g.lw.srt PyProof.Rows.boot_sorted (pa_cons j1 pa_nil (starEach_cons hn)) (by decide) (gl_of hg).2 (starEach_cons hn) rfl).imp fun σ H Q q => ?_
    refine rd_os1 q fun w S2 H2 d v hS2 r1 q2 => ?_
    simp only [prF] at q2
    split at q2
    · rename_i ks vs hd
      obtain ⟨x, hx, q3⟩ := q2.of
      obtain ⟨a, kvs, rfl, h1, h2, h3⟩ := dr_dct hS2 r1 hd
      cases hs : strsOf (keysL ks) with
      | none => rw [hs] at hx; cases hx
      | some xs =>
        rw [hs] at hx
        simp only [Option.bind_some] at hx
        split at hx
        · rename_i hlt
          cases hx
          refine ⟨a, kvs, xs, rfl, h1, ?_, hlt, fun ys p hp hso hpn => ?_⟩
          · rw [h2]
            clear hd h2 q3 hlt q2
            induction ks generalizing xs with
            | nil => simp only [keysL, List.map_nil, strsOf] at hs; cases hs; rfl
            | cons k ks ih =>
              cases k with
              | inl i => simp only [keysL, List.map_cons, dOfKey, strsOf] at hs; cases hs
              | inr y =>
                simp only [keysL, List.map_cons, dOfKey, strsOf] at hs
                cases ht : strsOf (ks.map dOfKey) with
                | none => rw [ht] at hs; cases hs
                | some zs =>
                  rw [ht] at hs
                  cases hs
                  rw [ih zs ht]
                  rfl
          · rw [sortS_eq hp (sorted_le hso)]
            have q4 : An G w S2 H2 (.lst ((sortS xs).map .str)) Q := fun w' H' v e hS' r => q3 w' H' v e hS' r
            exact q4.lst hS2 hpn (strs_rvs _)
        · cases hx
    · exact q2.elim
  | ssort =>
    obtain ⟨p, z, pos, rfl, hg, hn, rfl⟩ := blX_some h
    cases js with | cons j1 je1 js => cases js with | nil =>
    refine (pe_callB cr_sortedS (g.gl hg) g.lw.srt PyProof.Rows.boot_sorted (pa_cons j1 pa_nil (starEach_cons hn)) (by decide) (gl_of hg).2 (starEach_cons hn) rfl).imp fun σ H Q q => ?_
    refine rd_os1 q fun w S2 H2 d v hS2 r1 q2 => ?_
    simp only [prF] at q2
    split at q2
    · rename_i l hd
      obtain ⟨x, hx, q3⟩ := q2.of
      obtain ⟨a, vs, rfl, h1, h2⟩ := dr_lst hS2 r1 hd
      cases hs : strsOf l with
      | none => rw [hs] at hx; cases hx
      | some xs =>
        rw [hs] at hx
        simp only [Option.bind_some] at hx
        split at hx
        · rename_i hlt
          cases hx
          obtain rfl := strsOf_rvs h2 hs
          refine ⟨a, xs, rfl, .inl h1, hlt, fun ys p hp hso hpn => ?_⟩
          rw [sortS_eq hp (sorted_le hso)]
          have q4 : An G w S2 H2 (.lst ((sortS xs).map .str)) Q := fun w' H' v e hS' r => q3 w' H' v e hS' r
          exact q4.lst hS2 hpn (strs_rvs _)
        · cases hx
    · exact q2.elim
  | join y =>
    simp only [prX] at h
    split at h
    · split at h
      · rename_i hc
        simp only [Bool.and_eq_true] at hc
        obtain ⟨⟨⟨h1, h2⟩, hn⟩, hl⟩ := hc
        obtain rfl := beq_iff_eq.mp h1
        obtain rfl := beq_iff_eq.mp h2
        cases h
        cases js with | cons j1 je1 js => cases js with | nil =>
        refine (pe_join pe_str j1 (by rw [starEach_cons hn]; rfl) rfl hl).imp fun σ H Q q => ?_
        refine ⟨⟨_, rfl⟩, ?_⟩
        refine rd_os1 q fun w S2 H2 d v hS2 r1 q2 => ?_
        simp only [prF] at q2
        split at q2
        · rename_i l hd
          obtain ⟨x, hx, q3⟩ := q2.of
          obtain ⟨a, vs, rfl, h1, h2⟩ := dr_lst hS2 r1 hd
          cases hs : strsOf l with
          | none => rw [hs] at hx; cases hx
          | some xs =>
            rw [hs] at hx
            simp only [Option.bind_some] at hx
            split at hx
            · rename_i hlt
              cases hx
              obtain rfl := strsOf_rvs h2 hs
              exact ⟨_, a, xs, rfl, rfl, .inl (.inl h1), hlt, q3 _ _ _ Ext.refl hS2 RV_str⟩
            · cases hx
        · exact q2.elim
      · cases h
    · cases h
  | fld f =>
    simp only [prX] at h
    split at h
    · split at h
      · rename_i o gg pp hc
        simp only [Bool.and_eq_true, beq_iff_eq] at hc
        obtain ⟨rfl, hc2⟩ := hc
        cases h
        cases js with | cons j1 je1 js => cases js with | nil =>
        refine (pe_fld j1 (base_of hc2)).imp fun σ H Q q => ?_
        refine rd_os1 q fun w S2 H2 d v hS2 r1 q2 => ?_
        simp only [prF] at q2
        obtain ⟨x, hx, q3⟩ := q2.of
        obtain ⟨a, C, dx, fv, u, rfl, h1, h2, h3, h4, h5⟩ := fld_rel hS2 r1 hx
        exact ⟨a, C, dx, fv, u, rfl, h1, g.lw.hK ▸ h2, g.lw.hK ▸ h3, h4, q3 _ _ _ Ext.refl hS2 h5⟩
      · cases h
    · cases h
  | dget1 =>
    obtain ⟨o, ap, z, cp, rfl, hn, hl, hc, rfl⟩ := atX_some h
    cases js with | cons j1 je1 js => cases js with | cons j2 je2 js => cases js with | nil =>
    rename_i ea eb
    have hsm : simpE eb = true := by simpa [prOk] using hok
    refine (pe_dget1 hu j1 j2 (m1_of hc hn hl)).imp fun σ H Q q => ?_
    obtain ⟨w, H0, ε, S, hS, hE, q⟩ := q
    simp only [evE, os2] at q
    refine rd_step (ev := fun ε S => opd ε _ S (evE call _ ε S)) monF hS hE q fun d1 S1 w1 H1 v e1 hS1 hE1 r1 q1 => ?_
    obtain ⟨d2, S2', hok2⟩ : ∃ d2 S2, opd ε eb S1 (evE call eb ε S1) = .ok d2 S2 := by
      cases ho : opd ε eb S1 (evE call eb ε S1) with
      | ok a b => exact ⟨a, b, rfl⟩
      | exc x S2 => exact absurd ho (simp_nox hsm)
      | stuck => rw [ho] at q1; exact q1.elim
    have hS2' := simp_sto hsm hok2
    subst hS2'
    have q1' := q1
    rw [hok2] at q1'
    simp only [R.bd_ok, prF] at q1'
    split at q1'
    · rename_i ks vs kk hd hk
      obtain ⟨a, kvs, rfl, h1, h2, h3⟩ := dr_dct hS1 r1 hd
      refine ⟨a, rfl, .inl ⟨kvs, h1⟩, ?_⟩
      refine rd_step (ev := fun ε S => opd ε _ S (evE call _ ε S)) monF hS1 hE1 q1 fun d2 S2 w2 H2 u e2 hS2 hE2 r2 q2 => ?_
      simp only [prF] at q2
      split at q2
      · rename_i ks vs kk hd hk
        obtain ⟨a', kvs, ea, h1, h2, h3⟩ := dr_dct hS2 (RO.ext e2 r1) hd
        cases ea
        refine ⟨valV kvs kk, .inl ⟨kvs, kk, h1, key_of r2 hk, rfl⟩, ?_⟩
        rcases getK_rel h2 h3 kk with ⟨e1, e2'⟩ | ⟨x, u', e1, e2', r⟩
        · rw [e2']
          exact q2 _ _ _ Ext.refl hS2 (by rw [e1]; simp [RV])
        · rw [e2']
          exact q2 _ _ _ Ext.refl hS2 (by rw [e1]; exact r)
      · exact q2.elim
    · exact q1'.elim
  | dget2 =>
    obtain ⟨o, ap, z, y, cp, rfl, hn, hn2, hl, hc, rfl⟩ := atX2_some h
    cases js with | cons j1 je1 js => cases js with | cons j2 je2 js => cases js with | cons j3 je3 js => cases js with | nil =>
    rename_i ea eb ec
    have hsm : (simpE eb = true ∧ simpE ec = true) ∧ ∀ i, ec ≠ .var i := by
      simp only [prOk, List.tail_cons, List.all_cons, List.all_nil, Bool.and_true, Bool.and_eq_true] at hok
      refine ⟨hok.1, fun i z => ?_⟩
      subst z
      exact Bool.noConfusion hok.2
    obtain ⟨hsm, hnv⟩ := hsm
    have hopd : ∀ ε S, opd ε ec S (evE call ec ε S) = evE call ec ε S := fun ε S => by
      unfold opd
      cases ec <;> first | rfl | exact absurd rfl (hnv _)
    refine (pe_dget2 hu j1 j2 je3 (m2_of hc hn hn2 hl)).imp fun σ H Q q => ?_
    obtain ⟨w, H0, ε, S, hS, hE, q⟩ := q
    simp only [evE, os3] at q
    refine rd_step (ev := fun ε S => opd ε _ S (evE call _ ε S)) monF hS hE q fun d1 S1 w1 H1 v e1 hS1 hE1 r1 q1 => ?_
    obtain ⟨d2, S2', hok2⟩ : ∃ d2 S2, opd ε eb S1 (evE call eb ε S1) = .ok d2 S2 := by
      cases ho : opd ε eb S1 (evE call eb ε S1) with
      | ok a b => exact ⟨a, b, rfl⟩
      | exc x S2 => exact absurd ho (simp_nox hsm.1)
      | stuck => rw [ho] at q1; exact q1.elim
    have hS2' := simp_sto hsm.1 hok2
    subst hS2'
    have q1' := q1
    rw [hok2] at q1'
    simp only [R.bd_ok] at q1'
    obtain ⟨d3, S3', hok3⟩ : ∃ d2 S2, opd ε ec S2' (evE call ec ε S2') = .ok d2 S2 := by
      cases ho : opd ε ec S2' (evE call ec ε S2') with
      | ok a b => exact ⟨a, b, rfl⟩
      | exc x S2 => exact absurd ho (simp_nox hsm.2)
      | stuck => rw [ho] at q1'; exact q1'.elim
    have hS3' := simp_sto hsm.2 hok3
    subst hS3'
    rw [hok3] at q1'
    simp only [R.bd_ok, prF] at q1'
    split at q1'
    · rename_i ks vs kk hd hk
      obtain ⟨a, kvs, rfl, h1, h2, h3⟩ := dr_dct hS1 r1 hd
      refine ⟨a, rfl, .inl ⟨kvs, h1⟩, ?_⟩
      refine rd_step (ev := fun ε S => opd ε _ S (evE call _ ε S)) monF hS1 hE1 q1 fun d2 S2 w2 H2 u e2 hS2 hE2 r2 q2 => ?_
      simp only [hopd] at q2
      refine rd_step (ev := evE call ec) monF hS2 hE2 q2 fun d3 S3 w3 H3 u3 e3 hS3 hE3 r3 q3 => ?_
      simp only [prF] at q3
      split at q3
      · rename_i ks vs kk hd hk
        obtain ⟨a', kvs, ea, h1, h2, h3⟩ := dr_dct hS3 (RO.ext e3 (RO.ext e2 r1)) hd
        cases ea
        refine ⟨valV kvs kk, .inl ⟨kvs, kk, h1, key_of (RO.ext e3 r2) hk, rfl⟩, ?_⟩
        rcases getK_rel h2 h3 kk with ⟨e1, e2'⟩ | ⟨x, u', e1, e2', r⟩
        · rw [e2']
          refine q3 _ _ _ Ext.refl hS3 ?_
          rw [e1]
          exact r3
        · rw [e2']
          exact q3 _ _ _ Ext.refl hS3 (by rw [e1]; exact r)
      · exact q3.elim
    · exact q1'.elim
  | tlt => simp only [prX] at h; cases h
end
end BX
set_option Elab.async false
set_option linter.all false
set_option maxRecDepth 100000
set_option maxHeartbeats 2000000
/-! BX4c: methods, new instances. -/
namespace BX
open PySem L2
open PyProof.Rows hiding St Binds

theorem he_of {o : Expr} {m : Str} {apos pos : Pos} {args : List Expr} {kws : List Keyword} {env : PySem.Env} (h1 : attributeBase o m env (eval o env) = eval o env)
    (h2 : methodCallForm (args.length + kws.length) (backTo pos (starEach args env)) (backToKw pos (keywordEach kws env)) = true) (h3 : (apos.endLine == pos.line) = true) :
    eval (.Call (.Attribute o m apos) args kws pos) env = (do
      let ov ← eval o env
      standAt apos.atName
      let (f, first) ← holding [ov] (getMethod ov m (do return (← importBound o env).getD true))
      callWith pos f first (backTo pos (starEach args env)) (backToKw pos (keywordEach kws env))) := by
  have e : eval (.Call (.Attribute o m apos) args kws pos) env = (do
      let ov ← attributeBase o m env (eval o env)
      standAt apos.atName
      methodCall o m apos pos env ov (args.length + kws.length) (backTo pos (starEach args env)) (backToKw pos (keywordEach kws env))) := by rfl
  rw [e, h1]
  unfold methodCall calleeOf methodCallPos
  rw [h2, h3]
  rfl
section
variable {X : Cx} {CX : CXT} {k : Nat} {f C : Addr} {fd : FuncData} {ps ks : List Str} {sp : Sp} {E : St → XK} {x m : Str} {p pos apos : Pos} {o : Expr} {es : List Expr} {kws : List Keyword} {ta : TE} {t tk : TA} {ds : List Value} {dvs : List V} {g : List Value → List Value → List Value} {gV : List V → List V → List V} {n : Nat}
theorem form_of {args : List Expr} {kws : List Keyword} {env : PySem.Env} (hn : args.all notStar = true) (hk : (backToKw pos (keywordEach kws env)).all (·.1.isSome) = true) (hl : args.length + kws.length < 29) :
    methodCallForm (args.length + kws.length) (backTo pos (starEach args env)) (backToKw pos (keywordEach kws env)) = true := by
  unfold methodCallForm
  have h1 : (backTo pos (starEach args env)).all (fun x => !x.1) = true := by
    have := starAll (pos := pos) (env := env) hn
    rw [List.any_eq_false] at this
    rw [List.all_eq_true]
    intro x hx
    have := this x hx
    simpa using this
  rw [h1, hk]
  simp only [Bool.true_and, decide_eq_true_eq]
  split <;> omega
/-- o.m(..), what is raised wished for at the caller's slots -/
theorem pe_methSD (he : PE X o ta) (c : Cls X.K C) (hm : Meth X.K C m f) (F : FnOk X.prog X.w X.K X.mg X.base CX k f fd ps sp) (hr : Room k X.A) (hb : L2.Binds X.K fd ps ds) (hd : Vals dvs ds) (hx : ∀ σ, PassesAt CX X σ (E σ)) (ha : PA X es t)
    (hne : es ≠ []) (hn : es.all notStar = true) (hz : es.length < 29) (h1 : attributeBase o m X.env (eval o X.env) = eval o X.env) (h3 : (apos.endLine == pos.line) = true) :
    PE X (.Call (.Attribute o m apos) es [] pos) (fun σ H Q => ta σ H fun x H1 => ∃ a dx fs, x = .ref a ∧ H1 a = some (.ins C dx fs) ∧ fs.lookup m = none ∧ t σ H1 fun vs H2 => sp (x :: (vs ++ dvs)) H2 Q (E σ)) := by
  refine ⟨fun pins s σ H Q I h => ?_⟩
  have hf := form_of (pos := pos) (kws := []) (env := X.env) hn rfl (by simpa using hz)
  refine PySem.W.methodCall_KW (thn (he.run pins s σ H _ I h) fun u s1 ⟨x, H1, I1, rx, a, dx, fs, ex, ea, l, q⟩ => ?_) (he_of h1 hf h3)
  subst ex
  obtain rfl : u = Value.ref a := rx
  refine getmeth_ok I1 ea c hm l ?_
  cases es with
  | nil => simp at hne
  | cons e es =>
    simp only [List.all_cons, Bool.and_eq_true] at hn
    refine PySem.W.callWith_K (first := [.ref a]) (h₀ := X.base) I.ok.mod.kin hm.kp (thn (ha.run pos pins s1 σ H1 _ I1 q) fun us s2 ⟨vs, H2, I2, r, q2⟩ => ⟨I2.kIn, ?_⟩) (starEach_cons hn.1) (starAll hn.2)
    exact run_fnSD (us := .ref a :: us) (vs := .ref a :: vs) F hr hb hd (hx σ) I2 (.cons rfl r) q2
theorem pe_methSD0 (he : PE X o ta) (c : Cls X.K C) (hm : Meth X.K C m f) (F : FnOk X.prog X.w X.K X.mg X.base CX k f fd ps sp) (hr : Room k X.A) (hb : L2.Binds X.K fd ps ds) (hd : Vals dvs ds) (hx : ∀ σ, PassesAt CX X σ (E σ))
    (h1 : attributeBase o m X.env (eval o X.env) = eval o X.env) (h3 : (apos.endLine == pos.line) = true) :
    PE X (.Call (.Attribute o m apos) [] [] pos) (fun σ H Q => ta σ H fun x H1 => ∃ a dx fs, x = .ref a ∧ H1 a = some (.ins C dx fs) ∧ fs.lookup m = none ∧ sp (x :: dvs) H1 Q (E σ)) := by
  refine ⟨fun pins s σ H Q I h => ?_⟩
  refine PySem.W.methodCall_KW (thn (he.run pins s σ H _ I h) fun u s1 ⟨x, H1, I1, rx, a, dx, fs, ex, ea, l, q⟩ => ?_) (he_of h1 (form_of rfl rfl (by decide)) h3)
  subst ex
  obtain rfl : u = Value.ref a := rx
  refine getmeth_ok I1 ea c hm l ?_
  exact PySem.W.callWith_K0 (first := [.ref a]) I1.kIn hm.kp (run_fnSD (us := [.ref a]) (vs := [.ref a]) F hr hb hd (hx σ) I1 (.cons rfl .nil) q)
theorem run_fnKW {pins : List (Addr × Obj)} {σ : St} {H : Hp} {s : Shared} {Q : VK} {us ws : List Value} {vs zs : List V} (F : FnOk X.prog X.w X.K X.mg X.base CX k f fd ps sp) (hr : Room k X.A) (hb : KBn X.K fd ps n ks g gV) (hx : PassesAt CX X σ (E σ))
    (I : Inv X pins σ H s) (r : Vals vs us) (rz : Vals zs ws) (l1 : vs.length = n) (l2 : zs.length = ks.length) (h : sp (gV vs zs) H Q (E σ)) : wpAny (model X.prog X.w) X.A (call (.ref f) us (ks.zip ws)) (EP X pins σ Q) X.xe s := by
  refine wpAny_call (codeAny_mono (F.run X.A X.stack s H ⟨us, ks.zip ws⟩ (g us ws) _ Q (E σ) hr I.env0 (hb.to s us ws I.kIn (r.length.symm.trans l1) (rz.length.symm.trans l2)) (hb.rel r rz) h) fun res s3 hq => ?_)
  cases res with
  | error e => exact hx pins H s e s3 I hq
  | ok fl =>
    cases fl with
    | ret u => exact I.after hq
    | next => exact False.elim hq
    | brk => exact False.elim hq
    | cont => exact False.elim hq
theorem pe_methKW (he : PE X o ta) (c : Cls X.K C) (hm : Meth X.K C m f) (F : FnOk X.prog X.w X.K X.mg X.base CX k f fd ps sp) (hr : Room k X.A) (hb : KBn X.K fd ps (n + 1) ks g gV) (hx : ∀ σ, PassesAt CX X σ (E σ)) (ha : PA X es t) (hk : PK X kws tk)
    (hne : es ≠ []) (hn : es.all notStar = true) (hz : es.length + kws.length < 29) (c1 : (backToKw pos (keywordEach kws X.env)).all (·.1.isSome) = true) (c2 : (backToKw pos (keywordEach kws X.env)).filterMap (·.1) = ks) (c3 : (backToKw pos (keywordEach kws X.env)).any (·.1.isNone) = false)
    (h1 : attributeBase o m X.env (eval o X.env) = eval o X.env) (h3 : (apos.endLine == pos.line) = true) :
    PE X (.Call (.Attribute o m apos) es kws pos) (fun σ H Q => ta σ H fun x H1 => ∃ a dx fs, x = .ref a ∧ H1 a = some (.ins C dx fs) ∧ fs.lookup m = none ∧ t σ H1 fun vs H2 => tk σ H2 fun zs H3 => vs.length = n ∧ zs.length = ks.length ∧ sp (gV (x :: vs) zs) H3 Q (E σ)) := by
  refine ⟨fun pins s σ H Q I h => ?_⟩
  refine PySem.W.methodCall_KW (thn (he.run pins s σ H _ I h) fun u s1 ⟨x, H1, I1, rx, a, dx, fs, ex, ea, l, q⟩ => ?_) (he_of h1 (form_of hn c1 hz) h3)
  subst ex
  obtain rfl : u = Value.ref a := rx
  refine getmeth_ok I1 ea c hm l ?_
  cases es with
  | nil => simp at hne
  | cons e es =>
    simp only [List.all_cons, Bool.and_eq_true] at hn
    refine PySem.W.callWith_KW (first := [.ref a]) (h₀ := X.base) I.ok.mod.kin hm.kp c1 (thn (ha.run pos pins s1 σ H1 _ I1 q) fun us s2 ⟨vs, H2, I2, r, q1⟩ => ?_) (by rw [starEach_cons hn.1]; show (false || (backTo pos (starEach es X.env)).any (·.1) || _) = false; rw [starAll hn.2, c3]; rfl) (starEach_cons hn.1)
    refine thn (hk.run pos pins s2 σ H2 _ I2 q1) fun ws s3 ⟨zs, H3, I3, rz, l1, l2, q2⟩ => ⟨I3.kIn, ?_⟩
    rw [c2]
    exact run_fnKW (us := .ref a :: us) (vs := .ref a :: vs) F hr hb (hx σ) I3 (.cons rfl r) rz (by simp [l1]) l2 q2
theorem pe_methKW0 (he : PE X o ta) (c : Cls X.K C) (hm : Meth X.K C m f) (F : FnOk X.prog X.w X.K X.mg X.base CX k f fd ps sp) (hr : Room k X.A) (hb : KBn X.K fd ps 1 ks g gV) (hx : ∀ σ, PassesAt CX X σ (E σ)) (hk : PK X kws tk)
    (hz : kws.length < 29) (c1 : (backToKw pos (keywordEach kws X.env)).all (·.1.isSome) = true) (c2 : (backToKw pos (keywordEach kws X.env)).filterMap (·.1) = ks) (c3 : (backToKw pos (keywordEach kws X.env)).any (·.1.isNone) = false)
    (h1 : attributeBase o m X.env (eval o X.env) = eval o X.env) (h3 : (apos.endLine == pos.line) = true) :
    PE X (.Call (.Attribute o m apos) [] kws pos) (fun σ H Q => ta σ H fun x H1 => ∃ a dx fs, x = .ref a ∧ H1 a = some (.ins C dx fs) ∧ fs.lookup m = none ∧ tk σ H1 fun zs H3 => zs.length = ks.length ∧ sp (gV [x] zs) H3 Q (E σ)) := by
  refine ⟨fun pins s σ H Q I h => ?_⟩
  refine PySem.W.methodCall_KW (thn (he.run pins s σ H _ I h) fun u s1 ⟨x, H1, I1, rx, a, dx, fs, ex, ea, l, q⟩ => ?_) (he_of h1 (form_of rfl c1 (by simpa using hz)) h3)
  subst ex
  obtain rfl : u = Value.ref a := rx
  refine getmeth_ok I1 ea c hm l ?_
  refine PySem.W.callWith_KW0 (first := [.ref a]) (h₀ := X.base) I.ok.mod.kin hm.kp c1 (thn (hk.run pos pins s1 σ H1 _ I1 q) fun ws s3 ⟨zs, H3, I3, rz, l2, q2⟩ => ⟨I3.kIn, ?_⟩) (by show (false || _) = false; rw [c3]; rfl)
  rw [c2]
  exact run_fnKW (us := [.ref a]) (vs := [.ref a]) F hr hb (hx σ) I3 (.cons rfl .nil) rz rfl l2 q2
/-- C(..) -/
theorem run_makeSD {pins : List (Addr × Obj)} {σ : St} {H : Hp} {s : Shared} {Q : VK} {us : List Value} {vs : List V} (M : Mk X.K C f) (F : FnOk X.prog X.w X.K X.mg X.base CX k f fd ps sp) (hr : Room (k + 1) X.A) (hb : L2.Binds X.K fd ps ds) (hd : Vals dvs ds)
    (hx : PassesAt CX X σ (E σ)) (I : Inv X pins σ H s) (r : Vals vs us)
    (h : ∀ x dx, H x = none → H dx = none → dx ≠ x → sp (.ref x :: (vs ++ dvs)) (upd (upd H dx (.own x)) x (.ins C dx [])) (fun v H2 => v = .non ∧ Q (.ref x) H2) (E σ)) :
    wpAny (model X.prog X.w) X.A (call (.ref C) us) (EP X pins σ Q) X.xe s := by
  have hq := h (s.heap.objs.size + 1) s.heap.objs.size (I.hok.fresh (Nat.le_succ _)) (I.hok.fresh (Nat.le_refl _)) (Nat.ne_of_lt (Nat.lt_succ_self _))
  have I2 := Inv.made (C := C) I
  have r2 : Vals (V.ref (s.heap.objs.size + 1) :: (vs ++ dvs)) (Value.ref (s.heap.objs.size + 1) :: (us ++ ds)) := .cons rfl (r.append hd)
  have hl : (Value.ref (s.heap.objs.size + 1) :: us ++ ds).length = ps.length := by
    have e := r2.length
    rw [F.len _ _ _ _ hq] at e
    exact e.symm
  refine wpAny_call (make_map (f := f) I.kIn M.makes M.init (beq_iff_eq.mp M.fn) (codeAny_mono (F.run _ X.stack _ _ ⟨Value.ref (s.heap.objs.size + 1) :: us, []⟩ (Value.ref (s.heap.objs.size + 1) :: (us ++ ds)) _ _ (E σ) (hr.make C us [])
    (I2.env0.make C us []) (hb _ (Value.ref (s.heap.objs.size + 1) :: us) I2.kIn hl) r2 hq) fun r s' hq' => ?_))
  cases r with
  | error e => exact hx pins _ _ e s' I2 hq'
  | ok fl =>
    cases fl with
    | ret u =>
      obtain ⟨v, H', I3, rv, ev, q3⟩ := I2.after hq'
      subst ev
      exact ⟨rv, ⟨V.ref (s.heap.objs.size + 1), H', I3, rfl, q3⟩⟩
    | next => exact False.elim hq'
    | brk => exact False.elim hq'
    | cont => exact False.elim hq'
theorem run_makeKW {pins : List (Addr × Obj)} {σ : St} {H : Hp} {s : Shared} {Q : VK} {us ws : List Value} {vs zs : List V} (M : Mk X.K C f) (F : FnOk X.prog X.w X.K X.mg X.base CX k f fd ps sp) (hr : Room (k + 1) X.A) (hb : KBn X.K fd ps (n + 1) ks g gV)
    (hx : PassesAt CX X σ (E σ)) (I : Inv X pins σ H s) (r : Vals vs us) (rz : Vals zs ws) (l1 : vs.length = n) (l2 : zs.length = ks.length)
    (h : ∀ x dx, H x = none → H dx = none → dx ≠ x → sp (gV (.ref x :: vs) zs) (upd (upd H dx (.own x)) x (.ins C dx [])) (fun v H2 => v = .non ∧ Q (.ref x) H2) (E σ)) :
    wpAny (model X.prog X.w) X.A (call (.ref C) us (ks.zip ws)) (EP X pins σ Q) X.xe s := by
  have hq := h (s.heap.objs.size + 1) s.heap.objs.size (I.hok.fresh (Nat.le_succ _)) (I.hok.fresh (Nat.le_refl _)) (Nat.ne_of_lt (Nat.lt_succ_self _))
  have I2 := Inv.made (C := C) I
  have r1 : Vals (V.ref (s.heap.objs.size + 1) :: vs) (Value.ref (s.heap.objs.size + 1) :: us) := .cons rfl r
  have r2 := hb.rel r1 rz
  have e1 : (Value.ref (s.heap.objs.size + 1) :: us).length = n + 1 := r1.length.symm.trans (congrArg Nat.succ l1)
  have e2 : ws.length = ks.length := rz.length.symm.trans l2
  refine wpAny_call (make_map (f := f) I.kIn M.makes M.init (beq_iff_eq.mp M.fn) (codeAny_mono (F.run _ X.stack _ _ ⟨Value.ref (s.heap.objs.size + 1) :: us, ks.zip ws⟩ (g (Value.ref (s.heap.objs.size + 1) :: us) ws) _ _ (E σ) (hr.make C us (ks.zip ws))
    (I2.env0.make C us (ks.zip ws)) (hb.to _ (Value.ref (s.heap.objs.size + 1) :: us) ws I2.kIn e1 e2) r2 hq) fun r s' hq' => ?_))
  cases r with
  | error e => exact hx pins _ _ e s' I2 hq'
  | ok fl =>
    cases fl with
    | ret u =>
      obtain ⟨v, H', I3, rv, ev, q3⟩ := I2.after hq'
      subst ev
      exact ⟨rv, ⟨V.ref (s.heap.objs.size + 1), H', I3, rfl, q3⟩⟩
    | next => exact False.elim hq'
    | brk => exact False.elim hq'
    | cont => exact False.elim hq'
end
/-! the world with a new instance -/
section
variable {G : Gx} {w : Wd} {S : Sto} {H : Hp} {c : Str} {C x dx : Addr}
/-- a new instance's two addresses -/
def insH (H : Hp) (x dx C : Addr) : Hp := upd (upd H dx (.own x)) x (.ins C dx [])
theorem ext_ins (r : RSt G w S H) (hx : H x = none) (hd : H dx = none) : Ext w H (w.obj x (r.fresh hx).1 (r.fresh hx).2) (insH H x dx C) :=
  ⟨⟨[x], rfl, fun a z => (List.mem_singleton.mp z) ▸ hx⟩, fun a q => q, fun a q => .inl q, fun a u q _ => by
    unfold insH
    rw [upd_ne (fun e => by subst e; rw [hx] at q; cases q), upd_ne (fun e => by subst e; rw [hd] at q; cases q)]
    exact q⟩
theorem rst_ins (r : RSt G w S H) (hx : H x = none) (hd : H dx = none) (hc : G.cls c = some C) (hk : Cls G.K C) : RSt G (w.obj x (r.fresh hx).1 (r.fresh hx).2) (S ++ [.ins c []]) (insH H x dx C) :=
  ⟨by simp [Wd.obj, r.len], fun n u q => by
    by_cases hn : n < S.length
    · rw [List.getElem?_append_left hn] at q
      obtain ⟨a, e, k⟩ := r.ob n u q
      have k0 := k.ne
      refine ⟨a, (ext_ins (C := C) r hx hd).at e, k.ext (ext_ins r hx hd) ?_⟩
      unfold insH
      rw [upd_ne (fun z => by subst z; exact k0 hx), upd_ne (fun z => by subst z; exact k0 hd)]
    · have hn' : n = S.length := by
        have := (List.getElem?_eq_some_iff.mp q).1
        simp at this
        omega
      subst hn'
      simp at q
      subst q
      refine ⟨x, ?_, C, dx, [], hc, upd_same, ⟨rfl, by simp [RVs]⟩, hk, fun f hf => by simp at hf⟩
      show (w.ρ ++ [x])[S.length]? = some x
      rw [← r.len]
      simp, fun a q => by
    unfold insH
    by_cases e : a = x
    · subst e; rw [upd_same]; exact fun z => nomatch z
    · rw [upd_ne e]
      by_cases e2 : a = dx
      · subst e2; rw [upd_same]; exact fun z => nomatch z
      · rw [upd_ne e2]; exact r.phi a q⟩
theorem rv_ins (r : RSt G w S H) (hx : H x = none) : RV G.K (w.obj x (r.fresh hx).1 (r.fresh hx).2) (insH H x dx C) (.ref x) (.ref S.length) := by
  simp only [RV]
  refine ⟨x, ?_, rfl⟩
  show (w.ρ ++ [x])[S.length]? = some x
  rw [← r.len]
  simp
end
theorem lookup_none {α β : Type} {m : Str} : ∀ {fv : List (Str × α)} {fs : List (Str × β)}, fv.map (·.1) = fs.map (·.1) → fs.lookup m = none → fv.lookup m = none
  | [], [], _, _ => rfl
  | [], _ :: _, h, _ => by simp at h
  | _ :: _, [], h, _ => by simp at h
  | (a, x) :: fv, (b, y) :: fs, h, l => by
    simp only [List.map_cons, List.cons.injEq] at h
    obtain ⟨rfl, h⟩ := h
    simp only [List.lookup_cons] at l ⊢
    split at l
    · cases l
    · exact lookup_none h l
theorem rvs_flat {K : PySem.W.Frag} {w : Wd} {H : Hp} : ∀ {dv : List D}, dv.all flatD = true → RVs K w H (dv.map vOf) dv
  | [], _ => by simp [RVs]
  | d :: dv, h => by
    simp only [List.all_cons, Bool.and_eq_true] at h
    simp only [List.map_cons, RVs]
    exact ⟨_, _, rfl, flat_rv h.1, rvs_flat h.2⟩
theorem rd_stepE {G : Gx} {W : WX} {α β γ : Type} {rel : Wd → Hp → β → α → Prop} {ev : Env → Sto → R α} {f : α → Sto → R γ} {P : Po γ} {w : Wd} {H H0 : Hp} {σ : St} {ε : Env} {S : Sto} {Q : β → Hp → Prop}
    (mP : Mon P) (hS : RSt G w S H) (hE : REn G.K w H0 σ H ε) (h : Pst ((ev ε S).bd f) (P w H) (PX G W σ w H))
    (k : ∀ a S' w' H' b, ev ε S = .ok a S' → Ext w H w' H' → RSt G w' S' H' → REn G.K w' H0 σ H' ε → rel w' H' b a → Pst (f a S') (P w' H') (PX G W σ w' H') → Q b H') : rd G W rel ev σ H Q := by
  refine ⟨w, H0, ε, S, hS, hE, ?_⟩
  cases e : ev ε S with
  | ok a S' =>
    rw [e] at h
    simp only [R.bd_ok] at h
    exact fun w' H' b x hS' r => k a S' w' H' b e x hS' (hE.ext x) r (h.imp (fun _ _ => mP.m x) fun _ _ => PXe.ext x)
  | exc x S' => rw [e] at h; exact h
  | stuck => rw [e] at h; exact h.elim
theorem evEs_len {call : Call} : ∀ {es : List Ex} {ε : Env} {S S' : Sto} {ds : List D}, evEs call es ε S = .ok ds S' → ds.length = es.length
  | [], ε, S, S', ds, h => by simp only [evEs] at h; cases h; rfl
  | e :: es, ε, S, S', ds, h => by
    simp only [evEs] at h
    cases e1 : evE call e ε S with
    | ok d S1 =>
      rw [e1] at h
      simp only [R.bd_ok] at h
      cases e2 : evEs call es ε S1 with
      | ok d2 S2 => rw [e2] at h; simp only [R.bd_ok] at h; cases h; simp [evEs_len e2]
      | exc _ _ => rw [e2] at h; cases h
      | stuck => rw [e2] at h; cases h
    | exc _ _ => rw [e1] at h; cases h
    | stuck => rw [e1] at h; cases h
section
variable {T : Tb} {G : Gx} {call : Call} {N : List Str} {sc : Scope} {fn : Str → Bool} {W : WX} {k : Nat} {X : Cx} {pos p1 ap : Pos} {f : Nat} {c m : Str} {o : Ex} {es kes : List Ex} {dv : List D} {x : Expr} {xs : List Expr} {ks : List Str} {pm : List (Nat ⊕ D)} {kws : List Keyword}
/-- the object of a method call -/
theorem mth_obj {C : Addr} {w : Wd} {H : Hp} {S : Sto} {n : Nat} {v : V} {fs : List (Str × D)} (hS : RSt G w S H) (hc : G.cls c = some C) (r : RV G.K w H v (.ref n)) (e : S[n]? = some (.ins c fs)) (l : fs.lookup m = none) : ∃ a dx fv, v = .ref a ∧ H a = some (.ins C dx fv) ∧ fv.lookup m = none := by
  simp only [RV] at r
  obtain ⟨a, h1, rfl⟩ := r
  obtain ⟨b, h2, C', dx, fv, h3, h4, h5, _⟩ := hS.ob n _ e
  obtain rfl : a = b := Option.some.inj (h1.symm.trans h2)
  obtain rfl : C' = C := Option.some.inj (h3.symm.trans hc)
  exact ⟨a, dx, fv, rfl, h4, lookup_none h5.ks l⟩
theorem s_mth (g : Good T G call N sc fn W k X) (hm : T.mthB f c m = true) (hd : T.dvB f (xs.length + 1) dv = true) (h0 : notCall0 x = true) (h3 : (ap.endLine == pos.line) = true) (hz : xs.length < 29) (hl : es.length = xs.length)
    (ho : JE G W X x (evE call o)) (h : JA G W X xs (evEs call es)) (hn : xs.all notStar = true) : JE G W X (.Call (.Attribute x m ap) xs [] pos) (evE call (.mth f c m o es dv)) := by
  obtain ⟨C, a, fd, ps, hc, hcl, hme, F, hb⟩ := g.lw.mth f c m hm
  obtain ⟨hfl, ds, hv, hB⟩ := hb.1 _ dv hd
  have fin : ∀ {σ : St} {H : Hp} {Q : VK}, rd G W (RV G.K) (evE call (.mth f c m o es dv)) σ H Q → rd G W (RV G.K) (evE call o) σ H fun x H1 => ∃ a dx fs, x = .ref a ∧ H1 a = some (.ins C dx fs) ∧ fs.lookup m = none ∧ rd G W (RVs G.K) (evEs call es) σ H1 fun vs H2 => spOf G (call f) (x :: (vs ++ dv.map vOf)) H2 Q (WE W σ) := by
    rintro σ H Q ⟨w, H0, ε, S, hS, hE, q⟩
    simp only [evE] at q
    refine rd_step (ev := evE call o) monF hS hE q fun d1 S1 w1 H1 v e1 hS1 hE1 r1 q1 => ?_
    cases d1 <;> try exact q1.elim
    rename_i n
    dsimp only at q1
    split at q1
    · rename_i c' fs e
      split at q1
      · rename_i hh
        obtain ⟨rfl, l⟩ := hh
        obtain ⟨a, dx, fv, ev, hH, hl⟩ := mth_obj hS1 hc r1 e l
        refine ⟨a, dx, fv, ev, hH, hl, ?_⟩
        refine rd_step (ev := evEs call es) monF hS1 hE1 q1 fun ds S2 w2 H2 vs e2 hS2 hE2 r2 q2 => ?_
        exact ⟨w2, S2, .ref n :: (ds ++ dv), hS2, by simp only [RVs]; exact ⟨v, _, rfl, RV.ext e2 _ _ r1, r2.append (rvs_flat hfl)⟩, q2⟩
      · exact q1.elim
    · exact q1.elim
  cases xs with
  | nil =>
    refine (pe_methSD0 (E := WE W) (pos := pos) ho hcl hme F g.room hB hv (fun σ => passAt g.tk σ) (base_of h0) h3).imp fun σ H Q q => ?_
    obtain ⟨w, H0, ε, S, hS, hE, q⟩ := fin q
    refine ⟨w, H0, ε, S, hS, hE, q.imp (fun d S' q w' H' v e hS' r => ?_) fun _ _ q => q⟩
    obtain ⟨a, dx, fs, h1, h2, h3, q2⟩ := q w' H' v e hS' r
    refine ⟨a, dx, fs, h1, h2, h3, ?_⟩
    obtain ⟨w2, H02, ε2, S2, hS2, hE2, q3⟩ := q2
    cases es with
    | nil =>
      simp only [evEs] at q3
      exact q3 w2 H' [] Ext.refl hS2 (by simp [RVs])
    | cons e es => simp at hl
  | cons y xs => exact (pe_methSD (E := WE W) (pos := pos) ho hcl hme F g.room hB hv (fun σ => passAt g.tk σ) h (by simp) hn hz (base_of h0) h3).imp fun σ H Q q => fin q
theorem s_mthK (g : Good T G call N sc fn W k X) (hm : T.mthB f c m = true) (hd : T.kwB f (xs.length + 1) ks pm = true) (h0 : notCall0 x = true) (h3 : (ap.endLine == pos.line) = true) (hz : xs.length + kws.length < 29) (hl : es.length = xs.length)
    (ho : JE G W X x (evE call o)) (h : JA G W X xs (evEs call es)) (hn : xs.all notStar = true) (hk : JK G W X kws (evEs call kes)) (hcs : chKs T N kes sc fn kws ks = true) : JE G W X (.Call (.Attribute x m ap) xs kws pos) (evE call (.mthK f c m o es ks kes pm)) := by
  obtain ⟨C, a, fd, ps, hc, hcl, hme, F, _, hb⟩ := g.lw.mth f c m hm
  obtain ⟨hfl, gg, hB⟩ := hb _ ks pm hd
  obtain ⟨c1, c2, c3, c4⟩ := chKs_all (pos := pos) (env := X.env) hcs
  have fin : ∀ {σ : St} {H : Hp} {Q : VK}, rd G W (RV G.K) (evE call (.mthK f c m o es ks kes pm)) σ H Q → rd G W (RV G.K) (evE call o) σ H fun x H1 => ∃ a dx fs, x = .ref a ∧ H1 a = some (.ins C dx fs) ∧ fs.lookup m = none ∧ rd G W (RVs G.K) (evEs call es) σ H1 fun vs H2 => rd G W (RVs G.K) (evEs call kes) σ H2 fun zs H3 => vs.length = xs.length ∧ zs.length = ks.length ∧ spOf G (call f) (pmV ((x :: vs) ++ zs) pm) H3 Q (WE W σ) := by
    rintro σ H Q ⟨w, H0, ε, S, hS, hE, q⟩
    simp only [evE] at q
    refine rd_step (ev := evE call o) monF hS hE q fun d1 S1 w1 H1 v e1 hS1 hE1 r1 q1 => ?_
    cases d1 <;> try exact q1.elim
    rename_i n
    dsimp only at q1
    split at q1
    · rename_i c' fs e
      split at q1
      · rename_i hh
        obtain ⟨rfl, l⟩ := hh
        obtain ⟨a, dx, fv, ev, hH, hll⟩ := mth_obj hS1 hc r1 e l
        refine ⟨a, dx, fv, ev, hH, hll, ?_⟩
        refine rd_stepE (ev := evEs call es) monF hS1 hE1 q1 fun ds S2 w2 H2 vs y2 e2 hS2 hE2 r2 q2 => ?_
        refine rd_stepE (ev := evEs call kes) monF hS2 hE2 q2 fun zs S3 w3 H3 us y3 e3 hS3 hE3 r3 q3 => ?_
        refine ⟨by rw [r2.length, evEs_len y2, hl], by rw [r3.length, evEs_len y3, c4], w3, S3, pmF (.ref n :: (ds ++ zs)) pm, hS3, pm_rvs (vs := (v :: vs) ++ us) (by simp only [List.cons_append, RVs]; exact ⟨v, _, rfl, RV.ext e3 _ _ (RV.ext e2 _ _ r1), (RVs.ext e3 _ _ r2).append r3⟩) hfl, q3⟩
      · exact q1.elim
    · exact q1.elim
  cases xs with
  | nil =>
    refine (pe_methKW0 (E := WE W) (pos := pos) ho hcl hme F g.room hB (fun σ => passAt g.tk σ) hk (by simpa using hz) c1 c2 c3 (base_of h0) h3).imp fun σ H Q q => ?_
    obtain ⟨w, H0, ε, S, hS, hE, q⟩ := fin q
    refine ⟨w, H0, ε, S, hS, hE, q.imp (fun d S' q w' H' v e hS' r => ?_) fun _ _ q => q⟩
    obtain ⟨a, dx, fs, h1, h2, h3, q2⟩ := q w' H' v e hS' r
    refine ⟨a, dx, fs, h1, h2, h3, ?_⟩
    obtain ⟨w2, H02, ε2, S2, hS2, hE2, q3⟩ := q2
    cases es with
    | nil =>
      simp only [evEs] at q3
      obtain ⟨w4, H04, ε4, S4, hS4, hE4, q4⟩ := q3 w2 H' [] Ext.refl hS2 (by simp [RVs])
      exact ⟨w4, H04, ε4, S4, hS4, hE4, q4.imp (fun d S' q w' H' v e hS' r => (q w' H' v e hS' r).2) fun _ _ q => q⟩
    | cons e es => simp at hl
  | cons y xs => exact (pe_methKW (E := WE W) (pos := pos) ho hcl hme F g.room hB (fun σ => passAt g.tk σ) h hk (by simp) hn hz c1 c2 c3 (base_of h0) h3).imp fun σ H Q q => fin q
/-- what a new instance's maker answers -/
theorem mk_fin {C : Addr} {w : Wd} {H : Hp} {S : Sto} {σ : St} {Q : VK} {ds : List D} {vs : List V} {a dx : Addr} (hS : RSt G w S H) (hc : G.cls c = some C) (hcl : Cls G.K C) (ha : H a = none) (hd : H dx = none) {gs : List V → List V} {gd : List D → List D}
    (hr : ∀ w H v d, RVs G.K w H vs ds → RV G.K w H v d → RVs G.K w H (gs (v :: vs)) (gd (d :: ds))) (r1 : RVs G.K w H vs ds)
    (q : Pst ((call f (gd (.ref S.length :: ds)) (S ++ [.ins c []])).bd fun x S2 => match x with
      | .non => .ok (.ref S.length) S2
      | _ => .stuck) (finP G (RV G.K) Q w H) (PX G W σ w H)) :
    spOf G (call f) (gs (.ref a :: vs)) (insH H a dx C) (fun v H2 => v = .non ∧ Q (.ref a) H2) (WE W σ) := by
  have x1 := ext_ins (C := C) hS ha hd
  refine ⟨_, S ++ [.ins c []], gd (.ref S.length :: ds), rst_ins hS ha hd hc hcl, hr _ _ _ _ (RVs.ext x1 _ _ r1) (rv_ins hS ha), ?_⟩
  refine q.bd.imp (fun d S' q w' H' v e hS' r => ?_) fun _ _ q => PXe.ext x1 q
  cases d <;> try exact q.elim
  simp only [RV] at r
  exact ⟨r, q w' H' (.ref a) (x1.trans e) hS' (RV.ext e _ _ (rv_ins hS ha))⟩
theorem s_mk (g : Good T G call N sc fn W k X) (hg : glB sc c = true) (hm : T.mkB f c = true) (hd : T.dvB f (xs.length + 1) dv = true) (hl : es.length = xs.length) (h : JA G W X xs (evEs call es)) (hn : xs.all notStar = true) :
    JE G W X (.Call (.Name c p1) xs [] pos) (evE call (.mk f c es dv)) := by
  obtain ⟨C, a, fd, ps, hmg, hc, hcl, hmk, F, hb⟩ := g.lw.mkd f c hm
  obtain ⟨hfl, ds, hv, hB⟩ := hb.1 _ dv hd
  have hcl' : Cls G.K C := by rw [g.lw.hK]; exact hcl
  have fin : ∀ {σ : St} {H : Hp} {Q : VK}, rd G W (RV G.K) (evE call (.mk f c es dv)) σ H Q → rd G W (RVs G.K) (evEs call es) σ H (fun vs H1 => ∀ x dx, H1 x = none → H1 dx = none → dx ≠ x → spOf G (call f) (.ref x :: (vs ++ dv.map vOf)) (insH H1 x dx C) (fun v H2 => v = .non ∧ Q (.ref x) H2) (WE W σ)) := by
    rintro σ H Q ⟨w, H0, ε, S, hS, hE, q⟩
    simp only [evE] at q
    refine rd_step (ev := evEs call es) monF hS hE q fun ds1 S1 w1 H1 vs e1 hS1 hE1 r1 q1 => ?_
    intro x dx hx hdx _
    exact mk_fin hS1 hc hcl' hx hdx (gs := fun vs => vs ++ dv.map vOf) (gd := fun ds => ds ++ dv) (fun w H v d rr rv => by simp only [List.cons_append, RVs]; exact ⟨v, _, rfl, rv, rr.append (rvs_flat hfl)⟩) r1 q1
  cases xs with
  | nil =>
    refine (⟨fun pins s σ H Q I h => ?_⟩ : PE X (.Call (.Name c p1) [] [] pos) (fun σ H Q => ∀ x dx, H x = none → H dx = none → dx ≠ x → spOf G (call f) (.ref x :: dv.map vOf) (insH H x dx C) (fun v H2 => v = .non ∧ Q (.ref x) H2) (WE W σ))).imp fun σ H Q q => ?_
    · refine wpAny_Call_Name_kw (ld_glob I (g.gl hg) hmg ?_ (gl_of hg).2)
      exact PySem.W.callWith_K0 I.kIn hmk.kp (run_makeSD (E := WE W) (us := []) (vs := []) hmk F g.rm hB hv (passAt g.tk σ) I .nil h)
    · obtain ⟨w, H0, ε, S, hS, hE, q⟩ := fin q
      cases es with
      | nil =>
        simp only [evEs] at q
        exact q w H [] Ext.refl hS (by simp [RVs])
      | cons e es => simp at hl
  | cons y xs =>
    simp only [List.all_cons, Bool.and_eq_true] at hn
    refine (⟨fun pins s σ H Q I q => ?_⟩ : PE X (.Call (.Name c p1) (y :: xs) [] pos) (fun σ H Q => rd G W (RVs G.K) (evEs call es) σ H (fun vs H1 => ∀ x dx, H1 x = none → H1 dx = none → dx ≠ x → spOf G (call f) (.ref x :: (vs ++ dv.map vOf)) (insH H1 x dx C) (fun v H2 => v = .non ∧ Q (.ref x) H2) (WE W σ)))).imp fun σ H Q q => fin q
    refine wpAny_Call_Name_kw (ld_glob I (g.gl hg) hmg ?_ (gl_of hg).2)
    refine PySem.W.callWith_K (h₀ := X.base) I.ok.mod.kin hmk.kp (thn (h.run pos pins s σ H _ I q) fun us s1 ⟨vs, H1, I1, r, q1⟩ => ⟨I1.kIn, ?_⟩) (starEach_cons hn.1) (starAll hn.2)
    exact run_makeSD (E := WE W) hmk F g.rm hB hv (passAt g.tk σ) I1 r q1
theorem s_mkK (g : Good T G call N sc fn W k X) {y : Expr} (hg : glB sc c = true) (hm : T.mkB f c = true) (hd : T.kwB f (xs.length + 2) ks pm = true) (hl : es.length = xs.length + 1) (h : JA G W X (y :: xs) (evEs call es)) (hn : (y :: xs).all notStar = true) (hk : JK G W X kws (evEs call kes)) (hcs : chKs T N kes sc fn kws ks = true) :
    JE G W X (.Call (.Name c p1) (y :: xs) kws pos) (evE call (.mkK f c es ks kes pm)) := by
  obtain ⟨C, a, fd, ps, hmg, hc, hcl, hmk, F, _, hb⟩ := g.lw.mkd f c hm
  obtain ⟨hfl, gg, hB⟩ := hb _ ks pm hd
  have hcl' : Cls G.K C := by rw [g.lw.hK]; exact hcl
  obtain ⟨c1, c2, c3, c4⟩ := chKs_all (pos := pos) (env := X.env) hcs
  simp only [List.all_cons, Bool.and_eq_true] at hn
  have key : PE X (.Call (.Name c p1) (y :: xs) kws pos) (fun σ H Q => rd G W (RVs G.K) (evEs call es) σ H fun vs H1 => rd G W (RVs G.K) (evEs call kes) σ H1 fun zs H2 => vs.length = xs.length + 1 ∧ zs.length = ks.length ∧ ∀ x dx, H2 x = none → H2 dx = none → dx ≠ x → spOf G (call f) (pmV ((.ref x :: vs) ++ zs) pm) (insH H2 x dx C) (fun v H2 => v = .non ∧ Q (.ref x) H2) (WE W σ)) := by
    refine ⟨fun pins s σ H Q I q => ?_⟩
    refine wpAny_Call_Name_kw (ld_glob I (g.gl hg) hmg ?_ (gl_of hg).2)
    refine PySem.W.callWith_KW (h₀ := X.base) I.ok.mod.kin hmk.kp c1 (thn (h.run pos pins s σ H _ I q) fun us s1 ⟨vs, H1, I1, r, q1⟩ => ?_) (by rw [starEach_cons hn.1]; show (false || (backTo pos (starEach xs X.env)).any (·.1) || _) = false; rw [starAll hn.2, c3]; rfl) (starEach_cons hn.1)
    refine thn (hk.run pos pins s1 σ H1 _ I1 q1) fun ws s2 ⟨zs, H2, I2, rz, l1, l2, q2⟩ => ⟨I2.kIn, ?_⟩
    rw [c2]
    exact run_makeKW (E := WE W) hmk F g.rm hB (passAt g.tk σ) I2 r rz l1 l2 q2
  refine key.imp fun σ H Q q => ?_
  obtain ⟨w, H0, ε, S, hS, hE, q⟩ := q
  simp only [evE] at q
  refine rd_stepE (ev := evEs call es) monF hS hE q fun ds S2 w2 H2 vs y2 e2 hS2 hE2 r2 q2 => ?_
  refine rd_stepE (ev := evEs call kes) monF hS2 hE2 q2 fun zs S3 w3 H3 us y3 e3 hS3 hE3 r3 q3 => ?_
  refine ⟨by rw [r2.length, evEs_len y2, hl], by rw [r3.length, evEs_len y3, c4], fun x dx hx hdx _ => ?_⟩
  exact mk_fin hS3 hc hcl' hx hdx (vs := vs ++ us) (ds := ds ++ zs) (gs := fun vs => pmV vs pm) (gd := fun ds => pmF ds pm) (fun w H v d rr rv => pm_rvs (by simp only [RVs]; exact ⟨v, _, rfl, rv, rr⟩) hfl) ((RVs.ext e3 _ _ r2).append r3) q3
end
end BX
set_option Elab.async false
set_option linter.all false
set_option maxRecDepth 100000
set_option maxHeartbeats 2000000
/-! BX4d: primitives as tests. -/
namespace BX
open PySem L2
open PyProof.Rows hiding St Binds

section
variable {T : Tb} {G : Gx} {call : Call} {N : List Str} {sc : Scope} {fn : Str → Bool} {W : WX} {k : Nat} {X : Cx} {pos p1 ap : Pos}
def cmpPr : Pr → Bool
  | .din | .dnin | .deq | .dne | .lemp | .lnemp => true
  | _ => false
theorem prF_bl {p : Pr} (h : cmpPr p = true) {ds : List D} {S S' : Sto} {d : D} (e : prF p ds S = .ok d S') : ∃ k, d = .bl k := by
  cases p <;> simp only [cmpPr, Bool.false_eq_true] at h
  all_goals
    rcases ds with _ | ⟨a, _ | ⟨b, _ | ⟨c, ds⟩⟩⟩ <;> simp only [prF] at e <;> try cases e
    split at e <;> try cases e
  all_goals first | exact ⟨_, rfl⟩ | skip
  · rename_i ks vs js us _ _
    cases q : eqDct ks vs js us with
    | none => rw [q] at e; cases e
    | some k => rw [q] at e; cases e; exact ⟨_, rfl⟩
  · rename_i ks vs js us _ _
    cases q : eqDct ks vs js us with
    | none => rw [q] at e; cases e
    | some k => rw [q] at e; cases e; exact ⟨_, rfl⟩
theorem prim_test {p : Pr} {es : List Ex} {σ : St} {H : Hp} {Q : Bool → Hp → Prop} (h : cmpPr p = true) (q : rd G W eqR (evT call (.prim p es)) σ H Q) :
    rd G W (RV G.K) (evE call (.prim p es)) σ H (fun v H => ∃ d, v = .bl d ∧ Q d H) := by
  obtain ⟨w, H0, ε, S, hS, hE, q⟩ := q
  refine ⟨w, H0, ε, S, hS, hE, ?_⟩
  simp only [evT] at q
  simp only [evE]
  cases e : evOs call es ε S with
  | stuck => rw [e] at q; exact q.elim
  | exc x S1 => rw [e] at q; exact q
  | ok ds S1 =>
    rw [e] at q
    simp only [R.bd_ok] at q ⊢
    cases e2 : prF p ds S1 with
    | stuck => rw [e2] at q; exact q.elim
    | exc x S1 => rw [e2] at q; exact q
    | ok d S2 =>
      rw [e2] at q
      obtain ⟨kk, rfl⟩ := prF_bl h e2
      simp only [R.bd_ok, truF, R.of_some] at q
      intro w' H' v x hS' r
      simp only [RV] at r
      exact ⟨kk, r, q w' H' kk x hS' rfl⟩
theorem prX_tru {p : Pr} {e : Expr} {xs : List Expr} (hc : cmpPr p = false) (h : prX p sc e = some xs) (env : PySem.Env) : ∀ whole, isTrue e env whole = (do let v ← whole; standAt e.pos; holding [v] (truthy v)) := by
  cases p <;> simp only [cmpPr] at hc
  case dnew => simp only [prX] at h; split at h <;> first | (intro _; rfl) | cases h
  case ndnew => simp only [prX] at h; split at h <;> first | (intro _; rfl) | cases h
  case dget => simp only [prX] at h; split at h <;> first | (intro _; rfl) | cases h
  case dget1 => obtain ⟨_, _, _, _, rfl, _⟩ := atX_some h; intro _; rfl
  case dget2 => obtain ⟨_, _, _, _, _, rfl, _⟩ := atX2_some h; intro _; rfl
  case join y => simp only [prX] at h; split at h <;> first | (intro _; rfl) | cases h
  case fld f => simp only [prX] at h; split at h <;> first | (intro _; rfl) | cases h
  case tlt => simp [prX] at h
  all_goals first | exact Bool.noConfusion hc | (obtain ⟨_, _, _, rfl, _⟩ := blX_some h; intro _; rfl)
theorem t_prim (g : Good T G call N sc fn W k X) {p : Pr} {es : List Ex} {e : Expr} {xs : List Expr} (h : prX p sc e = some xs) (hok : prOk p es = true) (js : JOs G W X call xs es) : JT G W X e (evT call (.prim p es)) := by
  have hu : X.A.units + 1 < cLine := by have := g.room.units; omega
  by_cases hc : cmpPr p = true
  · cases p <;> simp only [cmpPr, Bool.false_eq_true] at hc
    case din =>
      obtain ⟨x, y, pos, rfl, hb, rfl⟩ := cmX_some h
      cases js with | cons j1 je1 js => cases js with | cons j2 je2 js => cases js with | nil =>
      refine (pt_cmp (pc_din hu j1 j2) hb).imp fun σ H Q q0 => ?_
      have q := prim_test rfl q0
      refine rd_os2 q fun w S2 H2 d v d2 u hS2 r1 r2 q2 => ?_
      simp only [prF] at q2
      split at q2
      · rename_i ks vs kk hd hk
        obtain ⟨a, kvs, rfl, h1, h2, h3⟩ := dr_dct hS2 r2 hd
        refine ⟨a, _, rfl, .inl ⟨kvs, kk, h1, key_of r1 hk, rfl⟩, ?_⟩
        rw [← getK_isSome h2 h3]
        exact q2 _ _ _ Ext.refl hS2 RV_bl
      · exact q2.elim
    case dnin =>
      obtain ⟨x, y, pos, rfl, hb, rfl⟩ := cmX_some h
      cases js with | cons j1 je1 js => cases js with | cons j2 je2 js => cases js with | nil =>
      refine (pt_cmp (pc_dnotin hu j1 j2) hb).imp fun σ H Q q0 => ?_
      have q := prim_test rfl q0
      refine rd_os2 q fun w S2 H2 d v d2 u hS2 r1 r2 q2 => ?_
      simp only [prF] at q2
      split at q2
      · rename_i ks vs kk hd hk
        obtain ⟨a, kvs, rfl, h1, h2, h3⟩ := dr_dct hS2 r2 hd
        refine ⟨a, _, rfl, .inl ⟨kvs, kk, h1, key_of r1 hk, rfl⟩, ?_⟩
        rw [← getK_isSome h2 h3]
        exact q2 _ _ _ Ext.refl hS2 RV_bl
      · exact q2.elim
    case deq =>
      obtain ⟨x, y, pos, rfl, hb, rfl⟩ := cmX_some h
      cases js with | cons j1 je1 js => cases js with | cons j2 je2 js => cases js with | nil =>
      refine (pt_cmpR (deq_ok g.lw.hK g.room.units) j1 j2 hb).imp fun σ H Q q0 => ?_
      have q := prim_test rfl q0
      refine rd_os2 q fun w S2 H2 d v d2 u hS2 r1 r2 q2 => ?_
      simp only [prF] at q2
      split at q2
      · rename_i ks vs js us h1 h2
        obtain ⟨x, hx, q3⟩ := q2.of
        cases he : eqDct ks vs js us with
        | none => rw [he] at hx; cases hx
        | some k =>
          rw [he] at hx
          cases hx
          exact ⟨w, S2, d, d2, ks, vs, js, us, k, hS2, r1, r2, h1, h2, he, q3 _ _ _ Ext.refl hS2 RV_bl⟩
      · exact q2.elim
    case dne =>
      obtain ⟨x, y, pos, rfl, hb, rfl⟩ := cmX_some h
      cases js with | cons j1 je1 js => cases js with | cons j2 je2 js => cases js with | nil =>
      refine (pt_cmpR (dne_ok g.lw.hK g.room.units) j1 j2 hb).imp fun σ H Q q0 => ?_
      have q := prim_test rfl q0
      refine rd_os2 q fun w S2 H2 d v d2 u hS2 r1 r2 q2 => ?_
      simp only [prF] at q2
      split at q2
      · rename_i ks vs js us h1 h2
        obtain ⟨x, hx, q3⟩ := q2.of
        cases he : eqDct ks vs js us with
        | none => rw [he] at hx; cases hx
        | some k =>
          rw [he] at hx
          cases hx
          exact ⟨w, S2, d, d2, ks, vs, js, us, k, hS2, r1, r2, h1, h2, he, q3 _ _ _ Ext.refl hS2 RV_bl⟩
      · exact q2.elim
    case lemp =>
      obtain ⟨x, p, pos, rfl, rfl⟩ := emX_some h
      cases js with | cons j1 je1 js => cases js with | nil =>
      refine (pt_cmpR (op_eq0 (by omega)) j1 (pe_lst pa_nil) rfl).imp fun σ H Q q0 => ?_
      have q := prim_test rfl q0
      refine rd_os1 q fun w S2 H2 d v hS2 r1 q2 => ?_
      simp only [prF] at q2
      split at q2
      · rename_i l hd
        obtain ⟨a, vs, rfl, h1, h2⟩ := dr_lst hS2 r1 hd
        refine ⟨by show 0 ≤ _; omega, fun p hp => ⟨a, p, vs, rfl, rfl, Rd.keep h1 fun o e => by rw [upd_ne (fun z => by subst z; rw [hp] at e; cases e)]; exact e, .inl upd_same, ?_⟩⟩
        have e : vs.isEmpty = l.isEmpty := by have := h2.length; cases vs <;> cases l <;> simp at this ⊢
        rw [e]
        exact q2 _ _ _ (ext_tmp hp) (rst_tmp hS2 hp) RV_bl
      · exact q2.elim
    case lnemp =>
      obtain ⟨x, p, pos, rfl, rfl⟩ := emX_some h
      cases js with | cons j1 je1 js => cases js with | nil =>
      refine (pt_cmpR (op_ne0 (by omega)) j1 (pe_lst pa_nil) rfl).imp fun σ H Q q0 => ?_
      have q := prim_test rfl q0
      refine rd_os1 q fun w S2 H2 d v hS2 r1 q2 => ?_
      simp only [prF] at q2
      split at q2
      · rename_i l hd
        obtain ⟨a, vs, rfl, h1, h2⟩ := dr_lst hS2 r1 hd
        refine ⟨by show 0 ≤ _; omega, fun p hp => ⟨a, p, vs, rfl, rfl, Rd.keep h1 fun o e => by rw [upd_ne (fun z => by subst z; rw [hp] at e; cases e)]; exact e, .inl upd_same, ?_⟩⟩
        have e : vs.isEmpty = l.isEmpty := by have := h2.length; cases vs <;> cases l <;> simp at this ⊢
        rw [e]
        exact q2 _ _ _ (ext_tmp hp) (rst_tmp hS2 hp) RV_bl
      · exact q2.elim
  · refine (t_val g (je_toO (s_prim g h hok js)) (prX_tru (by simpa using hc) h X.env)).imp fun σ H Q q => ?_
    obtain ⟨w, H0, ε, S, hS, hE, q⟩ := q
    exact ⟨w, H0, ε, S, hS, hE, by simpa only [evT, evE] using q⟩
theorem prX_bool {p : Pr} {o : BoolOp} {es : List Expr} {q : Pos} : prX p sc (.BoolOp o es q) = none := by
  cases p <;> rfl
end
end BX
set_option Elab.async false
set_option linter.all false
set_option maxRecDepth 100000
set_option maxHeartbeats 2000000
/-! BX5: targets, what is walked, comprehensions, the whole of expressions. -/
namespace BX
open PySem L2
open PyProof.Rows hiding St Binds

section
variable {K : PySem.W.Frag} {w : Wd} {H0 H : Hp} {σ : St} {ε : Env}
theorem REn.set (h : REn K w H0 σ H ε) {v : V} {d : D} (r : RV K w H v d) (i : Nat) : REn K w H0 (σ.set i (some v)) H (ε.set i (.val d)) := by
  refine ⟨by simp [h.len], fun j s e => ?_, fun j l d1 d2 a hne e1 e2 e3 => ?_⟩
  · by_cases hij : i = j
    · subst hij
      have hl : i < ε.length := by
        have := (List.getElem?_eq_some_iff.mp e).1
        simpa using this
      rw [List.getElem?_set_self hl] at e
      cases e
      refine ⟨v, ?_, r⟩
      rw [List.getElem?_set_self (by rw [h.len]; exact hl)]
    · rw [List.getElem?_set_ne hij] at e ⊢
      exact h.sl j s e
  · have hj : i ≠ j := fun z => by
      subst z
      have hl : i < ε.length := by
        have := (List.getElem?_eq_some_iff.mp e1).1
        simpa using this
      rw [List.getElem?_set_self hl] at e1
      cases e1
    have hl : i ≠ l := fun z => by
      subst z
      have hl : i < ε.length := by
        have := (List.getElem?_eq_some_iff.mp e2).1
        simpa using this
      rw [List.getElem?_set_self hl] at e2
      cases e2
    rw [List.getElem?_set_ne hj] at e1 e3
    rw [List.getElem?_set_ne hl] at e2 ⊢
    exact h.ap j l d1 d2 a hne e1 e2 e3
theorem REn.un (h : REn K w H0 σ H ε) (i : Nat) : REn K w H0 (σ.set i none) H (ε.set i .un) := by
  refine ⟨by simp [h.len], fun j s e => ?_, fun j l d1 d2 a hne e1 e2 e3 => ?_⟩
  · by_cases hij : i = j
    · subst hij
      have hl : i < ε.length := by
        have := (List.getElem?_eq_some_iff.mp e).1
        simpa using this
      rw [List.getElem?_set_self hl] at e
      cases e
      trivial
    · rw [List.getElem?_set_ne hij] at e ⊢
      exact h.sl j s e
  · have hj : i ≠ j := fun z => by
      subst z
      have hl : i < ε.length := by
        have := (List.getElem?_eq_some_iff.mp e1).1
        simpa using this
      rw [List.getElem?_set_self hl] at e1
      cases e1
    have hl : i ≠ l := fun z => by
      subst z
      have hl : i < ε.length := by
        have := (List.getElem?_eq_some_iff.mp e2).1
        simpa using this
      rw [List.getElem?_set_self hl] at e2
      cases e2
    rw [List.getElem?_set_ne hj] at e1 e3
    rw [List.getElem?_set_ne hl] at e2 ⊢
    exact h.ap j l d1 d2 a hne e1 e2 e3
theorem REn.wipe (h : REn K w H0 σ H ε) : ∀ own : List Nat, REn K w H0 (L2.wipe σ own) H (wipeE ε own)
  | [] => h
  | v :: vs => (REn.wipe h vs).un v
end
theorem wipe_set {v : Option V} : ∀ {own : List Nat} {σ : St} {i : Nat}, i ∈ own → wipe (σ.set i v) own = wipe σ own
  | [], _, _, h => by simp at h
  | j :: js, σ, i, h => by
    unfold wipe
    by_cases hi : i ∈ js
    · rw [wipe_set hi]
    · have e : j = i := by
        rcases List.mem_cons.mp h with h | h
        · exact h.symm
        · exact absurd h hi
      subst e
      have : ∀ (js : List Nat) (σ : St), j ∉ js → wipe (σ.set j v) js = (wipe σ js).set j v := by
        intro js
        induction js with
        | nil => intro σ _; rfl
        | cons l ls ih =>
          intro σ hn
          simp only [List.mem_cons, not_or] at hn
          unfold wipe
          rw [ih σ hn.2, List.set_comm _ _ hn.1]
      rw [this js σ hi, List.set_set]
theorem wipe_wipe {own : List Nat} : ∀ {js : List Nat} {σ : St}, (∀ j ∈ js, j ∈ own) → wipe (wipe σ js) own = wipe σ own
  | [], _, _ => rfl
  | j :: js, σ, h => by
    show wipe ((wipe σ js).set j none) own = _
    rw [wipe_set (h j (List.mem_cons_self ..)), wipe_wipe fun l hl => h l (List.mem_cons_of_mem _ hl)]

/-! ### targets -/
theorem _root_.L2.PG.imp {X : Cx} {e : Expr} {t t' : TG} (h : PG X e t) (k : ∀ v σ H Q, t' v σ H Q → t v σ H Q) : PG X e t' := ⟨fun pins s σ H v u Q I r q => h.run pins s σ H v u Q I r (k _ _ _ _ q)⟩
theorem _root_.L2.PGs.imp {X : Cx} {e : List Expr} {t t' : TGs} (h : PGs X e t) (k : ∀ v σ H Q, t' v σ H Q → t v σ H Q) : PGs X e t' := ⟨fun pins s σ H v u Q I r q => h.run pins s σ H v u Q I r (k _ _ _ _ q)⟩
def gRd (G : Gx) (t : Tg) : TG := fun v σ H Q => ∃ w H0 ε d ε', REn G.K w H0 σ H ε ∧ RV G.K w H v d ∧ setT t d ε = some ε' ∧
  ∀ σ', REn G.K w H0 σ' H ε' → (∀ own, tgIn own t = true → wipe σ' own = wipe σ own) → Q σ' H
def gRds (G : Gx) (t : List Tg) : TGs := fun v σ H Q => ∃ w H0 ε d ε', REn G.K w H0 σ H ε ∧ RVs G.K w H v d ∧ setTs t d ε = some ε' ∧
  ∀ σ', REn G.K w H0 σ' H ε' → (∀ own, tgsIn own t = true → wipe σ' own = wipe σ own) → Q σ' H
theorem notStarEach {x : Expr} {xs : List Expr} {env : PySem.Env} (h : notStar x = true) : assignEach (x :: xs) env = (false, assign x env) :: assignEach xs env := by
  cases x <;> first | rfl | (simp [notStar] at h)
theorem chTs_star {N : List Str} {fn : Str → Bool} : ∀ {ts : List Tg} {xs : List Expr}, chTs N fn ts xs = true → xs.all notStar = true ∧ xs.length = ts.length
  | [], xs, h => by
    simp only [chTs] at h
    split at h
    · exact ⟨rfl, rfl⟩
    · cases h
  | t :: ts, xs, h => by
    simp only [chTs] at h
    split at h
    · simp only [Bool.and_eq_true] at h
      obtain ⟨h1, h2⟩ := chTs_star h.2
      simp only [List.all_cons, Bool.and_eq_true, List.length_cons]
      exact ⟨⟨h.1.1, h1⟩, by rw [h2]⟩
    · cases h
theorem assignAll {env : PySem.Env} : ∀ {xs : List Expr}, xs.all notStar = true → (assignEach xs env).length = xs.length ∧ (assignEach xs env).findIdx? (·.1) = none
  | [], _ => ⟨rfl, rfl⟩
  | x :: xs, h => by
    simp only [List.all_cons, Bool.and_eq_true] at h
    obtain ⟨h1, h2⟩ := assignAll (env := env) h.2
    rw [notStarEach h.1]
    refine ⟨by simp [h1], ?_⟩
    rw [List.findIdx?_cons]
    simp [h2]
theorem setTs_len : ∀ {ts : List Tg} {ds : List D} {ε ε' : Env}, setTs ts ds ε = some ε' → ds.length = ts.length
  | [], [], _, _, _ => rfl
  | [], _ :: _, _, _, h => by simp [setTs] at h
  | _ :: _, [], _, _, h => by simp [setTs] at h
  | t :: ts, d :: ds, ε, ε', h => by
    simp only [setTs] at h
    split at h
    · have := setTs_len h
      simp [this]
    · cases h
section
variable {T : Tb} {G : Gx} {call : Call} {N : List Str} {sc : Scope} {fn : Str → Bool} {W : WX} {k : Nat} {X : Cx} {pos p1 p2 : Pos}
mutual
theorem s_tg (g : Good T G call N sc fn W k X) : ∀ (t : Tg) (e : Expr), chT N fn t e = true → PG X e (gRd G t)
  | .nm i, e, h => by
    simp only [chT] at h
    split at h
    · rename_i x pos
      simp only [Bool.and_eq_true, decide_eq_true_eq] at h
      obtain ⟨h1, h2⟩ := h
      obtain ⟨hl, hf⟩ := g.hfn x h2
      refine (pg_name (by rw [g.hN]; exact g.nd) (by rw [g.hN]; exact h1) (by rw [g.hsc]; exact hl) (by rw [g.hsc]; exact hf)).imp fun v σ H Q q => ?_
      obtain ⟨w, H0, ε, d, ε', hE, r, hs, q⟩ := q
      simp only [setT] at hs
      cases hs
      refine q _ (hE.set r i) fun own ho => wipe_set ?_
      simpa [tgIn] using ho
    · cases h
  | .tp l, e, h => by
    simp only [chT] at h
    split at h
    · rename_i es j pos
      obtain ⟨h1, h2⟩ := chTs_star h
      obtain ⟨h3, h4⟩ := assignAll (env := X.env) h1
      refine (pg_tup (n := l.length) g.calm (s_tgs g l es h) (by rw [h3, h2]) h4).imp fun v σ H Q q => ?_
      obtain ⟨w, H0, ε, d, ε', hE, r, hs, q⟩ := q
      cases d <;> simp only [setT] at hs <;> try cases hs
      rename_i ds
      simp only [RV] at r
      obtain ⟨a, vs, rfl, r1, r2⟩ := r
      exact ⟨a, vs, rfl, g.lw.hK ▸ r1.sq, by rw [r2.length, setTs_len hs], w, H0, ε, ds, ε', hE, r2, hs, fun σ' hE' hw => q σ' hE' fun own ho => hw own (by simpa only [tgIn] using ho)⟩
    · cases h
theorem s_tgs (g : Good T G call N sc fn W k X) : ∀ (ts : List Tg) (es : List Expr), chTs N fn ts es = true → PGs X es (gRds G ts)
  | [], es, h => by
    simp only [chTs] at h
    split at h
    · refine pgs_nil.imp fun vs σ H Q q => ?_
      obtain ⟨w, H0, ε, d, ε', hE, r, hs, q⟩ := q
      cases d with
      | nil =>
        simp only [setTs] at hs
        cases hs
        simp only [RVs] at r
        exact ⟨r, q σ hE fun _ _ => rfl⟩
      | cons _ _ => simp [setTs] at hs
    · cases h
  | t :: ts, es, h => by
    simp only [chTs] at h
    split at h
    · rename_i x xs
      simp only [Bool.and_eq_true] at h
      obtain ⟨⟨h1, h2⟩, h3⟩ := h
      refine (pgs_cons (s_tg g t x h2) (s_tgs g ts xs h3) (by rw [notStarEach h1]; rfl)).imp fun vs σ H Q q => ?_
      obtain ⟨w, H0, ε, d, ε', hE, r, hs, q⟩ := q
      cases d with
      | nil => simp [setTs] at hs
      | cons d ds =>
        simp only [setTs] at hs
        split at hs
        · rename_i ε1 e1
          simp only [RVs] at r
          obtain ⟨v, r', rfl, r1, r2⟩ := r
          exact ⟨v, r', rfl, w, H0, ε, d, ε1, hE, r1, e1, fun σ1 hE1 hw1 => ⟨w, H0, ε1, ds, ε', hE1, r2, hs, fun σ2 hE2 hw2 => q σ2 hE2 fun own ho => by
            simp only [tgsIn, Bool.and_eq_true] at ho
            rw [hw2 own ho.2, hw1 own ho.1]⟩⟩
        · cases hs
    · cases h
end

/-! ### what is walked -/
structure Wk (G : Gx) (w : Wd) (H : Hp) (J : It) (ds : List D) : Prop where
  go : ∀ w' H' S, ExtS w H w' H' → RSt G w' S H' → ∀ i d, ds[i]? = some d → J.go i H' ∧ ∀ x H'', J.yld i H' x H'' → ∃ w'', Ext w' H' w'' H'' ∧ RSt G w'' S H'' ∧ RV G.K w'' H'' x d
  stop : ∀ w' H', ExtS w H w' H' → J.stop ds.length H'
abbrev JI (G : Gx) (W : WX) (X : Cx) (t e : Expr) (ev : Env → Sto → R (List D)) : Prop := PI X t e (rd G W (Wk G) ev)
theorem _root_.L2.PI.imp {X : Cx} {t e : Expr} {i i' : TI} (h : PI X t e i) (k : ∀ σ H Q, i' σ H Q → i σ H Q) : PI X t e i' := ⟨fun pins s σ H Q I q => h.run pins s σ H Q I (k _ _ _ q)⟩
def iAny (K : PySem.W.Frag) (tl : TE) : TI := fun σ H R => tl σ H fun x H1 => (∃ a, x = .ref a ∧ (∃ xs, SqL K H1 a xs) ∧ R (Itl K a) H1) ∨ (∃ a, x = .ref a ∧ (∃ xs, SqT K H1 a xs) ∧ R (Itt K a) H1) ∨ ∃ z, x = .str z ∧ R (Its z) H1
theorem pi_any {tg l : Expr} {tl : TE} (hl : PE X l tl) : PI X tg l (iAny X.K tl) := by
  refine ⟨fun pins s σ H R I h => ?_⟩
  refine thn (hl.run pins s σ H _ I h) fun v s1 ⟨x, H1, I1, r1, q1⟩ => ?_
  rcases q1 with ⟨a, e, ⟨xs, hq⟩, q⟩ | ⟨a, e, ⟨xs, hq⟩, q⟩ | ⟨x, ex, q⟩
  · subst e
    cases r1
    obtain ⟨its, rv, p, hz⟩ := I1.list hq
    refine wpAny_pyIter_list p.isList ?_
    refine ⟨s1.heap.objs.size, [s1.heap.objs.size], _, _, H1, rfl, I1.kept (t' := s1.toks) fun b o e => Heap.get?_push_of_some _ e, turn_list a _, ⟨_, Heap.get?_push_size _ rfl, rfl, rfl⟩, fun b hb => ?_, q⟩
    have e : b = s1.heap.objs.size := by simpa using hb
    subst e
    exact I1.fpOk (Nat.le_refl _) (I1.hok.fresh (Nat.le_refl _))
  · subst e
    cases r1
    obtain ⟨its, rv, p, hz⟩ := I1.tuple hq
    refine wpAny_pyIter_tuple (show s1.heap.IsTuple a its.toArray from p) ?_
    refine ⟨s1.heap.objs.size, [s1.heap.objs.size], _, _, H1, rfl, I1.kept (t' := s1.toks) fun b o e => Heap.get?_push_of_some _ e, turn_tuple a _, ⟨_, Heap.get?_push_size _ rfl, rfl, rfl⟩, fun b hb => ?_, q⟩
    have e : b = s1.heap.objs.size := by simpa using hb
    subst e
    exact I1.fpOk (Nat.le_refl _) (I1.hok.fresh (Nat.le_refl _))
  · subst ex
    obtain ⟨t, rfl⟩ := r1
    cases ha : x.cps.all (· < 128)
    · exact wpAny_pyIter_wide ha (pi_one (tk := s1.toks) I1 _ (turn_str _ x t "str_iterator" (.inr rfl)) ⟨_, Heap.get?_push_size _ rfl, rfl, rfl⟩ q)
    · exact wpAny_pyIter_ascii ha (pi_one (tk := s1.toks) I1 _ (turn_str _ x t "str_ascii_iterator" (.inl rfl)) ⟨_, Heap.get?_push_size _ rfl, rfl, rfl⟩ q)
theorem wk_lst {K : PySem.W.Frag} {w : Wd} {H : Hp} {a : Addr} {vs : List V} {l : List D} (hK : G.K = K) (h : ImL w H a vs) (r : RVs G.K w H vs l) : Wk G w H (Itl K a) l := by
  subst hK
  refine ⟨fun w' H' S e hS i d hd => ?_, fun w' H' e => ⟨vs, .inl (e.imL h).2, by rw [r.length]; exact Nat.le_refl _⟩⟩
  obtain ⟨v, hv, rv⟩ := r.get hd
  refine ⟨⟨vs, v, .inl (e.imL h).2, hv⟩, fun x H'' y => ?_⟩
  obtain ⟨rfl, y⟩ := y
  have := y vs (.inl (e.imL h).2)
  rw [hv] at this
  cases this
  exact ⟨w', Ext.refl, hS, RV.exts e _ _ rv⟩
theorem wk_tup {K : PySem.W.Frag} {w : Wd} {H : Hp} {a : Addr} {vs : List V} {l : List D} (hK : G.K = K) (h : ImT G.K w H a vs) (r : RVs G.K w H vs l) : Wk G w H (Itt K a) l := by
  subst hK
  refine ⟨fun w' H' S e hS i d hd => ?_, fun w' H' e => ⟨vs, (e.imT h).sq, by rw [r.length]; exact Nat.le_refl _⟩⟩
  obtain ⟨v, hv, rv⟩ := r.get hd
  refine ⟨⟨vs, v, (e.imT h).sq, hv⟩, fun x H'' y => ?_⟩
  obtain ⟨rfl, y⟩ := y
  have := y vs (e.imT h).sq
  rw [hv] at this
  cases this
  exact ⟨w', Ext.refl, hS, RV.exts e _ _ rv⟩
theorem wk_str {w : Wd} {H : Hp} {z : Str} : Wk G w H (Its z) (z.cps.toList.map fun c => .str ⟨#[c]⟩) := by
  refine ⟨fun w' H' S e hS i d hd => ?_, fun w' H' e => by show z.cps.size ≤ _; simp⟩
  have hi : i < z.cps.size := by
    have := (List.getElem?_eq_some_iff.mp hd).1
    simpa using this
  refine ⟨hi, fun x H'' y => ?_⟩
  obtain ⟨rfl, c, hc, rfl⟩ := y
  refine ⟨w', Ext.refl, hS, ?_⟩
  rw [List.getElem?_map, Array.getElem?_toList, hc] at hd
  cases hd
  exact RV_str
theorem wk_rng {w : Wd} {H : Hp} {lo : Int} {n : Nat} : Wk G w H (Itr lo n) (rngL lo n) := by
  refine ⟨fun w' H' S e hS i d hd => ?_, fun w' H' e => by show n ≤ _; simp [rngL]⟩
  have hi : i < n := by
    have := (List.getElem?_eq_some_iff.mp hd).1
    simpa [rngL] using this
  refine ⟨hi, fun x H'' y => ?_⟩
  obtain ⟨rfl, rfl⟩ := y
  refine ⟨w', Ext.refl, hS, ?_⟩
  unfold rngL at hd
  rw [List.getElem?_map, List.getElem?_range hi] at hd
  cases hd
  exact RV_int
theorem get_zip {a b : List D} {i : Nat} {d : D} (h : (List.zipWith (fun x y => D.tup [x, y]) a b)[i]? = some d) : ∃ x y, a[i]? = some x ∧ b[i]? = some y ∧ d = .tup [x, y] := by
  rw [List.getElem?_zipWith] at h
  cases ha : a[i]? with
  | none => rw [ha] at h; cases h
  | some x =>
    cases hb : b[i]? with
    | none => rw [ha, hb] at h; cases h
    | some y => rw [ha, hb] at h; cases h; exact ⟨x, y, rfl, rfl, rfl⟩
theorem wk_zipL {K : PySem.W.Frag} {w : Wd} {H : Hp} {a b : Addr} {vs us : List V} {l m : List D} (hK : G.K = K) (h : ImL w H a vs) (r : RVs G.K w H vs l) (h2 : ImL w H b us) (r2 : RVs G.K w H us m) : Wk G w H (Itz K a b) (List.zipWith (fun x y => D.tup [x, y]) l m) := by
  subst hK
  refine ⟨fun w' H' S e hS i d hd => ?_, fun w' H' e => ⟨vs, us, .inl (e.imL h).2, .inl (e.imL h2).2, ?_⟩⟩
  · obtain ⟨x, y, hx, hy, rfl⟩ := get_zip hd
    obtain ⟨v, hv, rv⟩ := r.get hx
    obtain ⟨u, hu, ru⟩ := r2.get hy
    refine ⟨⟨vs, us, v, u, .inl (e.imL h).2, .inl (e.imL h2).2, hv, hu⟩, fun x H'' yl => ?_⟩
    obtain ⟨T, v', u', rfl, hT, rfl, y1, y2⟩ := yl
    have e1 := y1 vs (.inl (e.imL h).2)
    have e2 := y2 us (.inl (e.imL h2).2)
    rw [hv] at e1; rw [hu] at e2
    cases e1; cases e2
    refine ⟨_, ext_imm hS hT, rst_imm hS hT, rv_tup hS hT ?_⟩
    simp only [RVs]
    exact ⟨_, _, rfl, RV.exts e _ _ rv, _, _, rfl, RV.exts e _ _ ru, rfl⟩
  · rw [r.length, r2.length, List.length_zipWith]; omega
theorem wk_zipT {K : PySem.W.Frag} {w : Wd} {H : Hp} {a b : Addr} {vs us : List V} {l m : List D} (hK : G.K = K) (h : ImT G.K w H a vs) (r : RVs G.K w H vs l) (h2 : ImT G.K w H b us) (r2 : RVs G.K w H us m) : Wk G w H (RZ.ItzT K a b) (List.zipWith (fun x y => D.tup [x, y]) l m) := by
  subst hK
  refine ⟨fun w' H' S e hS i d hd => ?_, fun w' H' e => ⟨vs, us, (e.imT h).sq, (e.imT h2).sq, ?_⟩⟩
  · obtain ⟨x, y, hx, hy, rfl⟩ := get_zip hd
    obtain ⟨v, hv, rv⟩ := r.get hx
    obtain ⟨u, hu, ru⟩ := r2.get hy
    refine ⟨⟨vs, us, v, u, (e.imT h).sq, (e.imT h2).sq, hv, hu⟩, fun x H'' yl => ?_⟩
    obtain ⟨T, v', u', rfl, hT, rfl, y1, y2⟩ := yl
    have e1 := y1 vs (e.imT h).sq
    have e2 := y2 us (e.imT h2).sq
    rw [hv] at e1; rw [hu] at e2
    cases e1; cases e2
    refine ⟨_, ext_imm hS hT, rst_imm hS hT, rv_tup hS hT ?_⟩
    simp only [RVs]
    exact ⟨_, _, rfl, RV.exts e _ _ rv, _, _, rfl, RV.exts e _ _ ru, rfl⟩
  · rw [r.length, r2.length, List.length_zipWith]; omega
theorem i_seq (g : Good T G call N sc fn W k X) {a : Ex} {t x : Expr} (ha : JE G W X x (evE call a)) : JI G W X t x (evI call (.seq a)) := by
  refine (pi_any ha).imp fun σ H Q q => ?_
  obtain ⟨w, H0, ε, S, hS, hE, q⟩ := q
  simp only [evI] at q
  refine rd_step (ev := evE call a) monF hS hE q fun d1 S1 w1 H1 v e1 hS1 hE1 r1 q1 => ?_
  obtain ⟨ds, hd, q2⟩ := q1.of
  cases d1 <;> simp only [seqOf] at hd <;> try cases hd
  · split at hd
    · cases hd
      simp only [RV] at r1
      exact .inr (.inr ⟨_, r1, q2 w1 H1 _ Ext.refl hS1 wk_str⟩)
    · cases hd
  · simp only [RV] at r1
    obtain ⟨a, vs, rfl, r2, r3⟩ := r1
    exact .inr (.inl ⟨a, rfl, ⟨vs, g.lw.hK ▸ r2.sq⟩, q2 w1 H1 _ Ext.refl hS1 (wk_tup g.lw.hK r2 r3)⟩)
  · simp only [RV] at r1
    obtain ⟨a, vs, rfl, r2, r3⟩ := r1
    exact .inl ⟨a, rfl, ⟨vs, .inl r2.2⟩, q2 w1 H1 _ Ext.refl hS1 (wk_lst g.lw.hK r2 r3)⟩
theorem RVs.getR {K : PySem.W.Frag} {w : Wd} {H : Hp} {vs : List V} {l : List D} (r : RVs K w H vs l) {i : Nat} {d : D} (h : l.reverse[i]? = some d) : i < l.length ∧ ∃ v, vs[l.length - 1 - i]? = some v ∧ RV K w H v d := by
  have hi : i < l.length := by
    have := (List.getElem?_eq_some_iff.mp h).1
    simpa using this
  refine ⟨hi, ?_⟩
  rw [List.getElem?_reverse hi] at h
  exact r.get h
theorem wk_revL {K : PySem.W.Frag} {w : Wd} {H : Hp} {a : Addr} {vs : List V} {l : List D} (hK : G.K = K) (h : ImL w H a vs) (r : RVs G.K w H vs l) : Wk G w H (Itv K a vs.length) l.reverse := by
  subst hK
  refine ⟨fun w' H' S e hS i d hd => ?_, fun w' H' e => by show vs.length ≤ _; rw [r.length, List.length_reverse]; exact Nat.le_refl _⟩
  obtain ⟨hi, v, hv, rv⟩ := r.getR hd
  rw [← r.length] at hi hv
  refine ⟨⟨hi, vs, v, .inl (e.imL h).2, hv⟩, fun x H'' y => ?_⟩
  obtain ⟨rfl, y⟩ := y
  have := y vs (.inl (e.imL h).2)
  rw [hv] at this
  cases this
  exact ⟨w', Ext.refl, hS, RV.exts e _ _ rv⟩
theorem wk_revT {K : PySem.W.Frag} {w : Wd} {H : Hp} {a : Addr} {vs : List V} {l : List D} (hK : G.K = K) (h : ImT G.K w H a vs) (r : RVs G.K w H vs l) : Wk G w H (RT.ItvT K a vs.length) l.reverse := by
  subst hK
  refine ⟨fun w' H' S e hS i d hd => ?_, fun w' H' e => by show vs.length ≤ _; rw [r.length, List.length_reverse]; exact Nat.le_refl _⟩
  obtain ⟨hi, v, hv, rv⟩ := r.getR hd
  rw [← r.length] at hi hv
  refine ⟨⟨hi, vs, v, (e.imT h).sq, hv⟩, fun x H'' y => ?_⟩
  obtain ⟨rfl, y⟩ := y
  have := y vs (e.imT h).sq
  rw [hv] at this
  cases this
  exact ⟨w', Ext.refl, hS, RV.exts e _ _ rv⟩
theorem i_rev (g : Good T G call N sc fn W k X) {a : Ex} {t y : Expr} (hg : glB sc "reversed" = true) (ha : JE G W X y (evE call a)) (hn : notStar y = true) : JI G W X t (.Call (.Name "reversed" p1) [y] [] pos) (evI call (.rev a)) := by
  refine (RT.pi_revA (g.gl hg) g.lw.rev ha (starEach_cons hn)).imp fun σ H Q q => ?_
  obtain ⟨w, H0, ε, S, hS, hE, q⟩ := q
  simp only [evI] at q
  refine rd_step (ev := evE call a) monF hS hE q fun d1 S1 w1 H1 v e1 hS1 hE1 r1 q1 => ?_
  cases d1 <;> try exact q1.elim
  · simp only [RV] at r1
    obtain ⟨a, vs, rfl, r2, r3⟩ := r1
    exact ⟨a, vs, rfl, .inr ⟨g.lw.hK ▸ r2.sq, q1 w1 H1 _ Ext.refl hS1 (wk_revT g.lw.hK r2 r3)⟩⟩
  · simp only [RV] at r1
    obtain ⟨a, vs, rfl, r2, r3⟩ := r1
    exact ⟨a, vs, rfl, .inl ⟨.inl r2.2, q1 w1 H1 _ Ext.refl hS1 (wk_revL g.lw.hK r2 r3)⟩⟩
theorem wk_rrng {w : Wd} {H : Hp} {n : Nat} : Wk G w H (Itc (0 + (n : Int) - 1) (-1) n) (rngL 0 n).reverse := by
  refine ⟨fun w' H' S e hS i d hd => ?_, fun w' H' e => by show n ≤ _; simp [rngL]⟩
  have hi : i < n := by
    have := (List.getElem?_eq_some_iff.mp hd).1
    simpa [rngL] using this
  refine ⟨hi, fun x H'' y => ?_⟩
  obtain ⟨rfl, rfl⟩ := y
  refine ⟨w', Ext.refl, hS, ?_⟩
  rw [List.getElem?_reverse (by simpa [rngL] using hi)] at hd
  have hl : (rngL 0 n).length = n := by simp [rngL]
  rw [hl] at hd
  unfold rngL at hd
  rw [List.getElem?_map, List.getElem?_range (by omega)] at hd
  cases hd
  have : 0 + (n : Int) - 1 + (i : Int) * -1 = 0 + ((n - 1 - i : Nat) : Int) := by omega
  rw [this]
  exact RV_int
theorem i_rrng (g : Good T G call N sc fn W k X) {a : Ex} {t y : Expr} {pos2 : Pos} (hg : glB sc "reversed" = true) (hg2 : glB sc "range" = true) (ha : JE G W X y (evE call a)) (hn : notStar y = true) :
    JI G W X t (.Call (.Name "reversed" p1) [.Call (.Name "range" p2) [y] [] pos2] [] pos) (evI call (.rrng a)) := by
  refine (pi_revR (g.gl hg) g.lw.rev (prg_1 (g.gl hg2) g.lw.rng ha (starEach_cons hn)) rfl).imp fun σ H Q q => ?_
  obtain ⟨w, H0, ε, S, hS, hE, q⟩ := q
  simp only [evI] at q
  refine rd_step (ev := evE call a) monF hS hE q fun d1 S1 w1 H1 v e1 hS1 hE1 r1 q1 => ?_
  obtain ⟨ds, hd, q2⟩ := q1.of
  cases d1 <;> simp only [rng1F] at hd <;> try cases hd
  split at hd
  · rename_i j hc
    cases hd
    simp only [RV] at r1
    subst r1
    refine ⟨j, rfl, by omega, by omega, hc.1, hc.2, ?_⟩
    have : (j - 0).toNat = j.toNat := by omega
    rw [this]
    exact q2 w1 H1 _ Ext.refl hS1 wk_rrng
  · cases hd
theorem i_rng (g : Good T G call N sc fn W k X) {a : Ex} {t y : Expr} (hg : glB sc "range" = true) (ha : JE G W X y (evE call a)) (hn : notStar y = true) : JI G W X t (.Call (.Name "range" p1) [y] [] pos) (evI call (.rng a)) := by
  refine (pi_range1 (g.gl hg) g.lw.rng (pa_cons ha pa_nil (starEach_cons hn)) (starEach_cons hn)).imp fun σ H Q q => ?_
  obtain ⟨w, H0, ε, S, hS, hE, q⟩ := q
  simp only [evI] at q
  refine rd_step (ev := evE call a) monF hS hE q fun d1 S1 w1 H1 v e1 hS1 hE1 r1 q1 => ?_
  obtain ⟨ds, hd, q2⟩ := q1.of
  cases d1 <;> simp only [rng1F] at hd <;> try cases hd
  split at hd
  · rename_i hc
    cases hd
    simp only [RV] at r1
    subst r1
    exact ⟨_, rfl, hc.1, hc.2, q2 w1 H1 _ Ext.refl hS1 wk_rng⟩
  · cases hd
theorem i_rng2 (g : Good T G call N sc fn W k X) {a b : Ex} {t y z : Expr} (hg : glB sc "range" = true) (ha : JE G W X y (evE call a)) (hb : JE G W X z (evE call b)) (hn : notStar y = true) (hn2 : notStar z = true) :
    JI G W X t (.Call (.Name "range" p1) [y, z] [] pos) (evI call (.rng2 a b)) := by
  refine (pi_range2 (g.gl hg) g.lw.rng (pa_cons ha (pa_cons hb pa_nil (starEach_cons hn2)) (starEach_cons hn)) (by rw [starEach_cons hn, starEach_cons hn2]; rfl) (starEach_cons hn2)).imp fun σ H Q q => ?_
  obtain ⟨w, H0, ε, S, hS, hE, q⟩ := q
  simp only [evI] at q
  refine rd_step (ev := evE call a) monF hS hE q fun d1 S1 w1 H1 v e1 hS1 hE1 r1 q1 => ?_
  refine rd_step (ev := evE call b) monF hS1 hE1 q1 fun d2 S2 w2 H2 u e2 hS2 hE2 r2 q1 => ?_
  obtain ⟨ds, hd, q2⟩ := q1.of
  cases d1 <;> cases d2 <;> simp only [rng2F] at hd <;> try cases hd
  split at hd
  · rename_i hc
    cases hd
    simp only [RV] at r1 r2
    subst r1 r2
    exact ⟨_, _, rfl, hc, q2 w2 H2 _ Ext.refl hS2 wk_rng⟩
  · cases hd
theorem i_zip (g : Good T G call N sc fn W k X) {a b : Ex} {elts : List Expr} {kk : Nat} {tp : Pos} {y z : Expr} (hg : glB sc "zip" = true) (ha : JE G W X y (evE call a)) (hb : JE G W X z (evE call b)) (hn : notStar y = true) (hn2 : notStar z = true) :
    JI G W X (.Tuple elts kk tp) (.Call (.Name "zip" p1) [y, z] [] pos) (evI call (.zip a b)) := by
  refine (RZ.pi_zipA (g.gl hg) g.lw.zip (pa_cons ha (pa_cons hb pa_nil (starEach_cons hn2)) (starEach_cons hn)) (starEach_cons hn) (by rw [starEach_cons hn2]; rfl)).imp fun σ H Q q => ?_
  obtain ⟨w, H0, ε, S, hS, hE, q⟩ := q
  simp only [evI] at q
  refine rd_step (ev := evE call a) monF hS hE q fun d1 S1 w1 H1 v e1 hS1 hE1 r1 q1 => ?_
  refine rd_step (ev := evE call b) monF hS1 hE1 q1 fun d2 S2 w2 H2 u e2 hS2 hE2 r2 q1 => ?_
  obtain ⟨ds, hd, q2⟩ := q1.of
  cases d1 <;> cases d2 <;> simp only [zipF] at hd <;> try cases hd
  · have r1' := RV.ext e2 _ _ r1
    simp only [RV] at r1' r2
    obtain ⟨a, vs, rfl, h1, h2⟩ := r1'
    obtain ⟨b, us, rfl, h3, h4⟩ := r2
    exact ⟨a, b, vs, us, rfl, .inr ⟨g.lw.hK ▸ h1.sq, g.lw.hK ▸ h3.sq, q2 w2 H2 _ Ext.refl hS2 (wk_zipT g.lw.hK h1 h2 h3 h4)⟩⟩
  · have r1' := RV.ext e2 _ _ r1
    simp only [RV] at r1' r2
    obtain ⟨a, vs, rfl, h1, h2⟩ := r1'
    obtain ⟨b, us, rfl, h3, h4⟩ := r2
    exact ⟨a, b, vs, us, rfl, .inl ⟨.inl h1.2, .inl h3.2, q2 w2 H2 _ Ext.refl hS2 (wk_zipL g.lw.hK h1 h2 h3 h4)⟩⟩

/-! ### comprehensions -/
abbrev NoW : WX := fun _ _ _ _ => False
theorem takesNo {X : Cx} : Takes X NoW := fun u s' ⟨a, B, sI, pins, σ, H, cls, d, e, I, nb, up, sky, na, os, ag, w⟩ => w.elim
abbrev JC (G : Gx) (W : WX) (X : Cx) (xs : List Expr) (ev : Env → Sto → R Bool) : Prop := PTs X xs (rd G W eqR ev)
theorem c_none : JC G W X [] (evC call none) := by
  refine ⟨fun pins s σ H Q I q => pts_nil.run pins s σ H Q I ?_⟩
  obtain ⟨w, H0, ε, S, hS, hE, q⟩ := q
  simp only [evC] at q
  exact q w H true Ext.refl hS rfl
theorem c_some {a : Ex} {x : Expr} (ha : JT G W X x (evT call a)) : JC G W X [x] (evC call (some a)) := by
  refine ⟨fun pins s σ H Q I q => (pts_one ha).run pins s σ H Q I ?_⟩
  obtain ⟨w, H0, ε, S, hS, hE, q⟩ := q
  simp only [evC] at q
  exact ⟨w, H0, ε, S, hS, hE, q⟩
theorem ownN_snd {own : List Nat} : (ownN N own).map (·.2) = own := by
  unfold ownN
  rw [List.map_map]
  exact List.map_id _
/-- a new list, not yet a value: H1 the heap ahead -/
def finF (G : Gx) (Hi : Hp) (Q : VK) : Po D := fun w H d S' => ∀ w' H' a, Ext w H w' H' → RSt G w' S' H' → OwnAt G.K w' H' a d → a ∉ w'.ρ → ¬ w'.Φ a → Hi a = none → Q (.ref a) H'
theorem monFF {G : Gx} {Hi : Hp} {Q : VK} : Mon (finF G Hi Q) := ⟨fun e h w2 H2 a e2 => h w2 H2 a (e.trans e2)⟩
theorem rv_own {K : PySem.W.Frag} {w : Wd} {H : Hp} {a : Addr} {d : D} (h : OwnAt K w H a d) (n : a ∉ w.ρ) : RV K (w.imm a n) H (.ref a) d := by
  cases d <;> try exact h.elim
  · obtain ⟨vs, h1, h2⟩ := h
    simp only [RV]
    exact ⟨a, vs, rfl, ⟨.inr rfl, .inl h1⟩, RVs.exts (exts_own n) _ _ h2⟩
  · obtain ⟨kvs, h1, h2, h3⟩ := h
    simp only [RV]
    exact ⟨a, kvs, rfl, .inr rfl, .inl h1, h2, RVs.exts (exts_own n) _ _ h3⟩
def rdF (G : Gx) (W : WX) (ev : Env → Sto → R D) : TE := fun σ H Q =>
  ∃ w H0 ε S, RSt G w S H ∧ REn G.K w H0 σ H ε ∧ Pst (ev ε S) (finF G H Q w H) (PX G W σ w H)
theorem rd_F {ev : Env → Sto → R D} {σ : St} {H : Hp} {Q : VK} (h : rd G W (RV G.K) ev σ H Q) : rdF G W ev σ H Q := by
  obtain ⟨w, H0, ε, S, hS, hE, q⟩ := h
  refine ⟨w, H0, ε, S, hS, hE, q.imp (fun d S' q w' H' a e hS' ha n1 n2 hi => ?_) fun _ _ q => q⟩
  refine q (w'.imm a n1) H' (.ref a) ⟨e.ρ, fun b h => .inl (e.Φ b h), fun b h => ?_, e.keep⟩ (rst_own hS' n1 ha.ne) (rv_own ha n1)
  rcases h with h | h
  · exact e.new b h
  · subst h; exact .inr hi
theorem fresh_back {w1 w : Wd} {H H1 : Hp} {S : Sto} {a : Addr} (e : Ext w H w1 H1) (hS : RSt G w1 S H1) (h : H1 a = none) : H a = none := by
  cases q : H a with
  | none => rfl
  | some o =>
    by_cases n : a ∈ w.ρ
    · obtain ⟨t, et, _⟩ := e.ρ
      exact absurd h (hS.rho a (by rw [et]; exact List.mem_append.mpr (.inl n)))
    · rw [e.keep a o q n] at h; cases h
theorem lc_imp (g : Good T G call N sc fn W k X) {el : Ex} {tg : Tg} {it : Itx} {cond : Option Ex} {own : List Nat} (htg : tgIn own tg = true) {σ : St} {H : Hp} {Q : VK} (q : rdF G W (evE call (.lc el tg it cond own)) σ H Q) :
    tLc (rd G W (Wk G) (evI call it)) (gRd G tg) (rd G NoW eqR (evC call cond)) (rd G NoW (RV G.K) (evE call el)) own σ H Q := by
  obtain ⟨w, H0, ε, S, hS, hE, q⟩ := q
  simp only [evE] at q
  refine rd_step (ev := evI call it) monFF hS hE q fun ds S1 w1 H1 J e1 hS1 hE1 wk q1 => ?_
  intro D hD
  generalize hF : (fun (d : BX.D) (S : Sto) => (match setT tg d (wipeE ε own) with
        | some ε' => (evC call cond ε' S).bd fun k S2 => if k = true then (evE call el ε' S2).bd fun x S3 => .ok (some x) S3 else .ok none S2
        | none => .stuck : R (Option BX.D))) = F at q1
  cases hL : lcL F ds S1 with
  | stuck => rw [hL] at q1; exact q1.elim
  | exc _ _ => rw [hL] at q1; exact q1.elim
  | ok xs S2 =>
    rw [hL] at q1
    dsimp only at q1
    split at q1
    case isFalse => exact q1.elim
    case isTrue hz =>
      have q1 : finF G H Q w1 H1 (.lst xs) S2 := q1
      have hfr : H D = none := fresh_back e1 hS1 hD
      obtain ⟨f1, f2⟩ := hS1.fresh hD
      refine ⟨fun i m H => m = ds.length - i ∧ i ≤ ds.length ∧ ∃ w' S' ys vs rest, Ext w1 H1 w' H ∧ RSt G w' S' H ∧ H D = some (.lst vs) ∧ D ∉ w'.ρ ∧ ¬ w'.Φ D ∧ RVs G.K w' H vs ys ∧ lcL F (ds.drop i) S' = .ok rest S2 ∧ ys ++ rest = xs,
        ⟨ds.length, by simp, Nat.zero_le _, w1, S1, [], [], xs, ext_tmp hD, rst_tmp hS1 hD, upd_same, f1, f2, by simp [RVs], hL, rfl⟩, ?_⟩
      rintro i m Hm ⟨rfl, hile, w', S', ys, vs, rest, e, hS', hDv, n1, n2, rv, hl, hyr⟩
      have hDn : Hm D ≠ none := by rw [hDv]; exact fun z => nomatch z
      by_cases hi : i < ds.length
      · right
        have hd : ds[i]? = some ds[i] := by simp [hi]
        obtain ⟨hgo, hyld⟩ := wk.go w' Hm S' e.toS hS' i _ hd
        rw [List.drop_eq_getElem_cons hi] at hl
        refine ⟨hgo, fun H' => ds.length - (i + 1) = ds.length - (i + 1) ∧ i + 1 ≤ ds.length ∧ ∃ w' S' ys vs rest, Ext w1 H1 w' H' ∧ RSt G w' S' H' ∧ H' D = some (.lst vs) ∧ D ∉ w'.ρ ∧ ¬ w'.Φ D ∧ RVs G.K w' H' vs ys ∧ lcL F (ds.drop (i + 1)) S' = .ok rest S2 ∧ ys ++ rest = xs,
          fun H' hN => ⟨_, by omega, hN⟩, fun v H'' hy => ?_⟩
        obtain ⟨w2, e2, hS2, r2⟩ := hyld v H'' hy
        simp only [lcL] at hl
        -- the item's evaluation
        have hfd : ∀ o, F ds[i] S' = o → (match o with
          | .ok (some x) S'' => (match lcL F (List.drop (i + 1) ds) S'' with
            | .ok xs S''' => (.ok (x :: xs) S''' : R (List BX.D))
            | _ => .stuck)
          | .ok none S'' => lcL F (List.drop (i + 1) ds) S''
          | _ => .stuck) = .ok rest S2 := fun o e => by rw [← e]; exact hl
        cases hset : setT tg ds[i] (wipeE ε own) with
        | none =>
          have : F ds[i] S' = .stuck := by rw [← hF]; simp only [hset]
          have := hfd _ this
          cases this
        | some ε' =>
          have hFd : F ds[i] S' = (evC call cond ε' S').bd fun k S2 => if k = true then (evE call el ε' S2).bd fun x S3 => .ok (some x) S3 else .ok none S2 := by rw [← hF]; simp only [hset]
          have hl := hfd _ hFd
          clear hfd
          have hE2 : REn G.K w2 H0 (wipe σ own) H'' (wipeE ε own) := ((hE1.ext e).ext e2).wipe own
          refine ⟨w2, H0, wipeE ε own, _, ε', hE2, r2, hset, fun σ2 hEs hw => ⟨?_, ?_⟩⟩
          · rw [hw own htg]; exact wipe_wipe fun j hj => hj
          · -- the test
            refine ⟨w2, H0, ε', S', hS2, hEs, ?_⟩
            cases hC : evC call cond ε' S' with
            | stuck => rw [hC] at hl; cases hl
            | exc _ _ => rw [hC] at hl; cases hl
            | ok kb Sk =>
              rw [hC] at hl
              simp only [R.bd_ok] at hl
              intro w3 H3 b e3 hS3 hb
              obtain rfl : b = kb := hb
              have e13 : Ext w1 H1 w3 H3 := (e.trans e2).trans e3
              have d2 : H'' D = some (.lst vs) := e2.keep D _ hDv n1
              have n12 : D ∉ w2.ρ := e2.out hDn n1
              have n22 : ¬ w2.Φ D := e2.outΦ hDn n2
              have d2n : H'' D ≠ none := by rw [d2]; exact fun z => nomatch z
              have d3 : H3 D = some (.lst vs) := e3.keep D _ d2 n12
              have n13 : D ∉ w3.ρ := e3.out d2n n12
              have n23 : ¬ w3.Φ D := e3.outΦ d2n n22
              have d3n : H3 D ≠ none := by rw [d3]; exact fun z => nomatch z
              cases b with
              | false =>
                simp only [Bool.false_eq_true, if_false] at hl ⊢
                exact ⟨trivial, hi, w3, Sk, ys, vs, rest, e13, hS3, d3, n13, n23, RVs.ext e3 _ _ (RVs.ext e2 _ _ rv), hl, hyr⟩
              | true =>
                simp only [if_true] at hl ⊢
                refine ⟨w3, H0, ε', Sk, hS3, hEs.ext e3, ?_⟩
                cases hV : evE call el ε' Sk with
                | stuck => rw [hV] at hl; cases hl
                | exc _ _ => rw [hV] at hl; cases hl
                | ok xv Sx =>
                  rw [hV] at hl
                  simp only [R.bd_ok] at hl
                  intro w4 H4 y e4 hS4 ry
                  cases hR : lcL F (List.drop (i + 1) ds) Sx with
                  | stuck => rw [hR] at hl; cases hl
                  | exc _ _ => rw [hR] at hl; cases hl
                  | ok rest' S5 =>
                    rw [hR] at hl
                    cases hl
                    have d4 : H4 D = some (.lst vs) := e4.keep D _ d3 n13
                    have n14 : D ∉ w4.ρ := e4.out d3n n13
                    have n24 : ¬ w4.Φ D := e4.outΦ d3n n23
                    have rv4 := RVs.ext e4 _ _ (RVs.ext e3 _ _ (RVs.ext e2 _ _ rv))
                    have hlen : vs.length < sizeLine := by
                      have := congrArg List.length hyr
                      simp only [List.length_append, List.length_cons] at this
                      rw [rv.length]
                      omega
                    have eu : ExtS w4 H4 w4 (upd H4 D (.lst (vs ++ [y]))) := exts_upd n24
                    refine ⟨vs, d4, hlen, trivial, hi, w4, Sx, ys ++ [xv], vs ++ [y], rest', ?_, rst_upd hS4 n14 n24, upd_same, n14, n24, ?_, hR, by rw [List.append_assoc]; exact hyr⟩
                    · have e14 := e13.trans e4
                      refine ⟨e14.ρ, e14.Φ, e14.new, fun a o ha hn => ?_⟩
                      have : a ≠ D := fun z => by subst z; rw [hD] at ha; cases ha
                      rw [upd_ne this]
                      exact e14.keep a o ha hn
                    · refine RVs.append (RVs.exts eu _ _ rv4) ?_
                      simp only [RVs]
                      exact ⟨y, [], rfl, RV.exts eu _ _ ry, rfl⟩
      · left
        have hie : i = ds.length := by omega
        subst hie
        refine ⟨wk.stop w' Hm e.toS, ?_⟩
        simp only [List.drop_length, lcL] at hl
        cases hl
        rw [List.append_nil] at hyr
        subst hyr
        exact q1 w' Hm D e hS' ⟨vs, hDv, rv⟩ n1 n2 hfr
theorem s_lc (g : Good T G call N sc fn W k X) {el : Ex} {tg : Tg} {it : Itx} {cond : Option Ex} {own : List Nat} {x tx ix : Expr} {ifs : List Expr} {scope : Scope}
    (hi : JI G W X tx ix (evI call it)) (ok : BlkOk X.N X.env.scope scope (ownN N own)) (htg : tgIn own tg = true)
    (hg : ∀ (s : Shared) (H : Hp) (C : Addr) (cl : List (Str × Addr)) (fp : List Addr), PG (X.blk s H scope (compEnvC scope cl C X.env) fp) tx (gRd G tg))
    (ht : ∀ (s : Shared) (H : Hp) (C : Addr) (cl : List (Str × Addr)) (fp : List Addr), JC G NoW (X.blk s H scope (compEnvC scope cl C X.env) fp) ifs (evC call cond))
    (he : ∀ (s : Shared) (H : Hp) (C : Addr) (cl : List (Str × Addr)) (fp : List Addr), JE G NoW (X.blk s H scope (compEnvC scope cl C X.env) fp) x (evE call el))
    (hs : ∀ x, foldedSetIterable ix X.env x = pure x) : PE X (.ListComp x [⟨tx, ix, ifs, 0⟩] scope pos) (rdF G W (evE call (.lc el tg it cond own))) := by
  refine (pe_lc g.calm (by rw [g.hN]; exact g.nd) hi ok hg ht he hs).imp fun σ H Q q => ?_
  rw [ownN_snd]
  exact lc_imp g htg q
theorem Good.blk (g : Good T G call N sc fn W k X) {scope : Scope} (hk : scope.kind = .function) (s : Shared) (H : Hp) (C : Addr) (cl : List (Str × Addr)) (fp : List Addr) :
    Good T G call N (relS scope sc) (blkF scope) NoW k (X.blk s H scope (compEnvC scope cl C X.env) fp) where
  calm := g.calm
  hN := g.hN
  nd := g.nd
  hsc := by rw [← g.hsc]; rfl
  hfn := fun x h => by
    unfold blkF at h
    split at h
    · rename_i e
      have e2 := lookup_relS_keep (sc := sc) (x := x) (by decide) e
      exact ⟨.inl e2, .inr e2⟩
    · rename_i e
      have e2 := lookup_relS_keep (sc := sc) (x := x) (by decide) e
      refine ⟨.inr e2, .inl ?_⟩
      show (scope.names.lookup x == some .cell) = true
      rw [e]; rfl
    · cases h
  rm := g.rm
  tk := takesNo
  lw := g.lw

/-! ### all expressions -/
theorem len_chEs : ∀ {es : List Ex} {xs : List Expr}, chEs T N es sc fn xs = true → es.length = xs.length
  | [], xs, h => by
    simp only [chEs] at h
    split at h
    · rfl
    · cases h
  | e :: es, xs, h => by
    simp only [chEs] at h
    split at h
    · simp only [Bool.and_eq_true] at h
      simp [len_chEs h.2]
    · cases h
end
mutual
theorem sE {T : Tb} {G : Gx} {call : Call} {N : List Str} {k : Nat} : ∀ (a : Ex) (sc : Scope) (fn : Str → Bool) (W : WX) (X : Cx) (e : Expr), Good T G call N sc fn W k X → chE T N a sc fn e = true → JE G W X e (evE call a)
  | .cst d, sc, fn, W, X, e, g, h => by
    simp only [chE] at h
    split at h
    · exact s_cst h
    · cases h
  | .var i, sc, fn, W, X, e, g, h => by
    simp only [chE] at h
    split at h
    · simp only [Bool.and_eq_true, decide_eq_true_eq] at h
      exact s_var g h.1 h.2
    · cases h
  | .glb y d, sc, fn, W, X, e, g, h => by
    simp only [chE] at h
    split at h
    · simp only [Bool.and_eq_true, beq_iff_eq] at h
      obtain ⟨⟨rfl, h2⟩, h3⟩ := h
      exact s_glb g h2 h3
    · cases h
  | .bin o a b, sc, fn, W, X, e, g, h => by
    simp only [chE] at h
    split at h
    · simp only [Bool.and_eq_true] at h
      obtain ⟨⟨h1, h2⟩, h3⟩ := h
      rw [opB_eq h1]
      exact s_bin g (s_opd g (sE a sc fn W X _ g h2) h2) (s_opd g (sE b sc fn W X _ g h3) h3)
    · cases h
  | .neg a, sc, fn, W, X, e, g, h => by
    simp only [chE] at h
    split at h
    · exact s_neg g (sE a sc fn W X _ g h)
    · cases h
  | .cmp o a b, sc, fn, W, X, e, g, h => by
    simp only [chE] at h
    split at h
    · simp only [Bool.and_eq_true, Bool.not_eq_true'] at h
      obtain ⟨⟨⟨h1, h2⟩, h3⟩, h4⟩ := h
      have e1 := cpB_eq h1
      subst e1
      exact s_cmp g (s_opd g (sE a sc fn W X _ g h3) h3) (s_opd g (sE b sc fn W X _ g h4) h4) h2
    · cases h
  | .chn o o' a b c, sc, fn, W, X, e, g, h => by
    simp only [chE] at h
    split at h
    · simp only [Bool.and_eq_true, Bool.not_eq_true'] at h
      obtain ⟨⟨⟨⟨⟨h1, h2⟩, h3⟩, h4⟩, h5⟩, h6⟩ := h
      have e1 := cpB_eq h1
      have e2 := cpB_eq h2
      subst e1 e2
      exact s_chn g (s_opd g (sE a sc fn W X _ g h4) h4) (s_opd g (sE b sc fn W X _ g h5) h5) (s_opd g (sE c sc fn W X _ g h6) h6) h3
    · cases h
  | .and a b, sc, fn, W, X, e, g, h => by
    simp only [chE] at h
    split at h
    · simp only [Bool.and_eq_true] at h
      exact s_and (sE a sc fn W X _ g h.1) (pe_one (sE b sc fn W X _ g h.2))
    · simp only [Bool.and_eq_true] at h
      exact s_and (sE a sc fn W X _ g h.1) (sE b sc fn W X _ g h.2)
    · cases h
  | .or a b, sc, fn, W, X, e, g, h => by
    simp only [chE] at h
    split at h
    · simp only [Bool.and_eq_true] at h
      exact s_or (sE a sc fn W X _ g h.1) (pe_one (sE b sc fn W X _ g h.2))
    · simp only [Bool.and_eq_true] at h
      exact s_or (sE a sc fn W X _ g h.1) (sE b sc fn W X _ g h.2)
    · cases h
  | .not a, sc, fn, W, X, e, g, h => by
    simp only [chE] at h
    split at h
    · exact s_not g (s_opd g (sE a sc fn W X _ g h) h)
    · cases h
  | .ite c a b, sc, fn, W, X, e, g, h => by
    simp only [chE] at h
    split at h
    · simp only [Bool.and_eq_true] at h
      exact s_ite (sT c sc fn W X _ g h.1.1) (sE a sc fn W X _ g h.1.2) (sE b sc fn W X _ g h.2)
    · cases h
  | .tup es, sc, fn, W, X, e, g, h => by
    simp only [chE] at h
    split at h
    · exact s_tup (sEs es sc fn W X _ g h)
    · cases h
  | .lst es, sc, fn, W, X, e, g, h => by
    simp only [chE] at h
    split at h
    · exact s_lst (sEs es sc fn W X _ g h)
    · cases h
  | .nlst es, sc, fn, W, X, e, g, h => by
    simp only [chE] at h
    split at h
    · exact s_nlst (sEs es sc fn W X _ g h)
    · cases h
  | .ix a b, sc, fn, W, X, e, g, h => by
    simp only [chE] at h
    split at h
    · simp only [Bool.and_eq_true] at h
      obtain ⟨⟨h1, h2⟩, h3⟩ := h
      exact s_ix g (s_opd g (sE a sc fn W X _ g h2) h2) (sE b sc fn W X _ g h3) h1
    · cases h
  | .sl a lo hi, sc, fn, W, X, e, g, h => by
    simp only [chE] at h
    split at h
    · simp only [Bool.and_eq_true] at h
      obtain ⟨⟨h1, h2⟩, h3⟩ := h
      exact s_sl g (s_opd g (sE a sc fn W X _ g h1) h1) (sP lo sc fn W X _ g h2) (sP hi sc fn W X _ g h3)
    · cases h
  | .call f es dv, sc, fn, W, X, e, g, h => by
    simp only [chE] at h
    split at h
    · simp only [Bool.and_eq_true, beq_iff_eq] at h
      obtain ⟨⟨⟨⟨rfl, h2⟩, h3⟩, h4⟩, h5⟩ := h
      exact s_call g h2 h3 h4 (len_chEs h5) (sEs es sc fn W X _ g h5) (chEs_star h5)
    · cases h
  | .callK f es ks kes pm, sc, fn, W, X, e, g, h => by
    simp only [chE] at h
    split at h
    · simp only [Bool.and_eq_true, beq_iff_eq] at h
      obtain ⟨⟨⟨⟨⟨rfl, h2⟩, h3⟩, h4⟩, h5⟩, h6⟩ := h
      exact s_callK g h2 h3 h4 (len_chEs h5) (sEs es sc fn W X _ g h5) (chEs_star h5) (sKs kes sc fn W X _ ks g h6) h6
    · cases h
  | .op1 .lrev a, sc, fn, W, X, e, g, h => by
    simp only [chE] at h
    split at h
    · simp only [Bool.and_eq_true, beq_iff_eq] at h
      obtain ⟨⟨⟨⟨⟨rfl, h2⟩, rfl⟩, h4⟩, h5⟩, h6⟩ := h
      exact s_lrev g h2 h4 h5 (sE a sc fn W X _ g h6)
    · cases h
  | .op1 .srt a, sc, fn, W, X, e, g, h => by
    simp only [chE] at h
    split at h
    · simp only [Bool.and_eq_true, beq_iff_eq] at h
      obtain ⟨⟨⟨rfl, h2⟩, h3⟩, h4⟩ := h
      exact s_srt g h2 h3 (sE a sc fn W X _ g h4)
    · cases h
  | .op1 .lrg a, sc, fn, W, X, e, g, h => by
    simp only [chE] at h
    split at h
    · simp only [Bool.and_eq_true, beq_iff_eq] at h
      obtain ⟨⟨⟨⟨⟨rfl, h2⟩, rfl⟩, h4⟩, h5⟩, h6⟩ := h
      exact s_lrg g h2 h4 h5 (sE a sc fn W X _ g h6)
    · cases h
  | .op2 .lrg2 a b, sc, fn, W, X, e, g, h => by
    simp only [chE] at h
    split at h
    · simp only [Bool.and_eq_true, beq_iff_eq] at h
      obtain ⟨⟨⟨⟨⟨⟨⟨rfl, h2⟩, rfl⟩, h4⟩, h5⟩, h6⟩, h7⟩, h8⟩ := h
      exact s_lrg2 g h2 h4 h5 h6 (sE a sc fn W X _ g h7) (sE b sc fn W X _ g h8)
    · cases h
  | .chn3 .., _, _, _, _, _, _, _ => ⟨fun pins s σ H Q I ⟨w, H0, ε, S, hS, hE, q⟩ => by simp only [evE] at q; exact q.elim⟩
  | .blt b es, sc, fn, W, X, e, g, h => by
    simp only [chE] at h
    split at h
    · simp only [Bool.and_eq_true, beq_iff_eq] at h
      obtain ⟨⟨rfl, h2⟩, h3⟩ := h
      exact s_blt g h2 (sOs es sc fn W X _ g h3) (chEs_star h3)
    · cases h
  | .isi a t, sc, fn, W, X, e, g, h => by
    simp only [chE] at h
    split at h
    · simp only [Bool.and_eq_true, beq_iff_eq] at h
      obtain ⟨⟨⟨⟨⟨rfl, h2⟩, h3⟩, h4⟩, rfl⟩, h6⟩ := h
      exact s_isi g h2 (s_opd g (sE a sc fn W X _ g h4) h4) h3 h6
    · cases h
  | .lc el tg it cond own, sc, fn, W, X, e, g, h => by
    simp only [chE] at h
    split at h
    · rename_i x tx ix ifs scope pos
      simp only [Bool.and_eq_true] at h
      obtain ⟨⟨⟨⟨⟨⟨h1, h2⟩, h3⟩, h4⟩, h5⟩, h6⟩, h7⟩ := h
      have ok : BlkOk X.N X.env.scope scope (ownN N own) := by rw [g.hN, g.hsc]; exact blkOk_by h2
      exact (s_lc g (sI it sc fn W X tx ix g h4) ok h3 (fun s H C cl fp => s_tg (g.blk ok.kind s H C cl fp) tg tx h5) (fun s H C cl fp => sC cond _ _ NoW _ ifs (g.blk ok.kind s H C cl fp) h6)
        (fun s H C cl fp => sE el _ _ NoW _ x (g.blk ok.kind s H C cl fp) h7) (setIter_of h1)).imp fun σ H Q q => rd_F q
    · cases h
  | .prim p es, sc, fn, W, X, e, g, h => by
    simp only [chE] at h
    split at h
    · rename_i xs hx
      simp only [Bool.and_eq_true] at h
      exact s_prim g hx h.1 (sJs es sc fn W X _ g h.2)
    · cases h
  | .mth f c m o es dv, sc, fn, W, X, e, g, h => by
    simp only [chE] at h
    split at h
    · simp only [Bool.and_eq_true, beq_iff_eq, decide_eq_true_eq] at h
      obtain ⟨⟨⟨⟨⟨⟨⟨rfl, h2⟩, h3⟩, h4⟩, h5⟩, h6⟩, h7⟩, h8⟩ := h
      exact s_mth g h2 h3 h4 (by simpa using h5) h6 (len_chEs h8) (sE o sc fn W X _ g h7) (sEs es sc fn W X _ g h8) (chEs_star h8)
    · cases h
  | .mthK f c m o es ks kes pm, sc, fn, W, X, e, g, h => by
    simp only [chE] at h
    split at h
    · simp only [Bool.and_eq_true, beq_iff_eq, decide_eq_true_eq] at h
      obtain ⟨⟨⟨⟨⟨⟨⟨⟨rfl, h2⟩, h3⟩, h4⟩, h5⟩, h6⟩, h7⟩, h8⟩, h9⟩ := h
      exact s_mthK g h2 h3 h4 (by simpa using h5) h6 (len_chEs h8) (sE o sc fn W X _ g h7) (sEs es sc fn W X _ g h8) (chEs_star h8) (sKs kes sc fn W X _ ks g h9) h9
    · cases h
  | .mkK f c es ks kes pm, sc, fn, W, X, e, g, h => by
    simp only [chE] at h
    split at h
    · simp only [Bool.and_eq_true, beq_iff_eq] at h
      obtain ⟨⟨⟨⟨⟨rfl, h2⟩, h3⟩, h4⟩, h5⟩, h6⟩ := h
      exact s_mkK g h2 h3 h4 (len_chEs h5) (sEs es sc fn W X _ g h5) (chEs_star h5) (sKs kes sc fn W X _ ks g h6) h6
    · cases h
  | .mk f c es dv, sc, fn, W, X, e, g, h => by
    simp only [chE] at h
    split at h
    · simp only [Bool.and_eq_true, beq_iff_eq] at h
      obtain ⟨⟨⟨⟨rfl, h2⟩, h3⟩, h4⟩, h5⟩ := h
      exact s_mk g h2 h3 h4 (len_chEs h5) (sEs es sc fn W X _ g h5) (chEs_star h5)
    · cases h
theorem sT {T : Tb} {G : Gx} {call : Call} {N : List Str} {k : Nat} : ∀ (a : Ex) (sc : Scope) (fn : Str → Bool) (W : WX) (X : Cx) (e : Expr), Good T G call N sc fn W k X → chE T N a sc fn e = true → JT G W X e (evT call a)
  | .cst d, sc, fn, W, X, e, g, h => by
    have hh := sE (T := T) (G := G) (call := call) (N := N) (.cst d) sc fn W X e g h
    simp only [chE] at h
    split at h
    · refine (t_val g (je_toO hh) fun _ => rfl).imp fun σ H Q q => ?_
      obtain ⟨w, H0, ε, S, hS, hE, q⟩ := q
      exact ⟨w, H0, ε, S, hS, hE, by simpa only [evT, evE, R.bd_ok] using q⟩
    · cases h
  | .var i, sc, fn, W, X, e, g, h => by
    have hh := s_opd g (sE (T := T) (G := G) (call := call) (N := N) (.var i) sc fn W X e g h) h
    simp only [chE] at h
    split at h
    · refine (t_val g hh fun _ => rfl).imp fun σ H Q q => ?_
      obtain ⟨w, H0, ε, S, hS, hE, q⟩ := q
      exact ⟨w, H0, ε, S, hS, hE, by simpa only [evT] using q⟩
    · cases h
  | .glb y d, sc, fn, W, X, e, g, h => by
    have hh := sE (T := T) (G := G) (call := call) (N := N) (.glb y d) sc fn W X e g h
    simp only [chE] at h
    split at h
    · refine (t_val g (je_toO hh) fun _ => rfl).imp fun σ H Q q => ?_
      obtain ⟨w, H0, ε, S, hS, hE, q⟩ := q
      exact ⟨w, H0, ε, S, hS, hE, by simpa only [evT, evE, R.bd_ok] using q⟩
    · cases h
  | .and a b, sc, fn, W, X, e, g, h => by
    simp only [chE] at h
    split at h
    · simp only [Bool.and_eq_true] at h
      exact (t_and (sT a sc fn W X _ g h.1) (pw_and1 (sT b sc fn W X _ g h.2))).pt
    · simp only [Bool.and_eq_true] at h
      exact (t_and (sT a sc fn W X _ g h.1) (sW b sc fn W X _ .And _ _ g h.2)).pt
    · cases h
  | .or a b, sc, fn, W, X, e, g, h => by
    simp only [chE] at h
    split at h
    · simp only [Bool.and_eq_true] at h
      exact (t_or (sT a sc fn W X _ g h.1) (pw_or1 (sT b sc fn W X _ g h.2))).pt
    · simp only [Bool.and_eq_true] at h
      exact (t_or (sT a sc fn W X _ g h.1) (sW b sc fn W X _ .Or _ _ g h.2)).pt
    · cases h
  | .not a, sc, fn, W, X, e, g, h => by
    simp only [chE] at h
    split at h
    · exact t_not (sT a sc fn W X _ g h)
    · cases h
  | .cmp o a b, sc, fn, W, X, e, g, h => by
    simp only [chE] at h
    split at h
    · simp only [Bool.and_eq_true, Bool.not_eq_true'] at h
      obtain ⟨⟨⟨h1, h2⟩, h3⟩, h4⟩ := h
      have e1 := cpB_eq h1
      subst e1
      exact t_cmp g (s_opd g (sE a sc fn W X _ g h3) h3) (s_opd g (sE b sc fn W X _ g h4) h4) h2
    · cases h
  | .chn o o' a b c, sc, fn, W, X, e, g, h => by
    simp only [chE] at h
    split at h
    · simp only [Bool.and_eq_true, Bool.not_eq_true'] at h
      obtain ⟨⟨⟨⟨⟨h1, h2⟩, h3⟩, h4⟩, h5⟩, h6⟩ := h
      have e1 := cpB_eq h1
      have e2 := cpB_eq h2
      subst e1 e2
      exact t_chn g (s_opd g (sE a sc fn W X _ g h4) h4) (s_opd g (sE b sc fn W X _ g h5) h5) (s_opd g (sE c sc fn W X _ g h6) h6) h3
    · cases h
  | .call f es dv, sc, fn, W, X, e, g, h => by
    simp only [chE] at h
    split at h
    · simp only [Bool.and_eq_true, beq_iff_eq] at h
      obtain ⟨⟨⟨⟨rfl, h2⟩, h3⟩, h4⟩, h5⟩ := h
      refine (t_val g (je_toO (s_call g h2 h3 h4 (len_chEs h5) (sEs es sc fn W X _ g h5) (chEs_star h5))) fun _ => rfl).imp fun σ H Q q => ?_
      obtain ⟨w, H0, ε, S, hS, hE, q⟩ := q
      exact ⟨w, H0, ε, S, hS, hE, by simpa only [evT, evE] using q⟩
    · cases h
  | .callK f es ks kes pm, sc, fn, W, X, e, g, h => by
    simp only [chE] at h
    split at h
    · simp only [Bool.and_eq_true, beq_iff_eq] at h
      obtain ⟨⟨⟨⟨⟨rfl, h2⟩, h3⟩, h4⟩, h5⟩, h6⟩ := h
      refine (t_val g (je_toO (s_callK g h2 h3 h4 (len_chEs h5) (sEs es sc fn W X _ g h5) (chEs_star h5) (sKs kes sc fn W X _ ks g h6) h6)) fun _ => rfl).imp fun σ H Q q => ?_
      obtain ⟨w, H0, ε, S, hS, hE, q⟩ := q
      exact ⟨w, H0, ε, S, hS, hE, by simpa only [evT, evE] using q⟩
    · cases h
  | .chn3 o o' o2 a b c d, sc, fn, W, X, e, g, h => by
    simp only [chE] at h
    split at h
    · simp only [Bool.and_eq_true, Bool.not_eq_true'] at h
      obtain ⟨⟨⟨⟨⟨⟨⟨h1, h2⟩, h3⟩, h4⟩, h5⟩, h6⟩, h7⟩, h8⟩ := h
      have e1 := cpB_eq h1
      have e2 := cpB_eq h2
      have e3 := cpB_eq h3
      subst e1 e2 e3
      exact t_chn3 g (s_opd g (sE a sc fn W X _ g h5) h5) (s_opd g (sE b sc fn W X _ g h6) h6) (s_opd g (sE c sc fn W X _ g h7) h7) (s_opd g (sE d sc fn W X _ g h8) h8) h4
    · cases h
  | .op1 .., _, _, _, _, _, _, _ => ⟨fun pins s σ H Q I ⟨w, H0, ε, S, hS, hE, q⟩ => by simp only [evT] at q; exact q.elim⟩
  | .op2 .., _, _, _, _, _, _, _ => ⟨fun pins s σ H Q I ⟨w, H0, ε, S, hS, hE, q⟩ => by simp only [evT] at q; exact q.elim⟩
  | .blt b es, sc, fn, W, X, e, g, h => by
    simp only [chE] at h
    split at h
    · simp only [Bool.and_eq_true, beq_iff_eq] at h
      obtain ⟨⟨rfl, h2⟩, h3⟩ := h
      refine (t_val g (je_toO (s_blt g h2 (sOs es sc fn W X _ g h3) (chEs_star h3))) fun _ => rfl).imp fun σ H Q q => ?_
      obtain ⟨w, H0, ε, S, hS, hE, q⟩ := q
      exact ⟨w, H0, ε, S, hS, hE, by simpa only [evT, evE] using q⟩
    · cases h
  | .isi a t, sc, fn, W, X, e, g, h => by
    simp only [chE] at h
    split at h
    · simp only [Bool.and_eq_true, beq_iff_eq] at h
      obtain ⟨⟨⟨⟨⟨rfl, h2⟩, h3⟩, h4⟩, rfl⟩, h6⟩ := h
      exact t_isi g h2 (s_opd g (sE a sc fn W X _ g h4) h4) h3 h6
    · cases h
  | .ix a b, sc, fn, W, X, e, g, h => by
    simp only [chE] at h
    split at h
    · simp only [Bool.and_eq_true] at h
      obtain ⟨⟨h1, h2⟩, h3⟩ := h
      refine (t_val g (je_toO (s_ix g (s_opd g (sE a sc fn W X _ g h2) h2) (sE b sc fn W X _ g h3) h1)) fun _ => rfl).imp fun σ H Q q => ?_
      obtain ⟨w, H0, ε, S, hS, hE, q⟩ := q
      exact ⟨w, H0, ε, S, hS, hE, by simpa only [evT, evE] using q⟩
    · cases h
  | .bin .., _, _, _, _, _, _, _ => ⟨fun pins s σ H Q I ⟨w, H0, ε, S, hS, hE, q⟩ => by simp only [evT] at q; exact q.elim⟩
  | .neg .., _, _, _, _, _, _, _ => ⟨fun pins s σ H Q I ⟨w, H0, ε, S, hS, hE, q⟩ => by simp only [evT] at q; exact q.elim⟩
  | .ite .., _, _, _, _, _, _, _ => ⟨fun pins s σ H Q I ⟨w, H0, ε, S, hS, hE, q⟩ => by simp only [evT] at q; exact q.elim⟩
  | .tup .., _, _, _, _, _, _, _ => ⟨fun pins s σ H Q I ⟨w, H0, ε, S, hS, hE, q⟩ => by simp only [evT] at q; exact q.elim⟩
  | .lst .., _, _, _, _, _, _, _ => ⟨fun pins s σ H Q I ⟨w, H0, ε, S, hS, hE, q⟩ => by simp only [evT] at q; exact q.elim⟩
  | .nlst .., _, _, _, _, _, _, _ => ⟨fun pins s σ H Q I ⟨w, H0, ε, S, hS, hE, q⟩ => by simp only [evT] at q; exact q.elim⟩
  | .sl .., _, _, _, _, _, _, _ => ⟨fun pins s σ H Q I ⟨w, H0, ε, S, hS, hE, q⟩ => by simp only [evT] at q; exact q.elim⟩
  | .lc .., _, _, _, _, _, _, _ => ⟨fun pins s σ H Q I ⟨w, H0, ε, S, hS, hE, q⟩ => by simp only [evT] at q; exact q.elim⟩
  | .prim p es, sc, fn, W, X, e, g, h => by
    simp only [chE] at h
    split at h
    · rename_i xs hx
      simp only [Bool.and_eq_true] at h
      exact t_prim g hx h.1 (sJs es sc fn W X _ g h.2)
    · cases h
  | .mth f c m o es dv, sc, fn, W, X, e, g, h => by
    simp only [chE] at h
    split at h
    · simp only [Bool.and_eq_true, beq_iff_eq, decide_eq_true_eq] at h
      obtain ⟨⟨⟨⟨⟨⟨⟨rfl, h2⟩, h3⟩, h4⟩, h5⟩, h6⟩, h7⟩, h8⟩ := h
      refine (t_val g (je_toO (s_mth g h2 h3 h4 (by simpa using h5) h6 (len_chEs h8) (sE o sc fn W X _ g h7) (sEs es sc fn W X _ g h8) (chEs_star h8))) fun _ => rfl).imp fun σ H Q q => ?_
      obtain ⟨w, H0, ε, S, hS, hE, q⟩ := q
      exact ⟨w, H0, ε, S, hS, hE, by simpa only [evT, evE] using q⟩
    · cases h
  | .mthK .., _, _, _, _, _, _, _ => ⟨fun pins s σ H Q I ⟨w, H0, ε, S, hS, hE, q⟩ => by simp only [evT] at q; exact q.elim⟩
  | .mk .., _, _, _, _, _, _, _ => ⟨fun pins s σ H Q I ⟨w, H0, ε, S, hS, hE, q⟩ => by simp only [evT] at q; exact q.elim⟩
  | .mkK .., _, _, _, _, _, _, _ => ⟨fun pins s σ H Q I ⟨w, H0, ε, S, hS, hE, q⟩ => by simp only [evT] at q; exact q.elim⟩
/-- the rest of an and, of an or -/
theorem sW {T : Tb} {G : Gx} {call : Call} {N : List Str} {k : Nat} : ∀ (a : Ex) (sc : Scope) (fn : Str → Bool) (W : WX) (X : Cx) (es : List Expr) (o : BoolOp) (z : Expr) (p : Pos), Good T G call N sc fn W k X → chE T N a sc fn (.BoolOp o (z :: es) p) = true → PW X (.BoolOp o (z :: es) p) (rd G W eqR (evT call a))
  | .and a b, sc, fn, W, X, es, o, z, p, g, h => by
    simp only [chE] at h
    split at h
    · rename_i e1
      cases e1
      simp only [Bool.and_eq_true] at h
      exact t_and (sT a sc fn W X _ g h.1) (pw_and1 (sT b sc fn W X _ g h.2))
    · rename_i e1
      cases e1
      simp only [Bool.and_eq_true] at h
      exact t_and (sT a sc fn W X _ g h.1) (sW b sc fn W X _ .And _ _ g h.2)
    · cases h
  | .or a b, sc, fn, W, X, es, o, z, p, g, h => by
    simp only [chE] at h
    split at h
    · rename_i e1
      cases e1
      simp only [Bool.and_eq_true] at h
      exact t_or (sT a sc fn W X _ g h.1) (pw_or1 (sT b sc fn W X _ g h.2))
    · rename_i e1
      cases e1
      simp only [Bool.and_eq_true] at h
      exact t_or (sT a sc fn W X _ g h.1) (sW b sc fn W X _ .Or _ _ g h.2)
    · cases h
  | .cst .., _, _, _, _, _, _, _, _, _, h => by simp [chE] at h
  | .var .., _, _, _, _, _, _, _, _, _, h => by simp [chE] at h
  | .glb .., _, _, _, _, _, _, _, _, _, h => by simp [chE] at h
  | .bin .., _, _, _, _, _, _, _, _, _, h => by simp [chE] at h
  | .neg .., _, _, _, _, _, _, _, _, _, h => by simp [chE] at h
  | .cmp .., _, _, _, _, _, _, _, _, _, h => by simp [chE] at h
  | .chn .., _, _, _, _, _, _, _, _, _, h => by simp [chE] at h
  | .not .., _, _, _, _, _, _, _, _, _, h => by simp [chE] at h
  | .ite .., _, _, _, _, _, _, _, _, _, h => by simp [chE] at h
  | .tup .., _, _, _, _, _, _, _, _, _, h => by simp [chE] at h
  | .lst .., _, _, _, _, _, _, _, _, _, h => by simp [chE] at h
  | .nlst .., _, _, _, _, _, _, _, _, _, h => by simp [chE] at h
  | .ix .., _, _, _, _, _, _, _, _, _, h => by simp [chE] at h
  | .sl .., _, _, _, _, _, _, _, _, _, h => by simp [chE] at h
  | .call .., _, _, _, _, _, _, _, _, _, h => by simp [chE] at h
  | .callK .., _, _, _, _, _, _, _, _, _, h => by simp [chE] at h
  | .op1 .lrev _, _, _, _, _, _, _, _, _, _, h => by simp [chE] at h
  | .op1 .lrg _, _, _, _, _, _, _, _, _, _, h => by simp [chE] at h
  | .op1 .srt _, _, _, _, _, _, _, _, _, _, h => by simp [chE] at h
  | .op2 .lrg2 _ _, _, _, _, _, _, _, _, _, _, h => by simp [chE] at h
  | .chn3 .., _, _, _, _, _, _, _, _, _, h => by simp [chE] at h
  | .blt .., _, _, _, _, _, _, _, _, _, h => by simp [chE] at h
  | .isi .., _, _, _, _, _, _, _, _, _, h => by simp [chE] at h
  | .lc .., _, _, _, _, _, _, _, _, _, h => by simp [chE] at h
  | .prim .., _, _, _, _, _, _, _, _, _, h => by simp [chE, prX_bool] at h
  | .mth .., _, _, _, _, _, _, _, _, _, h => by simp [chE] at h
  | .mthK .., _, _, _, _, _, _, _, _, _, h => by simp [chE] at h
  | .mk .., _, _, _, _, _, _, _, _, _, h => by simp [chE] at h
  | .mkK .., _, _, _, _, _, _, _, _, _, h => by simp [chE] at h
theorem sJs {T : Tb} {G : Gx} {call : Call} {N : List Str} {k : Nat} : ∀ (es : List Ex) (sc : Scope) (fn : Str → Bool) (W : WX) (X : Cx) (xs : List Expr), Good T G call N sc fn W k X → chEs T N es sc fn xs = true → JOs G W X call xs es
  | [], sc, fn, W, X, xs, g, h => by
    simp only [chEs] at h
    split at h
    · exact .nil
    · cases h
  | e :: es, sc, fn, W, X, xs, g, h => by
    simp only [chEs] at h
    split at h
    · simp only [Bool.and_eq_true] at h
      exact .cons (s_opd g (sE e sc fn W X _ g h.1.2) h.1.2) (sE e sc fn W X _ g h.1.2) (sJs es sc fn W X _ g h.2)
    · cases h
theorem sEs {T : Tb} {G : Gx} {call : Call} {N : List Str} {k : Nat} : ∀ (es : List Ex) (sc : Scope) (fn : Str → Bool) (W : WX) (X : Cx) (xs : List Expr), Good T G call N sc fn W k X → chEs T N es sc fn xs = true → JA G W X xs (evEs call es)
  | [], sc, fn, W, X, xs, g, h => by
    simp only [chEs] at h
    split at h
    · exact a_nil
    · cases h
  | e :: es, sc, fn, W, X, xs, g, h => by
    simp only [chEs] at h
    split at h
    · simp only [Bool.and_eq_true] at h
      exact a_cons (sE e sc fn W X _ g h.1.2) (sEs es sc fn W X _ g h.2) h.1.1
    · cases h
theorem sKs {T : Tb} {G : Gx} {call : Call} {N : List Str} {k : Nat} : ∀ (es : List Ex) (sc : Scope) (fn : Str → Bool) (W : WX) (X : Cx) (kws : List Keyword) (ks : List Str), Good T G call N sc fn W k X → chKs T N es sc fn kws ks = true → JK G W X kws (evEs call es)
  | [], sc, fn, W, X, kws, ks, g, h => by
    simp only [chKs] at h
    split at h
    · exact k_nil
    · cases h
  | e :: es, sc, fn, W, X, kws, ks, g, h => by
    simp only [chKs] at h
    split at h
    · simp only [Bool.and_eq_true] at h
      exact k_cons (sE e sc fn W X _ g h.1.2) (sKs es sc fn W X _ _ g h.2)
    · cases h
theorem sOs {T : Tb} {G : Gx} {call : Call} {N : List Str} {k : Nat} : ∀ (es : List Ex) (sc : Scope) (fn : Str → Bool) (W : WX) (X : Cx) (xs : List Expr), Good T G call N sc fn W k X → chEs T N es sc fn xs = true → JAo G W X xs (evOs call es)
  | [], sc, fn, W, X, xs, g, h => by
    simp only [chEs] at h
    split at h
    · exact o_nil
    · cases h
  | e :: es, sc, fn, W, X, xs, g, h => by
    simp only [chEs] at h
    split at h
    · simp only [Bool.and_eq_true] at h
      exact o_cons (s_opd g (sE e sc fn W X _ g h.1.2) h.1.2) (sOs es sc fn W X _ g h.2) h.1.1
    · cases h
theorem sP {T : Tb} {G : Gx} {call : Call} {N : List Str} {k : Nat} : ∀ (o : Option Ex) (sc : Scope) (fn : Str → Bool) (W : WX) (X : Cx) (x : Option Expr), Good T G call N sc fn W k X → chP T N o sc fn x = true → JP G W X x (evP call o)
  | none, sc, fn, W, X, x, g, h => by
    simp only [chP] at h
    split at h
    · exact p_none
    · cases h
  | some a, sc, fn, W, X, x, g, h => by
    simp only [chP] at h
    split at h
    · exact p_some (sE a sc fn W X _ g h)
    · cases h
theorem sC {T : Tb} {G : Gx} {call : Call} {N : List Str} {k : Nat} : ∀ (o : Option Ex) (sc : Scope) (fn : Str → Bool) (W : WX) (X : Cx) (xs : List Expr), Good T G call N sc fn W k X → chC T N o sc fn xs = true → JC G W X xs (evC call o)
  | none, sc, fn, W, X, x, g, h => by
    simp only [chC] at h
    split at h
    · exact c_none
    · cases h
  | some a, sc, fn, W, X, x, g, h => by
    simp only [chC] at h
    split at h
    · exact c_some (sT a sc fn W X _ g h)
    · cases h
theorem sI {T : Tb} {G : Gx} {call : Call} {N : List Str} {k : Nat} : ∀ (it : Itx) (sc : Scope) (fn : Str → Bool) (W : WX) (X : Cx) (t e : Expr), Good T G call N sc fn W k X → chI T N it sc fn t e = true → JI G W X t e (evI call it)
  | .seq a, sc, fn, W, X, t, e, g, h => by
    simp only [chI] at h
    exact i_seq g (sE a sc fn W X _ g h)
  | .rng a, sc, fn, W, X, t, e, g, h => by
    simp only [chI] at h
    split at h
    · simp only [Bool.and_eq_true, beq_iff_eq] at h
      obtain ⟨⟨⟨rfl, h2⟩, h3⟩, h4⟩ := h
      exact i_rng g h2 (sE a sc fn W X _ g h4) h3
    · cases h
  | .rng2 a b, sc, fn, W, X, t, e, g, h => by
    simp only [chI] at h
    split at h
    · simp only [Bool.and_eq_true, beq_iff_eq] at h
      obtain ⟨⟨⟨⟨⟨rfl, h2⟩, h3⟩, h4⟩, h5⟩, h6⟩ := h
      exact i_rng2 g h2 (sE a sc fn W X _ g h5) (sE b sc fn W X _ g h6) h3 h4
    · cases h
  | .zip a b, sc, fn, W, X, t, e, g, h => by
    simp only [chI] at h
    split at h
    · simp only [Bool.and_eq_true, beq_iff_eq] at h
      obtain ⟨⟨⟨⟨⟨⟨h0, rfl⟩, h2⟩, h3⟩, h4⟩, h5⟩, h6⟩ := h
      cases t <;> simp [isTup] at h0
      exact i_zip g h2 (sE a sc fn W X _ g h5) (sE b sc fn W X _ g h6) h3 h4
    · cases h
  | .rev a, sc, fn, W, X, t, e, g, h => by
    simp only [chI] at h
    split at h
    · simp only [Bool.and_eq_true, beq_iff_eq] at h
      obtain ⟨⟨⟨rfl, h2⟩, h3⟩, h4⟩ := h
      exact i_rev g h2 (sE a sc fn W X _ g h4) h3
    · cases h
  | .rrng a, sc, fn, W, X, t, e, g, h => by
    simp only [chI] at h
    split at h
    · simp only [Bool.and_eq_true, beq_iff_eq] at h
      obtain ⟨⟨⟨⟨⟨rfl, h2⟩, rfl⟩, h4⟩, h5⟩, h6⟩ := h
      exact i_rrng g h2 h4 (sE a sc fn W X _ g h6) h5
    · cases h
end
end BX
set_option Elab.async false
set_option linter.all false
set_option maxRecDepth 100000
set_option maxHeartbeats 2000000
/-! BX6: statements, defs. -/
namespace BX
open PySem L2
open PyProof.Rows hiding St Binds

/-! ### the check -/
def notComp : Expr → Bool
  | .ListComp .. => false | .SetComp .. => false | .DictComp .. => false
  | _ => true
def isName : Expr → Bool
  | .Name .. => true
  | _ => false
/-- x = [..] on one line: the list goes into x by a swap -/
def swapB (sc : Scope) : Expr → Expr → Bool
  | .Name t p, .ListComp _ _ scope q => (match sc.names.lookup t with | some .local => true | _ => false) && (p.line == q.line) && !(scope.names.any fun (n, k) => n == t && (k == .local || k == .cell))
  | _, _ => false
/-- no two stores are exchanged -/
def plainStores : Expr → Expr → Bool
  | .Tuple ts _ _, .Tuple vs _ _ => !(ts.all isName) || vs.all (foldedForSure 8)
  | .List _ _, _ => false
  | _, _ => true
def freshE : Ex → Bool
  | .lst _ => true
  | .lc .. => true
  | .blt .list _ => true
  | .bin .mul (.lst _) _ => true
  | .prim .dnew _ => true
  | .prim .dcopy _ => true
  | .prim .lcopy _ => true
  | .prim .dlist _ => true
  | _ => false
section
variable (T : Tb) (N : List Str) (sc : Scope) (fn : Str → Bool)
mutual
def chS : Sm → Stmt → Bool
  | .asg t e, st => match st with
    | .Assign [tx] x _ => notStar tx && chT N fn t tx && chE T N e sc fn x && plainStores tx x && (notComp x || !(isName tx) || swapB sc tx x)
    | _ => false
  | .par i j a b, st => match st with
    | .Assign [.Tuple [.Name x px, .Name y py] _ _] (.Tuple [u, v] _ _) _ => decide (N[i]? = some x) && decide (N[j]? = some y) && decide (i ≠ j) && decide (x ≠ y) && (py.line == px.line) &&
        (match sc.names.lookup x with | some .local => true | _ => false) && (match sc.names.lookup y with | some .local => true | _ => false) &&
        notStar u && notStar v && !([u, v].all (foldedForSure 8)) && !([u, v].all (constantsAlone 8)) && chE T N a sc fn u && chE T N b sc fn v
    | _ => false
  | .own i e, st => match st with
    | .Assign [.Name y p] x _ => decide (N[i]? = some y) && fn y && freshE e && chE T N e sc fn x && (notComp x || swapB sc (.Name y p) x)
    | _ => false
  | .frz i s, st => chS s st
  | .aug i o e, st => match st with
    | .AugAssign (.Name y _) p x _ => decide (N[i]? = some y) && fn y && opB o p && chE T N e sc fn x
    | _ => false
  | .star i j e, st => match st with
    | .Assign [.Tuple [.Name x _, .Starred (.Name y _) _] _ _] v _ => decide (N[i]? = some x) && decide (N[j]? = some y) && fn x && fn y && chE T N e sc fn v && !isTup v
    | _ => false
  | .set a i e, st => match st with
    | .Assign [.Subscript o k _] x _ => notSlice k && notComp x && chE T N e sc fn x && chE T N a sc fn o && chE T N i sc fn k
    | _ => false
  | .app i e, st => match st with
    | .Expr (.Call (.Attribute (.Name y _) m ap) [x] [] cp) _ => decide (N[i]? = some y) && visB sc y && m == ("append" : Str) && notStar x && (ap.endLine == cp.line) && chE T N e sc fn x
    | _ => false
  | .setO i k e, st => match st with
    | .Assign [.Subscript (.Name y _) kx _] x _ => decide (N[i]? = some y) && visB sc y && notSlice kx && notComp x && chE T N e sc fn x && chE T N k sc fn kx
    | _ => false
  | .augO i k o e, st => match st with
    | .AugAssign (.Subscript (.Name y _) kx _) p x _ => decide (N[i]? = some y) && visB sc y && notSlice kx && opB o p && chE T N e sc fn x && chE T N k sc fn kx
    | _ => false
  | .setOD i k e, st => match st with
    | .Assign [.Subscript (.Name y _) kx _] x _ => decide (N[i]? = some y) && visB sc y && notSlice kx && notComp x && chE T N e sc fn x && chE T N k sc fn kx
    | _ => false
  | .setD a k e, st => match st with
    | .Assign [.Subscript o kx _] x _ => notSlice kx && notComp x && chE T N e sc fn x && chE T N a sc fn o && chE T N k sc fn kx
    | _ => false
  | .setF a c f e, st => match st with
    | .Assign [.Attribute o f' _] x _ => f' == f && T.fldB c f && chE T N e sc fn x && chE T N a sc fn o
    | _ => false
  | .popOD _ _, _ => false
  | .popD a k, st => match st with
    | .Expr (.Call (.Attribute o m ap) [kx] [] cp) _ => m == ("pop" : Str) && notStar kx && (ap.endLine == cp.line) && notCall0 o && chE T N a sc fn o && chE T N k sc fn kx
    | _ => false
  | .popO t i, st => match st with
    | .Assign [tx] (.Call (.Attribute (.Name y _) m ap) [] [] cp) _ => m == ("pop" : Str) && decide (N[i]? = some y) && visB sc y && (ap.endLine == cp.line) && notStar tx && chT N fn t tx
    | _ => false
  | .extO i e, st => match st with
    | .AugAssign (.Name y _) .Add x _ => decide (N[i]? = some y) && fn y && chE T N e sc fn x
    | _ => false
  | .exp e, st => match st with
    | .Expr x _ => notComp x && chE T N e sc fn x
    | _ => false
  | .ret e, st => match st with
    | .Return (some x) _ => chE T N e sc fn x
    | _ => false
  | .retN, st => match st with
    | .Return none _ => true
    | _ => false
  | .ite c a b, st => match st with
    | .If x y z _ => chE T N c sc fn x && chB a y && chB b z
    | _ => false
  | .for t it b, st => match st with
    | .For tx x y [] _ => notSet x && chT N fn t tx && chI T N it sc fn tx x && chB b y
    | _ => false
  | .whl c b, st => match st with
    | .While x y [] _ => chE T N c sc fn x && chB b y
    | _ => false
  | .brk, st => match st with
    | .Break _ => true
    | _ => false
  | .cnt, st => match st with
    | .Continue _ => true
    | _ => false
  | .pass, st => match st with
    | .Pass _ => true
    | _ => false
  | .dead, _ => true
def chB : List Sm → List Stmt → Bool
  | [], ss => match ss with | [] => true | _ => false
  | s :: b, ss => match ss with | st :: ss => chS s st && chB b ss | _ => false
end
end

/-! ### the frame -/
section
variable {K : PySem.W.Frag} {w : Wd} {H0 H Hi : Hp} {σ : St} {ε : Env}
theorem REn.exts {w' : Wd} {H' : Hp} (e : ExtS w H w' H') (h : REn K w H0 σ H ε) (k : ∀ (i : Nat) (d : D) (a : Addr), ε[i]? = some (.own d) → σ[i]? = some (some (.ref a)) → H a ≠ none → a ∉ w.ρ → ¬ w.Φ a → H' a = H a ∧ a ∉ w'.ρ ∧ ¬ w'.Φ a) : REn K w' H0 σ H' ε := by
  refine ⟨h.len, fun i s q => ?_, h.ap⟩
  have q' := h.sl i s q
  cases s with
  | un => trivial
  | val d => obtain ⟨v, h1, h2⟩ := q'; exact ⟨v, h1, RV.exts e _ _ h2⟩
  | own d =>
    obtain ⟨a, h2, h3, h5, h6, h7⟩ := q'
    obtain ⟨k1, k2, k3⟩ := k i d a q h2 h3.ne h5 h6
    exact ⟨a, h2, h3.exts e k1, k2, k3, h7⟩
/-- a new own list -/
theorem REn.setOwn (h : REn K w H0 σ H ε) {a : Addr} {d0 : D} (i : Nat) (ha : OwnAt K w H a d0) (n1 : a ∉ w.ρ) (n2 : ¬ w.Φ a) (h0 : H0 a = none)
    (hd : ∀ (j : Nat) (d : D), j ≠ i → ε[j]? = some (.own d) → σ[j]? ≠ some (some (.ref a))) : REn K w H0 (σ.set i (some (.ref a))) H (ε.set i (.own d0)) := by
  refine ⟨by simp [h.len], fun j s e => ?_, fun j k d1 d2 b hne e1 e2 e3 => ?_⟩
  · by_cases hij : i = j
    · subst hij
      have hl : i < ε.length := by
        have := (List.getElem?_eq_some_iff.mp e).1
        simpa using this
      rw [List.getElem?_set_self hl] at e
      cases e
      exact ⟨a, List.getElem?_set_self (by rw [h.len]; exact hl), ha, n1, n2, h0⟩
    · rw [List.getElem?_set_ne hij] at e ⊢
      exact h.sl j s e
  · by_cases hj : i = j
    · subst hj
      have hl : i < ε.length := by
        have := (List.getElem?_eq_some_iff.mp e1).1
        simpa using this
      rw [List.getElem?_set_self (by rw [h.len]; exact hl)] at e3
      cases e3
      rw [List.getElem?_set_ne hne] at e2 ⊢
      exact hd k d2 (fun z => hne z.symm) e2
    · by_cases hk : i = k
      · subst hk
        have hl : i < ε.length := by
          have := (List.getElem?_eq_some_iff.mp e2).1
          simpa using this
        rw [List.getElem?_set_ne hj] at e1 e3
        rw [List.getElem?_set_self (by rw [h.len]; exact hl)]
        intro z
        cases z
        exact hd j d1 (fun z => hj z.symm) e1 e3
      · rw [List.getElem?_set_ne hj] at e1 e3
        rw [List.getElem?_set_ne hk] at e2 ⊢
        exact h.ap j k d1 d2 b hne e1 e2 e3
/-- an own list becomes a value -/
theorem REn.freeze (h : REn K w H0 σ H ε) {i : Nat} {d : D} (e : ε[i]? = some (.own d)) : ∃ a, OwnAt K w H a d ∧ a ∉ w.ρ ∧ ¬ w.Φ a ∧ H0 a = none ∧ ∀ n : a ∉ w.ρ, REn K (w.imm a n) H0 σ H (ε.set i (.val d)) := by
  obtain ⟨a, h2, h3, h5, h6, h7⟩ := h.sl i _ e
  refine ⟨a, h3, h5, h6, h7, fun n => ⟨by simp [h.len], fun j s q => ?_, fun j k d1 d2 b hne e1 e2 e3 => ?_⟩⟩
  · by_cases hij : i = j
    · subst hij
      have hl : i < ε.length := (List.getElem?_eq_some_iff.mp e).1
      rw [List.getElem?_set_self hl] at q
      cases q
      exact ⟨.ref a, h2, rv_own h3 n⟩
    · rw [List.getElem?_set_ne hij] at q
      have q' := h.sl j s q
      cases s with
      | un => trivial
      | val d => obtain ⟨v, g1, g2⟩ := q'; exact ⟨v, g1, RV.exts (exts_own n) _ _ g2⟩
      | own d' =>
        obtain ⟨b, g2, g3, g5, g6, g7⟩ := q'
        refine ⟨b, g2, g3.exts (exts_own n) rfl, g5, fun z => ?_, g7⟩
        rcases z with z | z
        · exact g6 z
        · subst z; exact h.ap i j _ _ _ hij e q h2 g2
  · have hj : i ≠ j := fun z => by
      subst z
      have hl : i < ε.length := (List.getElem?_eq_some_iff.mp e).1
      rw [List.getElem?_set_self hl] at e1
      cases e1
    have hk : i ≠ k := fun z => by
      subst z
      have hl : i < ε.length := (List.getElem?_eq_some_iff.mp e).1
      rw [List.getElem?_set_self hl] at e2
      cases e2
    rw [List.getElem?_set_ne hj] at e1
    rw [List.getElem?_set_ne hk] at e2
    exact h.ap j k d1 d2 b hne e1 e2 e3
/-- an own list grows -/
theorem REn.growO (h : REn K w H0 σ H ε) {i : Nat} {a : Addr} {dA dB : D} {o : HO} (e : ε[i]? = some (.own dA)) (hs : σ[i]? = some (some (.ref a))) (n1 : a ∉ w.ρ) (n2 : ¬ w.Φ a) (h0 : H0 a = none) (hv : OwnAt K w (upd H a o) a dB) :
    REn K w H0 σ (upd H a o) (ε.set i (.own dB)) := by
  refine ⟨by simp [h.len], fun j s q => ?_, fun j k d1 d2 b hne e1 e2 e3 => ?_⟩
  · by_cases hij : i = j
    · subst hij
      have hl : i < ε.length := (List.getElem?_eq_some_iff.mp e).1
      rw [List.getElem?_set_self hl] at q
      cases q
      exact ⟨a, hs, hv, n1, n2, h0⟩
    · rw [List.getElem?_set_ne hij] at q
      have q' := h.sl j s q
      cases s with
      | un => trivial
      | val d => obtain ⟨v, g1, g2⟩ := q'; exact ⟨v, g1, RV.exts (exts_upd n2) _ _ g2⟩
      | own d' =>
        obtain ⟨b, g2, g3, g5, g6, g7⟩ := q'
        have hb : b ≠ a := fun z => by subst z; exact h.ap i j _ _ _ hij e q hs g2
        exact ⟨b, g2, g3.exts (exts_upd n2) (upd_ne hb), g5, g6, g7⟩
  · have old : ∀ (j : Nat) (d : D), (ε.set i (Sl.own dB))[j]? = some (.own d) → ∃ d', ε[j]? = some (.own d') := fun j d q => by
      by_cases hij : i = j
      · subst hij; exact ⟨_, e⟩
      · rw [List.getElem?_set_ne hij] at q; exact ⟨_, q⟩
    obtain ⟨d1', e1'⟩ := old j _ e1
    obtain ⟨d2', e2'⟩ := old k _ e2
    exact h.ap j k d1' d2' b hne e1' e2' e3
theorem REn.grow (h : REn K w H0 σ H ε) {i : Nat} {a : Addr} {d0 : D} {l' : List D} {vs' : List V} (e : ε[i]? = some (.own d0)) (hs : σ[i]? = some (some (.ref a))) (n1 : a ∉ w.ρ) (n2 : ¬ w.Φ a) (h0 : H0 a = none) (hv : RVs K w H vs' l') :
    REn K w H0 σ (upd H a (.lst vs')) (ε.set i (.own (.lst l'))) := h.growO e hs n1 n2 h0 ⟨vs', upd_same, RVs.exts (exts_upd n2) _ _ hv⟩
theorem REn.growD (h : REn K w H0 σ H ε) {i : Nat} {a : Addr} {d0 : D} {ks : List Key} {ds : List D} {kvs : List (Key × V)} (e : ε[i]? = some (.own d0)) (hs : σ[i]? = some (some (.ref a))) (n1 : a ∉ w.ρ) (n2 : ¬ w.Φ a) (h0 : H0 a = none) (hk : kvs.map (·.1) = ks) (hv : RVs K w H (kvs.map (·.2)) ds) :
    REn K w H0 σ (upd H a (.dK kvs)) (ε.set i (.own (.dct ks ds))) := h.growO e hs n1 n2 h0 ⟨kvs, upd_same, hk, RVs.exts (exts_upd n2) _ _ hv⟩
end

/-! ### readings of statements -/
def endP (G : Gx) (W : WX) (w0 : Wd) (H0 : Hp) (D : Ends) (w : Wd) (H : Hp) : Fl → Sto → Prop := fun f S' => match f with
  | .nx ε' => ∀ w' σ' H', RSt G w' S' H' → REn G.K w' H0 σ' H' ε' → Ext w0 H0 w' H' → ExtS w H w' H' → D.nx σ' H'
  | .bk ε' => ∀ w' σ' H', RSt G w' S' H' → REn G.K w' H0 σ' H' ε' → Ext w0 H0 w' H' → ExtS w H w' H' → D.bk σ' H'
  | .ct ε' => ∀ w' σ' H', RSt G w' S' H' → REn G.K w' H0 σ' H' ε' → Ext w0 H0 w' H' → ExtS w H w' H' → D.ct σ' H'
  | .rt d => ∀ w' H' v, RSt G w' S' H' → Ext w0 H0 w' H' → RV G.K w' H' v d → D.rt v H'
  | .ex x ε' => ∀ w' σ' H' c dx, RSt G w' S' H' → REn G.K w' H0 σ' H' ε' → Ext w0 H0 w' H' → G.rx w' H' x c dx → W c dx σ' H'
theorem endP_ext {G : Gx} {W : WX} {w0 w w1 : Wd} {H0 H H1 : Hp} {D : Ends} {f : Fl} {S : Sto} (e : ExtS w H w1 H1) (h : endP G W w0 H0 D w H f S) : endP G W w0 H0 D w1 H1 f S := by
  cases f with
  | nx ε' => exact fun w' σ' H' a b c d => h w' σ' H' a b c (e.trans d)
  | bk ε' => exact fun w' σ' H' a b c d => h w' σ' H' a b c (e.trans d)
  | ct ε' => exact fun w' σ' H' a b c d => h w' σ' H' a b c (e.trans d)
  | rt d => exact h
  | ex x ε' => exact h
def sRd (G : Gx) (W : WX) (ev : Env → Sto → R Fl) : TS := fun D σ H =>
  ∃ w0 H0 w ε S f S', RSt G w S H ∧ REn G.K w H0 σ H ε ∧ Ext w0 H0 w H ∧ ev ε S = .ok f S' ∧ endP G W w0 H0 D w H f S'
theorem _root_.L2.PS.imp {X : Cx} {s : Stmt} {t t' : TS} (h : PS X s t) (k : ∀ D σ H, t' D σ H → t D σ H) : PS X s t' := ⟨fun pins s σ H D I q => h.run pins s σ H D I (k _ _ _ q)⟩
theorem _root_.L2.PSs.imp {X : Cx} {s : List Stmt} {t t' : TS} (h : PSs X s t) (k : ∀ D σ H, t' D σ H → t D σ H) : PSs X s t' := ⟨fun pins s σ H D I q => h.run pins s σ H D I (k _ _ _ q)⟩
abbrev JS (G : Gx) (W : WX) (X : Cx) (s : Stmt) (ev : Env → Sto → R Fl) : Prop := PS X s (sRd G W ev)
abbrev JB (G : Gx) (W : WX) (X : Cx) (s : List Stmt) (ev : Env → Sto → R Fl) : Prop := PSs X s (sRd G W ev)
/-- an expression within a statement -/
theorem sx_step {G : Gx} {W : WX} {α β : Type} {rel : Wd → Hp → β → α → Prop} {ev : Env → Sto → R α} {f : α → Sto → R Fl} {w0 w : Wd} {H0 H : Hp} {σ : St} {ε : Env} {S S' : Sto} {fl : Fl} {D : Ends} {Q : β → Hp → Prop}
    (hS : RSt G w S H) (hE : REn G.K w H0 σ H ε) (hX : Ext w0 H0 w H) (h : (ev ε S).lf ε f = .ok fl S') (hend : endP G W w0 H0 D w H fl S')
    (k : ∀ d S1 w1 H1 v, Ext w H w1 H1 → RSt G w1 S1 H1 → REn G.K w1 H0 σ H1 ε → Ext w0 H0 w1 H1 → rel w1 H1 v d → f d S1 = .ok fl S' → endP G W w0 H0 D w1 H1 fl S' → Q v H1) : rd G W rel ev σ H Q := by
  refine ⟨w, H0, ε, S, hS, hE, ?_⟩
  cases hr : ev ε S with
  | ok d S1 =>
    rw [hr] at h
    exact fun w1 H1 v e hS1 r => k d S1 w1 H1 v e hS1 (hE.ext e) (hX.trans e) r h (endP_ext e.toS hend)
  | exc x S1 =>
    rw [hr] at h
    cases h
    exact fun w1 H1 c dx e hS1 rx => hend w1 σ H1 c dx hS1 (hE.ext e) (hX.trans e) rx
  | stuck => rw [hr] at h; cases h
theorem sxF_step {G : Gx} {W : WX} {ev : Env → Sto → R D} {f : D → Sto → R Fl} {w0 w : Wd} {H0 H : Hp} {σ : St} {ε : Env} {S S' : Sto} {fl : Fl} {D' : Ends} {Q : VK}
    (hS : RSt G w S H) (hE : REn G.K w H0 σ H ε) (hX : Ext w0 H0 w H) (h : (ev ε S).lf ε f = .ok fl S') (hend : endP G W w0 H0 D' w H fl S')
    (k : ∀ d S1 w1 H1 a, Ext w H w1 H1 → RSt G w1 S1 H1 → REn G.K w1 H0 σ H1 ε → Ext w0 H0 w1 H1 → OwnAt G.K w1 H1 a d → a ∉ w1.ρ → ¬ w1.Φ a → H a = none → f d S1 = .ok fl S' → endP G W w0 H0 D' w1 H1 fl S' → Q (.ref a) H1) : rdF G W ev σ H Q := by
  refine ⟨w, H0, ε, S, hS, hE, ?_⟩
  cases hr : ev ε S with
  | ok d S1 =>
    rw [hr] at h
    exact fun w1 H1 a e hS1 ha n1 n2 hi => k d S1 w1 H1 a e hS1 (hE.ext e) (hX.trans e) ha n1 n2 hi h (endP_ext e.toS hend)
  | exc x S1 =>
    rw [hr] at h
    cases h
    exact fun w1 H1 c dx e hS1 rx => hend w1 σ H1 c dx hS1 (hE.ext e) (hX.trans e) rx
  | stuck => rw [hr] at h; cases h

structure GoodS (T : Tb) (G : Gx) (call : Call) (N : List Str) (sc : Scope) (fn : Str → Bool) (W : WX) (k : Nat) (X : Cx) : Prop extends Good T G call N sc fn W k X where
  pass : PassesOwn (model X.prog X.w) X.A X.env X.xe
  kind : sc.kind = .function

/-! ### facts of the text -/
theorem swapsSole {tx x : Expr} {l : Nat} {env : PySem.Env} (h : notComp x = true ∨ isName tx = false) : swapsWithSole [tx] x l env = pure false := by
  show swapsWith x (some tx) l env = pure false
  rcases h with h | h
  · cases x <;> first | rfl | (simp [notComp] at h)
  · cases x <;> first | rfl | (cases tx <;> first | rfl | (simp [isName] at h))
theorem swapsExpr {x : Expr} {t : Option Expr} {l : Nat} {env : PySem.Env} (h : notComp x = true) : swapsWith x t l env = pure false := by
  cases x <;> first | rfl | (simp [notComp] at h)
theorem few_names {p : Expr → Option Str} (hp : ∀ e, isName e = false → p e = none) : ∀ {l : List Expr}, l.all isName = false → (l.filterMap p).length < l.length
  | [], q => by simp at q
  | e :: l, q => by
    have hle := List.length_filterMap_le p l
    cases he : isName e with
    | false => rw [List.filterMap_cons, hp e he]; simp only [List.length_cons]; omega
    | true =>
      simp only [List.all_cons, he, Bool.true_and] at q
      have := few_names hp q
      rw [List.filterMap_cons]
      cases p e <;> simp only [List.length_cons] <;> omega
theorem stores_none {tx x : Expr} {env : PySem.Env} (h : plainStores tx x = true) : swappedStores [tx] x env = pure none := by
  by_cases ht : ∃ ts a b, tx = .Tuple ts a b
  · obtain ⟨ts, a, b, rfl⟩ := ht
    cases x with
    | Tuple vs c d =>
      simp only [plainStores, Bool.or_eq_true, Bool.not_eq_true'] at h
      unfold swappedStores
      dsimp only
      split
      · rfl
      split
      · rfl
      split
      · rfl
      · rename_i h3
        rcases h with h | h
        · simp only [Bool.or_eq_true, bne_iff_ne, ne_eq, not_or, Decidable.not_not] at h3
          refine absurd h3.1 (Nat.ne_of_lt (few_names ?_ h))
          intro e he
          cases e <;> first | rfl | (simp [isName] at he)
        · rw [if_pos h]
    | _ => rfl
  · cases tx <;> first
      | exact absurd ⟨_, _, _, rfl⟩ ht
      | (cases x <;> first | rfl | (simp [plainStores] at h))
theorem swp {x y : Str} {px py : Pos} {kt k2 : Nat} {pt pt2 : Pos} {a b : Expr} {env : PySem.Env} (hk : env.scope.kind = .function) (hx : env.scope.names.lookup x = some .local) (hy : env.scope.names.lookup y = some .local)
    (hl : (py.line == px.line) = true) (hne : x ≠ y) (na : notStar a = true) (nb : notStar b = true) (h1 : [a, b].all (foldedForSure 8) = false) (h2 : [a, b].all (constantsAlone 8) = false) :
    swappedStores [.Tuple [.Name x px, .Name y py] kt pt] (.Tuple [a, b] k2 pt2) env = pure (some [x, y]) := by
  have hb : env.blockKind = .function := by unfold Env.blockKind; rw [hk]; rfl
  have kx : env.kindOf x = some .local := hx
  have ky : env.kindOf y = some .local := hy
  have hs : ∀ p : Expr → Bool, (∀ e, notStar e = true → p e = false) → [a, b].any p = false := fun p hp => by simp [hp a na, hp b nb]
  have hf : ∀ p : Expr → Option Str, p (.Name x px) = some x → p (.Name y py) = some y → [Expr.Name x px, Expr.Name y py].filterMap p = [x, y] := fun p e1 e2 => by simp [e1, e2]
  have hyx : (y == x) = false := by simpa using fun z => hne z.symm
  have hd : [x, y].eraseDups = [x, y] := by
    simp only [List.eraseDups_cons, List.filter_cons, hyx, Bool.not_false, if_true, List.filter_nil, List.eraseDups_nil]
  unfold swappedStores
  dsimp only
  split
  · rename_i hc
    simp [hb] at hc
  split
  · rename_i hc
    rw [hs _ (fun e he => by cases e <;> first | rfl | (simp [notStar] at he))] at hc
    cases hc
  rw [hf _ (by simp [kx, Expr.pos]) (by simp only [List.head?_cons, Option.map_some, Option.getD_some, Expr.pos, ky, hl, beq_self_eq_true, Bool.and_true, if_true])]
  rw [hd, if_neg (by simp), if_neg (by rw [h1]; exact Bool.false_ne_true), if_neg (by rw [h2]; exact Bool.false_ne_true)]
theorem assign_sub {o i : Expr} {pos : Pos} {env : PySem.Env} (h : notSlice i = true) : ∀ v, assign (.Subscript o i pos) env v = (do
      let ov ← holding [v] (eval o env)
      let iv ← holding [v, ov] (eval i env)
      standAt pos
      holding [v, ov, iv] (setItem ov iv v)
      release [v, ov, iv] []) := by
  intro v
  cases i <;> first | rfl | (simp [notSlice] at h)
theorem sw_of {sc : Scope} {tx x : Expr} (h : swapB sc tx x = true) : ∃ t p el gs scope q, tx = .Name t p ∧ x = .ListComp el gs scope q ∧ sc.names.lookup t = some .local ∧ (p.line == q.line) = true ∧ (scope.names.any fun (n, k) => n == t && (k == .local || k == .cell)) = false := by
  cases tx <;> cases x <;> simp [swapB] at h
  rename_i t p el gs scope q
  obtain ⟨⟨h1, h2⟩, h3⟩ := h
  refine ⟨t, p, el, gs, scope, q, rfl, rfl, ?_, by simpa using h2, ?_⟩
  · split at h1
    · assumption
    · cases h1
  · simp only [List.any_eq_false]
    rintro ⟨n, k⟩ hm
    have := h3 n k hm
    simpa using this

section
variable {T : Tb} {G : Gx} {call : Call} {N : List Str} {sc : Scope} {fn : Str → Bool} {W : WX} {k turns : Nat} {X : Cx} {pos p1 p2 : Pos}
theorem aug_ok (o : BOp) : PIp X (bopN o) (fun x y H Q => ∃ i j z, x = .int i ∧ y = .int j ∧ binF o (.int i) (.int j) = some (.int z) ∧ Q (.int z) H) := by
  intro pins s σ H x y v u Q I rx ry h
  obtain ⟨i, j, z, rfl, rfl, hf, q⟩ := h
  cases o with
  | add => simp only [binF] at hf; cases hf; exact iop_add pins s σ H _ _ v u Q I rx ry ⟨_, _, rfl, rfl, q⟩
  | sub => simp only [binF] at hf; cases hf; exact iop_sub pins s σ H _ _ v u Q I rx ry ⟨_, _, rfl, rfl, q⟩
  | mul =>
    simp only [binF] at hf
    split at hf
    · rename_i hc
      cases hf
      exact (opI (C := fun i j => mulOk i j = true) fun _ _ _ _ _ _ _ hc q => imul_int q (mulOk_ok hc)) pins s σ H _ _ v u Q I rx ry ⟨_, _, rfl, rfl, hc, q⟩
    · cases hf
  | fdiv =>
    simp only [binF] at hf
    split at hf
    · rename_i hc
      cases hf
      refine (opI (C := CDivW) (g := fun i j => i / j) fun i j _ _ _ _ _ hc q => ?_) pins s σ H _ _ v u Q I rx ry ⟨_, _, rfl, rfl, hc, q⟩
      have h1 : (0 : Int) < j := hc.1
      exact ifloordiv_int (by omega) (by rw [Int.fdiv_eq_ediv_of_nonneg i (by omega)]; exact q) (.inl (PyProof.noPylong_of_log2 hc.2))
    · cases hf
  | mod =>
    simp only [binF] at hf
    split at hf
    · rename_i hc
      cases hf
      exact iop_mod pins s σ H _ _ v u Q I rx ry ⟨_, _, rfl, rfl, hc, q⟩
    · cases hf
  | pow => 
    simp only [binF] at hf
    split at hf
    · rename_i hc
      cases hf
      exact (opI (C := fun i j => 0 ≤ j ∧ j ≤ 1000000 ∧ (Builtin.Int.intBits i : Int) * j ≤ 2 ^ 27) (g := fun i j => i ^ j.toNat) fun _ _ _ _ _ _ _ hc q => ipow_int hc.1 hc.2.2 q) pins s σ H _ _ v u Q I rx ry ⟨_, _, rfl, rfl, hc, q⟩
    · cases hf
  | shl =>
    simp only [binF] at hf
    split at hf
    · rename_i hc
      cases hf
      exact iop_shl pins s σ H _ _ v u Q I rx ry ⟨_, _, rfl, rfl, hc, q⟩
    · cases hf
  | shr =>
    simp only [binF] at hf
    split at hf
    · rename_i hc
      cases hf
      exact iop_shr pins s σ H _ _ v u Q I rx ry ⟨_, _, rfl, rfl, hc, q⟩
    · cases hf
end
end BX
set_option Elab.async false
set_option linter.all false
set_option maxRecDepth 100000
set_option maxHeartbeats 2000000
/-! BX7: soundness of statements and defs. -/
namespace BX
open PySem L2
open PyProof.Rows hiding St Binds

section
variable {T : Tb} {G : Gx} {call : Call} {N : List Str} {sc : Scope} {fn : Str → Bool} {W : WX} {k turns : Nat} {X : Cx} {pos p1 p2 : Pos}
theorem f_lst {es : List Ex} {xs : List Expr} (h : JA G W X xs (evEs call es)) : PE X (.List xs pos) (rdF G W (evE call (.lst es))) := by
  refine (pe_lst h).imp fun σ H Q q => ?_
  obtain ⟨w, H0, ε, S, hS, hE, q⟩ := q
  simp only [evE] at q
  refine rd_step (ev := evEs call es) monFF hS hE q fun ds S1 w1 H1 vs e1 hS1 hE1 r1 q1 => ?_
  split at q1
  · rename_i hz
    refine ⟨by rw [r1.length]; exact hz, fun p hp => ?_⟩
    obtain ⟨f1, f2⟩ := hS1.fresh hp
    exact q1 w1 _ p (ext_tmp hp) (rst_tmp hS1 hp) ⟨vs, upd_same, RVs.ext (ext_tmp hp) _ _ r1⟩ f1 f2 (fresh_back e1 hS1 hp)
  · exact q1.elim
theorem blt_list_inv {ds : List BX.D} {d : BX.D} (h : bltF .list ds = some d) : (∃ l, ds = [.lst l] ∧ d = .lst l) ∨ ∃ l, ds = [.tup l] ∧ d = .lst l := by
  rcases ds with _ | ⟨a, _ | ⟨b, r⟩⟩
  · simp [bltF] at h
  · cases a <;> simp [bltF] at h <;> subst h
    · exact .inr ⟨_, rfl, rfl⟩
    · exact .inl ⟨_, rfl, rfl⟩
  · cases a <;> simp [bltF] at h
theorem f_list (g : Good T G call N sc fn W k X) {es : List Ex} {y : Expr} {xs : List Expr} (hg : glB sc "list" = true) (h : JAo G W X (y :: xs) (evOs call es)) (hn : (y :: xs).all notStar = true) :
    PE X (.Call (.Name "list" p1) (y :: xs) [] pos) (rdF G W (evE call (.blt .list es))) := by
  simp only [List.all_cons, Bool.and_eq_true] at hn
  refine (pe_callTy call_list_of (g.gl hg) (g.lw.blt .list) (blt_boot .list) h (by decide) (gl_of hg).2 (starEach_cons hn.1) (starAll hn.2)).imp fun σ H Q q => ?_
  obtain ⟨w, H0, ε, S, hS, hE, q⟩ := q
  simp only [evE] at q
  refine rd_step (ev := evOs call es) monFF hS hE q fun ds S1 w1 H1 vs e1 hS1 hE1 r1 q1 => ?_
  have fin : ∀ {l : List BX.D} {us : List V} {p : Addr}, RVs G.K w1 H1 us l → bltF .list ds = some (.lst l) → H1 p = none → Q (.ref p) (upd H1 p (.lst us)) := by
    intro l us p r hb hp
    rw [hb] at q1
    obtain ⟨f1, f2⟩ := hS1.fresh hp
    exact q1 w1 _ p (ext_tmp hp) (rst_tmp hS1 hp) ⟨us, upd_same, RVs.ext (ext_tmp hp) _ _ r⟩ f1 f2 (fresh_back e1 hS1 hp)
  cases hb : bltF .list ds with
  | none => rw [hb] at q1; exact q1.elim
  | some d =>
    rcases blt_list_inv hb with ⟨l, rfl, rfl⟩ | ⟨l, rfl, rfl⟩
    · obtain ⟨v, rfl, rv⟩ := ROs.one r1
      obtain ⟨a, us, rfl, h1, h2⟩ := rv.lst
      exact ⟨a, us, rfl, .inl (.inl h1), fun p hp => fin h2 rfl hp⟩
    · obtain ⟨v, rfl, rv⟩ := ROs.one r1
      obtain ⟨_, a, us, rfl, h1, h2⟩ := rv.tup
      exact ⟨a, us, rfl, .inr (g.lw.hK ▸ h1), fun p hp => fin h2 rfl hp⟩
theorem lst_of {es : List Ex} {ε : Env} {S S1 : Sto} {d : BX.D} (h : evE call (.lst es) ε S = .ok d S1) : ∃ l, d = .lst l := by
  simp only [evE] at h
  cases e : evEs call es ε S with
  | ok ds S2 =>
    rw [e] at h
    simp only [R.bd_ok] at h
    split at h
    · cases h; exact ⟨_, rfl⟩
    · cases h
  | exc _ _ => rw [e] at h; cases h
  | stuck => rw [e] at h; cases h
theorem f_rep (g : Good T G call N sc fn W k X) {es : List Ex} {b : Ex} {x y : Expr} (ha : JE G W X x (evE call (.lst es))) (hb : JO G W X y (fun ε S => opd ε b S (evE call b ε S))) : PE X (.BinOp x .Mult y pos) (rdF G W (evE call (.bin .mul (.lst es) b))) := by
  have hL : PE X x (rd G W (fun w H v d => RV G.K w H v d ∧ ∃ l, d = BX.D.lst l) (evE call (.lst es))) := ha.imp fun σ H Q ⟨w, H0, ε, S, hS, hE, q⟩ => ⟨w, H0, ε, S, hS, hE, by
    cases e : evE call (.lst es) ε S with
    | ok d S1 =>
      rw [e] at q
      intro w' H' b x hS' r
      exact q w' H' b x hS' ⟨r, lst_of e⟩
    | exc x S1 => rw [e] at q; exact q
    | stuck => rw [e] at q; exact q⟩
  refine (pe_op op_rep hL hb).imp fun σ H Q q => ?_
  obtain ⟨w, H0, ε, S, hS, hE, q⟩ := q
  have eo : evE call (.bin .mul (.lst es) b) ε S = (evE call (.lst es) ε S).bd fun x S1 => (opd ε b S1 (evE call b ε S1)).bd fun y S2 => R.of S2 (binF .mul x y) := by simp only [evE, opd]
  rw [eo] at q
  refine rd_step (ev := evE call (.lst es)) monFF hS hE q fun d1 S1 w1 H1 v e1 hS1 hE1 r1 q1 => ?_
  refine rd_step (ev := fun ε S => opd ε b S (evE call b ε S)) monFF hS1 hE1 q1 fun d2 S2 w2 H2 u e2 hS2 hE2 r2 q2 => ?_
  obtain ⟨r1, l, rfl⟩ := r1
  cases d2 with
  | int k =>
    simp only [binF] at q2
    split at q2
    · rename_i hc
      obtain rfl := r2.int
      have r1' := RV.ext e2 _ _ r1
      simp only [RV] at r1'
      obtain ⟨a, vs, rfl, h1, h2⟩ := r1'
      refine ⟨a, vs, k, rfl, rfl, h1.2, hc.1, hc.2.1, by rw [h2.length]; exact hc.2.2, fun p hp => ?_⟩
      obtain ⟨f1, f2⟩ := hS2.fresh hp
      exact q2 w2 _ p (ext_tmp hp) (rst_tmp hS2 hp) ⟨_, upd_same, RVs.ext (ext_tmp hp) _ _ (h2.rep _)⟩ f1 f2 (fresh_back e1 hS1 (fresh_back e2 hS2 hp))
    · exact q2.elim
  | _ => simp only [binF] at q2; exact q2.elim
/-- one looked-at operand, the answer a new list or dict -/
theorem rdF_os1 {a : Ex} {p : Pr} {σ : St} {H : Hp} {Q P : VK} (q : rdF G W (evE call (.prim p [a])) σ H Q)
    (k : ∀ w1 S1 H1 d v, RSt G w1 S1 H1 → RO G.K w1 H1 v d → Pst (prF p [d] S1) (finF G H Q w1 H1) (PX G W σ w1 H1) → (∀ x, H1 x = none → H x = none) → P v H1) : rd G W (RO G.K) (fun ε S => opd ε a S (evE call a ε S)) σ H P := by
  obtain ⟨w, H0, ε, S, hS, hE, q⟩ := q
  simp only [evE, os1] at q
  exact rd_step (ev := fun ε S => opd ε _ S (evE call _ ε S)) monFF hS hE q fun d1 S1 w1 H1 v e1 hS1 hE1 r1 q1 => k w1 S1 H1 d1 v hS1 r1 q1 fun x hx => fresh_back e1 hS1 hx
theorem finF_lst {w : Wd} {S : Sto} {H Hi : Hp} {Q : VK} {ds : List BX.D} {vs : List V} {p : Addr} {P : Exc → Sto → Prop} (q : Pst (R.ok (.lst ds) S) (finF G Hi Q w H) P) (hS : RSt G w S H) (hp : H p = none) (hi : Hi p = none) (r : RVs G.K w H vs ds) : Q (.ref p) (upd H p (.lst vs)) :=
  have q : finF G Hi Q w H (.lst ds) S := q
  q w _ p (ext_tmp hp) (rst_tmp hS hp) ⟨vs, upd_same, RVs.ext (ext_tmp hp) _ _ r⟩ (hS.fresh hp).1 (hS.fresh hp).2 hi
theorem finF_dct {w : Wd} {S : Sto} {H Hi : Hp} {Q : VK} {ks : List Key} {ds : List BX.D} {kvs : List (Key × V)} {p : Addr} {P : Exc → Sto → Prop} (q : Pst (R.ok (.dct ks ds) S) (finF G Hi Q w H) P) (hS : RSt G w S H) (hp : H p = none) (hi : Hi p = none) (hk : kvs.map (·.1) = ks) (r : RVs G.K w H (kvs.map (·.2)) ds) : Q (.ref p) (upd H p (.dK kvs)) :=
  have q : finF G Hi Q w H (.dct ks ds) S := q
  q w _ p (ext_tmp hp) (rst_tmp hS hp) ⟨kvs, upd_same, hk, RVs.ext (ext_tmp hp) _ _ r⟩ (hS.fresh hp).1 (hS.fresh hp).2 hi
theorem prX_comp {p : Pr} {e : Expr} {xs : List Expr} (h : prX p sc e = some xs) : notComp e = true := by
  cases e <;> first | rfl | (cases p <;> cases h)
theorem f_prim (g : Good T G call N sc fn W k X) {p : Pr} {es : List Ex} {e : Expr} {xs : List Expr} (hf : freshE (.prim p es) = true) (h : prX p sc e = some xs) (js : JOs G W X call xs es) : PE X e (rdF G W (evE call (.prim p es))) := by
  cases p <;> simp only [freshE, Bool.false_eq_true] at hf
  case dnew =>
    simp only [prX] at h
    split at h
    · cases h; cases js
      refine pe_dnewK.imp fun σ H Q q => ?_
      obtain ⟨w, H0, ε, S, hS, hE, q⟩ := q
      simp only [evE, evOs, R.bd_ok, prF] at q
      exact fun p hp => finF_dct q hS hp hp rfl (by simp [RVs])
    · cases h
  case lcopy =>
    obtain ⟨p, z, pos, rfl, hg, hn, rfl⟩ := blX_some h
    cases js with | cons j1 je1 js => cases js with | nil =>
    refine (pe_callTy call_list_of (g.gl hg) (g.lw.blt .list) boot_list (pa_cons j1 pa_nil (starEach_cons hn)) (by decide) (gl_of hg).2 (starEach_cons hn) rfl).imp fun σ H Q q => ?_
    refine rdF_os1 q fun w S2 H2 d v hS2 r1 q2 hb => ?_
    simp only [prF] at q2
    split at q2
    · rename_i l hd
      obtain ⟨a, vs, rfl, h1, h2⟩ := dr_lst hS2 r1 hd
      exact ⟨a, vs, rfl, .inl (.inl h1), fun p hp => finF_lst q2 hS2 hp (hb p hp) h2⟩
    · exact q2.elim
  case dcopy =>
    obtain ⟨p, z, pos, rfl, hg, hn, rfl⟩ := blX_some h
    cases js with | cons j1 je1 js => cases js with | nil =>
    refine (pe_callTy call_dictD (g.gl hg) g.lw.dct (by decide +kernel) (pa_cons j1 pa_nil (starEach_cons hn)) (by decide) (gl_of hg).2 (starEach_cons hn) rfl).imp fun σ H Q q => ?_
    refine rdF_os1 q fun w S2 H2 d v hS2 r1 q2 hb => ?_
    simp only [prF] at q2
    split at q2
    · rename_i ks vs hd
      obtain ⟨a, kvs, rfl, h1, h2, h3⟩ := dr_dct hS2 r1 hd
      exact ⟨a, kvs, rfl, h1, fun p hp => finF_dct q2 hS2 hp (hb p hp) h2 h3⟩
    · exact q2.elim
  case dlist =>
    obtain ⟨p, z, pos, rfl, hg, hn, rfl⟩ := blX_some h
    cases js with | cons j1 je1 js => cases js with | nil =>
    refine (pe_callTy (call_listD g.calm) (g.gl hg) (g.lw.blt .list) boot_list (pa_cons j1 pa_nil (starEach_cons hn)) (by decide) (gl_of hg).2 (starEach_cons hn) rfl).imp fun σ H Q q => ?_
    refine rdF_os1 q fun w S2 H2 d v hS2 r1 q2 hb => ?_
    simp only [prF] at q2
    split at q2
    · rename_i ks vs hd
      obtain ⟨a, kvs, rfl, h1, h2, h3⟩ := dr_dct hS2 r1 hd
      refine ⟨a, kvs, rfl, h1, fun p hp => finF_lst q2 hS2 hp (hb p hp) ?_⟩
      have := keys_rvs (K := G.K) (w := w) (H := H2) ks
      rw [← h2, List.map_map] at this
      rw [← h2]
      exact this
    · exact q2.elim
/-- name = a new list -/
theorem st_nameF (g : GoodS T G call N sc fn W k X) {e : Ex} {x : Expr} {i : Nat} {y : Str} (hf : freshE e = true) (hc : chE T N e sc fn x = true) (hi : N[i]? = some y) (hy : fn y = true) (hs : notComp x = true ∨ swapB sc (.Name y p1) x = true) :
    PS X (.Assign [.Name y p1] x pos) (tAsg (rdF G W (evE call e)) (gName i)) := by
  obtain ⟨hl, hfn⟩ := g.hfn y hy
  have hN : X.N.Nodup := by rw [g.hN]; exact g.nd
  have hi' : X.N[i]? = some y := by rw [g.hN]; exact hi
  have hl' : Loc X.env.scope y := by rw [g.hsc]; exact hl
  have hf' : X.fn y = true ∨ X.env.scope.names.lookup y = some .local := by rw [g.hsc]; exact hfn
  cases e with
  | lst es =>
    simp only [chE] at hc
    split at hc
    · exact ps_set hN hi' hl' (f_lst (sEs es sc fn W X _ g.toGood hc)) (swapsExpr rfl) hf'
    · cases hc
  | lc el tg it cond own =>
    simp only [chE] at hc
    split at hc
    · rename_i x tx ix ifs scope q
      simp only [Bool.and_eq_true] at hc
      obtain ⟨⟨⟨⟨⟨⟨h1, h2⟩, h3⟩, h4⟩, h5⟩, h6⟩, h7⟩ := hc
      have ok : BlkOk X.N X.env.scope scope (ownN N own) := by rw [g.hN, g.hsc]; exact blkOk_by h2
      rcases hs with hs | hs
      · simp [notComp] at hs
      · obtain ⟨t, p, el', gs, sco, q', e1, e2, h8, h9, h10⟩ := sw_of hs
        cases e1; cases e2
        have hk : X.env.scope.kind = .function := by rw [g.hsc]; exact g.kind
        have hyl : X.env.scope.names.lookup y = some .local := by rw [g.hsc]; exact h8
        refine (ps_setLc (own := ownN N own) g.calm hN hi' hyl (sw_true hk hyl h9 h10) (sI it sc fn W X tx ix g.toGood h4) ok (fun s H C cl fp => s_tg (g.toGood.blk ok.kind s H C cl fp) tg tx h5) (fun s H C cl fp => sC cond _ _ NoW _ ifs (g.toGood.blk ok.kind s H C cl fp) h6)
          (fun s H C cl fp => sE el _ _ NoW _ x (g.toGood.blk ok.kind s H C cl fp) h7) (setIter_of h1)).imp fun D σ H q => ?_
        rw [ownN_snd]
        exact lc_imp g.toGood h3 q
    · cases hc
  | blt b es =>
    cases b <;> simp [freshE] at hf
    simp only [chE] at hc
    split at hc
    · simp only [Bool.and_eq_true, beq_iff_eq] at hc
      obtain ⟨⟨rfl, h2⟩, h3⟩ := hc
      exact ps_set hN hi' hl' (f_list g.toGood h2 (sOs es sc fn W X _ g.toGood h3) (chEs_star h3)) (swapsExpr rfl) hf'
    · cases hc
  | bin o a b =>
    cases o <;> simp [freshE] at hf
    cases a <;> simp [freshE] at hf
    rename_i es
    generalize hL : Ex.lst es = L at hc
    simp only [chE] at hc
    split at hc
    · simp only [Bool.and_eq_true] at hc
      obtain ⟨⟨h1, h2⟩, h3⟩ := hc
      have e1 := opB_eq h1
      subst e1
      subst hL
      exact ps_set hN hi' hl' (f_rep g.toGood (sE (.lst es) sc fn W X _ g.toGood h2) (s_opd g.toGood (sE b sc fn W X _ g.toGood h3) h3)) (swapsExpr rfl) hf'
    · cases hc
  | prim p es =>
    simp only [chE] at hc
    split at hc
    · rename_i xs hx
      simp only [Bool.and_eq_true] at hc
      exact ps_set hN hi' hl' (f_prim g.toGood hf hx (sJs es sc fn W X _ g.toGood hc.2)) (swapsExpr (prX_comp hx)) hf'
    · cases hc
  | _ => simp [freshE] at hf
theorem st_asg (g : GoodS T G call N sc fn W k X) {t : Tg} {e : Ex} {tx x : Expr} (hn : notStar tx = true) (ht : chT N fn t tx = true) (hc : chE T N e sc fn x = true) (hp : plainStores tx x = true) (hs : notComp x = true ∨ isName tx = false) :
    JS G W X (.Assign [tx] x pos) (evS call turns (.asg t e)) := by
  refine (ps_asg (sE e sc fn W X x g.toGood hc) (s_tg g.toGood t tx ht) (swapsSole hs) (stores_none hp) (by rw [notStarEach hn]; rfl)).imp fun D σ H q => ?_
  obtain ⟨w0, H0, w, ε, S, f, S', hS, hE, hX, h, hend⟩ := q
  simp only [evS] at h
  refine sx_step (ev := evE call e) hS hE hX h hend fun d S1 w1 H1 v e1 hS1 hE1 hX1 r1 h1 hend1 => ?_
  split at h1
  · rename_i ε' hset
    cases h1
    exact ⟨w1, H0, ε, d, ε', hE1, r1, hset, fun σ' hE' _ => hend1 w1 σ' H1 hS1 hE' hX1 ExtS.refl⟩
  · cases h1
theorem st_asgLc (g : GoodS T G call N sc fn W k X) {i : Nat} {e : Ex} {y : Str} {x : Expr} (hf : freshE e = true) (hc : chE T N e sc fn x = true) (hi : N[i]? = some y) (hy : fn y = true) (hs : notComp x = true ∨ swapB sc (.Name y p1) x = true) :
    JS G W X (.Assign [.Name y p1] x pos) (evS call turns (.asg (.nm i) e)) := by
  refine (st_nameF g hf hc hi hy hs).imp fun D σ H q => ?_
  obtain ⟨w0, H0, w, ε, S, f, S', hS, hE, hX, h, hend⟩ := q
  simp only [evS] at h
  refine rd_F (sx_step (rel := RV G.K) (ev := evE call e) hS hE hX h hend fun d S1 w1 H1 v e1 hS1 hE1 hX1 r1 h1 hend1 => ?_)
  simp only [setT] at h1
  cases h1
  exact hend1 w1 _ H1 hS1 (hE1.set r1 i) hX1 ExtS.refl
theorem st_own (g : GoodS T G call N sc fn W k X) {i : Nat} {e : Ex} {y : Str} {x : Expr} (hf : freshE e = true) (hc : chE T N e sc fn x = true) (hi : N[i]? = some y) (hy : fn y = true) (hs : notComp x = true ∨ swapB sc (.Name y p1) x = true) :
    JS G W X (.Assign [.Name y p1] x pos) (evS call turns (.own i e)) := by
  refine (st_nameF g hf hc hi hy hs).imp fun D σ H q => ?_
  obtain ⟨w0, H0, w, ε, S, f, S', hS, hE, hX, h, hend⟩ := q
  simp only [evS] at h
  refine sxF_step (ev := evE call e) hS hE hX h hend fun d S1 w1 H1 a e1 hS1 hE1 hX1 ha n1 n2 hfr h1 hend1 => ?_
  cases h1
  refine hend1 w1 _ H1 hS1 (hE1.setOwn i ha n1 n2 (fresh_back hX hS hfr) fun j d _ ej z => ?_) hX1 ExtS.refl
  obtain ⟨b, g2, g3, _⟩ := hE.sl j _ ej
  rw [z] at g2
  cases g2
  exact g3.ne hfr
theorem st_par (g : GoodS T G call N sc fn W k X) {i j : Nat} {a b : Ex} {x y : Str} {px py pt pt2 : Pos} {kt k2 : Nat} {u v : Expr} (hi : N[i]? = some x) (hj : N[j]? = some y) (hij : i ≠ j) (hne : x ≠ y) (hl : (py.line == px.line) = true)
    (hx : sc.names.lookup x = some .local) (hy : sc.names.lookup y = some .local) (nu : notStar u = true) (nv : notStar v = true) (h1 : [u, v].all (foldedForSure 8) = false) (h2 : [u, v].all (constantsAlone 8) = false)
    (ha : JE G W X u (evE call a)) (hb : JE G W X v (evE call b)) : JS G W X (.Assign [.Tuple [.Name x px, .Name y py] kt pt] (.Tuple [u, v] k2 pt2) pos) (evS call turns (.par i j a b)) := by
  have hk : X.env.scope.kind = .function := by rw [g.hsc]; exact g.kind
  have hx' : X.env.scope.names.lookup x = some .local := by rw [g.hsc]; exact hx
  have hy' : X.env.scope.names.lookup y = some .local := by rw [g.hsc]; exact hy
  refine (ps_par g.calm (by rw [g.hN]; exact g.nd) (by rw [g.hN]; exact hi) (by rw [g.hN]; exact hj) hij hx' hy' (pa_cons ha (pa_cons hb pa_nil (starEach_cons nv)) (starEach_cons nu)) (swp hk hx' hy' hl hne nu nv h1 h2) (swapsSole (.inl rfl))).imp fun D σ H q => ?_
  obtain ⟨w0, H0, w, ε, S, f, S', hS, hE, hX, h, hend⟩ := q
  simp only [evS] at h
  refine sx_step (ev := evE call a) hS hE hX h hend fun d S1 w1 H1 v e1 hS1 hE1 hX1 r1 h1 hend1 => ?_
  refine sx_step (ev := evE call b) hS1 hE1 hX1 h1 hend1 fun d2 S2 w2 H2 v2 e2 hS2 hE2 hX2 r2 h2 hend2 => ?_
  cases h2
  exact ⟨v, v2, rfl, hend2 w2 _ H2 hS2 ((hE2.set (RV.ext e2 _ _ r1) i).set r2 j) hX2 ExtS.refl⟩
theorem st_frz {i : Nat} {s : Sm} {st : Stmt} (h : JS G W X st (evS call turns s)) : JS G W X st (evS call turns (.frz i s)) := by
  refine h.imp fun D σ H q => ?_
  obtain ⟨w0, H0, w, ε, S, f, S', hS, hE, hX, h, hend⟩ := q
  simp only [evS] at h
  split at h
  · rename_i d e
    obtain ⟨a, h1, h2, h3, h4, h5⟩ := hE.freeze e
    exact ⟨w0, H0, w.imm a h2, _, S, f, S', rst_own hS h2 h1.ne, h5 h2, ⟨hX.ρ, fun b hb => .inl (hX.Φ b hb), fun b hb => by
      rcases hb with hb | hb
      · exact hX.new b hb
      · subst hb; exact .inr h4, hX.keep⟩, h, endP_ext (exts_own h2) hend⟩
  · exact ⟨w0, H0, w, ε, S, f, S', hS, hE, hX, h, hend⟩
theorem st_aug (g : GoodS T G call N sc fn W k X) {i : Nat} {o : BOp} {e : Ex} {y : Str} {x : Expr} (hi : N[i]? = some y) (hy : fn y = true) (he : JE G W X x (evE call e)) : JS G W X (.AugAssign (.Name y p1) (bopN o) x pos) (evS call turns (.aug i o e)) := by
  obtain ⟨hl, hfn⟩ := g.hfn y hy
  refine (ps_aug (by rw [g.hN]; exact g.nd) (by rw [g.hN]; exact hi) (by rw [g.hsc]; exact hl) he (aug_ok o) (by rw [g.hsc]; exact hfn)).imp fun D σ H q => ?_
  obtain ⟨w0, H0, w, ε, S, f, S', hS, hE, hX, h, hend⟩ := q
  simp only [evS] at h
  split at h
  · rename_i x0 e0
    obtain ⟨v0, s0, r0⟩ := hE.sl i _ e0
    simp only [RV] at r0
    subst r0
    refine ⟨_, s0, ?_⟩
    refine sx_step (ev := evE call e) hS hE hX h hend fun d S1 w1 H1 v e1 hS1 hE1 hX1 r1 h1 hend1 => ?_
    cases d <;> try cases h1
    rename_i y0
    simp only [RV] at r1
    subst r1
    dsimp only at h1
    split at h1
    · rename_i z hz
      cases h1
      have : ∃ zi, z = .int zi := by
        cases o <;> simp only [binF] at hz <;> first | (cases hz; exact ⟨_, rfl⟩) | (split at hz <;> first | (cases hz; exact ⟨_, rfl⟩) | cases hz)
      obtain ⟨zi, rfl⟩ := this
      exact ⟨_, _, zi, rfl, rfl, hz, hend1 w1 _ H1 hS1 (hE1.set RV_int i) hX1 ExtS.refl⟩
    · cases h1
  · cases h
theorem stores_star {ts : List Expr} {a : Nat} {b : Pos} {v : Expr} {env : PySem.Env} (h : isTup v = false) : swappedStores [.Tuple ts a b] v env = pure none := by
  cases v <;> first | rfl | (simp [isTup] at h)
theorem st_star (g : GoodS T G call N sc fn W k X) {i j kt : Nat} {e : Ex} {x y : Str} {v : Expr} {sp pt : Pos} (hi : N[i]? = some x) (hj : N[j]? = some y) (hx : fn x = true) (hy : fn y = true) (he : JE G W X v (evE call e)) (hv : isTup v = false) :
    JS G W X (.Assign [.Tuple [.Name x p1, .Starred (.Name y p2) sp] kt pt] v pos) (evS call turns (.star i j e)) := by
  obtain ⟨hl1, hf1⟩ := g.hfn x hx
  obtain ⟨hl2, hf2⟩ := g.hfn y hy
  have hN : X.N.Nodup := by rw [g.hN]; exact g.nd
  refine (ps_asg he (pg_star (i := i) (j := j) g.calm hN (by rw [g.hN]; exact hi) (by rw [g.hN]; exact hj) (by rw [g.hsc]; exact hl1) (by rw [g.hsc]; exact hl2) (by rw [g.hsc]; exact hf1) (by rw [g.hsc]; exact hf2)) (swapsSole (.inr rfl)) (stores_star hv) rfl).imp fun D σ H q => ?_
  obtain ⟨w0, H0, w, ε, S, f, S', hS, hE, hX, h, hend⟩ := q
  simp only [evS] at h
  refine sx_step (ev := evE call e) hS hE hX h hend fun d S1 w1 H1 u e1 hS1 hE1 hX1 r1 h1 hend1 => ?_
  have fin : ∀ {d0 : BX.D} {l : List BX.D} {v0 : V} {vr : List V} {q : Addr}, RV G.K w1 H1 v0 d0 → RVs G.K w1 H1 vr l → R.ok (Fl.nx ((ε.set i (.val d0)).set j (.val (.lst l)))) S1 = .ok f S' → H1 q = none → D.nx ((σ.set i (some v0)).set j (some (.ref q))) (upd H1 q (.lst vr)) := by
    intro d0 l v0 vr q r2 r3 h2 hq
    cases h2
    have eX := ext_imm (o := HO.lst vr) hS1 hq
    exact hend1 _ _ _ (rst_imm hS1 hq) (((hE1.ext eX).set (RV.ext eX _ _ r2) i).set (rv_lst hS1 hq r3) j) (hX1.trans eX) eX.toS
  split at h1
  · split at h1
    · rename_i d0 l hz
      simp only [RV, RVs] at r1
      obtain ⟨a, vs, rfl, r2, v0, vr, rfl, r3, r4⟩ := r1
      exact ⟨a, v0, vr, rfl, .inl (.inl r2.2), by rw [r4.length]; exact hz, fun q hq => fin r3 r4 h1 hq⟩
    · cases h1
  · split at h1
    · rename_i d0 l hz
      simp only [RV, RVs] at r1
      obtain ⟨a, vs, rfl, r2, v0, vr, rfl, r3, r4⟩ := r1
      exact ⟨a, v0, vr, rfl, .inr (g.lw.hK ▸ r2.sq), by rw [r4.length]; exact hz, fun q hq => fin r3 r4 h1 hq⟩
    · cases h1
  · cases h1
theorem st_set (g : GoodS T G call N sc fn W k X) {a i e : Ex} {o kx x : Expr} (hn : notSlice kx = true) (hc : notComp x = true) (he : JE G W X x (evE call e)) (ha : JE G W X o (evE call a)) (hi : JE G W X kx (evE call i)) :
    JS G W X (.Assign [.Subscript o kx p1] x pos) (evS call turns (.set a i e)) := by
  refine (ps_asg he (pg_sub ha hi set_list (assign_sub hn)) (swapsSole (.inl hc)) (stores_none (by cases x <;> rfl)) rfl).imp fun D σ H q => ?_
  obtain ⟨w0, H0, w, ε, S, f, S', hS, hE, hX, h, hend⟩ := q
  simp only [evS] at h
  refine sx_step (ev := evE call e) hS hE hX h hend fun d S1 w1 H1 v e1 hS1 hE1 hX1 r1 h1 hend1 => ?_
  refine sx_step (ev := evE call a) hS1 hE1 hX1 h1 hend1 fun d2 S2 w2 H2 v2 e2 hS2 hE2 hX2 r2 h2 hend2 => ?_
  refine sx_step (ev := evE call i) hS2 hE2 hX2 h2 hend2 fun d3 S3 w3 H3 v3 e3 hS3 hE3 hX3 r3 h3 hend3 => ?_
  have r1' := RV.ext e3 _ _ (RV.ext e2 _ _ r1)
  have r2' := RV.ext e3 _ _ r2
  cases hset : setL d2 d3 d S3 with
  | none => rw [hset] at h3; cases h3
  | some S4 =>
    rw [hset] at h3
    cases h3
    unfold setL at hset
    split at hset
    · rename_i n ki
      split at hset
      · rename_i l el
        cases hj : ixN l.length ki with
        | none => rw [hj] at hset; cases hset
        | some j =>
          rw [hj] at hset
          cases hset
          simp only [RV] at r2' r3
          obtain ⟨p, hp, rfl⟩ := r2'
          subst r3
          obtain ⟨p', hp', vs, hH, hv⟩ := hS3.ob n _ el
          rw [hp] at hp'
          cases hp'
          have hn : n < S3.length := (List.getElem?_eq_some_iff.mp el).1
          have hm : p ∈ w3.ρ := List.mem_of_getElem? hp
          refine ⟨p, vs, ki, j, rfl, rfl, hH, by rw [hv.length]; exact hj, ?_⟩
          refine hend3 w3 σ _ (rst_set hS3 hp hn (RVs.set r1' j hv)) (hE3.ext (ext_set hm)) (hX3.trans (ext_set hm)) (ext_set hm).toS
      · cases hset
    · cases hset
theorem st_app (g : GoodS T G call N sc fn W k X) {i : Nat} {e : Ex} {y : Str} {x : Expr} {ap cp : Pos} (hi : N[i]? = some y) (hy : visB sc y = true) (hn : notStar x = true) (hl : (ap.endLine == cp.line) = true) (he : JE G W X x (evE call e)) :
    JS G W X (.Expr (.Call (.Attribute (.Name y p1) "append" ap) [x] [] cp) pos) (evS call turns (.app i e)) := by
  obtain ⟨hv, hd, hcd⟩ := vis_of hy
  have hs := starEach_cons (xs := []) (env := X.env) hn
  refine (ps_expr (pe_bm PySem.F.plainAttrs_list PySem.F.slot_list_append PySem.F.type_list_append mt_append (pe_var (by rw [g.hN]; exact hi) (by rw [g.hsc]; exact hv) hd hcd) (pa_cons he pa_nil hs) rfl (by rw [hs]; rfl) hl hs rfl) rfl).imp fun D σ H q => ?_
  obtain ⟨w0, H0, w, ε, S, f, S', hS, hE, hX, h, hend⟩ := q
  simp only [evS] at h
  split at h
  · rename_i l e0
    obtain ⟨a, s0, ⟨vs, h1, h2⟩, h3, h4, h5⟩ := hE.sl i _ e0
    refine ⟨.ref a, s0, .inl ⟨rfl, _, .inl (.inl h1)⟩, ?_⟩
    refine sx_step (ev := evE call e) hS hE hX h hend fun d S1 w1 H1 v e1 hS1 hE1 hX1 r1 h6 hend1 => ?_
    split at h6
    · rename_i hz
      cases h6
      have hn : H a ≠ none := by rw [h1]; exact fun z => nomatch z
      have k1 : H1 a = some (.lst vs) := e1.keep a _ h1 h3
      have k2 := e1.out hn h3
      have k3 := e1.outΦ hn h4
      have rv := RVs.ext e1 _ _ h2
      refine ⟨a, vs, v, rfl, rfl, k1, by rw [rv.length]; exact hz, ?_⟩
      have rv2 : RVs G.K w1 H1 (vs ++ [v]) (l ++ [d]) := rv.append (by simp only [RVs]; exact ⟨v, [], rfl, r1, rfl⟩)
      refine hend1 w1 σ _ (rst_upd hS1 k2 k3) (hE1.grow e0 s0 k2 k3 h5 rv2) ⟨hX1.ρ, hX1.Φ, hX1.new, fun b o hb hnb => ?_⟩ (exts_upd k3)
      have : b ≠ a := fun z => by subst z; rw [h5] at hb; cases hb
      rw [upd_ne this]
      exact hX1.keep b o hb hnb
    · cases h6
  · cases h
theorem st_setO (g : GoodS T G call N sc fn W k X) {i : Nat} {kk e : Ex} {y : Str} {kx x : Expr} {py : Pos} (hi : N[i]? = some y) (hy : visB sc y = true) (hn : notSlice kx = true) (hc : notComp x = true) (he : JE G W X x (evE call e)) (hk : JE G W X kx (evE call kk)) :
    JS G W X (.Assign [.Subscript (.Name y py) kx p1] x pos) (evS call turns (.setO i kk e)) := by
  obtain ⟨hv, hd, hcd⟩ := vis_of hy
  refine (ps_asg he (pg_sub (pe_var (by rw [g.hN]; exact hi) (by rw [g.hsc]; exact hv) hd hcd) hk set_list (assign_sub hn)) (swapsSole (.inl hc)) (stores_none (by cases x <;> rfl)) rfl).imp fun D σ H q => ?_
  obtain ⟨w0, H0, w, ε, S, f, S', hS, hE, hX, h, hend⟩ := q
  simp only [evS] at h
  refine sx_step (ev := evE call e) hS hE hX h hend fun d S1 w1 H1 v e1 hS1 hE1 hX1 r1 h1 hend1 => ?_
  split at h1
  · rename_i l e0
    obtain ⟨a, s0, ⟨vs, g1, g2⟩, g3, g4, g5⟩ := hE1.sl i _ e0
    refine ⟨.ref a, s0, ?_⟩
    refine sx_step (ev := evE call kk) hS1 hE1 hX1 h1 hend1 fun d2 S2 w2 H2 v2 e2 hS2 hE2 hX2 r2 h2 hend2 => ?_
    obtain ⟨a2, s2, ⟨us, k1, k2⟩, k3, k4, k5⟩ := hE2.sl i _ e0
    rw [s0] at s2
    cases s2
    cases d2 <;> try cases h2
    rename_i z
    simp only [RV] at r2
    subst r2
    dsimp only at h2
    cases hj : ixN l.length z with
    | none => rw [hj] at h2; cases h2
    | some j =>
      rw [hj] at h2
      cases h2
      refine ⟨a, us, z, j, rfl, rfl, k1, by rw [k2.length]; exact hj, ?_⟩
      have rv2 := RVs.set (RV.ext e2 _ _ r1) j k2
      refine hend2 w2 σ _ (rst_upd hS2 k3 k4) (hE2.grow e0 s0 k3 k4 k5 rv2) ⟨hX2.ρ, hX2.Φ, hX2.new, fun b o hb hnb => ?_⟩ (exts_upd k4)
      have : b ≠ a := fun z => by subst z; rw [k5] at hb; cases hb
      rw [upd_ne this]
      exact hX2.keep b o hb hnb
  · cases h1
theorem aug_store {kx : Expr} (h : notSlice kx = true) : ∀ ov iv new, augStore kx ov iv new = (do holding [new, ov, iv] (setItem ov iv new); release [new, ov, iv] []; pure .next) := by
  intro ov iv new
  cases kx <;> first | rfl | (simp [notSlice] at h)
theorem st_augO (g : GoodS T G call N sc fn W k X) {i : Nat} {o : BOp} {kk e : Ex} {y : Str} {kx x : Expr} {py : Pos} (hi : N[i]? = some y) (hy : visB sc y = true) (hn : notSlice kx = true) (he : JE G W X x (evE call e)) (hk : JE G W X kx (evE call kk)) :
    JS G W X (.AugAssign (.Subscript (.Name y py) kx p1) (bopN o) x pos) (evS call turns (.augO i kk o e)) := by
  obtain ⟨hv, hd, hcd⟩ := vis_of hy
  refine (ps_augS (pe_var (by rw [g.hN]; exact hi) (by rw [g.hsc]; exact hv) hd hcd) hk get_lst he (aug_ok o) set_list (aug_store hn)).imp fun D σ H q => ?_
  obtain ⟨w0, H0, w, ε, S, f, S', hS, hE, hX, h, hend⟩ := q
  simp only [evS] at h
  split at h
  · rename_i l e0
    obtain ⟨a, s0, ⟨vs, g1, g2⟩, g3, g4, g5⟩ := hE.sl i _ e0
    refine ⟨.ref a, s0, ?_⟩
    refine sx_step (ev := evE call kk) hS hE hX h hend fun d1 S1 w1 H1 v1 e1 hS1 hE1 hX1 r1 h1 hend1 => ?_
    obtain ⟨a1, s1, ⟨us, k1, k2⟩, k3, k4, k5⟩ := hE1.sl i _ e0
    rw [s0] at s1
    cases s1
    cases d1 <;> try cases h1
    rename_i z
    simp only [RV] at r1
    subst r1
    dsimp only at h1
    split at h1
    · rename_i xo j hx hj
      obtain ⟨vx, hvx, rvx⟩ := RVs.atI k2 hx
      simp only [RV] at rvx
      subst rvx
      refine ⟨a, us, z, _, rfl, rfl, .inl (.inl k1), hvx, ?_⟩
      refine sx_step (ev := evE call e) hS1 hE1 hX1 h1 hend1 fun d2 S2 w2 H2 v2 e2 hS2 hE2 hX2 r2 h2 hend2 => ?_
      obtain ⟨a2, s2, ⟨us2, m1, m2⟩, m3, m4, m5⟩ := hE2.sl i _ e0
      rw [s0] at s2
      cases s2
      cases d2 <;> try cases h2
      rename_i y0
      simp only [RV] at r2
      subst r2
      dsimp only at h2
      split at h2
      · rename_i zz hz
        cases h2
        have : ∃ zi, zz = .int zi := by
          cases o <;> simp only [binF] at hz <;> first | (cases hz; exact ⟨_, rfl⟩) | (split at hz <;> first | (cases hz; exact ⟨_, rfl⟩) | cases hz)
        obtain ⟨zi, rfl⟩ := this
        refine ⟨xo, y0, zi, rfl, rfl, hz, ?_⟩
        refine ⟨a, us2, z, j, rfl, rfl, m1, by rw [m2.length]; exact hj, ?_⟩
        have rv2 := RVs.set (K := G.K) (w := w2) (H := H2) (d := .int zi) (v := .int zi) RV_int j m2
        refine hend2 w2 σ _ (rst_upd hS2 m3 m4) (hE2.grow e0 s0 m3 m4 m5 rv2) ⟨hX2.ρ, hX2.Φ, hX2.new, fun b o hb hnb => ?_⟩ (exts_upd m4)
        have : b ≠ a := fun z => by subst z; rw [m5] at hb; cases hb
        rw [upd_ne this]
        exact hX2.keep b o hb hnb
      · cases h2
    · cases h1
  · cases h
theorem swapsT {t x : Expr} {l : Nat} {env : PySem.Env} (h : isName t = false) : swapsWith x (some t) l env = pure false := swapsSole (tx := t) (.inr h)
theorem st_setOD (g : GoodS T G call N sc fn W k X) {i : Nat} {kk e : Ex} {y : Str} {kx x : Expr} {py : Pos} (hi : N[i]? = some y) (hy : visB sc y = true) (he : JE G W X x (evE call e)) (hk : JE G W X kx (evE call kk)) :
    JS G W X (.Assign [.Subscript (.Name y py) kx p1] x pos) (evS call turns (.setOD i kk e)) := by
  obtain ⟨hv, hd, hcd⟩ := vis_of hy
  have hu : X.A.units + 1 < cLine := by have := g.room.units; omega
  refine (ps_dput hu (pe_var (by rw [g.hN]; exact hi) (by rw [g.hsc]; exact hv) hd hcd) hk he (swapsT rfl)).imp fun D σ H q => ?_
  obtain ⟨w0, H0, w, ε, S, f, S', hS, hE, hX, h, hend⟩ := q
  simp only [evS] at h
  refine sx_step (ev := evE call e) hS hE hX h hend fun d S1 w1 H1 v e1 hS1 hE1 hX1 r1 h1 hend1 => ?_
  split at h1
  · rename_i ks vs e0
    obtain ⟨a, s0, _⟩ := hE1.sl i _ e0
    refine ⟨.ref a, s0, ?_⟩
    refine sx_step (ev := evE call kk) hS1 hE1 hX1 h1 hend1 fun d2 S2 w2 H2 v2 e2 hS2 hE2 hX2 r2 h2 hend2 => ?_
    obtain ⟨a2, s2, ⟨kvs, k1, k2, k6⟩, k3, k4, k5⟩ := hE2.sl i _ e0
    rw [s0] at s2
    cases s2
    split at h2
    · rename_i q hq
      split at h2
      · rename_i hlt
        cases h2
        obtain rfl := key_of (.inl r2) hq
        obtain ⟨p1, p2⟩ := put_rel k2 k6 (RV.ext e2 _ _ r1) q
        refine ⟨a, _, rfl, .k k1 (by rw [kvs_len k2]; exact hlt), ?_⟩
        refine hend2 w2 σ _ (rst_upd hS2 k3 k4) (hE2.growD e0 s0 k3 k4 k5 p1 p2) ⟨hX2.ρ, hX2.Φ, hX2.new, fun b o hb hnb => ?_⟩ (exts_upd k4)
        have : b ≠ a := fun z => by subst z; rw [k5] at hb; cases hb
        rw [upd_ne this]
        exact hX2.keep b o hb hnb
      · cases h2
    · cases h2
  · cases h1
theorem st_setD (g : GoodS T G call N sc fn W k X) {a kk e : Ex} {o kx x : Expr} (he : JE G W X x (evE call e)) (ha : JE G W X o (evE call a)) (hk : JE G W X kx (evE call kk)) :
    JS G W X (.Assign [.Subscript o kx p1] x pos) (evS call turns (.setD a kk e)) := by
  have hu : X.A.units + 1 < cLine := by have := g.room.units; omega
  refine (ps_dput hu ha hk he (swapsT rfl)).imp fun D σ H q => ?_
  obtain ⟨w0, H0, w, ε, S, f, S', hS, hE, hX, h, hend⟩ := q
  simp only [evS] at h
  refine sx_step (ev := evE call e) hS hE hX h hend fun d S1 w1 H1 v e1 hS1 hE1 hX1 r1 h1 hend1 => ?_
  refine sx_step (ev := evE call a) hS1 hE1 hX1 h1 hend1 fun d2 S2 w2 H2 v2 e2 hS2 hE2 hX2 r2 h2 hend2 => ?_
  refine sx_step (ev := evE call kk) hS2 hE2 hX2 h2 hend2 fun d3 S3 w3 H3 v3 e3 hS3 hE3 hX3 r3 h3 hend3 => ?_
  have r1' := RV.ext e3 _ _ (RV.ext e2 _ _ r1)
  have r2' := RV.ext e3 _ _ r2
  cases hset : setDS d2 d3 d S3 with
  | none => rw [hset] at h3; cases h3
  | some S4 =>
    rw [hset] at h3
    cases h3
    unfold setDS at hset
    split at hset
    · rename_i n
      split at hset
      · rename_i ks vs q el hq
        split at hset
        · rename_i hlt
          cases hset
          simp only [RV] at r2'
          obtain ⟨p, hp, rfl⟩ := r2'
          obtain ⟨p', hp', kvs, hH, hk2, hv⟩ := hS3.ob n _ el
          rw [hp] at hp'
          cases hp'
          obtain rfl := key_of (.inl r3) hq
          obtain ⟨q1, q2⟩ := put_rel hk2 hv r1' q
          have hn : n < S3.length := (List.getElem?_eq_some_iff.mp el).1
          have hm : p ∈ w3.ρ := List.mem_of_getElem? hp
          refine ⟨p, _, rfl, .k hH (by rw [kvs_len hk2]; exact hlt), ?_⟩
          exact hend3 w3 σ _ (rst_setD hS3 hp hn q1 q2) (hE3.ext (ext_set hm)) (hX3.trans (ext_set hm)) (ext_set hm).toS
        · cases hset
      · cases hset
    · cases hset
theorem put_fld {K : PySem.W.Frag} {w : Wd} {H : Hp} {f : Str} {v : V} {d : BX.D} (hv : RV K w H v d) : ∀ {fv : List (Str × V)} {fs : List (Str × BX.D)}, fv.map (·.1) = fs.map (·.1) → RVs K w H (fv.map (·.2)) (fs.map (·.2)) →
    (putF f v fv).map (·.1) = (putFD f d fs).map (·.1) ∧ RVs K w H ((putF f v fv).map (·.2)) ((putFD f d fs).map (·.2))
  | [], [], _, _ => by simp only [putF, putFD, List.map_cons, List.map_nil, RVs]; exact ⟨trivial, v, [], rfl, hv, rfl⟩
  | [], _ :: _, h, _ => by simp at h
  | _ :: _, [], h, _ => by simp at h
  | (a, x) :: fv, (b, y) :: fs, h, r => by
    simp only [List.map_cons, List.cons.injEq] at h
    obtain ⟨rfl, h⟩ := h
    simp only [List.map_cons, RVs] at r
    obtain ⟨x', r', e, r1, r2⟩ := r
    cases e
    simp only [putF, putFD]
    split
    · simp only [List.map_cons, RVs]
      exact ⟨by rw [h], v, _, rfl, hv, r2⟩
    · obtain ⟨i1, i2⟩ := put_fld hv h r2
      simp only [List.map_cons, RVs]
      exact ⟨by rw [i1], x, _, rfl, r1, i2⟩
theorem putFD_keys {f : Str} {d : BX.D} : ∀ {fs : List (Str × BX.D)} {g : Str}, g ∈ (putFD f d fs).map (·.1) → g = f ∨ g ∈ fs.map (·.1)
  | [], g, h => by simp only [putFD, List.map_cons, List.map_nil, List.mem_singleton] at h; exact .inl h
  | (a, x) :: fs, g, h => by
    simp only [putFD] at h
    split at h
    · exact .inr h
    · simp only [List.map_cons, List.mem_cons] at h ⊢
      rcases h with h | h
      · exact .inr (.inl h)
      · rcases putFD_keys h with h | h
        · exact .inl h
        · exact .inr (.inr h)
theorem st_setF (g : GoodS T G call N sc fn W k X) {a e : Ex} {c f : Str} {o x : Expr} (hc : T.fldB c f = true) (he : JE G W X x (evE call e)) (ha : JE G W X o (evE call a)) :
    JS G W X (.Assign [.Attribute o f p1] x pos) (evS call turns (.setF a c f e)) := by
  refine (ps_fld ha he (swapsT rfl)).imp fun D σ H q => ?_
  obtain ⟨w0, H0, w, ε, S, fl, S', hS, hE, hX, h, hend⟩ := q
  simp only [evS] at h
  refine sx_step (ev := evE call e) hS hE hX h hend fun d S1 w1 H1 v e1 hS1 hE1 hX1 r1 h1 hend1 => ?_
  refine sx_step (ev := evE call a) hS1 hE1 hX1 h1 hend1 fun d2 S2 w2 H2 v2 e2 hS2 hE2 hX2 r2 h2 hend2 => ?_
  have r1' := RV.ext e2 _ _ r1
  cases hset : setFS d2 c f d S2 with
  | none => rw [hset] at h2; cases h2
  | some S4 =>
    rw [hset] at h2
    cases h2
    unfold setFS at hset
    split at hset
    · rename_i n
      split at hset
      · rename_i c' fs el
        split at hset
        · rename_i hh
          obtain ⟨rfl, hlt⟩ := hh
          cases hset
          simp only [RV] at r2
          obtain ⟨p, hp, rfl⟩ := r2
          obtain ⟨p', hp', C, dx, fv, hcl, hH, hF, hC, hno⟩ := hS2.ob n _ el
          rw [hp] at hp'
          cases hp'
          obtain ⟨q1, q2⟩ := put_fld (f := f) r1' hF.ks hF.vs
          have hn : n < S2.length := (List.getElem?_eq_some_iff.mp el).1
          have hm : p ∈ w2.ρ := List.mem_of_getElem? hp
          have hl : fv.length = fs.length := by have := congrArg List.length hF.ks; simpa using this
          have hnf : NoAttr G.K C f := by rw [g.lw.hK]; exact g.lw.fld _ f C hc hcl
          refine ⟨p, C, dx, fv, rfl, hH, g.lw.hK ▸ hC, g.lw.hK ▸ hnf, by rw [hl]; exact hlt, ?_⟩
          refine hend2 w2 σ _ (rst_setO hS2 hp hn ⟨C, dx, _, hcl, upd_same, ⟨q1, RVs.exts (exts_obj hm) _ _ q2⟩, hC, fun f2 hf2 => ?_⟩) (hE2.ext (ext_set hm)) (hX2.trans (ext_set hm)) (ext_set hm).toS
          rcases putFD_keys hf2 with rfl | hf2
          · exact hnf
          · exact hno f2 hf2
        · cases hset
      · cases hset
    · cases hset
theorem st_popD (g : GoodS T G call N sc fn W k X) {a kk : Ex} {o kx : Expr} {ap cp : Pos} (h0 : notCall0 o = true) (hn : notStar kx = true) (hl : (ap.endLine == cp.line) = true) (ha : JE G W X o (evE call a)) (hk : JE G W X kx (evE call kk)) :
    JS G W X (.Expr (.Call (.Attribute o "pop" ap) [kx] [] cp) pos) (evS call turns (.popD a kk)) := by
  refine (ps_expr (pe_dpop1 ha hk (m1_of h0 hn hl)) (swapsExpr rfl)).imp fun D σ H q => ?_
  obtain ⟨w0, H0, w, ε, S, f, S', hS, hE, hX, h, hend⟩ := q
  simp only [evS] at h
  refine sx_step (ev := evE call a) hS hE hX h hend fun d2 S2 w2 H2 v2 e2 hS2 hE2 hX2 r2 h2 hend2 => ?_
  split at h2
  · rename_i hd
    unfold isDct at hd
    split at hd
    · rename_i n
      split at hd
      · rename_i ks0 vs0 el0
        have r2c := r2
        simp only [RV] at r2c
        obtain ⟨p, hp, rfl⟩ := r2c
        obtain ⟨p', hp', kvs0, hH0, _, _⟩ := hS2.ob n _ el0
        rw [hp] at hp'
        cases hp'
        refine ⟨p, rfl, .inl ⟨kvs0, .inl hH0⟩, ?_⟩
        refine sx_step (ev := evE call kk) hS2 hE2 hX2 h2 hend2 fun d3 S3 w3 H3 v3 e3 hS3 hE3 hX3 r3 h3 hend3 => ?_
        have hp3 := e3.at hp
        cases hset : popDS (.ref n) d3 S3 with
        | none => rw [hset] at h3; cases h3
        | some S4 =>
          rw [hset] at h3
          cases h3
          simp only [popDS] at hset
          split at hset
          · rename_i ks vs q el hq
            split at hset
            · rename_i hhas
              cases hset
              obtain ⟨p', hp', kvs, hH, hk2, hv⟩ := hS3.ob _ _ el
              rw [hp3] at hp'
              cases hp'
              obtain rfl := key_of (.inl r3) hq
              obtain ⟨q1, q2⟩ := drop_rel hk2 hv q
              have hn : _ < S3.length := (List.getElem?_eq_some_iff.mp el).1
              have hm : p ∈ w3.ρ := List.mem_of_getElem? hp3
              rw [getK_isSome hk2 hv] at hhas
              obtain ⟨u, hu⟩ := Option.isSome_iff_exists.mp hhas
              refine ⟨kvs, q, u, hH, rfl, hu, ?_⟩
              exact hend3 w3 σ _ (rst_setD hS3 hp3 hn q1 q2) (hE3.ext (ext_set hm)) (hX3.trans (ext_set hm)) (ext_set hm).toS
            · cases hset
          · cases hset
      · cases hd
    · cases hd
  · cases h2
theorem st_popO (g : GoodS T G call N sc fn W k X) {i : Nat} {t : Tg} {y : Str} {tx : Expr} {ap cp : Pos} (hi : N[i]? = some y) (hy : visB sc y = true) (hl : (ap.endLine == cp.line) = true) (hn : notStar tx = true) (ht : chT N fn t tx = true) :
    JS G W X (.Assign [tx] (.Call (.Attribute (.Name y p1) "pop" ap) [] [] cp) pos) (evS call turns (.popO t i)) := by
  obtain ⟨hv, hd, hcd⟩ := vis_of hy
  have hp : PE X (.Call (.Attribute (.Name y p1) "pop" ap) [] [] cp) _ := pe_bm0 PySem.F.plainAttrs_list PySem.F.slot_list_pop PySem.F.type_list_pop mt_pop (pe_var (by rw [g.hN]; exact hi) (by rw [g.hsc]; exact hv) hd hcd) rfl hl
  refine (ps_asg hp (s_tg g.toGood t tx ht) (swapsSole (.inl rfl)) (by cases tx <;> rfl) (by rw [notStarEach hn]; rfl)).imp fun D σ H q => ?_
  obtain ⟨w0, H0, w, ε, S, f, S', hS, hE, hX, h, hend⟩ := q
  simp only [evS] at h
  split at h
  · rename_i l e0
    obtain ⟨a, s0, ⟨vs, g1, g2⟩, g3, g4, g5⟩ := hE.sl i _ e0
    split at h
    · rename_i d hd
      split at h
      · rename_i ε' hset
        cases h
        rw [List.getLast?_eq_getElem?] at hd
        obtain ⟨u, hu, ru⟩ := g2.get hd
        refine ⟨.ref a, s0, .inl ⟨rfl, _, .inl (.inl g1)⟩, a, vs, u, rfl, rfl, g1, by rw [g2.length]; exact hu, ?_⟩
        have rv2 : RVs G.K w H vs.dropLast l.dropLast := by
          rw [List.dropLast_eq_take, List.dropLast_eq_take, g2.length]
          exact g2.take _
        refine ⟨w, H0, _, d, ε', hE.grow e0 s0 g3 g4 g5 rv2, RV.exts (exts_upd g4) _ _ ru, hset, fun σ' hE' _ => ?_⟩
        refine hend w σ' _ (rst_upd hS g3 g4) hE' ⟨hX.ρ, hX.Φ, hX.new, fun b o hb hnb => ?_⟩ (exts_upd g4)
        have : b ≠ a := fun z => by subst z; rw [g5] at hb; cases hb
        rw [upd_ne this]
        exact hX.keep b o hb hnb
      · cases h
    · cases h
  · cases h
theorem iop_extR : OpR X (inplaceOp .Add) (fun x y H Q => ∃ l b xs zs, x = .ref l ∧ y = .ref b ∧ H l = some (.lst xs) ∧ Rd H b (.lst zs) ∧ xs.length + zs.length ≤ sizeLine ∧ Q (.ref l) (upd H l (.lst (xs ++ zs)))) := by
  intro pins s σ H x y v u Q I rx ry h
  obtain ⟨l, b, xs, zs, rfl, rfl, hH, hB, hz, q⟩ := h
  cases rx
  cases ry
  obtain ⟨z, its, n, r, hl, e⟩ := I.lstM hH
  obtain ⟨z2, its2, n2, r2, e2⟩ := hB.ok I.hok
  have hl2 := r2.length
  have hsz : its.toArray.size + its2.toArray.size ≤ sizeLine := by rw [List.size_toArray, List.size_toArray]; omega
  have hlong : ¬ (!its.toArray.isEmpty && Builtin.List.listTooLong (its.toArray.size + its2.toArray.size)) = true := by
    rw [notLongL hsz, Bool.and_false]
    exact Bool.false_ne_true
  refine iadd_road ⟨_, e, rfl⟩ ⟨_, e2, rfl⟩ (call_meets PySem.F.slot_list_iadd ⟨_, e, rfl⟩ PySem.F.entry_list_iadd (PySem.F.args_list_iadd_2 _ _)
    (AutoSeq1.list___iadd___list_list_0 l its.toArray n b its2.toArray n2 hlong (by rw [List.size_toArray]; omega) (by omega)) ⟨e, e2, ?_⟩)
  refine ⟨.ref l, _, I.lset (its' := its ++ its2) (t' := s.toks) hH e (by simp) (r.append r2) ?_, rfl, q⟩
  rw [List.length_append]
  omega
theorem set_self {σ : St} {i : Nat} {v : Option V} (h : σ[i]? = some v) : σ.set i v = σ := by
  refine List.ext_getElem? fun j => ?_
  by_cases hj : i = j
  · subst hj
    rw [List.getElem?_set_self (List.getElem?_eq_some_iff.mp h).1, h]
  · rw [List.getElem?_set_ne hj]
theorem st_extO (g : GoodS T G call N sc fn W k X) {i : Nat} {e : Ex} {y : Str} {x : Expr} (hi : N[i]? = some y) (hy : fn y = true) (he : JE G W X x (evE call e)) : JS G W X (.AugAssign (.Name y p1) .Add x pos) (evS call turns (.extO i e)) := by
  obtain ⟨hl, hfn⟩ := g.hfn y hy
  refine (ps_aug (by rw [g.hN]; exact g.nd) (by rw [g.hN]; exact hi) (by rw [g.hsc]; exact hl) he iop_extR (by rw [g.hsc]; exact hfn)).imp fun D σ H q => ?_
  obtain ⟨w0, H0, w, ε, S, f, S', hS, hE, hX, h, hend⟩ := q
  simp only [evS] at h
  split at h
  · rename_i l e0
    obtain ⟨a, s0, _⟩ := hE.sl i _ e0
    refine ⟨.ref a, s0, ?_⟩
    refine sx_step (ev := evE call e) hS hE hX h hend fun d S1 w1 H1 v e1 hS1 hE1 hX1 r1 h1 hend1 => ?_
    obtain ⟨a2, s2, ⟨vs, g1, g2⟩, g3, g4, g5⟩ := hE1.sl i _ e0
    rw [s0] at s2
    cases s2
    cases d <;> try cases h1
    rename_i m
    dsimp only at h1
    split at h1
    · rename_i hz
      cases h1
      simp only [RV] at r1
      obtain ⟨b, us, rfl, r2, r3⟩ := r1
      refine ⟨a, b, vs, us, rfl, rfl, g1, r2.2, by rw [g2.length, r3.length]; exact hz, ?_⟩
      show D.nx (σ.set i (some (.ref a))) _
      rw [set_self s0]
      refine hend1 w1 σ _ (rst_upd hS1 g3 g4) (hE1.grow e0 s0 g3 g4 g5 (g2.append r3)) ⟨hX1.ρ, hX1.Φ, hX1.new, fun b o hb hnb => ?_⟩ (exts_upd g4)
      have : b ≠ a := fun z => by subst z; rw [g5] at hb; cases hb
      rw [upd_ne this]
      exact hX1.keep b o hb hnb
    · cases h1
  · cases h
theorem st_exp {e : Ex} {x : Expr} (hc : notComp x = true) (he : JE G W X x (evE call e)) : JS G W X (.Expr x pos) (evS call turns (.exp e)) := by
  refine (ps_expr he (swapsExpr hc)).imp fun D σ H q => ?_
  obtain ⟨w0, H0, w, ε, S, f, S', hS, hE, hX, h, hend⟩ := q
  simp only [evS] at h
  refine sx_step (ev := evE call e) hS hE hX h hend fun d S1 w1 H1 v e1 hS1 hE1 hX1 r1 h1 hend1 => ?_
  cases h1
  exact hend1 w1 σ H1 hS1 hE1 hX1 ExtS.refl
theorem st_ret {e : Ex} {x : Expr} (he : JE G W X x (evE call e)) : JS G W X (.Return (some x) pos) (evS call turns (.ret e)) := by
  refine (ps_ret he).imp fun D σ H q => ?_
  obtain ⟨w0, H0, w, ε, S, f, S', hS, hE, hX, h, hend⟩ := q
  simp only [evS] at h
  refine sx_step (ev := evE call e) hS hE hX h hend fun d S1 w1 H1 v e1 hS1 hE1 hX1 r1 h1 hend1 => ?_
  cases h1
  exact hend1 w1 H1 v hS1 hX1 r1
theorem st_retN : JS G W X (.Return none pos) (evS call turns .retN) := by
  refine ps_retN.imp fun D σ H q => ?_
  obtain ⟨w0, H0, w, ε, S, f, S', hS, hE, hX, h, hend⟩ := q
  simp only [evS] at h
  cases h
  exact hend w H .non hS hX RV_non
theorem st_ite {c : Ex} {a b : List Sm} {x : Expr} {y z : List Stmt} (hc : JT G W X x (evT call c)) (ha : JB G W X y (evB call turns a)) (hb : JB G W X z (evB call turns b)) : JS G W X (.If x y z pos) (evS call turns (.ite c a b)) := by
  refine (ps_if hc ha hb).imp fun D σ H q => ?_
  obtain ⟨w0, H0, w, ε, S, f, S', hS, hE, hX, h, hend⟩ := q
  simp only [evS] at h
  refine sx_step (ev := evT call c) hS hE hX h hend fun d S1 w1 H1 v e1 hS1 hE1 hX1 r1 h1 hend1 => ?_
  obtain rfl : v = d := r1
  cases v with
  | true =>
    simp only [if_true] at h1 ⊢
    exact ⟨w0, H0, w1, ε, S1, f, S', hS1, hE1, hX1, h1, hend1⟩
  | false =>
    simp only [Bool.false_eq_true, if_false] at h1 ⊢
    exact ⟨w0, H0, w1, ε, S1, f, S', hS1, hE1, hX1, h1, hend1⟩
theorem st_for (g : GoodS T G call N sc fn W k X) {t : Tg} {it : Itx} {b : List Sm} {tx x : Expr} {y : List Stmt} (hi : JI G W X tx x (evI call it)) (ht : PG X tx (gRd G t)) (hb : JB G W X y (evB call turns b)) (hs : notSet x = true) :
    JS G W X (.For tx x y [] pos) (evS call turns (.for t it b)) := by
  refine (ps_for g.pass g.calm hi ht hb (setIter_of hs)).imp fun D σ H q => ?_
  obtain ⟨w0, H0, w, ε, S, f, S', hS, hE, hX, h, hend⟩ := q
  simp only [evS] at h
  refine sx_step (ev := evI call it) hS hE hX h hend fun ds S1 w1 H1 J e1 hS1 hE1 hX1 wk h1 hend1 => ?_
  generalize hF : (fun (d : BX.D) (ε : BX.Env) (S : Sto) => (match setT t d ε with
    | some ε' => evB call turns b ε' S
    | none => .stuck : R Fl)) = F at h1
  refine ⟨fun i m σ H => m = ds.length - i ∧ i ≤ ds.length ∧ ∃ w' ε' S2, RSt G w' S2 H ∧ REn G.K w' H0 σ H ε' ∧ Ext w0 H0 w' H ∧ ExtS w1 H1 w' H ∧ forL F (ds.drop i) ε' S2 = .ok f S',
    ⟨ds.length, by simp, Nat.zero_le _, w1, ε, S1, hS1, hE1, hX1, ExtS.refl, h1⟩, ?_⟩
  rintro i m σ H ⟨rfl, hile, w', ε', S2, hS', hE', hX', eS, hl⟩
  by_cases hlt : i < ds.length
  · right
    obtain ⟨hgo, hyld⟩ := wk.go w' H S2 eS hS' i ds[i] (by simp [hlt])
    rw [List.drop_eq_getElem_cons hlt] at hl
    simp only [forL] at hl
    refine ⟨hgo, fun σ H => ds.length - (i + 1) = ds.length - (i + 1) ∧ i + 1 ≤ ds.length ∧ ∃ w' ε' S2, RSt G w' S2 H ∧ REn G.K w' H0 σ H ε' ∧ Ext w0 H0 w' H ∧ ExtS w1 H1 w' H ∧ forL F (ds.drop (i + 1)) ε' S2 = .ok f S', fun σ' H' hN => ⟨_, by omega, hN⟩, fun v H'' hy => ?_⟩
    obtain ⟨w2, e2, hS2, r2⟩ := hyld v H'' hy
    have hE2 := hE'.ext e2
    have hX2 := hX'.trans e2
    have eS2 := eS.trans e2.toS
    cases hset : setT t ds[i] ε' with
    | none =>
      have : F ds[i] ε' S2 = .stuck := by rw [← hF]; simp only [hset]
      rw [this] at hl
      cases hl
    | some ε1 =>
      have hFd : F ds[i] ε' S2 = evB call turns b ε1 S2 := by rw [← hF]; simp only [hset]
      rw [hFd] at hl
      refine ⟨w2, H0, ε', ds[i], ε1, hE2, r2, hset, fun σ2 hEs _ => ?_⟩
      cases hB : evB call turns b ε1 S2 with
      | stuck => rw [hB] at hl; cases hl
      | exc _ _ => rw [hB] at hl; cases hl
      | ok f2 S3 =>
        rw [hB] at hl
        simp only [R.bd_ok] at hl
        refine ⟨w0, H0, w2, ε1, S2, f2, S3, hS2, hEs, hX2, hB, ?_⟩
        cases f2 with
        | nx ε2 => exact fun w3 σ3 H3 a b c d => ⟨rfl, hlt, w3, ε2, S3, a, b, c, eS2.trans d, hl⟩
        | ct ε2 => exact fun w3 σ3 H3 a b c d => ⟨rfl, hlt, w3, ε2, S3, a, b, c, eS2.trans d, hl⟩
        | bk ε2 =>
          cases hl
          exact fun w3 σ3 H3 a b c d => hend1 w3 σ3 H3 a b c (eS2.trans d)
        | rt d =>
          cases hl
          exact fun w3 H3 v a b c => hend1 w3 H3 v a b c
        | ex xx ε2 =>
          cases hl
          exact fun w3 σ3 H3 cc dx a b c d => hend1 w3 σ3 H3 cc dx a b c d
  · left
    have hie : i = ds.length := by omega
    subst hie
    simp only [List.drop_length, forL] at hl
    cases hl
    exact ⟨wk.stop w' H eS, hend1 w' σ H hS' hE' hX' eS⟩
theorem st_whl (g : GoodS T G call N sc fn W k X) {c : Ex} {b : List Sm} {x : Expr} {y : List Stmt} (hc : JT G W X x (evT call c)) (hb : JB G W X y (evB call turns b)) : JS G W X (.While x y [] pos) (evS call turns (.whl c b)) := by
  refine (ps_while g.pass hc hb).imp fun D σ H q => ?_
  obtain ⟨w0, H0, w, ε, S, f, S', hS, hE, hX, h, hend⟩ := q
  simp only [evS] at h
  refine ⟨fun m σ H2 => ∃ w' ε' S2, RSt G w' S2 H2 ∧ REn G.K w' H0 σ H2 ε' ∧ Ext w0 H0 w' H2 ∧ ExtS w H w' H2 ∧ whlL (fun ε S => evT call c ε S) (fun ε S => evB call turns b ε S) m ε' S2 = .ok f S',
    ⟨turns, w, ε, S, hS, hE, hX, ExtS.refl, h⟩, ?_⟩
  rintro m σ H2 ⟨w', ε', S2, hS', hE', hX', eS, hl⟩
  cases m with
  | zero => cases hl
  | succ m =>
    simp only [whlL] at hl
    refine sx_step (D := D) (ev := evT call c) hS' hE' hX' hl (endP_ext eS hend) fun d S3 w3 H3 v e3 hS3 hE3 hX3 r3 h3 hend3 => ?_
    obtain rfl : v = d := r3
    have eS3 := eS.trans e3.toS
    cases v with
    | false =>
      simp only [Bool.false_eq_true, if_false] at h3 ⊢
      cases h3
      exact hend3 w3 σ H3 hS3 hE3 hX3 ExtS.refl
    | true =>
      simp only [if_true] at h3 ⊢
      refine ⟨fun σ' H' => ∃ w' ε' S2, RSt G w' S2 H' ∧ REn G.K w' H0 σ' H' ε' ∧ Ext w0 H0 w' H' ∧ ExtS w H w' H' ∧ whlL (fun ε S => evT call c ε S) (fun ε S => evB call turns b ε S) m ε' S2 = .ok f S', fun σ' H' hN => ⟨m, Nat.lt_succ_self m, hN⟩, ?_⟩
      cases hB : evB call turns b ε' S3 with
      | stuck => rw [hB] at h3; cases h3
      | exc _ _ => rw [hB] at h3; cases h3
      | ok f2 S4 =>
        rw [hB] at h3
        simp only [R.bd_ok] at h3
        refine ⟨w0, H0, w3, ε', S3, f2, S4, hS3, hE3, hX3, hB, ?_⟩
        cases f2 with
        | nx ε2 => exact fun w4 σ4 H4 a b c d => ⟨w4, ε2, S4, a, b, c, eS3.trans d, h3⟩
        | ct ε2 => exact fun w4 σ4 H4 a b c d => ⟨w4, ε2, S4, a, b, c, eS3.trans d, h3⟩
        | bk ε2 =>
          cases h3
          exact fun w4 σ4 H4 a b c d => hend3 w4 σ4 H4 a b c d
        | rt d =>
          cases h3
          exact fun w4 H4 v a b c => hend3 w4 H4 v a b c
        | ex xx ε2 =>
          cases h3
          exact fun w4 σ4 H4 cc dx a b c d => hend3 w4 σ4 H4 cc dx a b c d
theorem b_nil : JB G W X [] (evB call turns []) := by
  refine pss_nil.imp fun D σ H q => ?_
  obtain ⟨w0, H0, w, ε, S, f, S', hS, hE, hX, h, hend⟩ := q
  simp only [evB] at h
  cases h
  exact hend w σ H hS hE hX ExtS.refl
theorem b_cons {s : Sm} {ss : List Sm} {st : Stmt} {sts : List Stmt} (h1 : JS G W X st (evS call turns s)) (h2 : JB G W X sts (evB call turns ss)) : JB G W X (st :: sts) (evB call turns (s :: ss)) := by
  refine (pss_cons h1 h2).imp fun D σ H q => ?_
  obtain ⟨w0, H0, w, ε, S, f, S', hS, hE, hX, h, hend⟩ := q
  simp only [evB] at h
  cases hs : evS call turns s ε S with
  | stuck => rw [hs] at h; cases h
  | exc _ _ => rw [hs] at h; cases h
  | ok f1 S1 =>
    rw [hs] at h
    simp only [R.bd_ok] at h
    refine ⟨w0, H0, w, ε, S, f1, S1, hS, hE, hX, hs, ?_⟩
    cases f1 with
    | nx ε1 => exact fun w2 σ2 H2 a b c d => ⟨w0, H0, w2, ε1, S1, f, S', a, b, c, h, endP_ext d hend⟩
    | ct ε1 => cases h; exact hend
    | bk ε1 => cases h; exact hend
    | rt d => cases h; exact hend
    | ex xx ε1 => cases h; exact hend
end
mutual
theorem sS {T : Tb} {G : Gx} {call : Call} {N : List Str} {k turns : Nat} {sc : Scope} {fn : Str → Bool} {W : WX} {X : Cx} (g : GoodS T G call N sc fn W k X) : ∀ (s : Sm) (st : Stmt), chS T N sc fn s st = true → JS G W X st (evS call turns s)
  | .asg t e, st, h => by
    simp only [chS] at h
    split at h
    · rename_i tx x pos
      simp only [Bool.and_eq_true, Bool.or_eq_true, Bool.not_eq_true'] at h
      obtain ⟨⟨⟨⟨h1, h2⟩, h3⟩, h4⟩, h5⟩ := h
      rcases h5 with h5 | h5
      · exact st_asg g h1 h2 h3 h4 h5
      · by_cases hc : notComp x = true
        · exact st_asg g h1 h2 h3 h4 (.inl hc)
        · obtain ⟨tn, p, el', gs, sco, q', e1, e2, h8, h9, h10⟩ := sw_of h5
          subst e1 e2
          have hfr : freshE e = true := by
            cases e <;> simp only [chE] at h3 <;> first | rfl | (split at h3 <;> first | cases h3 | (rename_i z; cases z) | (rename_i hx; have := prX_comp hx; simp [notComp] at this)) | cases h3
          cases t with
          | tp l => simp [chT] at h2
          | nm i =>
            simp only [chT, Bool.and_eq_true, decide_eq_true_eq] at h2
            exact st_asgLc g hfr h3 h2.1 h2.2 (.inr h5)
    · cases h
  | .par i j a b, st, h => by
    simp only [chS] at h
    split at h
    · rename_i x px y py kt pt u v k2 pt2 pos
      simp only [Bool.and_eq_true, Bool.not_eq_true', decide_eq_true_eq] at h
      obtain ⟨⟨⟨⟨⟨⟨⟨⟨⟨⟨⟨⟨h1, h2⟩, h3⟩, h4⟩, h5⟩, h6⟩, h7⟩, h8⟩, h9⟩, h10⟩, h11⟩, h12⟩, h13⟩ := h
      have hx : sc.names.lookup x = some .local := by
        split at h6
        · assumption
        · cases h6
      have hy : sc.names.lookup y = some .local := by
        split at h7
        · assumption
        · cases h7
      exact st_par g h1 h2 h3 h4 h5 hx hy h8 h9 h10 h11 (sE a sc fn W X _ g.toGood h12) (sE b sc fn W X _ g.toGood h13)
    · cases h
  | .own i e, st, h => by
    simp only [chS] at h
    split at h
    · simp only [Bool.and_eq_true, Bool.or_eq_true, decide_eq_true_eq] at h
      obtain ⟨⟨⟨⟨h1, h2⟩, h3⟩, h4⟩, h5⟩ := h
      exact st_own g h3 h4 h1 h2 h5
    · cases h
  | .frz i s, st, h => by
    simp only [chS] at h
    exact st_frz (sS g s st h)
  | .aug i o e, st, h => by
    simp only [chS] at h
    split at h
    · simp only [Bool.and_eq_true, decide_eq_true_eq] at h
      obtain ⟨⟨⟨h1, h2⟩, h3⟩, h4⟩ := h
      rw [opB_eq h3]
      exact st_aug g h1 h2 (sE e sc fn W X _ g.toGood h4)
    · cases h
  | .star i j e, st, h => by
    simp only [chS] at h
    split at h
    · simp only [Bool.and_eq_true, decide_eq_true_eq, Bool.not_eq_true'] at h
      obtain ⟨⟨⟨⟨⟨h1, h2⟩, h3⟩, h4⟩, h5⟩, h6⟩ := h
      exact st_star g h1 h2 h3 h4 (sE e sc fn W X _ g.toGood h5) h6
    · cases h
  | .set a i e, st, h => by
    simp only [chS] at h
    split at h
    · simp only [Bool.and_eq_true] at h
      obtain ⟨⟨⟨⟨h1, h2⟩, h3⟩, h4⟩, h5⟩ := h
      exact st_set g h1 h2 (sE e sc fn W X _ g.toGood h3) (sE a sc fn W X _ g.toGood h4) (sE i sc fn W X _ g.toGood h5)
    · cases h
  | .app i e, st, h => by
    simp only [chS] at h
    split at h
    · simp only [Bool.and_eq_true, decide_eq_true_eq, beq_iff_eq] at h
      obtain ⟨⟨⟨⟨⟨h1, h2⟩, rfl⟩, h4⟩, h5⟩, h6⟩ := h
      exact st_app g h1 h2 h4 (by simpa using h5) (sE e sc fn W X _ g.toGood h6)
    · cases h
  | .setO i kk e, st, h => by
    simp only [chS] at h
    split at h
    · simp only [Bool.and_eq_true, decide_eq_true_eq] at h
      obtain ⟨⟨⟨⟨⟨h1, h2⟩, h3⟩, h4⟩, h5⟩, h6⟩ := h
      exact st_setO g h1 h2 h3 h4 (sE e sc fn W X _ g.toGood h5) (sE kk sc fn W X _ g.toGood h6)
    · cases h
  | .augO i kk o e, st, h => by
    simp only [chS] at h
    split at h
    · simp only [Bool.and_eq_true, decide_eq_true_eq] at h
      obtain ⟨⟨⟨⟨⟨h1, h2⟩, h3⟩, h4⟩, h5⟩, h6⟩ := h
      have e1 := opB_eq h4
      subst e1
      exact st_augO g h1 h2 h3 (sE e sc fn W X _ g.toGood h5) (sE kk sc fn W X _ g.toGood h6)
    · cases h
  | .setOD i kk e, st, h => by
    simp only [chS] at h
    split at h
    · simp only [Bool.and_eq_true, decide_eq_true_eq] at h
      obtain ⟨⟨⟨⟨⟨h1, h2⟩, h3⟩, h4⟩, h5⟩, h6⟩ := h
      exact st_setOD g h1 h2 (sE e sc fn W X _ g.toGood h5) (sE kk sc fn W X _ g.toGood h6)
    · cases h
  | .setD a kk e, st, h => by
    simp only [chS] at h
    split at h
    · simp only [Bool.and_eq_true] at h
      obtain ⟨⟨⟨⟨h1, h2⟩, h3⟩, h4⟩, h5⟩ := h
      exact st_setD g (sE e sc fn W X _ g.toGood h3) (sE a sc fn W X _ g.toGood h4) (sE kk sc fn W X _ g.toGood h5)
    · cases h
  | .setF a c f e, st, h => by
    simp only [chS] at h
    split at h
    · simp only [Bool.and_eq_true, beq_iff_eq] at h
      obtain ⟨⟨⟨rfl, h2⟩, h3⟩, h4⟩ := h
      exact st_setF g h2 (sE e sc fn W X _ g.toGood h3) (sE a sc fn W X _ g.toGood h4)
    · cases h
  | .popOD _ _, _, h => by simp [chS] at h
  | .popD a kk, st, h => by
    simp only [chS] at h
    split at h
    · simp only [Bool.and_eq_true] at h
      obtain ⟨⟨⟨⟨⟨h1, h2⟩, h3⟩, h4⟩, h5⟩, h6⟩ := h
      obtain rfl := beq_iff_eq.mp h1
      exact st_popD g h4 h2 h3 (sE a sc fn W X _ g.toGood h5) (sE kk sc fn W X _ g.toGood h6)
    · cases h
  | .popO t i, st, h => by
    simp only [chS] at h
    split at h
    · simp only [Bool.and_eq_true, decide_eq_true_eq] at h
      obtain ⟨⟨⟨⟨⟨h1, h2⟩, h3⟩, h4⟩, h5⟩, h6⟩ := h
      obtain rfl := beq_iff_eq.mp h1
      exact st_popO g h2 h3 h4 h5 h6
    · cases h
  | .extO i e, st, h => by
    simp only [chS] at h
    split at h
    · simp only [Bool.and_eq_true, decide_eq_true_eq] at h
      exact st_extO g h.1.1 h.1.2 (sE e sc fn W X _ g.toGood h.2)
    · cases h
  | .exp e, st, h => by
    simp only [chS] at h
    split at h
    · simp only [Bool.and_eq_true] at h
      exact st_exp h.1 (sE e sc fn W X _ g.toGood h.2)
    · cases h
  | .ret e, st, h => by
    simp only [chS] at h
    split at h
    · exact st_ret (sE e sc fn W X _ g.toGood h)
    · cases h
  | .retN, st, h => by
    simp only [chS] at h
    split at h
    · exact st_retN
    · cases h
  | .ite c a b, st, h => by
    simp only [chS] at h
    split at h
    · simp only [Bool.and_eq_true] at h
      exact st_ite (sT c sc fn W X _ g.toGood h.1.1) (sB g a _ h.1.2) (sB g b _ h.2)
    · cases h
  | .for t it b, st, h => by
    simp only [chS] at h
    split at h
    · simp only [Bool.and_eq_true] at h
      obtain ⟨⟨⟨h1, h2⟩, h3⟩, h4⟩ := h
      exact st_for g (sI it sc fn W X _ _ g.toGood h3) (s_tg g.toGood t _ h2) (sB g b _ h4) h1
    · cases h
  | .whl c b, st, h => by
    simp only [chS] at h
    split at h
    · simp only [Bool.and_eq_true] at h
      exact st_whl g (sT c sc fn W X _ g.toGood h.1) (sB g b _ h.2)
    · cases h
  | .brk, st, h => by
    simp only [chS] at h
    split at h
    · refine ps_break.imp fun D σ H q => ?_
      obtain ⟨w0, H0, w, ε, S, f, S', hS, hE, hX, h, hend⟩ := q
      simp only [evS] at h
      cases h
      exact hend w σ H hS hE hX ExtS.refl
    · cases h
  | .cnt, st, h => by
    simp only [chS] at h
    split at h
    · refine ps_continue.imp fun D σ H q => ?_
      obtain ⟨w0, H0, w, ε, S, f, S', hS, hE, hX, h, hend⟩ := q
      simp only [evS] at h
      cases h
      exact hend w σ H hS hE hX ExtS.refl
    · cases h
  | .pass, st, h => by
    simp only [chS] at h
    split at h
    · refine ps_pass.imp fun D σ H q => ?_
      obtain ⟨w0, H0, w, ε, S, f, S', hS, hE, hX, h, hend⟩ := q
      simp only [evS] at h
      cases h
      exact hend w σ H hS hE hX ExtS.refl
    · cases h
  | .dead, st, h => by
    refine ps_never.imp fun D σ H q => ?_
    obtain ⟨w0, H0, w, ε, S, f, S', hS, hE, hX, h, hend⟩ := q
    simp only [evS] at h
    cases h
theorem sB {T : Tb} {G : Gx} {call : Call} {N : List Str} {k turns : Nat} {sc : Scope} {fn : Str → Bool} {W : WX} {X : Cx} (g : GoodS T G call N sc fn W k X) : ∀ (b : List Sm) (ss : List Stmt), chB T N sc fn b ss = true → JB G W X ss (evB call turns b)
  | [], ss, h => by
    simp only [chB] at h
    split at h
    · exact b_nil
    · cases h
  | s :: b, ss, h => by
    simp only [chB] at h
    split at h
    · simp only [Bool.and_eq_true] at h
      exact b_cons (sS g s _ h.1) (sB g b _ h.2)
    · cases h
end

/-! ### defs -/
def locB (sc : Scope) : Str → Bool := fun x => match sc.names.lookup x with | some .local => true | some .cell => true | _ => false
theorem loc_of {sc : Scope} {x : Str} (h : locB sc x = true) : Loc sc x := by
  unfold locB at h
  split at h
  · exact .inl (by assumption)
  · exact .inr (by assumption)
  · cases h
theorem start_ren {K : PySem.W.Frag} {w : Wd} {H : Hp} {N : List Str} {vs : List V} {ds : List D} (h : RVs K w H vs ds) : REn K w H (L2.start N vs) H (startE N.length ds) := by
  have hl := h.length
  refine ⟨by simp [L2.start, startE, hl], fun i s e => ?_, fun i j d e a hne e1 => ?_⟩
  · unfold startE at e
    by_cases hi : i < ds.length
    · rw [List.getElem?_append_left (by simpa using hi), List.getElem?_map] at e
      cases hd : ds[i]? with
      | none => rw [hd] at e; cases e
      | some d =>
        rw [hd] at e
        cases e
        obtain ⟨v, hv, r⟩ := h.get hd
        refine ⟨v, ?_, r⟩
        unfold L2.start
        rw [List.getElem?_append_left (by simpa [hl] using hi), List.getElem?_map, hv]
        rfl
    · rw [List.getElem?_append_right (by simpa using hi)] at e
      have := List.mem_of_getElem? e
      rw [List.mem_replicate] at this
      rw [this.2]
      trivial
  · unfold startE at e1
    by_cases hi : i < ds.length
    · rw [List.getElem?_append_left (by simpa using hi), List.getElem?_map] at e1
      cases hd : ds[i]? with
      | none => rw [hd] at e1; cases e1
      | some d => rw [hd] at e1; cases e1
    · rw [List.getElem?_append_right (by simpa using hi)] at e1
      have := List.mem_of_getElem? e1
      rw [List.mem_replicate] at this
      cases this.2
/-- what is known of a def of the text: where it stands is known apart -/
structure FnBody (T : Tb) (Γ : Tab) (K : PySem.W.Frag) (f : Nat) (a : Addr) : Prop where
  ex : ∃ (fd : FuncData) (ps N : List Str) (st : Stmt) (x qual : Str) (body : List Sm) (dvs : List V) (kws : List (Str × V)), FunD K x qual (defArgs st) (defBody st) (defScope st) dvs kws a fd ∧ FnScope N ps (defScope st) ∧ Γ f = some ⟨ps.length, N.length, body⟩ ∧
    chB T N (defScope st) (locB (defScope st)) body (defBody st) = true ∧ (∀ n dv, T.dvB f n dv = true → dv.all flatD = true ∧ ∃ ds, Vals (dv.map vOf) ds ∧ Binds K fd ps ds) ∧
      ∀ n ks pm, T.kwB f n ks pm = true → pmFlat pm = true ∧ ∃ g, KBn K fd ps n ks g fun vs zs => pmV (vs ++ zs) pm
structure FnFact (T : Tb) (Γ : Tab) (K : PySem.W.Frag) (mg : Str → Option Value) (f : Nat) : Prop where
  ex : ∃ a, mg (T.nm f) = some (.ref a) ∧ FnBody T Γ K f a
structure MthFact (T : Tb) (Γ : Tab) (G : Gx) (K : PySem.W.Frag) (f : Nat) (c m : Str) : Prop where
  ex : ∃ C a, G.cls c = some C ∧ Cls K C ∧ Meth K C m a ∧ FnBody T Γ K f a
structure MkFact (T : Tb) (Γ : Tab) (G : Gx) (K : PySem.W.Frag) (mg : Str → Option Value) (f : Nat) (c : Str) : Prop where
  ex : ∃ C a, mg c = some (.ref C) ∧ G.cls c = some C ∧ Cls K C ∧ Mk K C a ∧ FnBody T Γ K f a
section
variable {call : Call} {turns : Nat}
theorem lf_noexc {α : Type} {r : R α} {ε : Env} {f : α → Sto → R Fl} (h : ∀ a S x S2, f a S ≠ .exc x S2) : ∀ x S2, r.lf ε f ≠ .exc x S2 := by
  intro x S2
  cases r with
  | ok a S => exact h a S x S2
  | exc y S => exact fun z => nomatch z
  | stuck => exact fun z => nomatch z
theorem forL_noexc {F : D → Env → Sto → R Fl} (h : ∀ d ε S x S2, F d ε S ≠ .exc x S2) : ∀ (ds : List D) (ε : Env) (S : Sto) (x : Exc) (S2 : Sto), forL F ds ε S ≠ .exc x S2
  | [], _, _, _, _ => fun z => nomatch z
  | d :: ds, ε, S, x, S2 => by
    simp only [forL]
    cases hF : F d ε S with
    | stuck => exact fun z => nomatch z
    | exc y S' => exact absurd hF (h d ε S y S')
    | ok f S' =>
      simp only [R.bd_ok]
      cases f with
      | nx ε' => exact forL_noexc h ds ε' S' x S2
      | ct ε' => exact forL_noexc h ds ε' S' x S2
      | bk _ => exact fun z => nomatch z
      | rt _ => exact fun z => nomatch z
      | ex _ _ => exact fun z => nomatch z
theorem whlL_noexc {c : Env → Sto → R Bool} {F : Env → Sto → R Fl} (h : ∀ ε S x S2, F ε S ≠ .exc x S2) : ∀ (n : Nat) (ε : Env) (S : Sto) (x : Exc) (S2 : Sto), whlL c F n ε S ≠ .exc x S2
  | 0, _, _, _, _ => fun z => nomatch z
  | n + 1, ε, S, x, S2 => by
    simp only [whlL]
    refine lf_noexc (fun k S1 x S2 => ?_) x S2
    split
    · cases hF : F ε S1 with
      | stuck => exact fun z => nomatch z
      | exc y S' => exact absurd hF (h ε S1 y S')
      | ok f S' =>
        simp only [R.bd_ok]
        cases f with
        | nx ε' => exact whlL_noexc h n ε' S' x S2
        | ct ε' => exact whlL_noexc h n ε' S' x S2
        | bk _ => exact fun z => nomatch z
        | rt _ => exact fun z => nomatch z
        | ex _ _ => exact fun z => nomatch z
    · exact fun z => nomatch z
mutual
theorem evS_noexc : ∀ (s : Sm) (ε : Env) (S : Sto) (x : Exc) (S2 : Sto), evS call turns s ε S ≠ .exc x S2
  | .asg t e, ε, S, x, S2 => by simp only [evS]; exact lf_noexc (fun d S1 x S2 => by split <;> exact fun z => nomatch z) x S2
  | .par i j a b, ε, S, x, S2 => by simp only [evS]; exact lf_noexc (fun d S1 x S2 => lf_noexc (fun d S1 x S2 => by intro z; cases z) x S2) x S2
  | .own i e, ε, S, x, S2 => by simp only [evS]; exact lf_noexc (fun d S1 x S2 => by intro z; cases z) x S2
  | .frz i s, ε, S, x, S2 => by
    simp only [evS]
    split
    · exact evS_noexc s _ S x S2
    · exact evS_noexc s _ S x S2
  | .aug i o e, ε, S, x, S2 => by
    simp only [evS]
    split
    · exact lf_noexc (fun d S1 x S2 => by split <;> first | (split <;> exact fun z => nomatch z) | exact fun z => nomatch z) x S2
    · exact fun z => nomatch z
  | .star i j e, ε, S, x, S2 => by simp only [evS]; exact lf_noexc (fun d S1 x S2 => by split <;> first | (split <;> exact fun z => nomatch z) | exact fun z => nomatch z) x S2
  | .set a i e, ε, S, x, S2 => by simp only [evS]; exact lf_noexc (fun d S1 x S2 => lf_noexc (fun d S1 x S2 => lf_noexc (fun d S1 x S2 => by split <;> exact fun z => nomatch z) x S2) x S2) x S2
  | .app i e, ε, S, x, S2 => by
    simp only [evS]
    split
    · exact lf_noexc (fun d S1 x S2 => by split <;> exact fun z => nomatch z) x S2
    · exact fun z => nomatch z
  | .setO i kk e, ε, S, x, S2 => by
    simp only [evS]
    refine lf_noexc (fun d S1 x S2 => ?_) x S2
    split
    · exact lf_noexc (fun d S1 x S2 => by split <;> first | (split <;> exact fun z => nomatch z) | exact fun z => nomatch z) x S2
    · exact fun z => nomatch z
  | .augO i kk o e, ε, S, x, S2 => by
    simp only [evS]
    split
    · refine lf_noexc (fun d S1 x S2 => ?_) x S2
      split
      · split
        · exact lf_noexc (fun d S1 x S2 => by split <;> first | (split <;> exact fun z => nomatch z) | exact fun z => nomatch z) x S2
        · exact fun z => nomatch z
      · exact fun z => nomatch z
    · exact fun z => nomatch z
  | .setOD i kk e, ε, S, x, S2 => by
    simp only [evS]
    refine lf_noexc (fun d S1 x S2 => ?_) x S2
    split
    · exact lf_noexc (fun d S1 x S2 => by split <;> first | (split <;> exact fun z => nomatch z) | exact fun z => nomatch z) x S2
    · exact fun z => nomatch z
  | .setD a kk e, ε, S, x, S2 => by simp only [evS]; exact lf_noexc (fun d S1 x S2 => lf_noexc (fun d S1 x S2 => lf_noexc (fun d S1 x S2 => by split <;> exact fun z => nomatch z) x S2) x S2) x S2
  | .setF a c f e, ε, S, x, S2 => by simp only [evS]; exact lf_noexc (fun d S1 x S2 => lf_noexc (fun d S1 x S2 => by split <;> exact fun z => nomatch z) x S2) x S2
  | .popOD i kk, ε, S, x, S2 => by
    simp only [evS]
    split
    · exact lf_noexc (fun d S1 x S2 => by split <;> first | (split <;> exact fun z => nomatch z) | exact fun z => nomatch z) x S2
    · exact fun z => nomatch z
  | .popD a kk, ε, S, x, S2 => by
    simp only [evS]
    refine lf_noexc (fun d S1 x S2 => ?_) x S2
    split
    · exact lf_noexc (fun d S1 x S2 => by split <;> exact fun z => nomatch z) x S2
    · exact fun z => nomatch z
  | .popO t i, ε, S, x, S2 => by
    simp only [evS]
    split
    · split
      · split <;> exact fun z => nomatch z
      · exact fun z => nomatch z
    · exact fun z => nomatch z
  | .extO i e, ε, S, x, S2 => by
    simp only [evS]
    split
    · exact lf_noexc (fun d S1 x S2 => by split <;> first | (split <;> exact fun z => nomatch z) | exact fun z => nomatch z) x S2
    · exact fun z => nomatch z
  | .exp e, ε, S, x, S2 => by simp only [evS]; exact lf_noexc (fun d S1 x S2 => by intro z; cases z) x S2
  | .ret e, ε, S, x, S2 => by simp only [evS]; exact lf_noexc (fun d S1 x S2 => by intro z; cases z) x S2
  | .retN, ε, S, x, S2 => by simp only [evS]; exact fun z => nomatch z
  | .ite c a b, ε, S, x, S2 => by
    simp only [evS]
    exact lf_noexc (fun d S1 x S2 => by
      split
      · exact evB_noexc a ε S1 x S2
      · exact evB_noexc b ε S1 x S2) x S2
  | .for t it b, ε, S, x, S2 => by
    simp only [evS]
    exact lf_noexc (fun ds S1 x S2 => forL_noexc (fun d ε S x S2 => by
      split
      · exact evB_noexc b _ S x S2
      · exact fun z => nomatch z) ds ε S1 x S2) x S2
  | .whl c b, ε, S, x, S2 => by simp only [evS]; exact whlL_noexc (fun ε S x S2 => evB_noexc b ε S x S2) turns ε S x S2
  | .brk, ε, S, x, S2 => by simp only [evS]; exact fun z => nomatch z
  | .cnt, ε, S, x, S2 => by simp only [evS]; exact fun z => nomatch z
  | .pass, ε, S, x, S2 => by simp only [evS]; exact fun z => nomatch z
  | .dead, ε, S, x, S2 => by simp only [evS]; exact fun z => nomatch z
theorem evB_noexc : ∀ (b : List Sm) (ε : Env) (S : Sto) (x : Exc) (S2 : Sto), evB call turns b ε S ≠ .exc x S2
  | [], ε, S, x, S2 => by simp only [evB]; exact fun z => nomatch z
  | s :: ss, ε, S, x, S2 => by
    simp only [evB]
    cases hs : evS call turns s ε S with
    | stuck => exact fun z => nomatch z
    | exc y S' => exact absurd hs (evS_noexc s ε S y S')
    | ok f S' =>
      simp only [R.bd_ok]
      cases f with
      | nx ε' => exact evB_noexc ss ε' S' x S2
      | ct ε' => exact fun z => nomatch z
      | bk _ => exact fun z => nomatch z
      | rt _ => exact fun z => nomatch z
      | ex _ _ => exact fun z => nomatch z
end
end
theorem fn_ok {T : Tb} {G : Gx} {Γ : Tab} {turns k : Nat} {P : Program} {wo : World} {K : PySem.W.Frag} {mg : Str → Option Value} {base : Heap} {f : Nat} {x qual : Str} {st : Stmt} {a : Addr} {fd : FuncData} {N ps : List Str} {body : List Sm} {dvs : List V} {kws : List (Str × V)}
    (F : FunD K x qual (defArgs st) (defBody st) (defScope st) dvs kws a fd) (S : FnScope N ps (defScope st)) (lw : Lw T G (evCall Γ turns k) P wo K mg base k) (hΓ : Γ f = some ⟨ps.length, N.length, body⟩) (hch : chB T N (defScope st) (locB (defScope st)) body (defBody st) = true) :
    FnOk P wo K mg base (L2.CX P wo) (2 * (k + 1)) a fd ps (spOf G (evCall Γ turns (k + 1) f)) := by
  refine F.ok (k := 2 * k + 1) (CX := L2.CX P wo) S (fun vs H Q E h => ?_) (fun cdv A outer s H vs Q E hr h => ?_)
  · obtain ⟨w, S, ds, hS, hv, hp⟩ := h
    simp only [evCall, hΓ] at hp
    split at hp
    · rename_i hl
      rw [hv.length, hl]
    · exact hp.elim
  · obtain ⟨w, S', ds, hS, hv, hp⟩ := h
    simp only [evCall, hΓ] at hp
    split at hp
    · refine ⟨_, sB (turns := turns) (T := T) (G := G) (call := evCall Γ turns k) (N := N) (k := k) (sc := defScope st) (fn := locB (defScope st)) (W := fun cls d _ H => E cls d H) ⟨⟨rfl, rfl, S.nd, rfl, fun x hx => ⟨loc_of hx, .inl rfl⟩, hr, takes_of rfl rfl rfl rfl, lw⟩, passes_of rfl, S.kind⟩ body _ hch, ?_⟩
      cases hB : evB (evCall Γ turns k) turns body (startE N.length ds) S' with
      | stuck => rw [hB] at hp; exact hp.elim
      | exc xx S2 =>
        -- a block's own end is never that
        rw [hB] at hp
        exact absurd hB (evB_noexc _ _ _ _ _)
      | ok fl S2 =>
        rw [hB] at hp
        refine ⟨w, H, w, _, S', fl, S2, hS, start_ren hv, Ext.refl, hB, ?_⟩
        cases fl with
        | nx ε' => exact fun w' σ' H' a b c d => hp w' H' .non c a RV_non
        | bk ε' => exact hp.elim
        | ct ε' => exact hp.elim
        | rt d => exact fun w' H' v a b c => hp w' H' v b a c
        | ex xx ε' => exact fun w' σ' H' cc dx a b c d => hp w' H' cc dx c a d
    · exact hp.elim
theorem body_ok {T : Tb} {G : Gx} {Γ : Tab} {turns : Nat} {P : Program} {wo : World} {K : PySem.W.Frag} {mg : Str → Option Value} {base : Heap} {f : Nat} {a : Addr} (B : FnBody T Γ K f a) : ∀ k, (∀ j, k = j + 1 → Lw T G (evCall Γ turns j) P wo K mg base j) →
    PySem.W.keepIn K (.ref a) = true ∧ ∃ fd ps, FnOk P wo K mg base (L2.CX P wo) (2 * k) a fd ps (spOf G (evCall Γ turns k f)) ∧ (∀ n dv, T.dvB f n dv = true → dv.all flatD = true ∧ ∃ ds, Vals (dv.map vOf) ds ∧ Binds K fd ps ds) ∧
      ∀ n ks pm, T.kwB f n ks pm = true → pmFlat pm = true ∧ ∃ g, KBn K fd ps n ks g fun vs zs => pmV (vs ++ zs) pm
  | 0, _ => by
    obtain ⟨fd, ps, N, st, x, qual, body, dvs, kws, F, h3, h4, h5, h6⟩ := B.ex
    exact ⟨F.kp, fd, ps, ⟨fun vs H Q E z => by obtain ⟨w, S, ds, _, _, z⟩ := z; exact z.elim, fun A outer s H args us vs Q E _ _ _ _ z => by obtain ⟨w, S, ds, _, _, z⟩ := z; exact z.elim⟩, h6⟩
  | k + 1, lw => by
    obtain ⟨fd, ps, N, st, x, qual, body, dvs, kws, F, h3, h4, h5, h6⟩ := B.ex
    exact ⟨F.kp, fd, ps, fn_ok F h3 (lw k rfl) h4 h5, h6⟩
/-- what the law's module gives -/
structure Facts (T : Tb) (G : Gx) (Γ : Tab) (K : PySem.W.Frag) (mg : Str → Option Value) : Prop where
  hf : ∀ f, T.isF f = true → FnFact T Γ K mg f
  rev : mg "reversed" = none
  srt : mg "sorted" = none
  blt : ∀ b, mg (bltN b) = none
  rng : mg "range" = none
  zip : mg "zip" = none
  isi : mg "isinstance" = none
  tys : ∀ t, mg (Str.ofString (tyN t)) = none
  con : ∀ x d, T.conB x d = true → flatD d = true ∧ ∃ u, mg x = some u ∧ RelV (vOf d) u
  mth : ∀ f c m, T.mthB f c m = true → MthFact T Γ G K f c m
  mkd : ∀ f c, T.mkB f c = true → MkFact T Γ G K mg f c
  fld : ∀ c f C, T.fldB c f = true → G.cls c = some C → NoAttr K C f
  dct : mg "dict" = none
theorem lw_all {T : Tb} {G : Gx} {Γ : Tab} {turns : Nat} {P : Program} {wo : World} {K : PySem.W.Frag} {mg : Str → Option Value} {base : Heap} (hK : G.K = K) (F : Facts T G Γ K mg) : ∀ k, Lw T G (evCall Γ turns k) P wo K mg base k := by
  have mk : ∀ k, (∀ j, k = j + 1 → Lw T G (evCall Γ turns j) P wo K mg base j) → Lw T G (evCall Γ turns k) P wo K mg base k := fun k lw =>
    ⟨hK, fun f h => by
      obtain ⟨a, h1, B⟩ := (F.hf f h).ex
      obtain ⟨kp, fd, ps, h2, h3⟩ := body_ok B k lw
      exact ⟨a, fd, ps, h1, kp, h2, h3⟩, F.rev, F.srt, F.blt, F.rng, F.zip, F.isi, F.tys, F.con, fun f c m h => by
      obtain ⟨C, a, h1, h2, h3, B⟩ := (F.mth f c m h).ex
      obtain ⟨kp, fd, ps, h4, h5⟩ := body_ok B k lw
      exact ⟨C, a, fd, ps, h1, h2, h3, h4, h5⟩, fun f c h => by
      obtain ⟨C, a, h0, h1, h2, h3, B⟩ := (F.mkd f c h).ex
      obtain ⟨kp, fd, ps, h4, h5⟩ := body_ok B k lw
      exact ⟨C, a, fd, ps, h0, h1, h2, h3, h4, h5⟩, F.fld, F.dct⟩
  intro k
  induction k with
  | zero => exact mk 0 fun j h => by cases h
  | succ k ih => exact mk (k + 1) fun j h => by cases h; exact ih
end BX
set_option Elab.async false
set_option linter.all false
set_option maxRecDepth 100000
set_option maxHeartbeats 2000000
/-! BX8: from the evaluator to a law. -/
namespace BX
open PySem L2
open PyProof.Rows hiding St Binds

/-- a def as the top has made it -/
def FnAt (K : PySem.W.Frag) (x : Str) (st : Stmt) : Prop := ∃ (f : Addr) (oc : Value) (od an : Option Addr) (kV doc pm cdv ct : Value) (osl : Array (Option Value)),
  PySem.W.nsIn K mainGlobals x = some (some (.ref f)) ∧ K.lookup f = some ⟨oc, od, .func (PySem.W.fnOf x x (defArgs st) (defBody st) (defScope st) .none kV doc pm an cdv ct), osl⟩ ∧
    PySem.W.codeIn K cdv x = true ∧ PySem.W.keepIn K (.ref f) = true
theorem fnAt_mk {K : PySem.W.Frag} {x : Str} {st : Stmt} {f : Addr} {oc : Value} {od an : Option Addr} {kV doc pm cdv ct : Value} {osl : Array (Option Value)} (h1 : PySem.W.nsIn K mainGlobals x = some (some (.ref f)))
    (h2 : K.lookup f = some ⟨oc, od, .func (PySem.W.fnOf x x (defArgs st) (defBody st) (defScope st) .none kV doc pm an cdv ct), osl⟩) (h3 : PySem.W.codeIn K cdv x = true) (h4 : PySem.W.keepIn K (.ref f) = true) : FnAt K x st :=
  ⟨f, oc, od, an, kV, doc, pm, cdv, ct, osl, h1, h2, h3, h4⟩
structure Blts (K : PySem.W.Frag) : Prop where
  h1 : PySem.W.nsIn K mainGlobals "len" = some none
  h2 : PySem.W.nsIn K mainGlobals "abs" = some none
  h3 : PySem.W.nsIn K mainGlobals "max" = some none
  h4 : PySem.W.nsIn K mainGlobals "min" = some none
  h5 : PySem.W.nsIn K mainGlobals "sum" = some none
  h6 : PySem.W.nsIn K mainGlobals "all" = some none
  h7 : PySem.W.nsIn K mainGlobals "any" = some none
  h8 : PySem.W.nsIn K mainGlobals "tuple" = some none
  h9 : PySem.W.nsIn K mainGlobals "list" = some none
  h10 : PySem.W.nsIn K mainGlobals "range" = some none
  h11 : PySem.W.nsIn K mainGlobals "zip" = some none
  h12 : PySem.W.nsIn K mainGlobals "isinstance" = some none
  h13 : PySem.W.nsIn K mainGlobals "int" = some none
  h14 : PySem.W.nsIn K mainGlobals "bool" = some none
  h15 : PySem.W.nsIn K mainGlobals "str" = some none
  h16 : PySem.W.nsIn K mainGlobals "dict" = some none
  h17 : PySem.W.nsIn K mainGlobals "reversed" = some none
  h18 : PySem.W.nsIn K mainGlobals "sorted" = some none
theorem funD_mk {K : PySem.W.Frag} {x qual : Str} {st : Stmt} {f : Addr} {oc : Value} {od an : Option Addr} {dV kV doc pm cdv ct : Value} {osl : Array (Option Value)} {dvs : List V} {kws : List (Str × V)}
    (h2 : K.lookup f = some ⟨oc, od, .func (PySem.W.fnOf x qual (defArgs st) (defBody st) (defScope st) dV kV doc pm an cdv ct), osl⟩) (h3 : PySem.W.codeIn K cdv qual = true) (h4 : PySem.W.keepIn K (.ref f) = true) (h5 : DflV K dV dvs) (h6 : KwdV K kV kws) :
    FunD K x qual (defArgs st) (defBody st) (defScope st) dvs kws f (PySem.W.fnOf x qual (defArgs st) (defBody st) (defScope st) dV kV doc pm an cdv ct) := ⟨⟨oc, od, dV, kV, doc, pm, an, cdv, ct, osl, rfl, h2, h3, h5, h6⟩, h4⟩
theorem body_of {T : Tb} {Γ : Tab} {K : PySem.W.Frag} {f : Nat} {x qual : Str} {st : Stmt} {N ps : List Str} {body : List Sm} {a : Addr} {oc : Value} {od an : Option Addr} {kV doc pm cdv ct : Value} {osl : Array (Option Value)}
    (h2 : K.lookup a = some ⟨oc, od, .func (PySem.W.fnOf x qual (defArgs st) (defBody st) (defScope st) .none kV doc pm an cdv ct), osl⟩) (h3 : PySem.W.codeIn K cdv qual = true) (h4 : PySem.W.keepIn K (.ref a) = true) (S : FnScope N ps (defScope st))
    (hΓ : Γ f = some ⟨ps.length, N.length, body⟩) (hch : chB T N (defScope st) (locB (defScope st)) body (defBody st) = true)
    (hb : ∀ (kV doc pm : Value) (an : Option Addr) (cdv ct : Value) (us : List Value), us.length = ps.length → bindArgs (PySem.W.fnOf x qual (defArgs st) (defBody st) (defScope st) .none kV doc pm an cdv ct) ⟨us, []⟩ = pure (ps.zip us))
    (hdv : ∀ n dv, T.dvB f n dv = true → dv = []) (hkw : ∀ n ks pm, T.kwB f n ks pm = false) : FnBody T Γ K f a := by
  refine ⟨_, ps, N, st, x, qual, body, [], [], funD_mk h2 h3 h4 (.inl ⟨rfl, rfl⟩) (.inl rfl), S, hΓ, hch, fun n dv hd => ?_, fun n ks pm hd => by rw [hkw] at hd; cases hd⟩
  obtain rfl := hdv n dv hd
  exact ⟨rfl, [], .nil, (fun_mk h2 h3 h4).binds hb⟩
theorem fact_of {T : Tb} {Γ : Tab} {K : PySem.W.Frag} {mg : Str → Option Value} {h : Heap} {f : Nat} {x : Str} {st : Stmt} {N ps : List Str} {body : List Sm} (X : K.In h) (G : h.Ns mainGlobals mg) (A : FnAt K x st) (hx : T.nm f = x) (S : FnScope N ps (defScope st))
    (hΓ : Γ f = some ⟨ps.length, N.length, body⟩) (hch : chB T N (defScope st) (locB (defScope st)) body (defBody st) = true)
    (hb : ∀ (kV doc pm : Value) (an : Option Addr) (cdv ct : Value) (us : List Value), us.length = ps.length → bindArgs (PySem.W.fnOf x x (defArgs st) (defBody st) (defScope st) .none kV doc pm an cdv ct) ⟨us, []⟩ = pure (ps.zip us))
    (hdv : ∀ n dv, T.dvB f n dv = true → dv = []) (hkw : ∀ n ks pm, T.kwB f n ks pm = false) : FnFact T Γ K mg f := by
  obtain ⟨a, oc, od, an, kV, doc, pm, cdv, ct, osl, h1, h2, h3, h4⟩ := A
  exact ⟨a, by rw [hx]; exact PySem.W.mg_of X G h1, body_of h2 h3 h4 S hΓ hch hb hdv hkw⟩
/-- a def with keyword-only defaults -/
def FnAtK (K : PySem.W.Frag) (x : Str) (st : Stmt) (kws : List (Str × V)) : Prop := ∃ (f : Addr) (oc : Value) (od an : Option Addr) (kV doc pm cdv ct : Value) (osl : Array (Option Value)),
  PySem.W.nsIn K mainGlobals x = some (some (.ref f)) ∧ K.lookup f = some ⟨oc, od, .func (PySem.W.fnOf x x (defArgs st) (defBody st) (defScope st) .none kV doc pm an cdv ct), osl⟩ ∧
    PySem.W.codeIn K cdv x = true ∧ PySem.W.keepIn K (.ref f) = true ∧ KwdV K kV kws
theorem fnAtK_int {K : PySem.W.Frag} {x n1 : Str} {st : Stmt} {f D : Addr} {oc : Value} {od an : Option Addr} {doc pm cdv ct : Value} {osl : Array (Option Value)} {i : Int} {tk : Tok} (h1 : PySem.W.nsIn K mainGlobals x = some (some (.ref f)))
    (h2 : K.lookup f = some ⟨oc, od, .func (PySem.W.fnOf x x (defArgs st) (defBody st) (defScope st) .none (.ref D) doc pm an cdv ct), osl⟩) (h3 : PySem.W.codeIn K cdv x = true) (h4 : PySem.W.keepIn K (.ref f) = true)
    (h5 : PySem.W.nsIn K D n1 = some (some (.int i tk))) : FnAtK K x st [(n1, .int i)] :=
  ⟨f, oc, od, an, _, doc, pm, cdv, ct, osl, h1, h2, h3, h4, .inr ⟨D, rfl, fun q hq => by obtain rfl := List.mem_singleton.mp hq; exact ⟨_, h5, tk, rfl⟩⟩⟩
theorem fnAtK_non {K : PySem.W.Frag} {x n1 : Str} {st : Stmt} {f D : Addr} {oc : Value} {od an : Option Addr} {doc pm cdv ct : Value} {osl : Array (Option Value)} (h1 : PySem.W.nsIn K mainGlobals x = some (some (.ref f)))
    (h2 : K.lookup f = some ⟨oc, od, .func (PySem.W.fnOf x x (defArgs st) (defBody st) (defScope st) .none (.ref D) doc pm an cdv ct), osl⟩) (h3 : PySem.W.codeIn K cdv x = true) (h4 : PySem.W.keepIn K (.ref f) = true)
    (h5 : PySem.W.nsIn K D n1 = some (some .none)) : FnAtK K x st [(n1, .non)] :=
  ⟨f, oc, od, an, _, doc, pm, cdv, ct, osl, h1, h2, h3, h4, .inr ⟨D, rfl, fun q hq => by obtain rfl := List.mem_singleton.mp hq; exact ⟨_, h5, rfl⟩⟩⟩
theorem pmV_range {α : Type} {z : α} (l : List α) : (List.range l.length).map (fun j => l.getD j z) = l := by
  apply List.ext_getElem?
  intro i
  by_cases h : i < l.length
  · rw [List.getElem?_map, List.getElem?_range h]
    simp [h]
  · rw [List.getElem?_eq_none (by rw [List.length_map, List.length_range]; omega), List.getElem?_eq_none (by omega)]
theorem pmV_eq (l : List V) : ∀ js : List Nat, pmV l (js.map .inl) = js.map fun j => l.getD j .non
  | [] => rfl
  | j :: js => by simp only [List.map_cons, pmV, pmV_eq l js]
theorem vals_getD : ∀ {vs : List V} {us : List Value}, Vals vs us → ∀ j, RelV (vs.getD j .non) (us.getD j .none)
  | _, _, .nil, j => by simp; rfl
  | _, _, .cons r rs, 0 => by simpa using r
  | _, _, .cons r rs, j + 1 => by simpa using vals_getD rs j
theorem vals_map {α : Type} {f : α → V} {g : α → Value} (h : ∀ j, RelV (f j) (g j)) : ∀ js : List α, Vals (js.map f) (js.map g)
  | [] => .nil
  | j :: js => .cons (h j) (vals_map h js)
theorem body_ofK {T : Tb} {Γ : Tab} {K : PySem.W.Frag} {f n0 : Nat} {x qual : Str} {st : Stmt} {N ps : List Str} {body : List Sm} {kws : List (Str × V)} {a : Addr} {oc : Value} {od an : Option Addr} {kV doc pm cdv ct : Value} {osl : Array (Option Value)}
    (h2 : K.lookup a = some ⟨oc, od, .func (PySem.W.fnOf x qual (defArgs st) (defBody st) (defScope st) .none kV doc pm an cdv ct), osl⟩) (h3 : PySem.W.codeIn K cdv qual = true) (h4 : PySem.W.keepIn K (.ref a) = true) (h5 : KwdV K kV kws) (S : FnScope N ps (defScope st))
    (hΓ : Γ f = some ⟨ps.length, N.length, body⟩) (hch : chB T N (defScope st) (locB (defScope st)) body (defBody st) = true) (hk : kws ≠ []) (hn : n0 + kws.length = ps.length)
    (hb : ∀ (D : Addr) (doc pm : Value) (an : Option Addr) (cdv ct : Value) (us ks : List Value), us.length = n0 → ks.length = kws.length →
      KwChain D ((kws.map (·.1)).zip ks) (bindArgs (PySem.W.fnOf x qual (defArgs st) (defBody st) (defScope st) .none (.ref D) doc pm an cdv ct) ⟨us, []⟩) (ps.zip (us ++ ks)))
    (hbk : ∀ (kV doc pm : Value) (an : Option Addr) (cdv ct : Value) (us ws : List Value), us.length = n0 → ws.length = kws.length →
      bindArgs (PySem.W.fnOf x qual (defArgs st) (defBody st) (defScope st) .none kV doc pm an cdv ct) ⟨us, (kws.map (·.1)).zip ws⟩ = pure (ps.zip (us ++ ws)))
    (hdv : ∀ n dv, T.dvB f n dv = true → dv.all flatD = true ∧ dv.map vOf = kws.map (·.2)) (hkw : ∀ n ks pm, T.kwB f n ks pm = true → n = n0 ∧ ks = kws.map (·.1) ∧ pmFlat pm = true ∧ pm = (List.range ps.length).map .inl) : FnBody T Γ K f a := by
  have FD := funD_mk (dvs := []) (st := st) h2 h3 h4 (.inl ⟨rfl, rfl⟩) h5
  refine ⟨_, ps, N, st, x, qual, body, [], kws, FD, S, hΓ, hch, fun n dv hd => ?_, fun n ks pmm hd => ?_⟩
  · obtain ⟨e1, e2⟩ := hdv n dv hd
    refine ⟨e1, ?_⟩
    rw [e2]
    exact FD.binds0 n0 hk hn hb
  · obtain ⟨rfl, rfl, e1, rfl⟩ := hkw n ks pmm hd
    refine ⟨e1, fun us ws => (List.range ps.length).map fun j => (us ++ ws).getD j .none, ⟨fun s us ws _ l1 l2 => ?_, fun {vs us zs ws} r1 r2 => ?_⟩⟩
    · have l3 : ws.length = kws.length := by rw [l2, List.length_map]
      have e3 : (List.range ps.length).map (fun j => (us ++ ws).getD j .none) = us ++ ws := by
        rw [show ps.length = (us ++ ws).length by rw [List.length_append, l1, l3, hn]]
        exact pmV_range _
      rw [e3]
      exact .of_eq (hbk _ _ _ _ _ _ us ws l1 l3)
    · rw [pmV_eq]
      exact vals_map (vals_getD (r1.append r2)) _
theorem fact_ofK {T : Tb} {Γ : Tab} {K : PySem.W.Frag} {mg : Str → Option Value} {h : Heap} {f n0 : Nat} {x : Str} {st : Stmt} {N ps : List Str} {body : List Sm} {kws : List (Str × V)} (X : K.In h) (G : h.Ns mainGlobals mg) (A : FnAtK K x st kws) (hx : T.nm f = x) (S : FnScope N ps (defScope st))
    (hΓ : Γ f = some ⟨ps.length, N.length, body⟩) (hch : chB T N (defScope st) (locB (defScope st)) body (defBody st) = true) (hk : kws ≠ []) (hn : n0 + kws.length = ps.length)
    (hb : ∀ (D : Addr) (doc pm : Value) (an : Option Addr) (cdv ct : Value) (us ks : List Value), us.length = n0 → ks.length = kws.length →
      KwChain D ((kws.map (·.1)).zip ks) (bindArgs (PySem.W.fnOf x x (defArgs st) (defBody st) (defScope st) .none (.ref D) doc pm an cdv ct) ⟨us, []⟩) (ps.zip (us ++ ks)))
    (hbk : ∀ (kV doc pm : Value) (an : Option Addr) (cdv ct : Value) (us ws : List Value), us.length = n0 → ws.length = kws.length →
      bindArgs (PySem.W.fnOf x x (defArgs st) (defBody st) (defScope st) .none kV doc pm an cdv ct) ⟨us, (kws.map (·.1)).zip ws⟩ = pure (ps.zip (us ++ ws)))
    (hdv : ∀ n dv, T.dvB f n dv = true → dv.all flatD = true ∧ dv.map vOf = kws.map (·.2)) (hkw : ∀ n ks pm, T.kwB f n ks pm = true → n = n0 ∧ ks = kws.map (·.1) ∧ pmFlat pm = true ∧ pm = (List.range ps.length).map .inl) : FnFact T Γ K mg f := by
  obtain ⟨a, oc, od, an, kV, doc, pm, cdv, ct, osl, h1, h2, h3, h4, h5⟩ := A
  exact ⟨a, by rw [hx]; exact PySem.W.mg_of X G h1, body_ofK h2 h3 h4 h5 S hΓ hch hk hn hb hbk hdv hkw⟩
/-! classes -/
def clsOf (K : PySem.W.Frag) (c : Str) : Option Addr := match PySem.W.nsIn K mainGlobals c with
  | some (some (.ref C)) => some C
  | _ => none
theorem clsOf_at {K : PySem.W.Frag} {c : Str} {C : Addr} (h : PySem.W.nsIn K mainGlobals c = some (some (.ref C))) : clsOf K c = some C := by unfold clsOf; rw [h]
/-- a class as the top has made it -/
def ClsAt (K : PySem.W.Frag) (c : Str) (fs : List Str) : Prop := ∃ C, PySem.W.nsIn K mainGlobals c = some (some (.ref C)) ∧ Cls K C ∧ PySem.W.makesIn K C = true ∧ PySem.W.keepIn K (.ref C) = true ∧ ∀ f ∈ fs, NoAttr K C f
theorem clsAt_mk {K : PySem.W.Frag} {c : Str} {C : Addr} (h : PySem.W.nsIn K mainGlobals c = some (some (.ref C))) (pg : PySem.W.plainGet K C Str.empty = true) (hd : PySem.W.hasDictIn K C = true) (po : PySem.W.plainOver K C = true) (sa : PySem.W.findIn K (.ref C) "__setattr__" = some (some (.builtin "object.__setattr__")))
    (mk : PySem.W.makesIn K C = true) (kc : PySem.W.keepIn K (.ref C) = true) : ClsAt K c [] := ⟨C, h, ⟨pg, hd, po, sa⟩, mk, kc, fun f hf => by simp at hf⟩
theorem clsAt_fld {K : PySem.W.Frag} {c f : Str} {fs : List Str} {C : Addr} (h : PySem.W.nsIn K mainGlobals c = some (some (.ref C))) (n : PySem.W.findIn K (.ref C) f = some none) (A : ClsAt K c fs) : ClsAt K c (f :: fs) := by
  obtain ⟨C', h1, h2, h3, h4, h5⟩ := A
  rw [h] at h1
  cases h1
  refine ⟨C, h, h2, h3, h4, fun g hg => ?_⟩
  rcases List.mem_cons.mp hg with rfl | hg
  · exact n
  · exact h5 g hg
theorem ClsAt.fld {K : PySem.W.Frag} {c : Str} {fs : List Str} {C : Addr} (A : ClsAt K c fs) (h : clsOf K c = some C) {f : Str} (hf : f ∈ fs) : NoAttr K C f := by
  obtain ⟨C', h1, _, _, _, h5⟩ := A
  rw [clsOf_at h1] at h
  cases h
  exact h5 f hf
/-- a method as the top has made it -/
def MthAt (K : PySem.W.Frag) (c m qual : Str) (st : Stmt) (kws : List (Str × V)) : Prop := ∃ (C f : Addr) (oc : Value) (od an : Option Addr) (kV doc pm cdv ct : Value) (osl : Array (Option Value)), PySem.W.nsIn K mainGlobals c = some (some (.ref C)) ∧
  PySem.W.findIn K (.ref C) m = some (some (.ref f)) ∧ PySem.W.isFn K (.ref f) = true ∧ K.lookup f = some ⟨oc, od, .func (PySem.W.fnOf m qual (defArgs st) (defBody st) (defScope st) .none kV doc pm an cdv ct), osl⟩ ∧
    PySem.W.codeIn K cdv qual = true ∧ PySem.W.keepIn K (.ref f) = true ∧ KwdV K kV kws
theorem mthAt_mk {K : PySem.W.Frag} {c m qual : Str} {st : Stmt} {C f : Addr} {oc : Value} {od an : Option Addr} {doc pm cdv ct : Value} {osl : Array (Option Value)} (h0 : PySem.W.nsIn K mainGlobals c = some (some (.ref C))) (h1 : PySem.W.findIn K (.ref C) m = some (some (.ref f))) (hi : PySem.W.isFn K (.ref f) = true)
    (h2 : K.lookup f = some ⟨oc, od, .func (PySem.W.fnOf m qual (defArgs st) (defBody st) (defScope st) .none .none doc pm an cdv ct), osl⟩) (h3 : PySem.W.codeIn K cdv qual = true) (h4 : PySem.W.keepIn K (.ref f) = true) : MthAt K c m qual st [] :=
  ⟨C, f, oc, od, an, _, doc, pm, cdv, ct, osl, h0, h1, hi, h2, h3, h4, .inl rfl⟩
theorem mthAt_int {K : PySem.W.Frag} {c m qual n1 : Str} {st : Stmt} {C f D : Addr} {oc : Value} {od an : Option Addr} {doc pm cdv ct : Value} {osl : Array (Option Value)} {i : Int} {tk : Tok} (h0 : PySem.W.nsIn K mainGlobals c = some (some (.ref C))) (h1 : PySem.W.findIn K (.ref C) m = some (some (.ref f))) (hi : PySem.W.isFn K (.ref f) = true)
    (h2 : K.lookup f = some ⟨oc, od, .func (PySem.W.fnOf m qual (defArgs st) (defBody st) (defScope st) .none (.ref D) doc pm an cdv ct), osl⟩) (h3 : PySem.W.codeIn K cdv qual = true) (h4 : PySem.W.keepIn K (.ref f) = true) (h5 : PySem.W.nsIn K D n1 = some (some (.int i tk))) : MthAt K c m qual st [(n1, .int i)] :=
  ⟨C, f, oc, od, an, _, doc, pm, cdv, ct, osl, h0, h1, hi, h2, h3, h4, .inr ⟨D, rfl, fun q hq => by obtain rfl := List.mem_singleton.mp hq; exact ⟨_, h5, tk, rfl⟩⟩⟩
theorem mthAt_non {K : PySem.W.Frag} {c m qual n1 : Str} {st : Stmt} {C f D : Addr} {oc : Value} {od an : Option Addr} {doc pm cdv ct : Value} {osl : Array (Option Value)} (h0 : PySem.W.nsIn K mainGlobals c = some (some (.ref C))) (h1 : PySem.W.findIn K (.ref C) m = some (some (.ref f))) (hi : PySem.W.isFn K (.ref f) = true)
    (h2 : K.lookup f = some ⟨oc, od, .func (PySem.W.fnOf m qual (defArgs st) (defBody st) (defScope st) .none (.ref D) doc pm an cdv ct), osl⟩) (h3 : PySem.W.codeIn K cdv qual = true) (h4 : PySem.W.keepIn K (.ref f) = true) (h5 : PySem.W.nsIn K D n1 = some (some .none)) : MthAt K c m qual st [(n1, .non)] :=
  ⟨C, f, oc, od, an, _, doc, pm, cdv, ct, osl, h0, h1, hi, h2, h3, h4, .inr ⟨D, rfl, fun q hq => by obtain rfl := List.mem_singleton.mp hq; exact ⟨_, h5, rfl⟩⟩⟩
/-- a constant of the module -/
def ConAt (K : PySem.W.Frag) (x : Str) (v : V) : Prop := ∃ u, PySem.W.nsIn K mainGlobals x = some (some u) ∧ RelV v u
theorem conAt_int {K : PySem.W.Frag} {x : Str} {i : Int} {t : Tok} (h : PySem.W.nsIn K mainGlobals x = some (some (.int i t))) : ConAt K x (.int i) := ⟨_, h, t, rfl⟩
theorem conAt_str {K : PySem.W.Frag} {x y : Str} {t : Tok} (h : PySem.W.nsIn K mainGlobals x = some (some (.str y t))) : ConAt K x (.str y) := ⟨_, h, t, rfl⟩
theorem ConAt.mg {K : PySem.W.Frag} {mg : Str → Option Value} {h : Heap} {x : Str} {v : V} (X : K.In h) (G : h.Ns mainGlobals mg) (c : ConAt K x v) : ∃ u, mg x = some u ∧ RelV v u := by
  obtain ⟨u, h1, h2⟩ := c
  exact ⟨u, PySem.W.mg_of X G h1, h2⟩
def gx (K : PySem.W.Frag) : Gx := ⟨K, clsOf K, fun _ _ _ _ _ => False⟩
theorem mth_of {T : Tb} {Γ : Tab} {K : PySem.W.Frag} {f : Nat} {c m qual : Str} {st : Stmt} {N ps fs : List Str} {body : List Sm} (A : MthAt K c m qual st []) (B : ClsAt K c fs) (S : FnScope N ps (defScope st))
    (hΓ : Γ f = some ⟨ps.length, N.length, body⟩) (hch : chB T N (defScope st) (locB (defScope st)) body (defBody st) = true)
    (hb : ∀ (kV doc pm : Value) (an : Option Addr) (cdv ct : Value) (us : List Value), us.length = ps.length → bindArgs (PySem.W.fnOf m qual (defArgs st) (defBody st) (defScope st) .none kV doc pm an cdv ct) ⟨us, []⟩ = pure (ps.zip us))
    (hdv : ∀ n dv, T.dvB f n dv = true → dv = []) (hkw : ∀ n ks pm, T.kwB f n ks pm = false) : MthFact T Γ (gx K) K f c m := by
  obtain ⟨C, a, oc, od, an, kV, doc, pm, cdv, ct, osl, h0, h1, hi, h2, h3, h4, h5⟩ := A
  obtain ⟨C', g0, g1, _⟩ := B
  rw [h0] at g0
  cases g0
  exact ⟨C, a, clsOf_at h0, g1, ⟨h1, hi, h4⟩, body_of h2 h3 h4 S hΓ hch hb hdv hkw⟩
theorem mth_ofK {T : Tb} {Γ : Tab} {K : PySem.W.Frag} {f n0 : Nat} {c m qual : Str} {st : Stmt} {N ps fs : List Str} {body : List Sm} {kws : List (Str × V)} (A : MthAt K c m qual st kws) (B : ClsAt K c fs) (S : FnScope N ps (defScope st))
    (hΓ : Γ f = some ⟨ps.length, N.length, body⟩) (hch : chB T N (defScope st) (locB (defScope st)) body (defBody st) = true) (hk : kws ≠ []) (hn : n0 + kws.length = ps.length)
    (hb : ∀ (D : Addr) (doc pm : Value) (an : Option Addr) (cdv ct : Value) (us ks : List Value), us.length = n0 → ks.length = kws.length →
      KwChain D ((kws.map (·.1)).zip ks) (bindArgs (PySem.W.fnOf m qual (defArgs st) (defBody st) (defScope st) .none (.ref D) doc pm an cdv ct) ⟨us, []⟩) (ps.zip (us ++ ks)))
    (hbk : ∀ (kV doc pm : Value) (an : Option Addr) (cdv ct : Value) (us ws : List Value), us.length = n0 → ws.length = kws.length →
      bindArgs (PySem.W.fnOf m qual (defArgs st) (defBody st) (defScope st) .none kV doc pm an cdv ct) ⟨us, (kws.map (·.1)).zip ws⟩ = pure (ps.zip (us ++ ws)))
    (hdv : ∀ n dv, T.dvB f n dv = true → dv.all flatD = true ∧ dv.map vOf = kws.map (·.2)) (hkw : ∀ n ks pm, T.kwB f n ks pm = true → n = n0 ∧ ks = kws.map (·.1) ∧ pmFlat pm = true ∧ pm = (List.range ps.length).map .inl) : MthFact T Γ (gx K) K f c m := by
  obtain ⟨C, a, oc, od, an, kV, doc, pm, cdv, ct, osl, h0, h1, hi, h2, h3, h4, h5⟩ := A
  obtain ⟨C', g0, g1, _⟩ := B
  rw [h0] at g0
  cases g0
  exact ⟨C, a, clsOf_at h0, g1, ⟨h1, hi, h4⟩, body_ofK h2 h3 h4 h5 S hΓ hch hk hn hb hbk hdv hkw⟩
/-- the class's maker: its __init__ is a method of it -/
theorem mk_of {T : Tb} {Γ : Tab} {K : PySem.W.Frag} {mg : Str → Option Value} {h : Heap} {f : Nat} {c : Str} {fs : List Str} (X : K.In h) (G : h.Ns mainGlobals mg) (A : MthFact T Γ (gx K) K f c "__init__") (B : ClsAt K c fs) : MkFact T Γ (gx K) K mg f c := by
  obtain ⟨C, a, h1, h2, h3, h4⟩ := A.ex
  obtain ⟨C', g0, g1, g2, g3, _⟩ := B
  have : clsOf K c = some C := h1
  rw [clsOf_at g0] at this
  cases this
  exact ⟨_, a, PySem.W.mg_of X G g0, h1, h2, ⟨g2, h3.at_, h3.fn, g3⟩, h4⟩
/-- what is known of the classes -/
structure CFacts (T : Tb) (Γ : Tab) (K : PySem.W.Frag) (mg : Str → Option Value) : Prop where
  mth : ∀ f c m, T.mthB f c m = true → MthFact T Γ (gx K) K f c m
  mkd : ∀ f c, T.mkB f c = true → MkFact T Γ (gx K) K mg f c
  fld : ∀ c f C, T.fldB c f = true → clsOf K c = some C → NoAttr K C f
theorem script_ok {K : PySem.W.Frag} {H : Hp} {a : Addr} {ns : List Int} {c : List D → Sto → R D} (hS : SqL K H a (ns.map V.int)) (h : ∃ S', c [.scr (ns.map .int)] [] = .ok (.bl true) S') : spOf (gx K) c [.ref a] H (fun v _ => v = .bl true) fun _ _ _ => False := by
  obtain ⟨S', h⟩ := h
  have ri : ∀ (w : Wd) (l : List Int), RVs K w H (l.map V.int) (l.map D.int) := fun w l => by
    induction l with
    | nil => simp [RVs]
    | cons i l ih => simp only [List.map_cons, RVs]; exact ⟨_, _, rfl, by simp [RV], ih⟩
  refine ⟨⟨[], fun b => H b ≠ none, fun _ z => by simp at z, List.nodup_nil⟩, [], [.scr (ns.map .int)], ⟨rfl, fun n o z => by simp at z, fun a h => h⟩, ?_, ?_⟩
  · simp only [RVs, RV]
    refine ⟨_, [], rfl, ⟨a, ns.map V.int, rfl, ?_, ri _ _⟩, rfl⟩
    rcases hS with hS | hS
    · exact .inl ⟨Rd.ne hS, hS⟩
    · exact .inr hS
  · rw [h]
    intro w' H' v e hS' r
    simpa only [RV] using r
theorem law_walkC {l : PySem.W.OpenLaw} {q : Program} {loose : List Str} {XP : (Str → Option Value) → Heap → Prop} {YP : World → Heap → Prop} {d : DefRec} {K : Params → PySem.W.Frag} {T : Tb} {Γ : Tab} {turns kk fL : Nat} {x : Str}
    (hn : l.most = some 63) (hdf : d.params.defaults = []) (hr : Room (2 * (kk + 1)) callerA) (hY : ∀ (w : World) (h : Heap), YP w h → (K w.params).In h)
    (main : ∀ ns : List Int, ns.length ≤ 63 → ∃ S', evCall Γ turns (kk + 1) fL [.scr (ns.map .int)] [] = .ok (.bl true) S')
    (F : ∀ (w : World) (mg : Str → Option Value) (fa : Addr) (h : Heap), (K w.params).In h → h.Ns mainGlobals mg → mg d.name = some (.ref fa) →
      (∀ f, T.isF f = true → FnFact T Γ (K w.params) mg f) ∧ CFacts T Γ (K w.params) mg ∧ Blts (K w.params) ∧ (∀ x d, T.conB x d = true → flatD d = true ∧ ∃ u, mg x = some u ∧ RelV (vOf d) u) ∧
      ∃ (fd : FuncData) (N : List Str) (st : Stmt) (y qual : Str) (body : List Sm), FunD (K w.params) y qual (defArgs st) (defBody st) (defScope st) [] [] fa fd ∧ FnScope N [x] (defScope st) ∧ Γ fL = some ⟨1, N.length, body⟩ ∧ chB T N (defScope st) (locB (defScope st)) body (defBody st) = true ∧
        ∀ (s : Shared) (u : Value), BindsTo s fd ⟨[u], []⟩ [(x, u)]) :
    PySem.W.WalkO q loose XP YP l.row.toRowW d [] (fun f vs => PySem.call f vs) := by
  refine L2.walk_of (n := 63) (k := 2 * (kk + 1)) (x := x) (CX := fun w => L2.CX l.prog w) (sp := fun w => spOf (gx (K w.params)) (evCall Γ turns (kk + 1) fL)) hn (by decide) hdf hr hY (fun w mg fa h KX G hmg => ?_) (fun w H a ns hl _ hS => script_ok hS (main ns hl)) fun w H s e s' ⟨_, _, _, _, _, _, _, _, _, _, _, _, z⟩ => z
  obtain ⟨h1, C, B, h3, fd, N, st, y, qual, body, h4, h5, h6, h7, h8⟩ := F w mg fa h KX G hmg
  refine ⟨fd, h8, fun base KB GB => ?_⟩
  have mz : ∀ {y : Str}, PySem.W.nsIn (K w.params) mainGlobals y = some none → mg y = none := fun z => PySem.W.mg_none_of KX G z
  have lw := lw_all (T := T) (G := gx (K w.params)) (Γ := Γ) (turns := turns) (P := l.prog) (wo := w) (K := K w.params) (mg := mg) (base := base) rfl ⟨h1, mz B.h17, mz B.h18,
    (fun b => by cases b <;> first | exact mz B.h1 | exact mz B.h2 | exact mz B.h3 | exact mz B.h4 | exact mz B.h5 | exact mz B.h6 | exact mz B.h7 | exact mz B.h8 | exact mz B.h9),
    mz B.h10, mz B.h11, mz B.h12, (fun t => by cases t <;> first | exact mz B.h13 | exact mz B.h14 | exact mz B.h15 | exact mz B.h8 | exact mz B.h9 | exact mz B.h16), h3, C.mth, C.mkd, C.fld, mz B.h16⟩ kk
  exact fn_ok h4 h5 lw h6 h7
/-- a law without classes -/
theorem law_walk {l : PySem.W.OpenLaw} {q : Program} {loose : List Str} {XP : (Str → Option Value) → Heap → Prop} {YP : World → Heap → Prop} {d : DefRec} {K : Params → PySem.W.Frag} {T : Tb} {Γ : Tab} {turns kk fL : Nat} {x : Str}
    (hn : l.most = some 63) (hdf : d.params.defaults = []) (hr : Room (2 * (kk + 1)) callerA) (hY : ∀ (w : World) (h : Heap), YP w h → (K w.params).In h)
    (hm : T.mthB = fun _ _ _ => false) (hk : T.mkB = fun _ _ => false) (hf : T.fldB = fun _ _ => false)
    (main : ∀ ns : List Int, ns.length ≤ 63 → ∃ S', evCall Γ turns (kk + 1) fL [.scr (ns.map .int)] [] = .ok (.bl true) S')
    (F : ∀ (w : World) (mg : Str → Option Value) (fa : Addr) (h : Heap), (K w.params).In h → h.Ns mainGlobals mg → mg d.name = some (.ref fa) →
      (∀ f, T.isF f = true → FnFact T Γ (K w.params) mg f) ∧ Blts (K w.params) ∧ (∀ x d, T.conB x d = true → flatD d = true ∧ ∃ u, mg x = some u ∧ RelV (vOf d) u) ∧
      ∃ (fd : FuncData) (N : List Str) (st : Stmt) (y qual : Str) (body : List Sm), FunD (K w.params) y qual (defArgs st) (defBody st) (defScope st) [] [] fa fd ∧ FnScope N [x] (defScope st) ∧ Γ fL = some ⟨1, N.length, body⟩ ∧ chB T N (defScope st) (locB (defScope st)) body (defBody st) = true ∧
        ∀ (s : Shared) (u : Value), BindsTo s fd ⟨[u], []⟩ [(x, u)]) :
    PySem.W.WalkO q loose XP YP l.row.toRowW d [] (fun f vs => PySem.call f vs) := by
  refine law_walkC (T := T) (x := x) hn hdf hr hY main fun w mg fa h KX G hmg => ?_
  obtain ⟨h1, B, h3⟩ := F w mg fa h KX G hmg
  exact ⟨h1, ⟨fun f c m z => (by rw [hm] at z; cases z), fun f c z => (by rw [hk] at z; cases z), fun c f C z => (by rw [hf] at z; cases z)⟩, B, h3⟩
end BX
set_option Elab.async false
set_option linter.all false
set_option maxRecDepth 100000
/-! BX9: running the evaluator by simp. -/
namespace BX
open PySem L2
open PyProof.Rows hiding St Binds

theorem bd_congr {α β : Type} {r r' : R α} {f : α → Sto → R β} (h : r = r') : r.bd f = r'.bd f := by rw [h]
theorem lf_congr {α : Type} {r r' : R α} {ε : Env} {f : α → Sto → R Fl} (h : r = r') : r.lf ε f = r'.lf ε f := by rw [h]
def ifk {α : Type} (k : Bool) (a b : α) : α := if k = true then a else b
@[simp] theorem ifk_true {α : Type} {a b : α} : ifk true a b = a := (rfl)
@[simp] theorem ifk_false {α : Type} {a b : α} : ifk false a b = b := (rfl)
theorem ifk_congr {α : Type} {k k' : Bool} {a b : α} (h : k = k') : ifk k a b = ifk k' a b := by rw [h]
/-- an option's answer -/
def opk {α β : Type} (o : Option α) (f : α → R β) : R β := match o with
  | some a => f a
  | none => .stuck
@[simp] theorem opk_some {α β : Type} {a : α} {f : α → R β} : opk (some a) f = f a := (rfl)
theorem opk_congr {α β : Type} {o o' : Option α} {f : α → R β} (h : o = o') : opk o f = opk o' f := by rw [h]
/-- what comes behind a statement -/
def thn {β : Type} (r : R Fl) (k : Env → Sto → R Fl) : R Fl := r.bd fun f S1 => match f with
  | .nx ε' => k ε' S1
  | f => .ok f S1
@[simp] theorem thn_nx {ε : Env} {S : Sto} {k : Env → Sto → R Fl} : thn (β := Unit) (.ok (.nx ε) S) k = k ε S := (rfl)
@[simp] theorem thn_rt {d : D} {S : Sto} {k : Env → Sto → R Fl} : thn (β := Unit) (.ok (.rt d) S) k = .ok (.rt d) S := (rfl)
@[simp] theorem thn_bk {ε : Env} {S : Sto} {k : Env → Sto → R Fl} : thn (β := Unit) (.ok (.bk ε) S) k = .ok (.bk ε) S := (rfl)
@[simp] theorem thn_ct {ε : Env} {S : Sto} {k : Env → Sto → R Fl} : thn (β := Unit) (.ok (.ct ε) S) k = .ok (.ct ε) S := (rfl)
@[simp] theorem thn_ex {x : Exc} {ε : Env} {S : Sto} {k : Env → Sto → R Fl} : thn (β := Unit) (.ok (.ex x ε) S) k = .ok (.ex x ε) S := (rfl)
theorem thn_congr {r r' : R Fl} {k : Env → Sto → R Fl} (h : r = r') : thn (β := Unit) r k = thn (β := Unit) r' k := by rw [h]
@[simp] theorem flOut_rt {d : D} {S : Sto} : flOut (.ok (.rt d) S) = .ok d S := (rfl)
@[simp] theorem flOut_nx {ε : Env} {S : Sto} : flOut (.ok (.nx ε) S) = .ok .non S := (rfl)
@[simp] theorem flOut_ex {x : Exc} {ε : Env} {S : Sto} : flOut (.ok (.ex x ε) S) = .exc x S := (rfl)
@[simp] theorem getV_val {ε : Env} {i : Nat} {S : Sto} {d : D} (h : ε[i]? = some (.val d)) : getV ε i S = .ok d S := by simp [getV, h]
@[simp] theorem opd_val {ε : Env} {i : Nat} {S : Sto} {d : D} {r : R D} (h : ε[i]? = some (.val d)) : opd ε (.var i) S r = r := by simp [opd, h]
@[simp] theorem opd_own {ε : Env} {i : Nat} {S : Sto} {d : D} {r : R D} (h : ε[i]? = some (.own d)) : opd ε (.var i) S r = .ok d S := by simp [opd, h]
@[simp] theorem opd_cst {ε : Env} {S : Sto} {r : R D} {d : D} : opd ε (.cst d) S r = r := (rfl)
@[simp] theorem opd_callK {ε : Env} {S : Sto} {r : R D} {f : Nat} {es kes : List Ex} {ks : List Str} {pm : List (Nat ⊕ D)} : opd ε (.callK f es ks kes pm) S r = r := (rfl)
@[simp] theorem opd_op1 {ε : Env} {S : Sto} {r : R D} {o : Op1} {a : Ex} : opd ε (.op1 o a) S r = r := (rfl)
@[simp] theorem opd_op2 {ε : Env} {S : Sto} {r : R D} {o : Op2} {a b : Ex} : opd ε (.op2 o a b) S r = r := (rfl)
@[simp] theorem opd_glb {ε : Env} {S : Sto} {r : R D} {x : Str} {d : D} : opd ε (.glb x d) S r = r := (rfl)
@[simp] theorem opd_bin {ε : Env} {S : Sto} {r : R D} {o : BOp} {a : Ex} {b : Ex} : opd ε (.bin o a b) S r = r := (rfl)
@[simp] theorem opd_neg {ε : Env} {S : Sto} {r : R D} {a : Ex} : opd ε (.neg a) S r = r := (rfl)
@[simp] theorem opd_cmp {ε : Env} {S : Sto} {r : R D} {o : COp} {a : Ex} {b : Ex} : opd ε (.cmp o a b) S r = r := (rfl)
@[simp] theorem opd_chn {ε : Env} {S : Sto} {r : R D} {o : COp} {o2 : COp} {a : Ex} {b : Ex} {c : Ex} : opd ε (.chn o o2 a b c) S r = r := (rfl)
@[simp] theorem opd_and {ε : Env} {S : Sto} {r : R D} {a : Ex} {b : Ex} : opd ε (.and a b) S r = r := (rfl)
@[simp] theorem opd_or {ε : Env} {S : Sto} {r : R D} {a : Ex} {b : Ex} : opd ε (.or a b) S r = r := (rfl)
@[simp] theorem opd_not {ε : Env} {S : Sto} {r : R D} {a : Ex} : opd ε (.not a) S r = r := (rfl)
@[simp] theorem opd_ite {ε : Env} {S : Sto} {r : R D} {c : Ex} {a : Ex} {b : Ex} : opd ε (.ite c a b) S r = r := (rfl)
@[simp] theorem opd_tup {ε : Env} {S : Sto} {r : R D} {es : List Ex} : opd ε (.tup es) S r = r := (rfl)
@[simp] theorem opd_lst {ε : Env} {S : Sto} {r : R D} {es : List Ex} : opd ε (.lst es) S r = r := (rfl)
@[simp] theorem opd_nlst {ε : Env} {S : Sto} {r : R D} {es : List Ex} : opd ε (.nlst es) S r = r := (rfl)
@[simp] theorem opd_ix {ε : Env} {S : Sto} {r : R D} {a : Ex} {b : Ex} : opd ε (.ix a b) S r = r := (rfl)
@[simp] theorem opd_sl {ε : Env} {S : Sto} {r : R D} {a : Ex} {lo : Option Ex} {hi : Option Ex} : opd ε (.sl a lo hi) S r = r := (rfl)
@[simp] theorem opd_call {ε : Env} {S : Sto} {r : R D} {f : Nat} {es : List Ex} {dv : List D} : opd ε (.call f es dv) S r = r := (rfl)
@[simp] theorem opd_blt {ε : Env} {S : Sto} {r : R D} {b : Blt} {es : List Ex} : opd ε (.blt b es) S r = r := (rfl)
@[simp] theorem opd_isi {ε : Env} {S : Sto} {r : R D} {a : Ex} {t : Ty} : opd ε (.isi a t) S r = r := (rfl)
@[simp] theorem opd_prim {ε : Env} {S : Sto} {r : R D} {p : Pr} {es : List Ex} : opd ε (.prim p es) S r = r := (rfl)
@[simp] theorem opd_mth {ε : Env} {S : Sto} {r : R D} {f : Nat} {c m : Str} {o : Ex} {es : List Ex} {dv : List D} : opd ε (.mth f c m o es dv) S r = r := (rfl)
@[simp] theorem opd_mthK {ε : Env} {S : Sto} {r : R D} {f : Nat} {c m : Str} {o : Ex} {es kes : List Ex} {ks : List Str} {pm : List (Nat ⊕ D)} : opd ε (.mthK f c m o es ks kes pm) S r = r := (rfl)
@[simp] theorem opd_mk {ε : Env} {S : Sto} {r : R D} {f : Nat} {c : Str} {es : List Ex} {dv : List D} : opd ε (.mk f c es dv) S r = r := (rfl)
@[simp] theorem opd_mkK {ε : Env} {S : Sto} {r : R D} {f : Nat} {c : Str} {es kes : List Ex} {ks : List Str} {pm : List (Nat ⊕ D)} : opd ε (.mkK f c es ks kes pm) S r = r := (rfl)
@[simp] theorem opd_lc {ε : Env} {S : Sto} {r : R D} {el : Ex} {tg : Tg} {it : Itx} {cond : Option Ex} {own : List Nat} : opd ε (.lc el tg it cond own) S r = r := (rfl)
section
variable {call : Call} {ε : Env} {S : Sto}
@[simp] theorem evE_prim {p : Pr} {es : List Ex} : evE call (.prim p es) ε S = (evOs call es ε S).bd fun ds S1 => prF p ds S1 := by simp only [evE]
@[simp] theorem evT_prim {p : Pr} {es : List Ex} : evT call (.prim p es) ε S = ((evOs call es ε S).bd fun ds S1 => prF p ds S1).bd fun x S1 => R.of S1 (truF x) := by simp only [evT]
/-- which object a method is called of -/
def objAt (S : Sto) (c m : Str) : D → Option Nat
  | .ref n => match S[n]? with
    | some (.ins c' fs) => if c' = c ∧ fs.lookup m = none then some n else none
    | _ => none
  | _ => none
theorem objAt_ref {c m : Str} {n : Nat} {fs : List (Str × D)} (h : S[n]? = some (.ins c fs)) (l : fs.lookup m = none) : objAt S c m (.ref n) = some n := by simp [objAt, h, l]
@[simp] theorem evE_mth {f : Nat} {c m : Str} {o : Ex} {es : List Ex} {dv : List D} : evE call (.mth f c m o es dv) ε S = (evE call o ε S).bd fun x S1 => opk (objAt S1 c m x) fun n => (evEs call es ε S1).bd fun ds S2 => call f (.ref n :: (ds ++ dv)) S2 := by
  simp only [evE]; congr 1; funext x S1
  cases x <;> try rfl
  rename_i n
  simp only [objAt]
  cases S1[n]? with
  | none => rfl
  | some o =>
    cases o <;> try rfl
    dsimp only
    split <;> rfl
@[simp] theorem evT_mth {f : Nat} {c m : Str} {o : Ex} {es : List Ex} {dv : List D} : evT call (.mth f c m o es dv) ε S = (evE call (.mth f c m o es dv) ε S).bd fun x S1 => R.of S1 (truF x) := by simp only [evT, evE]
@[simp] theorem evE_mthK {f : Nat} {c m : Str} {o : Ex} {es kes : List Ex} {ks : List Str} {pm : List (Nat ⊕ D)} : evE call (.mthK f c m o es ks kes pm) ε S = (evE call o ε S).bd fun x S1 => opk (objAt S1 c m x) fun n => (evEs call es ε S1).bd fun ds S2 => (evEs call kes ε S2).bd fun zs S3 => call f (pmF (.ref n :: (ds ++ zs)) pm) S3 := by
  simp only [evE]; congr 1; funext x S1
  cases x <;> try rfl
  rename_i n
  simp only [objAt]
  cases S1[n]? with
  | none => rfl
  | some o =>
    cases o <;> try rfl
    dsimp only
    split <;> rfl
/-- a maker answers none -/
def isNon : D → Option Unit
  | .non => some ()
  | _ => none
@[simp] theorem isNon_non : isNon .non = some () := (rfl)
@[simp] theorem evE_mk {f : Nat} {c : Str} {es : List Ex} {dv : List D} : evE call (.mk f c es dv) ε S = (evEs call es ε S).bd fun ds S1 => (call f (.ref S1.length :: (ds ++ dv)) (S1 ++ [.ins c []])).bd fun x S2 => opk (isNon x) fun _ => .ok (.ref S1.length) S2 := by
  simp only [evE]; congr 1; funext ds S1; congr 1; funext x S2; cases x <;> rfl
@[simp] theorem evE_mkK {f : Nat} {c : Str} {es kes : List Ex} {ks : List Str} {pm : List (Nat ⊕ D)} : evE call (.mkK f c es ks kes pm) ε S = (evEs call es ε S).bd fun ds S1 => (evEs call kes ε S1).bd fun zs S2 => (call f (pmF (.ref S2.length :: (ds ++ zs)) pm) (S2 ++ [.ins c []])).bd fun x S3 => opk (isNon x) fun _ => .ok (.ref S2.length) S3 := by
  simp only [evE]; congr 1; funext ds S1; congr 1; funext zs S2; congr 1; funext x S3; cases x <;> rfl
@[simp] theorem evE_cst {d : D} : evE call (.cst d) ε S = .ok d S := by simp only [evE]
@[simp] theorem evE_var {i : Nat} : evE call (.var i) ε S = getV ε i S := by simp only [evE]
@[simp] theorem evE_glb {x : Str} {d : D} : evE call (.glb x d) ε S = .ok d S := by simp only [evE]
@[simp] theorem evE_bin {o : BOp} {a b : Ex} : evE call (.bin o a b) ε S = (opd ε a S (evE call a ε S)).bd fun x S1 => (opd ε b S1 (evE call b ε S1)).bd fun y S2 => R.of S2 (binF o x y) := by simp only [evE]
@[simp] theorem evE_neg {a : Ex} : evE call (.neg a) ε S = (evE call a ε S).bd fun x S1 => opk (match x with | .int i => some (D.int (-i)) | _ => none) fun d => .ok d S1 := by
  simp only [evE]; congr 1; funext x S1; cases x <;> rfl
@[simp] theorem evE_cmp {o : COp} {a b : Ex} : evE call (.cmp o a b) ε S = (opd ε a S (evE call a ε S)).bd fun x S1 => (opd ε b S1 (evE call b ε S1)).bd fun y S2 => R.of S2 ((cmpF o x y).map .bl) := by simp only [evE]
@[simp] theorem evE_chn {o o' : COp} {a b c : Ex} : evE call (.chn o o' a b c) ε S = (opd ε a S (evE call a ε S)).bd fun x S1 => (opd ε b S1 (evE call b ε S1)).bd fun y S2 => (R.of S2 (cmpF o x y)).bd fun k S3 =>
      ifk k ((opd ε c S3 (evE call c ε S3)).bd fun z S4 => R.of S4 ((cmpF o' y z).map .bl)) (.ok (.bl false) S3) := by simp only [evE]; rfl
@[simp] theorem evE_and {a b : Ex} : evE call (.and a b) ε S = (evE call a ε S).bd fun x S1 => opk (match x with | .bl k => some k | _ => none) fun k => ifk k (evE call b ε S1) (.ok (.bl false) S1) := by
  simp only [evE]; congr 1; funext x S1; cases x <;> try rfl
  rename_i k; cases k <;> rfl
@[simp] theorem evE_or {a b : Ex} : evE call (.or a b) ε S = (evE call a ε S).bd fun x S1 => opk (match x with | .bl k => some k | _ => none) fun k => ifk k (.ok (.bl true) S1) (evE call b ε S1) := by
  simp only [evE]; congr 1; funext x S1; cases x <;> try rfl
  rename_i k; cases k <;> rfl
@[simp] theorem evE_not {a : Ex} : evE call (.not a) ε S = (opd ε a S (evE call a ε S)).bd fun x S1 => R.of S1 ((truF x).map fun k => .bl (!k)) := by simp only [evE]
@[simp] theorem evE_ite {c a b : Ex} : evE call (.ite c a b) ε S = (evT call c ε S).bd fun k S1 => ifk k (evE call a ε S1) (evE call b ε S1) := by simp only [evE]; rfl
@[simp] theorem evE_tup {es : List Ex} : evE call (.tup es) ε S = (evEs call es ε S).bd fun ds S1 => ifk (decide (ds.length ≤ sizeLine)) (.ok (.tup ds) S1) .stuck := by
  simp only [evE]; congr 1; funext x S1; unfold ifk; simp only [decide_eq_true_eq]
@[simp] theorem evE_lst {es : List Ex} : evE call (.lst es) ε S = (evEs call es ε S).bd fun ds S1 => ifk (decide (ds.length ≤ sizeLine)) (.ok (.lst ds) S1) .stuck := by
  simp only [evE]; congr 1; funext x S1; unfold ifk; simp only [decide_eq_true_eq]
@[simp] theorem evE_nlst {es : List Ex} : evE call (.nlst es) ε S = (evEs call es ε S).bd fun ds S1 => ifk (decide (ds.length ≤ sizeLine)) (.ok (.ref S1.length) (S1 ++ [.lst ds])) .stuck := by
  simp only [evE]; congr 1; funext x S1; unfold ifk; simp only [decide_eq_true_eq]
@[simp] theorem evE_ix {a b : Ex} : evE call (.ix a b) ε S = (opd ε a S (evE call a ε S)).bd fun x S1 => (evE call b ε S1).bd fun y S2 => R.of S2 (ixS S2 x y) := by
  simp only [evE]; congr 1; funext x S1; congr 1; funext y S2
  cases x <;> try rfl
  simp only [ixS]
  rename_i n
  cases S2[n]? with
  | none => rfl
  | some o => cases o <;> rfl
@[simp] theorem evE_sl {a : Ex} {lo hi : Option Ex} : evE call (.sl a lo hi) ε S = (opd ε a S (evE call a ε S)).bd fun x S1 => (evP call lo ε S1).bd fun l S2 => (evP call hi ε S2).bd fun h S3 => R.of S3 (slF x l h) := by simp only [evE]
@[simp] theorem evE_call {f : Nat} {es : List Ex} {dv : List D} : evE call (.call f es dv) ε S = (evEs call es ε S).bd fun ds S1 => call f (ds ++ dv) S1 := by simp only [evE]
@[simp] theorem evE_callK {f : Nat} {es kes : List Ex} {ks : List Str} {pm : List (Nat ⊕ D)} : evE call (.callK f es ks kes pm) ε S = (evEs call es ε S).bd fun ds S1 => (evEs call kes ε S1).bd fun zs S2 => call f (pmF (ds ++ zs) pm) S2 := by simp only [evE]
@[simp] theorem evE_op1 {o : Op1} {a : Ex} : evE call (.op1 o a) ε S = (evE call a ε S).bd fun x S1 => R.of S1 (op1F o x) := by simp only [evE]
@[simp] theorem evE_op2 {o : Op2} {a b : Ex} : evE call (.op2 o a b) ε S = (evE call a ε S).bd fun x S1 => (evE call b ε S1).bd fun y S2 => R.of S2 (op2F o x y) := by simp only [evE]
@[simp] theorem evE_blt {b : Blt} {es : List Ex} : evE call (.blt b es) ε S = (evOs call es ε S).bd fun ds S1 => R.of S1 (bltF b ds) := by simp only [evE]
@[simp] theorem evE_isi {a : Ex} {t : Ty} : evE call (.isi a t) ε S = (opd ε a S (evE call a ε S)).bd fun x S1 => R.of S1 ((kindIs x t).map .bl) := by simp only [evE]
/-- a comprehension's element -/
def lcF (call : Call) (el : Ex) (tg : Tg) (cond : Option Ex) (own : List Nat) (ε : Env) : D → Sto → R (Option D) := fun d S => opk (setT tg d (wipeE ε own)) fun ε' => (evC call cond ε' S).bd fun k S2 => ifk k ((evE call el ε' S2).bd fun x S3 => .ok (some x) S3) (.ok none S2)
/-- the list of a comprehension -/
def lcR (r : R (List D)) : R D := match r with
  | .ok xs S2 => if xs.length ≤ sizeLine then .ok (.lst xs) S2 else .stuck
  | _ => .stuck
theorem lcR_congr {r r' : R (List D)} (h : r = r') : lcR r = lcR r' := by rw [h]
@[simp] theorem evE_lc {el : Ex} {tg : Tg} {it : Itx} {cond : Option Ex} {own : List Nat} : evE call (.lc el tg it cond own) ε S = (evI call it ε S).bd fun ds S1 => lcR (lcL (lcF call el tg cond own ε) ds S1) := by
  simp only [evE]
  congr 1
  funext ds S1
  show lcR (lcL _ ds S1) = lcR (lcL _ ds S1)
  congr 2
  funext d S
  unfold lcF
  cases setT tg d (wipeE ε own) <;> rfl
@[simp] theorem evT_and {a b : Ex} : evT call (.and a b) ε S = (evT call a ε S).bd fun k S1 => ifk k (evT call b ε S1) (.ok false S1) := by simp only [evT]; rfl
@[simp] theorem evT_or {a b : Ex} : evT call (.or a b) ε S = (evT call a ε S).bd fun k S1 => ifk k (.ok true S1) (evT call b ε S1) := by simp only [evT]; rfl
@[simp] theorem evT_not {a : Ex} : evT call (.not a) ε S = (evT call a ε S).bd fun k S1 => .ok (!k) S1 := by simp only [evT]
@[simp] theorem evT_var {i : Nat} : evT call (.var i) ε S = (opd ε (.var i) S (evE call (.var i) ε S)).bd fun x S1 => R.of S1 (truF x) := by simp only [evT]
@[simp] theorem evT_cst {d : D} : evT call (.cst d) ε S = R.of S (truF d) := by simp only [evT]
@[simp] theorem evT_glb {x : Str} {d : D} : evT call (.glb x d) ε S = R.of S (truF d) := by simp only [evT]
@[simp] theorem evT_cmp {o : COp} {a b : Ex} : evT call (.cmp o a b) ε S = (opd ε a S (evE call a ε S)).bd fun x S1 => (opd ε b S1 (evE call b ε S1)).bd fun y S2 => R.of S2 (cmpF o x y) := by simp only [evT]
@[simp] theorem evT_chn {o o' : COp} {a b c : Ex} : evT call (.chn o o' a b c) ε S = (opd ε a S (evE call a ε S)).bd fun x S1 => (opd ε b S1 (evE call b ε S1)).bd fun y S2 => (R.of S2 (cmpF o x y)).bd fun k S3 =>
      ifk k ((opd ε c S3 (evE call c ε S3)).bd fun z S4 => R.of S4 (cmpF o' y z)) (.ok false S3) := by simp only [evT]; rfl
@[simp] theorem evT_chn3 {o o' o2 : COp} {a b c d : Ex} : evT call (.chn3 o o' o2 a b c d) ε S = (opd ε a S (evE call a ε S)).bd fun x S1 => (opd ε b S1 (evE call b ε S1)).bd fun y S2 => (R.of S2 (cmpF o x y)).bd fun k S3 =>
      ifk k ((opd ε c S3 (evE call c ε S3)).bd fun z S4 => (R.of S4 (cmpF o' y z)).bd fun k2 S5 => ifk k2 ((opd ε d S5 (evE call d ε S5)).bd fun v S6 => R.of S6 (cmpF o2 z v)) (.ok false S5)) (.ok false S3) := by simp only [evT]; rfl
@[simp] theorem evT_callK {f : Nat} {es kes : List Ex} {ks : List Str} {pm : List (Nat ⊕ D)} : evT call (.callK f es ks kes pm) ε S = ((evEs call es ε S).bd fun ds S1 => (evEs call kes ε S1).bd fun zs S2 => call f (pmF (ds ++ zs) pm) S2).bd fun x S1 => R.of S1 (truF x) := by simp only [evT]
@[simp] theorem evT_call {f : Nat} {es : List Ex} {dv : List D} : evT call (.call f es dv) ε S = ((evEs call es ε S).bd fun ds S1 => call f (ds ++ dv) S1).bd fun x S1 => R.of S1 (truF x) := by simp only [evT]
@[simp] theorem evT_blt {b : Blt} {es : List Ex} : evT call (.blt b es) ε S = ((evOs call es ε S).bd fun ds S1 => R.of S1 (bltF b ds)).bd fun x S1 => R.of S1 (truF x) := by simp only [evT]
@[simp] theorem evT_isi {a : Ex} {t : Ty} : evT call (.isi a t) ε S = (opd ε a S (evE call a ε S)).bd fun x S1 => R.of S1 (kindIs x t) := by simp only [evT]
@[simp] theorem evT_ix {a b : Ex} : evT call (.ix a b) ε S = (evE call (.ix a b) ε S).bd fun x S1 => R.of S1 (truF x) := by simp only [evT, evE]
@[simp] theorem evEs_nil : evEs call [] ε S = .ok [] S := by simp only [evEs]
@[simp] theorem evEs_cons {e : Ex} {es : List Ex} : evEs call (e :: es) ε S = (evE call e ε S).bd fun d S1 => (evEs call es ε S1).bd fun ds S2 => .ok (d :: ds) S2 := by simp only [evEs]
@[simp] theorem evOs_nil : evOs call [] ε S = .ok [] S := by simp only [evOs]
@[simp] theorem evOs_cons {e : Ex} {es : List Ex} : evOs call (e :: es) ε S = (opd ε e S (evE call e ε S)).bd fun d S1 => (evOs call es ε S1).bd fun ds S2 => .ok (d :: ds) S2 := by simp only [evOs]
@[simp] theorem evP_none : evP call none ε S = .ok none S := by simp only [evP]
@[simp] theorem evP_some {e : Ex} : evP call (some e) ε S = (evE call e ε S).bd fun d S1 => opk (match d with | .int i => some i | _ => none) fun i => .ok (some i) S1 := by
  simp only [evP]; congr 1; funext d S1; cases d <;> rfl
@[simp] theorem evC_none : evC call none ε S = .ok true S := by simp only [evC]
@[simp] theorem evC_some {e : Ex} : evC call (some e) ε S = evT call e ε S := by simp only [evC]
@[simp] theorem evI_seq {e : Ex} : evI call (.seq e) ε S = (evE call e ε S).bd fun x S1 => R.of S1 (seqOf x) := by simp only [evI]
@[simp] theorem evI_rng {a : Ex} : evI call (.rng a) ε S = (evE call a ε S).bd fun x S1 => R.of S1 (rng1F x) := by simp only [evI]
@[simp] theorem evI_rng2 {a b : Ex} : evI call (.rng2 a b) ε S = (evE call a ε S).bd fun x S1 => (evE call b ε S1).bd fun y S2 => R.of S2 (rng2F x y) := by simp only [evI]
@[simp] theorem evI_zip {a b : Ex} : evI call (.zip a b) ε S = (evE call a ε S).bd fun x S1 => (evE call b ε S1).bd fun y S2 => R.of S2 (zipF x y) := by simp only [evI]
@[simp] theorem evI_rrng {a : Ex} : evI call (.rrng a) ε S = (evE call a ε S).bd fun x S1 => R.of S1 ((rng1F x).map List.reverse) := by simp only [evI]
@[simp] theorem evI_rev {a : Ex} : evI call (.rev a) ε S = (evE call a ε S).bd fun x S1 => opk (match x with | .lst l => some l.reverse | .tup l => some l.reverse | _ => none) fun l => .ok l S1 := by
  simp only [evI]; congr 1; funext x S1; cases x <;> rfl
variable {turns : Nat}
/-- one turn of a for -/
def forF (call : Call) (turns : Nat) (t : Tg) (b : List Sm) : D → Env → Sto → R Fl := fun d ε S => opk (setT t d ε) fun ε' => evB call turns b ε' S
@[simp] theorem evS_asg {t : Tg} {e : Ex} : evS call turns (.asg t e) ε S = (evE call e ε S).lf ε fun d S1 => opk (setT t d ε) fun ε' => .ok (.nx ε') S1 := by
  simp only [evS]; congr 1; funext d S1; cases setT t d ε <;> rfl
@[simp] theorem evS_par {i j : Nat} {a b : Ex} : evS call turns (.par i j a b) ε S = (evE call a ε S).lf ε fun x S1 => (evE call b ε S1).lf ε fun y S2 => .ok (.nx ((ε.set i (.val x)).set j (.val y))) S2 := by simp only [evS]
@[simp] theorem evS_own {i : Nat} {e : Ex} : evS call turns (.own i e) ε S = (evE call e ε S).lf ε fun d S1 => .ok (.nx (ε.set i (.own d))) S1 := by simp only [evS]
@[simp] theorem evS_frz {i : Nat} {s : Sm} {d : D} (h : ε[i]? = some (.own d)) : evS call turns (.frz i s) ε S = evS call turns s (ε.set i (.val d)) S := by simp only [evS, h]
@[simp] theorem evS_frz0 {i : Nat} {s : Sm} {d : D} (h : ε[i]? = some (.val d)) : evS call turns (.frz i s) ε S = evS call turns s ε S := by simp only [evS, h]
@[simp] theorem evS_aug {i : Nat} {o : BOp} {e : Ex} {x : Int} (h : ε[i]? = some (.val (.int x))) : evS call turns (.aug i o e) ε S = (evE call e ε S).lf ε fun y S1 => opk (match y with | .int y => binF o (.int x) (.int y) | _ => none) fun z => .ok (.nx (ε.set i (.val z))) S1 := by
  simp only [evS, h]; congr 1; funext y S1
  cases y <;> try rfl
  rename_i y
  show (match binF o (.int x) (.int y) with | some z => _ | none => _) = opk (binF o (.int x) (.int y)) _
  cases binF o (.int x) (.int y) <;> rfl
/-- x, *y of a value: what the two become -/
def starF : D → Option (D × List D)
  | .lst (x :: l) => if l.length < sizeLine then some (x, l) else none
  | .tup (x :: l) => if l.length < sizeLine then some (x, l) else none
  | _ => none
@[simp] theorem evS_star {i j : Nat} {e : Ex} : evS call turns (.star i j e) ε S = (evE call e ε S).lf ε fun d S1 => opk (starF d) fun p => .ok (.nx ((ε.set i (.val p.1)).set j (.val (.lst p.2)))) S1 := by
  simp only [evS]; congr 1; funext d S1
  cases d with
  | lst l => cases l with
    | nil => rfl
    | cons x l => by_cases h : l.length < sizeLine <;> simp [starF, h, opk]
  | tup l => cases l with
    | nil => rfl
    | cons x l => by_cases h : l.length < sizeLine <;> simp [starF, h, opk]
  | _ => rfl
@[simp] theorem evS_set {a i e : Ex} : evS call turns (.set a i e) ε S = (evE call e ε S).lf ε fun v S1 => (evE call a ε S1).lf ε fun o S2 => (evE call i ε S2).lf ε fun k S3 => opk (setL o k v S3) fun S4 => .ok (.nx ε) S4 := by
  simp only [evS]; congr 1; funext v S1; congr 1; funext o S2; congr 1; funext k S3; cases setL o k v S3 <;> rfl
@[simp] theorem evS_app {i : Nat} {e : Ex} {l : List D} (h : ε[i]? = some (.own (.lst l))) : evS call turns (.app i e) ε S = (evE call e ε S).lf ε fun y S1 => ifk (decide (l.length < sizeLine)) (.ok (.nx (ε.set i (.own (.lst (l ++ [y]))))) S1) .stuck := by
  simp only [evS, h]; congr 1; funext y S1; unfold ifk; simp only [decide_eq_true_eq]
@[simp] theorem evS_setO {i : Nat} {k e : Ex} {l : List D} (h : ε[i]? = some (.own (.lst l))) : evS call turns (.setO i k e) ε S = (evE call e ε S).lf ε fun v S1 => (evE call k ε S1).lf ε fun kk S2 => opk (match kk with | .int q => ixN l.length q | _ => none) fun j => .ok (.nx (ε.set i (.own (.lst (l.set j v))))) S2 := by
  simp only [evS, h]; congr 1; funext v S1; congr 1; funext kk S2
  cases kk <;> try rfl
  rename_i q
  show (match ixN l.length q with | some j => _ | none => _) = opk (ixN l.length q) _
  cases ixN l.length q <;> rfl
/-- where an item stands, and which int it is -/
def augAt (l : List D) : D → Option (Int × Nat)
  | .int q => match atI l q, ixN l.length q with
    | some (.int x), some j => some (x, j)
    | _, _ => none
  | _ => none
@[simp] theorem evS_augO {i : Nat} {k e : Ex} {o : BOp} {l : List D} (h : ε[i]? = some (.own (.lst l))) : evS call turns (.augO i k o e) ε S = (evE call k ε S).lf ε fun kk S1 => opk (augAt l kk) fun p => (evE call e ε S1).lf ε fun y S2 =>
    opk (match y with | .int y => binF o (.int p.1) (.int y) | _ => none) fun z => .ok (.nx (ε.set i (.own (.lst (l.set p.2 z))))) S2 := by
  simp only [evS, h]; congr 1; funext kk S1
  cases kk with
  | int q =>
    simp only [augAt]
    cases atI l q with
    | none => rfl
    | some d =>
      cases ixN l.length q with
      | none => cases d <;> rfl
      | some j =>
        cases d <;> try rfl
        rename_i x
        show (evE call e ε S1).lf ε _ = (evE call e ε S1).lf ε _
        congr 1
        funext y S2
        cases y <;> try rfl
        rename_i y
        show (match binF o (.int x) (.int y) with | some z => _ | none => _) = opk (binF o (.int x) (.int y)) _
        cases binF o (.int x) (.int y) <;> rfl
  | _ => rfl
@[simp] theorem evS_setOD {i : Nat} {k e : Ex} {ks : List Key} {vs : List D} (h : ε[i]? = some (.own (.dct ks vs))) : evS call turns (.setOD i k e) ε S = (evE call e ε S).lf ε fun v S1 => (evE call k ε S1).lf ε fun kk S2 => opk (keyD kk) fun q =>
    ifk (decide (ks.length < sizeLine)) (.ok (.nx (ε.set i (.own (.dct (putKs ks q) (putVs ks vs q v))))) S2) .stuck := by
  simp only [evS, h]; congr 1; funext v S1; congr 1; funext kk S2
  cases keyD kk <;> try rfl
  simp only [opk_some, ifk, decide_eq_true_eq]
@[simp] theorem evS_setD {a k e : Ex} : evS call turns (.setD a k e) ε S = (evE call e ε S).lf ε fun v S1 => (evE call a ε S1).lf ε fun o S2 => (evE call k ε S2).lf ε fun kk S3 => opk (setDS o kk v S3) fun S4 => .ok (.nx ε) S4 := by
  simp only [evS]; congr 1; funext v S1; congr 1; funext o S2; congr 1; funext kk S3; cases setDS o kk v S3 <;> rfl
@[simp] theorem evS_setF {a e : Ex} {c f : Str} : evS call turns (.setF a c f e) ε S = (evE call e ε S).lf ε fun v S1 => (evE call a ε S1).lf ε fun o S2 => opk (setFS o c f v S2) fun S3 => .ok (.nx ε) S3 := by
  simp only [evS]; congr 1; funext v S1; congr 1; funext o S2; cases setFS o c f v S2 <;> rfl
@[simp] theorem evS_popD {a k : Ex} : evS call turns (.popD a k) ε S = (evE call a ε S).lf ε fun o S1 => ifk (isDct o S1) ((evE call k ε S1).lf ε fun kk S2 => opk (popDS o kk S2) fun S3 => .ok (.nx ε) S3) .stuck := by
  simp only [evS]; congr 1; funext o S1
  unfold ifk
  split
  · congr 1; funext kk S2; cases popDS o kk S2 <;> rfl
  · rfl
@[simp] theorem evS_popO {t : Tg} {i : Nat} {l : List D} (h : ε[i]? = some (.own (.lst l))) : evS call turns (.popO t i) ε S = opk l.getLast? fun d => opk (setT t d (ε.set i (.own (.lst l.dropLast)))) fun ε' => .ok (.nx ε') S := by
  simp only [evS, h]
  cases l.getLast? with
  | none => rfl
  | some d => rw [opk_some]; dsimp only; cases setT t d (ε.set i (.own (.lst l.dropLast))) <;> rfl
def lstOf : D → Option (List D)
  | .lst l => some l
  | _ => none
@[simp] theorem lstOf_lst {l : List D} : lstOf (.lst l) = some l := (rfl)
@[simp] theorem evS_extO {i : Nat} {e : Ex} {l : List D} (h : ε[i]? = some (.own (.lst l))) : evS call turns (.extO i e) ε S = (evE call e ε S).lf ε fun y S1 => opk (lstOf y) fun m => ifk (decide (l.length + m.length ≤ sizeLine)) (.ok (.nx (ε.set i (.own (.lst (l ++ m))))) S1) .stuck := by
  simp only [evS, h]; congr 1; funext y S1
  cases y <;> try rfl
  simp only [lstOf_lst, opk_some, ifk, decide_eq_true_eq]
@[simp] theorem evS_exp {e : Ex} : evS call turns (.exp e) ε S = (evE call e ε S).lf ε fun _ S1 => .ok (.nx ε) S1 := by simp only [evS]
@[simp] theorem evS_ret {e : Ex} : evS call turns (.ret e) ε S = (evE call e ε S).lf ε fun d S1 => .ok (.rt d) S1 := by simp only [evS]
@[simp] theorem evS_retN : evS call turns .retN ε S = .ok (.rt .non) S := by simp only [evS]
@[simp] theorem evS_ite {c : Ex} {a b : List Sm} : evS call turns (.ite c a b) ε S = (evT call c ε S).lf ε fun k S1 => ifk k (evB call turns a ε S1) (evB call turns b ε S1) := by simp only [evS]; rfl
@[simp] theorem evS_for {t : Tg} {it : Itx} {b : List Sm} : evS call turns (.for t it b) ε S = (evI call it ε S).lf ε fun ds S1 => forL (forF call turns t b) ds ε S1 := by
  simp only [evS]; congr 1; funext ds S1; congr 1; funext d ε S; unfold forF; cases setT t d ε <;> rfl
@[simp] theorem evS_whl {c : Ex} {b : List Sm} : evS call turns (.whl c b) ε S = whlL (fun ε S => evT call c ε S) (fun ε S => evB call turns b ε S) turns ε S := by simp only [evS]
@[simp] theorem evS_brk : evS call turns .brk ε S = .ok (.bk ε) S := by simp only [evS]
@[simp] theorem evS_cnt : evS call turns .cnt ε S = .ok (.ct ε) S := by simp only [evS]
@[simp] theorem evS_pass : evS call turns .pass ε S = .ok (.nx ε) S := by simp only [evS]
@[simp] theorem evB_nil : evB call turns [] ε S = .ok (.nx ε) S := by simp only [evB]
@[simp] theorem evB_cons {s : Sm} {ss : List Sm} : evB call turns (s :: ss) ε S = thn (β := Unit) (evS call turns s ε S) fun ε' S' => evB call turns ss ε' S' := by simp only [evB]; rfl
end
/-! values -/
section
variable {i j : Int} {x y : Str} {l m : List D} {S : Sto}
@[simp] theorem bin_add : binF .add (.int i) (.int j) = some (.int (i + j)) := (rfl)
@[simp] theorem bin_sub : binF .sub (.int i) (.int j) = some (.int (i - j)) := (rfl)
@[simp] theorem mulOk_l (h : -(2 ^ 64) < i ∧ i < 2 ^ 64) : binF .mul (.int i) (.int j) = some (.int (i * j)) := by simp only [binF]; rw [if_pos]; unfold mulOk; exact decide_eq_true (.inl h)
@[simp] theorem mulOk_r (h : -(2 ^ 64) < j ∧ j < 2 ^ 64) : binF .mul (.int i) (.int j) = some (.int (i * j)) := by simp only [binF]; rw [if_pos]; unfold mulOk; exact decide_eq_true (.inr (.inl h))
theorem mulOk_w {a b : Nat} (ha : i.natAbs < 2 ^ a) (hb : j.natAbs < 2 ^ b) (h0 : 0 < a) (h1 : 0 < b) (h : a + b ≤ 1000000) : binF .mul (.int i) (.int j) = some (.int (i * j)) := by
  simp only [binF]; rw [if_pos]; unfold mulOk; exact decide_eq_true (.inr (.inr (wide_mul ha hb h0 h1 h)))
theorem fdiv_ok {b : Nat} (h : 0 < j) (hb : j.natAbs < 2 ^ b) (h0 : 0 < b) (h9 : b ≤ 9000) : binF .fdiv (.int i) (.int j) = some (.int (i / j)) := by
  simp only [binF]; rw [if_pos]; exact wide_div (i := 0) h hb h0 h9
@[simp] theorem fdiv_s (h : 0 < j ∧ j < 2 ^ 64) : binF .fdiv (.int i) (.int j) = some (.int (i / j)) := fdiv_ok (b := 64) h.1 (by omega) (by decide) (by decide)
@[simp] theorem mod_ok (h : 0 < j) : binF .mod (.int i) (.int j) = some (.int (i % j)) := by simp only [binF]; rw [if_pos h]
@[simp] theorem pow_ok (h : 0 ≤ j ∧ j ≤ 1000000 ∧ i.natAbs < 2 ^ 64) : binF .pow (.int i) (.int j) = some (.int (i ^ j.toNat)) := by
  simp only [binF]; rw [if_pos]; exact ⟨h.1, h.2.1, PyProof.Rows.bits_mul_le h.2.2 h.1 h.2.1⟩
@[simp] theorem cmp_lt : cmpF .lt (.int i) (.int j) = some (decide (i < j)) := (rfl)
@[simp] theorem cmp_le : cmpF .le (.int i) (.int j) = some (decide (i ≤ j)) := (rfl)
@[simp] theorem cmp_gt : cmpF .gt (.int i) (.int j) = some (decide (j < i)) := (rfl)
@[simp] theorem cmp_ge : cmpF .ge (.int i) (.int j) = some (decide (j ≤ i)) := (rfl)
@[simp] theorem cmp_eq {a b : D} : cmpF .eq a b = eqF a b := by cases a <;> cases b <;> rfl
@[simp] theorem cmp_ne {a b : D} : cmpF .ne a b = (eqF a b).map (!·) := by cases a <;> cases b <;> rfl
@[simp] theorem cmp_is {a b : D} : cmpF .is a b = isF a b := by cases a <;> cases b <;> rfl
@[simp] theorem cmp_isnot {a b : D} : cmpF .isnot a b = (isF a b).map (!·) := by cases a <;> cases b <;> rfl
@[simp] theorem is_non {a : D} : isF a .non = some (match a with | .non => true | _ => false) := (rfl)
@[simp] theorem is_bl {a b : Bool} : isF (.bl a) (.bl b) = some (decide (a = b)) := (rfl)
@[simp] theorem ixS_lst : ixS S (.lst l) (.int i) = atI l i := (rfl)
@[simp] theorem ixS_tup : ixS S (.tup l) (.int i) = atI l i := (rfl)
@[simp] theorem ixS_scr : ixS S (.scr l) (.int i) = atI l i := (rfl)
theorem ixS_ref {n : Nat} (h : S[n]? = some (.lst l)) : ixS S (.ref n) (.int i) = atI l i := by simp only [ixS, h]; rfl
theorem setL_ref {n : Nat} {v : D} (h : S[n]? = some (.lst l)) : setL (.ref n) (.int i) v S = (ixN l.length i).map fun j => S.set n (.lst (l.set j v)) := by simp only [setL, h]
@[simp] theorem ixS_set {b : Nat} (h : b < S.length) : ixS (S.set b (.lst l)) (.ref b) (.int i) = atI l i := ixS_ref (List.getElem?_set_self h)
@[simp] theorem setL_set {b : Nat} {v : D} (h : b < S.length) : setL (.ref b) (.int i) v (S.set b (.lst l)) = (ixN l.length i).map fun j => S.set b (.lst (l.set j v)) := by
  rw [setL_ref (List.getElem?_set_self h)]; simp only [List.set_set]
@[simp] theorem blt_len_scr : bltF .len [.scr l] = some (.int l.length) := (rfl)
@[simp] theorem blt_len_lst : bltF .len [.lst l] = some (.int l.length) := (rfl)
@[simp] theorem blt_len_tup : bltF .len [.tup l] = some (.int l.length) := (rfl)
@[simp] theorem blt_abs : bltF .abs [.int i] = some (.int (if i < 0 then -i else i)) := (rfl)
@[simp] theorem blt_max : bltF .max [.int i, .int j] = some (.int (if j > i then j else i)) := (rfl)
@[simp] theorem blt_min : bltF .min [.int i, .int j] = some (.int (if j < i then j else i)) := (rfl)
@[simp] theorem blt_tup : bltF .tuple [.lst l] = some (.tup l) := (rfl)
@[simp] theorem blt_tup2 : bltF .tuple [.tup l] = some (.tup l) := (rfl)
@[simp] theorem blt_list : bltF .list [.lst l] = some (.lst l) := (rfl)
@[simp] theorem blt_list2 : bltF .list [.tup l] = some (.lst l) := (rfl)
theorem blsOf_map {l : List Bool} : blsOf (l.map D.bl) = some l := by
  induction l with
  | nil => rfl
  | cons b l ih => simp [blsOf, ih]
theorem intsOf_map {l : List Int} : intsOf (l.map D.int) = some l := by
  induction l with
  | nil => rfl
  | cons b l ih => simp [intsOf, ih]
@[simp] theorem blt_all {l : List Bool} : bltF .all [.lst (l.map D.bl)] = some (.bl (l.all id)) := by simp [bltF, blsOf_map]
@[simp] theorem blt_any {l : List Bool} : bltF .any [.lst (l.map D.bl)] = some (.bl (l.any id)) := by simp [bltF, blsOf_map]
@[simp] theorem blt_sum {l : List Int} : bltF .sum [.lst (l.map D.int)] = some (.int l.sum) := by simp [bltF, intsOf_map]
@[simp] theorem pr_dnew : prF .dnew [] S = .ok (.dct [] []) S := (rfl)
@[simp] theorem pr_ndnew : prF .ndnew [] S = .ok (.ref S.length) (S ++ [.dct [] []]) := (rfl)
@[simp] theorem pr_fld {f : Str} {d : D} : prF (.fld f) [d] S = R.of S (fldF S f d) := (rfl)
@[simp] theorem pr_lemp : prF .lemp [.lst l] S = .ok (.bl l.isEmpty) S := (rfl)
@[simp] theorem pr_lnemp : prF .lnemp [.lst l] S = .ok (.bl (!l.isEmpty)) S := (rfl)
@[simp] theorem pr_llen : prF .llen [.lst l] S = .ok (.int l.length) S := (rfl)
@[simp] theorem pr_lcopy : prF .lcopy [.lst l] S = .ok (.lst l) S := (rfl)
@[simp] theorem pr_nlcopy : prF .nlcopy [.lst l] S = .ok (.ref S.length) (S ++ [.lst l]) := (rfl)
@[simp] theorem pr_dlen {ks : List Key} {vs : List D} : prF .dlen [.dct ks vs] S = .ok (.int ks.length) S := (rfl)
@[simp] theorem pr_dcopy {ks : List Key} {vs : List D} : prF .dcopy [.dct ks vs] S = .ok (.dct ks vs) S := (rfl)
@[simp] theorem pr_dlist {ks : List Key} {vs : List D} : prF .dlist [.dct ks vs] S = .ok (.lst (keysL ks)) S := (rfl)
@[simp] theorem pr_dget {ks : List Key} {vs : List D} {k : D} {q : Key} (h : keyD k = some q) : prF .dget [.dct ks vs, k] S = R.of S (getK ks vs q) := by simp [prF, dr, h]
@[simp] theorem pr_din {ks : List Key} {vs : List D} {k : D} {q : Key} (h : keyD k = some q) : prF .din [k, .dct ks vs] S = .ok (.bl (hasK ks vs q)) S := by simp [prF, dr, h]
@[simp] theorem pr_dnin {ks : List Key} {vs : List D} {k : D} {q : Key} (h : keyD k = some q) : prF .dnin [k, .dct ks vs] S = .ok (.bl (!hasK ks vs q)) S := by simp [prF, dr, h]
@[simp] theorem pr_dget1 {ks : List Key} {vs : List D} {k : D} {q : Key} (h : keyD k = some q) : prF .dget1 [.dct ks vs, k] S = .ok ((getK ks vs q).getD .non) S := by simp [prF, dr, h]
@[simp] theorem pr_dget2 {ks : List Key} {vs : List D} {k x : D} {q : Key} (h : keyD k = some q) : prF .dget2 [.dct ks vs, k, x] S = .ok ((getK ks vs q).getD x) S := by simp [prF, dr, h]
@[simp] theorem keyD_int {i : Int} : keyD (.int i) = some (.inl i) := (rfl)
@[simp] theorem keyD_str {x : Str} : keyD (.str x) = some (.inr x) := (rfl)
/-- a looked-at dict of the store -/
theorem dr_ref {n : Nat} {ks : List Key} {vs : List D} (h : S[n]? = some (.dct ks vs)) : dr S (.ref n) = .dct ks vs := by simp only [dr, h]
theorem dr_refL {n : Nat} (h : S[n]? = some (.lst l)) : dr S (.ref n) = .lst l := by simp only [dr, h]
theorem strsOf_map {xs : List Str} : strsOf (xs.map D.str) = some xs := by
  induction xs with
  | nil => rfl
  | cons x xs ih => simp [strsOf, ih]
theorem pr_join {y : Str} {xs : List Str} (h : (xs.map (·.length)).sum + xs.length * y.length ≤ 16777216) : prF (.join y) [.lst (xs.map .str)] S = .ok (.str (Txt.join y xs)) S := by
  simp only [prF, dr, strsOf_map, Option.bind_some]
  rw [if_pos h]
  rfl
@[simp] theorem cmp_ltS {x y : Str} : cmpF .lt (.str x) (.str y) = some (decide (x.cps.toList < y.cps.toList)) := (rfl)
@[simp] theorem cmp_leS {x y : Str} : cmpF .le (.str x) (.str y) = some (!decide (y.cps.toList < x.cps.toList)) := (rfl)
@[simp] theorem cmp_gtS {x y : Str} : cmpF .gt (.str x) (.str y) = some (decide (y.cps.toList < x.cps.toList)) := (rfl)
@[simp] theorem cmp_geS {x y : Str} : cmpF .ge (.str x) (.str y) = some (!decide (x.cps.toList < y.cps.toList)) := (rfl)
@[simp] theorem op1_lrev : op1F .lrev (.lst l) = some (.lst l.reverse) := (rfl)
@[simp] theorem pmF_nil : pmF l [] = [] := (rfl)
@[simp] theorem pmF_inl {n : Nat} {r : List (Nat ⊕ D)} : pmF l (.inl n :: r) = l.getD n .non :: pmF l r := (rfl)
@[simp] theorem pmF_inr {d : D} {r : List (Nat ⊕ D)} : pmF l (.inr d :: r) = d :: pmF l r := (rfl)
theorem star_lst {d : D} (h : l.length < 16777216) : starF (.lst (d :: l)) = some (d, l) := by simp only [starF]; rw [if_pos]; rw [sizeLine_eq]; exact h
theorem star_tup' {d : D} (h : l.length < 16777216) : starF (.tup (d :: l)) = some (d, l) := by simp only [starF]; rw [if_pos]; rw [sizeLine_eq]; exact h
@[simp] theorem seqOf_lst : seqOf (.lst l) = some l := (rfl)
@[simp] theorem seqOf_tup : seqOf (.tup l) = some l := (rfl)
@[simp] theorem tru_bl {b : Bool} : truF (.bl b) = some b := (rfl)
@[simp] theorem tru_non : truF .non = some false := (rfl)
@[simp] theorem tru_lst : truF (.lst l) = some (!l.isEmpty) := (rfl)
@[simp] theorem tru_tup : truF (.tup l) = some (!l.isEmpty) := (rfl)
@[simp] theorem setT_nm {k : Nat} {d : D} {ε : Env} : setT (.nm k) d ε = some (ε.set k (.val d)) := by simp only [setT]
@[simp] theorem setT_tp {ts : List Tg} {ε : Env} : setT (.tp ts) (.tup l) ε = setTs ts l ε := by simp only [setT]
@[simp] theorem setTs_nil {ε : Env} : setTs [] [] ε = some ε := by simp only [setTs]
@[simp] theorem setTs_cons {t : Tg} {ts : List Tg} {d : D} {ε : Env} : setTs (t :: ts) (d :: l) ε = (setT t d ε).bind fun ε' => setTs ts l ε' := by
  simp only [setTs]; cases setT t d ε <;> rfl
@[simp] theorem wipeE_nil {ε : Env} : wipeE ε [] = ε := (rfl)
@[simp] theorem wipeE_cons {ε : Env} {v : Nat} {vs : List Nat} : wipeE ε (v :: vs) = (wipeE ε vs).set v .un := (rfl)
theorem lcR_ok {xs : List D} {S : Sto} (h : xs.length ≤ sizeLine) : lcR (.ok xs S) = .ok (.lst xs) S := by simp [lcR, h]
theorem line_ge : 16777216 = sizeLine := by rw [sizeLine_eq]
@[simp] theorem ifk_line {α : Type} {n : Nat} {a b : α} (h : n ≤ 16777216) : ifk (decide (n ≤ sizeLine)) a b = a := by unfold ifk; rw [if_pos]; exact decide_eq_true (by rw [← line_ge]; exact h)
@[simp] theorem ifk_line2 {α : Type} {n : Nat} {a b : α} (h : n < 16777216) : ifk (decide (n < sizeLine)) a b = a := by unfold ifk; rw [if_pos]; exact decide_eq_true (by rw [← line_ge]; exact h)
theorem call_unf {Γ : Tab} {t k f : Nat} {ds : List D} {F : Fn} (h : Γ f = some F) (hl : ds.length = F.par) : evCall Γ t (k + 1) f ds S = flOut (evB (evCall Γ t k) t F.body (startE F.slots ds) S) := by simp only [evCall, h, hl, if_true]
end
@[simp] theorem ixN_0 {n : Nat} : ixN (n + 1) 0 = some 0 := by unfold ixN; rw [if_pos (by omega), if_pos (by omega)]; rfl
@[simp] theorem ixN_1 {n : Nat} : ixN (n + 1 + 1) 1 = some 1 := by unfold ixN; rw [if_pos (by omega), if_pos (by omega)]; rfl
theorem atI_int {α : Type} {l : List α} {i : Int} {x : α} (h0 : 0 ≤ i) (h : l[i.toNat]? = some x) : atI l i = some x := by
  have := atI_nat (xs := l) (j := i.toNat) h
  rwa [show ((i.toNat : Nat) : Int) = i by omega] at this
@[simp] theorem atI_0 {α : Type} {x : α} {l : List α} : atI (x :: l) 0 = some x := atI_int (by omega) rfl
@[simp] theorem atI_1 {α : Type} {x y : α} {l : List α} : atI (x :: y :: l) 1 = some y := atI_int (by omega) rfl
@[simp] theorem atI_2 {α : Type} {x y z : α} {l : List α} : atI (x :: y :: z :: l) 2 = some z := atI_int (by omega) rfl
/-- a comprehension without effects -/
theorem lcL_map {α : Type} {F : D → Sto → R (Option D)} {S : Sto} {f g : α → D} : ∀ {l : List α}, (∀ p ∈ l, F (f p) S = .ok (some (g p)) S) → lcL F (l.map f) S = .ok (l.map g) S
  | [], _ => rfl
  | p :: l, h => by
    simp only [List.map_cons, lcL, h p (List.mem_cons_self ..), lcL_map (l := l) fun q hq => h q (List.mem_cons_of_mem _ hq)]
theorem lcL_filter {α : Type} {F : D → Sto → R (Option D)} {S : Sto} {f g : α → D} {t : α → Bool} : ∀ {l : List α}, (∀ p ∈ l, F (f p) S = .ok (if t p = true then some (g p) else none) S) → lcL F (l.map f) S = .ok ((l.filter t).map g) S
  | [], _ => rfl
  | p :: l, h => by
    have ih := lcL_filter (F := F) (S := S) (f := f) (g := g) (t := t) (l := l) fun q hq => h q (List.mem_cons_of_mem _ hq)
    have h0 := h p (List.mem_cons_self ..)
    simp only [List.map_cons, lcL, List.filter_cons]
    cases e : t p with
    | true => rw [e] at h0; simp only [if_true] at h0 ⊢; simp only [h0, ih, List.map_cons]
    | false => rw [e] at h0; simp only [Bool.false_eq_true, if_false] at h0 ⊢; simp only [h0, ih]
/-! loops -/
@[simp] theorem forL_nil {F : D → Env → Sto → R Fl} {ε : Env} {S : Sto} : forL F [] ε S = .ok (.nx ε) S := (rfl)
/-- what a turn's end leads to -/
def fork (r : R Fl) (k : Env → Sto → R Fl) : R Fl := r.bd fun f S' => match f with
  | .nx ε' => k ε' S'
  | .ct ε' => k ε' S'
  | .bk ε' => .ok (.nx ε') S'
  | f => .ok f S'
theorem fork_congr {r r' : R Fl} {k : Env → Sto → R Fl} (h : r = r') : fork r k = fork r' k := by rw [h]
@[simp] theorem fork_nx {ε : Env} {S : Sto} {k : Env → Sto → R Fl} : fork (.ok (.nx ε) S) k = k ε S := (rfl)
@[simp] theorem fork_ct {ε : Env} {S : Sto} {k : Env → Sto → R Fl} : fork (.ok (.ct ε) S) k = k ε S := (rfl)
@[simp] theorem fork_bk {ε : Env} {S : Sto} {k : Env → Sto → R Fl} : fork (.ok (.bk ε) S) k = .ok (.nx ε) S := (rfl)
@[simp] theorem fork_rt {d : D} {S : Sto} {k : Env → Sto → R Fl} : fork (.ok (.rt d) S) k = .ok (.rt d) S := (rfl)
@[simp] theorem fork_ex {x : Exc} {ε : Env} {S : Sto} {k : Env → Sto → R Fl} : fork (.ok (.ex x ε) S) k = .ok (.ex x ε) S := (rfl)
@[simp] theorem forL_cons {F : D → Env → Sto → R Fl} {d : D} {ds : List D} {ε : Env} {S : Sto} : forL F (d :: ds) ε S = fork (F d ε S) fun ε' S' => forL F ds ε' S' := (rfl)
theorem whlL_succ {c : Env → Sto → R Bool} {F : Env → Sto → R Fl} {n : Nat} {ε : Env} {S : Sto} : whlL c F (n + 1) ε S = (c ε S).lf ε fun k S1 => ifk k (fork (F ε S1) fun ε' S' => whlL c F n ε' S') (.ok (.nx ε) S1) := rfl
/-- a for that ends every turn in a next one: by an invariant -/
theorem forL_inv {F : D → Env → Sto → R Fl} (P : Nat → Env → Sto → Prop) {ds : List D} (step : ∀ i d ε S, ds[i]? = some d → P i ε S → ∃ ε' S', F d ε S = .ok (.nx ε') S' ∧ P (i + 1) ε' S') :
    ∀ {ε : Env} {S : Sto}, P 0 ε S → ∃ ε' S', forL F ds ε S = .ok (.nx ε') S' ∧ P ds.length ε' S' := by
  have key : ∀ (n i : Nat) (ε : Env) (S : Sto), n = ds.length - i → i ≤ ds.length → P i ε S → ∃ ε' S', forL F (ds.drop i) ε S = .ok (.nx ε') S' ∧ P ds.length ε' S' := by
    intro n
    induction n with
    | zero =>
      intro i ε S hn hi hp
      obtain rfl : i = ds.length := by omega
      exact ⟨ε, S, by simp, hp⟩
    | succ n ih =>
      intro i ε S hn hi hp
      have hlt : i < ds.length := by omega
      obtain ⟨ε', S', h1, h2⟩ := step i ds[i] ε S (by simp [hlt]) hp
      obtain ⟨ε'', S'', h3, h4⟩ := ih (i + 1) ε' S' (by omega) (by omega) h2
      refine ⟨ε'', S'', ?_, h4⟩
      rw [List.drop_eq_getElem_cons hlt, forL_cons, h1, fork_nx, h3]
  intro ε S h0
  have := key ds.length 0 ε S rfl (Nat.zero_le _) h0
  simpa using this

/-! == -/
mutual
def okD : Nat → D → Bool
  | _, .non => true
  | _, .bl _ => true
  | _, .int _ => true
  | _, .str x => PyData.canLay0 (.str x)
  | n, .tup l => decide (0 < n) && okDs (n - 1) l
  | n, .lst l => decide (0 < n) && okDs (n - 1) l
  | _, .ref _ => false
  | _, .scr _ => false
  | _, .dct _ _ => false
  | _, .obj _ _ => false
def okDs : Nat → List D → Bool
  | _, [] => true
  | n, d :: ds => okD n d && okDs n ds
end
mutual
def eqvD : D → D → Bool
  | .non, .non => true
  | .bl a, .bl b => a == b
  | .bl a, .int j => (if a then 1 else 0) == j
  | .int i, .bl b => i == (if b then 1 else 0)
  | .int i, .int j => i == j
  | .str x, .str y => x == y
  | .tup x, .tup y => eqvDs x y
  | .lst x, .lst y => eqvDs x y
  | _, _ => false
def eqvDs : List D → List D → Bool
  | [], [] => true
  | x :: xs, y :: ys => eqvD x y && eqvDs xs ys
  | _, _ => false
end
mutual
theorem okD_py : ∀ (d : D) (n : Nat), okD n d = true → ∃ p, toPy d = some p ∧ p.canLay0 = true ∧ p.depth ≤ n
  | .non, n, h => ⟨.none, by simp only [toPy], rfl, Nat.zero_le _⟩
  | .bl b, n, h => ⟨.bool b, by simp only [toPy], rfl, Nat.zero_le _⟩
  | .int b, n, h => ⟨.int b, by simp only [toPy], rfl, Nat.zero_le _⟩
  | .str b, n, h => ⟨.str b, by simp only [toPy], by simpa only [okD] using h, Nat.zero_le _⟩
  | .tup l, n, h => by
    simp only [okD, Bool.and_eq_true, decide_eq_true_eq] at h
    obtain ⟨ps, h1, h2, h3⟩ := okDs_py l (n - 1) h.2
    exact ⟨.tuple ps, by simp only [toPy, h1]; rfl, by simpa only [PyData.canLay0] using h2, by simp only [PyData.depth]; omega⟩
  | .lst l, n, h => by
    simp only [okD, Bool.and_eq_true, decide_eq_true_eq] at h
    obtain ⟨ps, h1, h2, h3⟩ := okDs_py l (n - 1) h.2
    exact ⟨.list ps, by simp only [toPy, h1]; rfl, by simpa only [PyData.canLay0] using h2, by simp only [PyData.depth]; omega⟩
  | .ref _, n, h => by simp [okD] at h
  | .scr _, n, h => by simp [okD] at h
  | .dct _ _, n, h => by simp [okD] at h
  | .obj _ _, n, h => by simp [okD] at h
theorem okDs_py : ∀ (ds : List D) (n : Nat), okDs n ds = true → ∃ ps, toPys ds = some ps ∧ PyData.canLayAll0 ps = true ∧ PyData.depthAll ps ≤ n
  | [], n, h => ⟨[], by simp only [toPys], rfl, Nat.zero_le _⟩
  | d :: ds, n, h => by
    simp only [okDs, Bool.and_eq_true] at h
    obtain ⟨p, h1, h2, h3⟩ := okD_py d n h.1
    obtain ⟨ps, h4, h5, h6⟩ := okDs_py ds n h.2
    exact ⟨p :: ps, by simp only [toPys, h1, h4], by simp only [PyData.canLayAll0, h2, h5, Bool.and_self], by simp only [PyData.depthAll]; omega⟩
end
mutual
theorem eqv_py : ∀ (a b : D) (p q : PyData), toPy a = some p → toPy b = some q → PyData.eqv p q = eqvD a b := by
  intro a b p q ha hb
  cases a with
  | tup x =>
    simp only [toPy] at ha
    cases hx : toPys x with
    | none => rw [hx] at ha; cases ha
    | some ps =>
      rw [hx] at ha; cases ha
      cases b with
      | tup y =>
        simp only [toPy] at hb
        cases hy : toPys y with
        | none => rw [hy] at hb; cases hb
        | some qs =>
          rw [hy] at hb; cases hb
          simp only [PyData.eqv, eqvD]
          exact eqvs_py x y ps qs hx hy
      | lst y =>
        simp only [toPy] at hb
        cases hy : toPys y with
        | none => rw [hy] at hb; cases hb
        | some qs => rw [hy] at hb; cases hb; rfl
      | ref _ => simp [toPy] at hb
      | scr _ => simp [toPy] at hb
      | dct _ _ => simp [toPy] at hb
      | obj _ _ => simp [toPy] at hb
      | _ => simp only [toPy] at hb; cases hb; rfl
  | lst x =>
    simp only [toPy] at ha
    cases hx : toPys x with
    | none => rw [hx] at ha; cases ha
    | some ps =>
      rw [hx] at ha; cases ha
      cases b with
      | lst y =>
        simp only [toPy] at hb
        cases hy : toPys y with
        | none => rw [hy] at hb; cases hb
        | some qs =>
          rw [hy] at hb; cases hb
          simp only [PyData.eqv, eqvD]
          exact eqvs_py x y ps qs hx hy
      | tup y =>
        simp only [toPy] at hb
        cases hy : toPys y with
        | none => rw [hy] at hb; cases hb
        | some qs => rw [hy] at hb; cases hb; rfl
      | ref _ => simp [toPy] at hb
      | scr _ => simp [toPy] at hb
      | dct _ _ => simp [toPy] at hb
      | obj _ _ => simp [toPy] at hb
      | _ => simp only [toPy] at hb; cases hb; rfl
  | ref _ => simp [toPy] at ha
  | scr _ => simp [toPy] at ha
  | dct _ _ => simp [toPy] at ha
  | obj _ _ => simp [toPy] at ha
  | _ =>
    simp only [toPy] at ha
    cases ha
    cases b with
    | tup y =>
      simp only [toPy] at hb
      cases hy : toPys y with
      | none => rw [hy] at hb; cases hb
      | some qs => rw [hy] at hb; cases hb; rfl
    | lst y =>
      simp only [toPy] at hb
      cases hy : toPys y with
      | none => rw [hy] at hb; cases hb
      | some qs => rw [hy] at hb; cases hb; rfl
    | ref _ => simp [toPy] at hb
    | scr _ => simp [toPy] at hb
    | dct _ _ => simp [toPy] at hb
    | obj _ _ => simp [toPy] at hb
    | _ => simp only [toPy] at hb; cases hb; simp only [PyData.eqv, eqvD]
theorem eqvs_py : ∀ (xs ys : List D) (ps qs : List PyData), toPys xs = some ps → toPys ys = some qs → PyData.eqvAll ps qs = eqvDs xs ys
  | [], [], ps, qs, h, g => by simp only [toPys] at h g; cases h; cases g; rfl
  | [], y :: ys, ps, qs, h, g => by
    simp only [toPys] at h g
    cases h
    split at g
    · cases g; rfl
    · cases g
  | x :: xs, [], ps, qs, h, g => by
    simp only [toPys] at h g
    cases g
    split at h
    · cases h; rfl
    · cases h
  | x :: xs, y :: ys, ps, qs, h, g => by
    simp only [toPys] at h g
    split at h
    · rename_i p1 p2 e1 e2
      cases h
      split at g
      · rename_i q1 q2 e3 e4
        cases g
        simp only [PyData.eqvAll, eqvDs]
        rw [eqv_py x y p1 q1 e1 e3, eqvs_py xs ys p2 q2 e2 e4]
      · cases g
    · cases h
end
theorem eqF_ok {a b : D} (ha : okD 60 a = true) (hb : okD 60 b = true) : eqF a b = some (eqvD a b) := by
  obtain ⟨p, h1, h2, h3⟩ := okD_py a 60 ha
  obtain ⟨q, h4, h5, h6⟩ := okD_py b 60 hb
  unfold eqF
  rw [h1, h4]
  dsimp only
  have sh : ∀ r : PyData, r.canLay0 = true → r.depth ≤ 60 → SeqAt.shaped r = true := fun r e1 e2 => by unfold SeqAt.shaped; rw [e1, Bool.true_and]; exact decide_eq_true (by omega)
  rw [if_pos ⟨sh p h2 h3, sh q h5 h6⟩, eqv_py a b p q h1 h4]
theorem okDs_map {α : Type} {n : Nat} {f : α → D} : ∀ {l : List α}, (∀ x ∈ l, okD n (f x) = true) → okDs n (l.map f) = true
  | [], _ => rfl
  | x :: l, h => by simp only [List.map_cons, okDs, h x (List.mem_cons_self ..), okDs_map (l := l) fun y hy => h y (List.mem_cons_of_mem _ hy), Bool.and_self]
theorem eqvDs_map {α : Type} [DecidableEq α] {f : α → D} (hf : ∀ a b, eqvD (f a) (f b) = decide (a = b)) : ∀ {l m : List α}, eqvDs (l.map f) (m.map f) = decide (l = m)
  | [], [] => rfl
  | [], y :: m => by simp [eqvDs]
  | x :: l, [] => by simp [eqvDs]
  | x :: l, y :: m => by
    simp only [List.map_cons, eqvDs, hf, eqvDs_map hf (l := l) (m := m)]
    by_cases h1 : x = y <;> by_cases h2 : l = m <;> simp [h1, h2]
/-! boxes -/
def dS (s : Int × Int) : D := .tup [.int s.1, .int s.2]
def dB (b : List (Int × Int)) : D := .tup (b.map dS)
theorem okD_dS {n : Nat} {s : Int × Int} (h : 0 < n) : okD n (dS s) = true := by simp [dS, okD, okDs, h]
theorem okD_dB {n : Nat} {b : List (Int × Int)} (h : 1 < n) : okD n (dB b) = true := by
  simp only [dB, okD, Bool.and_eq_true, decide_eq_true_eq]
  exact ⟨by omega, okDs_map fun s _ => okD_dS (by omega)⟩
theorem eqvD_dS (s t : Int × Int) : eqvD (dS s) (dS t) = decide (s = t) := by
  obtain ⟨a, b⟩ := s
  obtain ⟨c, d⟩ := t
  by_cases h1 : a = c <;> by_cases h2 : b = d <;> simp [dS, eqvD, eqvDs, h1, h2]
theorem eqvD_dB (s t : List (Int × Int)) : eqvD (dB s) (dB t) = decide (s = t) := by
  simp only [dB, eqvD, eqvDs_map eqvD_dS]
@[simp] theorem eqF_dB (s t : List (Int × Int)) : eqF (dB s) (dB t) = some (decide (s = t)) := by rw [eqF_ok (okD_dB (by omega)) (okD_dB (by omega)), eqvD_dB]
@[simp] theorem zip_dB (s t : List (Int × Int)) : zipF (dB s) (dB t) = some ((s.zip t).map fun p => D.tup [dS p.1, dS p.2]) := by
  simp only [dB, zipF, Option.some.injEq]
  induction s generalizing t with
  | nil => simp
  | cons a s ih => cases t with
    | nil => simp
    | cons b t => simp [ih]
end BX
set_option Elab.async false
set_option linter.all false
set_option maxRecDepth 100000
set_option maxHeartbeats 1000000
/-! LDraw: the draws of the laws. -/
namespace BX
open PySem L2
open PyProof.Rows hiding St Binds
abbrev i_l_take : Nat := 4
abbrev i_l_bag : Nat := 3
abbrev i_l_place : Nat := 5
def fn_l_take : Fn := ⟨2, 3, [(.ite (.cmp .gt (.ix (.var 0) (.cst (.int 0))) (.cst (.int 0))) [(.asg (.nm 2) (.bin .mod (.ix (.var 0) (.cst (.int 0))) (.var 1))), (.set (.var 0) (.cst (.int 0)) (.bin .fdiv (.ix (.var 0) (.cst (.int 0))) (.var 1))), (.ret (.var 2))] []),
  (.set (.var 0) (.cst (.int 1)) (.bin .mod (.bin .mul (.ix (.var 0) (.cst (.int 1))) (.cst (.int 48271))) (.cst (.int 2147483647)))),
  (.ret (.bin .mod (.bin .fdiv (.bin .mod (.bin .mul (.bin .fdiv (.ix (.var 0) (.cst (.int 1))) (.cst (.int 13))) (.bin .add (.bin .mod (.ix (.var 0) (.cst (.int 1))) (.cst (.int 32749))) (.cst (.int 17)))) (.cst (.int 2147483629))) (.cst (.int 32))) (.var 1)))]⟩
def fn_l_bag : Fn := ⟨2, 4, [(.asg (.nm 2) (.cst (.int 0))),
  (.ite (.cmp .lt (.var 1) (.blt .len [(.var 0)])) [(.asg (.nm 2) (.bin .mod (.ix (.var 0) (.var 1)) (.bin .pow (.cst (.int 10)) (.cst (.int 60)))))] []),
  (.asg (.nm 3) (.bin .add (.cst (.int 1)) (.bin .mod (.bin .add (.bin .add (.bin .add (.bin .mul (.bin .mod (.var 2) (.cst (.int 2147483629))) (.cst (.int 16807))) (.bin .mul (.bin .mul (.cst (.int 40009)) (.var 1)) (.var 1))) (.bin .mul (.cst (.int 7919)) (.var 1))) (.cst (.int 1009))) (.cst (.int 2147483645))))),
  (.ite (.cmp .lt (.var 2) (.bin .pow (.cst (.int 10)) (.cst (.int 18)))) [(.ret (.nlst [(.cst (.int 0)), (.var 3)]))] []),
  (.ret (.nlst [(.var 2), (.var 3)]))]⟩
def b_l_place_1 : List Sm := [(.asg (.nm 2) (.bin .add (.bin .mul (.var 2) (.bin .pow (.cst (.int 10)) (.cst (.int 6)))) (.call i_l_take [(.var 0), (.bin .pow (.cst (.int 10)) (.cst (.int 6)))] [])))]
def fn_l_place : Fn := ⟨1, 4, [(.asg (.nm 1) (.call i_l_take [(.var 0), (.cst (.int 12))] [])),
  (.ite (.cmp .lt (.var 1) (.cst (.int 9))) [(.ret (.bin .sub (.call i_l_take [(.var 0), (.cst (.int 14))] []) (.cst (.int 4))))] []),
  (.ite (.cmp .lt (.var 1) (.cst (.int 11))) [(.ret (.bin .sub (.call i_l_take [(.var 0), (.cst (.int 2001))] []) (.cst (.int 1000))))] []),
  (.asg (.nm 2) (.cst (.int 0))),
  (.for (.nm 3) (.rng (.cst (.int 5))) b_l_place_1),
  (.ret (.ix (.lst [(.var 2), (.neg (.var 2)), (.bin .pow (.cst (.int 10)) (.cst (.int 30))), (.neg (.bin .pow (.cst (.int 10)) (.cst (.int 30))))]) (.call i_l_take [(.var 0), (.cst (.int 4))] [])))]⟩
/-- a bag stands at b -/
def Bag (S : Sto) (b : Nat) : Prop := ∃ x y : Int, S[b]? = some (.lst [.int x, .int y])
/-- only the bag has changed -/
def Bg (S : Sto) (b : Nat) (S' : Sto) : Prop := ∃ x y : Int, S' = S.set b (.lst [.int x, .int y])
theorem Bg.bag {S S' : Sto} {b : Nat} (h : Bg S b S') (hb : Bag S b) : Bag S' b := by
  obtain ⟨x, y, rfl⟩ := h
  obtain ⟨u, v, e⟩ := hb
  exact ⟨x, y, List.getElem?_set_self (List.getElem?_eq_some_iff.mp e).1⟩
theorem Bg.trans {S S' S'' : Sto} {b : Nat} (h : Bg S b S') (g : Bg S' b S'') : Bg S b S'' := by
  obtain ⟨x, y, rfl⟩ := h
  obtain ⟨u, v, rfl⟩ := g
  exact ⟨u, v, by rw [List.set_set]⟩
theorem Bag.refl {S : Sto} {b : Nat} (h : Bag S b) : Bg S b S := by
  obtain ⟨x, y, e⟩ := h
  refine ⟨x, y, ?_⟩
  apply List.ext_getElem?
  intro n
  by_cases hn : b = n
  · subst hn
    rw [List.getElem?_set_self (List.getElem?_eq_some_iff.mp e).1, e]
  · rw [List.getElem?_set_ne hn]
structure HDraw (Γ : Tab) : Prop where
  take : Γ i_l_take = some fn_l_take
  bag : Γ i_l_bag = some fn_l_bag
  place : Γ i_l_place = some fn_l_place
section
variable {Γ : Tab} (hΓ : HDraw Γ) {t k b : Nat} {S : Sto}
include hΓ
omit hΓ in
theorem take2_ok (hT : Γ i_l_take = some fn_l_take) (hb : Bag S b) (m : Int) (hm : 0 < m ∧ m < 2 ^ 64) :
    ∃ r S', evCall Γ t (k + 1) i_l_take [.ref b, .int m] S = .ok (.int r) S' ∧ (0 ≤ r ∧ r < m) ∧ Bg S b S' ∧ Bag S' b := by
  obtain ⟨x, y, e⟩ := id hb
  obtain ⟨hm1, hm2⟩ := hm
  have hm3 : m < 18446744073709551616 := by omega
  have hl : b < S.length := (List.getElem?_eq_some_iff.mp e).1
  rw [call_unf hT rfl]
  by_cases hx : 0 < x
  · have g : Bg S b (S.set b (.lst [.int (x / m), .int y])) := ⟨_, _, rfl⟩
    refine ⟨x % m, _, ?_, ⟨Int.emod_nonneg _ (by omega), Int.emod_lt_of_pos _ hm1⟩, g, g.bag hb⟩
    simp [fn_l_take, startE, ixS_ref e, setL_ref e, hm1, hm3, hx]
  · have g : Bg S b (S.set b (.lst [.int x, .int (y * 48271 % 2147483647)])) := ⟨_, _, rfl⟩
    refine ⟨y * 48271 % 2147483647 / 13 * (y * 48271 % 2147483647 % 32749 + 17) % 2147483629 / 32 % m, _, ?_, ⟨Int.emod_nonneg _ (by omega), Int.emod_lt_of_pos _ hm1⟩, g, g.bag hb⟩
    have h1 : -18446744073709551616 < y * 48271 % 2147483647 % 32749 + 17 := by omega
    have h2 : y * 48271 % 2147483647 % 32749 + 17 < 18446744073709551616 := by omega
    simp [fn_l_take, startE, ixS_ref e, setL_ref e, hm1, hm3, hx, hl, h1, h2]
omit hΓ in
theorem bag2_ok (hT : Γ i_l_bag = some fn_l_bag) (ns : List Int) (i : Int) (hi : 0 ≤ i ∧ i < 1000) :
    ∃ x y : Int, evCall Γ t (k + 1) i_l_bag [.scr (ns.map .int), .int i] S = .ok (.ref S.length) (S ++ [.lst [.int x, .int y]]) := by
  obtain ⟨h0, h1⟩ := hi
  have h2 : -18446744073709551616 < i := by omega
  have h3 : i < 18446744073709551616 := by omega
  rw [call_unf hT rfl]
  have key : ∀ c : Int, ∃ x y : Int, flOut (evB (evCall Γ t k) t (fn_l_bag.body.drop 2) [.val (.scr (ns.map .int)), .val (.int i), .val (.int c), .un] S) = .ok (.ref S.length) (S ++ [.lst [.int x, .int y]]) := by
    intro c
    by_cases hc : c < 1000000000000000000
    · refine ⟨0, 1 + (c % 2147483629 * 16807 + 40009 * i * i + 7919 * i + 1009) % 2147483645, ?_⟩
      simp [fn_l_bag, h2, h3, hc]
    · refine ⟨c, 1 + (c % 2147483629 * 16807 + 40009 * i * i + 7919 * i + 1009) % 2147483645, ?_⟩
      simp [fn_l_bag, h2, h3, hc]
  by_cases hl : i < (ns.length : Int)
  · obtain ⟨z, hz⟩ : ∃ z, ns[i.toNat]? = some z := ⟨ns[i.toNat]'(by omega), by simp⟩
    have ha : atI (ns.map D.int) i = some (.int z) := atI_int h0 (by rw [List.getElem?_map, hz]; rfl)
    obtain ⟨x, y, h⟩ := key (z % 10 ^ 60)
    refine ⟨x, y, ?_⟩
    rw [← h]
    simp [fn_l_bag, startE, hl, ha]
  · obtain ⟨x, y, h⟩ := key 0
    refine ⟨x, y, ?_⟩
    rw [← h]
    simp [fn_l_bag, startE, hl]
theorem take_ok (hb : Bag S b) (m : Int) (hm : 0 < m ∧ m < 2 ^ 64) :
    ∃ r S', evCall Γ t (k + 1) i_l_take [.ref b, .int m] S = .ok (.int r) S' ∧ (0 ≤ r ∧ r < m) ∧ Bg S b S' ∧ Bag S' b := take2_ok hΓ.take hb m hm
theorem bag_ok (ns : List Int) (i : Int) (hi : 0 ≤ i ∧ i < 1000) :
    ∃ x y : Int, evCall Γ t (k + 1) i_l_bag [.scr (ns.map .int), .int i] S = .ok (.ref S.length) (S ++ [.lst [.int x, .int y]]) := bag2_ok hΓ.bag ns i hi
theorem place_ok (hb : Bag S b) : ∃ p S', evCall Γ t (k + 2) i_l_place [.ref b] S = .ok (.int p) S' ∧ (-10 ^ 30 ≤ p ∧ p ≤ 10 ^ 30) ∧ Bg S b S' ∧ Bag S' b := by
  obtain ⟨r1, S1, e1, ⟨h1, h2⟩, g1, b1⟩ := take_ok hΓ (t := t) (k := k) hb 12 (by omega)
  rw [call_unf hΓ.place rfl]
  by_cases h9 : r1 < 9
  · obtain ⟨r2, S2, e2, ⟨h3, h4⟩, g2, b2⟩ := take_ok hΓ (t := t) (k := k) b1 14 (by omega)
    refine ⟨r2 - 4, S2, ?_, by omega, g1.trans g2, b2⟩
    simp [fn_l_place, startE, e1, h9, e2]
  by_cases h11 : r1 < 11
  · obtain ⟨r2, S2, e2, ⟨h3, h4⟩, g2, b2⟩ := take_ok hΓ (t := t) (k := k) b1 2001 (by omega)
    refine ⟨r2 - 1000, S2, ?_, by omega, g1.trans g2, b2⟩
    simp [fn_l_place, startE, e1, h9, h11, e2]
  let P : Nat → Env → Sto → Prop := fun i ε S' => ∃ (f : Int) (p : Sl), ε = [.val (.ref b), .val (.int r1), .val (.int f), p] ∧ 0 ≤ f ∧ f < 10 ^ (6 * i) ∧ Bg S b S' ∧ Bag S' b
  obtain ⟨ε', S2, e2, f, p, rfl, h3, h4, g2, b2⟩ := forL_inv (F := forF (evCall Γ t (k + 1)) t (.nm 3) b_l_place_1) P (ds := rngL 0 5)
    (by
      rintro i d ε S' hd ⟨f, p, rfl, h3, h4, g, b'⟩
      obtain ⟨r2, S2, e2, ⟨h5, h6⟩, g2, b2⟩ := take_ok hΓ (t := t) (k := k) b' 1000000 (by omega)
      refine ⟨_, S2, ?_, f * 1000000 + r2, .val d, rfl, by omega, ?_, g.trans g2, b2⟩
      · simp [forF, b_l_place_1, e2]
      · have : (10 : Int) ^ (6 * (i + 1)) = 10 ^ (6 * i) * 1000000 := by rw [Nat.mul_add, Int.pow_add]; rfl
        rw [this]
        omega) (ε := [.val (.ref b), .val (.int r1), .val (.int 0), .un]) (S := S1) ⟨0, .un, rfl, by omega, by simp, g1, b1⟩
  obtain ⟨r3, S3, e3, ⟨h5, h6⟩, g3, b3⟩ := take_ok hΓ (t := t) (k := k) b2 4 (by omega)
  have hr : (rngL 0 5).length = 5 := rfl
  rw [hr] at h4
  have h7 : f < 1000000000000000000000000000000 := by simpa using h4
  have hl : ∃ q : Int, atI [D.int f, .int (-f), .int 1000000000000000000000000000000, .int (-1000000000000000000000000000000)] r3 = some (.int q) ∧ -10 ^ 30 ≤ q ∧ q ≤ 10 ^ 30 := by
    have : r3 = 0 ∨ r3 = 1 ∨ r3 = 2 ∨ r3 = 3 := by omega
    rcases this with rfl | rfl | rfl | rfl
    · exact ⟨f, atI_int (by omega) rfl, by omega, by omega⟩
    · exact ⟨-f, atI_int (by omega) rfl, by omega, by omega⟩
    · exact ⟨_, atI_int (by omega) rfl, by omega, by omega⟩
    · exact ⟨_, atI_int (by omega) rfl, by omega, by omega⟩
  obtain ⟨q, hq, h8, h9'⟩ := hl
  refine ⟨q, S3, ?_, ⟨h8, h9'⟩, g2.trans g3, b3⟩
  simp [fn_l_place, startE, e1, h9, h11, e2, e3, hq, rng1F]
end
end BX
set_option Elab.async false
set_option linter.all false
set_option maxRecDepth 100000
set_option maxHeartbeats 1000000
/-! LBox: drawn boxes; meets, common. -/
namespace BX
open PySem L2
open PyProof.Rows hiding St Binds
abbrev i_l_same : Nat := 2
abbrev i_l_box : Nat := 6
abbrev i_l_spot : Nat := 7
abbrev i_l_beside : Nat := 8
abbrev i_meets : Nat := 0
abbrev i_common : Nat := 1
def fn_l_same : Fn := ⟨2, 2, [(.ret (.and (.isi (.var 0) .bool) (.cmp .eq (.var 0) (.var 1))))]⟩
def b_l_box_1 : List Sm := [(.asg (.nm 4) (.call i_l_place [(.var 0)] [])), (.asg (.nm 5) (.var 4)), (.ite (.cmp .gt (.call i_l_take [(.var 0), (.cst (.int 4))] []) (.cst (.int 0))) [(.asg (.nm 5) (.ix (.lst [(.bin .add (.bin .add (.var 4) (.cst (.int 1))) (.call i_l_take [(.var 0), (.cst (.int 5))] [])), (.call i_l_place [(.var 0)] [])]) (.call i_l_take [(.var 0), (.cst (.int 2))] [])))] []), (.ite (.cmp .gt (.var 5) (.bin .pow (.cst (.int 10)) (.cst (.int 30)))) [(.asg (.nm 5) (.var 4))] []), (.app 2 (.tup [(.blt .min [(.var 4), (.var 5)]), (.blt .max [(.var 4), (.var 5)])]))]
def fn_l_box : Fn := ⟨2, 6, [(.own 2 (.lst [])),
  (.for (.nm 3) (.rng (.var 1)) b_l_box_1),
  (.ret (.blt .tuple [(.var 2)]))]⟩
def e_l_spot_1 : Ex := (.call i_l_place [(.var 0)] [])
def fn_l_spot : Fn := ⟨2, 3, [(.ret (.blt .tuple [(.lc e_l_spot_1 (.nm 2) (.rng (.var 1)) none [2])]))]⟩
def fn_l_beside : Fn := ⟨2, 6, [(.asg (.nm 2) (.call i_l_take [(.var 0), (.blt .len [(.var 1)])] [])),
  (.asg (.tp [(.nm 3), (.nm 4)]) (.ix (.var 1) (.var 2))),
  (.asg (.nm 5) (.bin .add (.var 4) (.ix (.lst [(.cst (.int 0)), (.cst (.int 1)), (.neg (.cst (.int 1)))]) (.call i_l_take [(.var 0), (.cst (.int 3))] [])))),
  (.ite (.or (.cmp .gt (.bin .add (.var 5) (.cst (.int 3))) (.bin .pow (.cst (.int 10)) (.cst (.int 30)))) (.cmp .lt (.var 5) (.neg (.bin .pow (.cst (.int 10)) (.cst (.int 30)))))) [(.ret (.var 1))] []),
  (.ret (.bin .add (.bin .add (.sl (.var 1) none (some (.var 2))) (.tup [(.tup [(.var 5), (.bin .add (.var 5) (.call i_l_take [(.var 0), (.cst (.int 4))] []))])])) (.sl (.var 1) (some (.bin .add (.var 2) (.cst (.int 1)))) none)))]⟩
def e_meets_1 : Ex := (.and (.cmp .le (.ix (.var 2) (.cst (.int 0))) (.ix (.var 3) (.cst (.int 1)))) (.cmp .le (.ix (.var 3) (.cst (.int 0))) (.ix (.var 2) (.cst (.int 1)))))
def fn_meets : Fn := ⟨2, 4, [(.ret (.blt .all [(.lc e_meets_1 (.tp [(.nm 2), (.nm 3)]) (.zip (.var 0) (.var 1)) none [2, 3])]))]⟩
def e_common_1 : Ex := (.tup [(.blt .max [(.ix (.var 2) (.cst (.int 0))), (.ix (.var 3) (.cst (.int 0)))]), (.blt .min [(.ix (.var 2) (.cst (.int 1))), (.ix (.var 3) (.cst (.int 1)))])])
def fn_common : Fn := ⟨2, 4, [(.ite (.not (.call i_meets [(.var 0), (.var 1)] [])) [(.ret (.cst (.non)))] []),
  (.ret (.blt .tuple [(.lc e_common_1 (.tp [(.nm 2), (.nm 3)]) (.zip (.var 0) (.var 1)) none [2, 3])]))]⟩
structure OkS (s : Int × Int) : Prop where
  lo : -10 ^ 30 ≤ s.1
  le : s.1 ≤ s.2
  hi : s.2 ≤ 10 ^ 30
structure OkB (n : Nat) (b : List (Int × Int)) : Prop where
  len : b.length = n
  s : ∀ s ∈ b, OkS s
structure HBox (Γ : Tab) : Prop extends HDraw Γ where
  box : Γ i_l_box = some fn_l_box
structure HMeets (Γ : Tab) : Prop where
  meets : Γ i_meets = some fn_meets
  common : Γ i_common = some fn_common
section
variable {Γ : Tab} {t k b : Nat} {S : Sto}
theorem same_ok (h : Γ i_l_same = some fn_l_same) {x y : Bool} : evCall Γ t (k + 1) i_l_same [.bl x, .bl y] S = .ok (.bl (x == y)) S := by
  rw [call_unf h rfl]
  simp [fn_l_same, startE, kindIs, eqF_ok (a := .bl x) (b := .bl y) rfl rfl, eqvD]
theorem box_turn (hΓ : HBox Γ) {n i : Nat} {l : List (Int × Int)} {p q r : Sl} {d : D} {x r1 : Int} {S' S2 S3 : Sto} (h3 : OkB i l) (hi : i < 1000) (e2 : evCall Γ t (k + 2) i_l_place [.ref b] S' = .ok (.int x) S2) (h5 : -10 ^ 30 ≤ x) (h6 : x ≤ 10 ^ 30)
    (e3 : evCall Γ t (k + 1 + 1) i_l_take [.ref b, .int 4] S2 = .ok (.int r1) S3) (g3 : Bg S2 b S3) (b3 : Bag S3 b) :
    ∃ (y : Int) (S6 : Sto), forF (evCall Γ t (k + 2)) t (.nm 3) b_l_box_1 d [.val (.ref b), .val (.int n), .own (.lst (l.map dS)), p, q, r] S' =
      .ok (.nx [.val (.ref b), .val (.int n), .own (.lst (l.map dS ++ [.tup [.int (if y < x then y else x), .int (if y > x then y else x)]])), .val d, .val (.int x), .val (.int y)]) S6 ∧ -10 ^ 30 ≤ y ∧ y ≤ 10 ^ 30 ∧ Bg S2 b S6 ∧ Bag S6 b := by
  have h1030 : ¬ 1000000000000000000000000000000 < x := by omega
  have hlen : l.length < 16777216 := by rw [h3.len]; omega
  by_cases hr : 0 < r1
  · obtain ⟨r2, S4, e4, ⟨h9, h10⟩, g4, b4⟩ := take_ok hΓ.toHDraw (t := t) (k := k + 1) b3 5 (by omega)
    obtain ⟨z, S5, e5, ⟨h11, h12⟩, g5, b5⟩ := place_ok hΓ.toHDraw (t := t) (k := k) b4
    obtain ⟨r3, S6, e6, ⟨h13, h14⟩, g6, b6⟩ := take_ok hΓ.toHDraw (t := t) (k := k + 1) b5 2 (by omega)
    have gg := g3.trans (g4.trans (g5.trans g6))
    have hy : ∃ y : Int, atI [D.int (x + 1 + r2), .int z] r3 = some (.int y) ∧ -10 ^ 30 ≤ y := by
      have : r3 = 0 ∨ r3 = 1 := by omega
      rcases this with rfl | rfl
      · exact ⟨_, atI_int (by omega) rfl, by omega⟩
      · exact ⟨_, atI_int (by omega) rfl, by omega⟩
    obtain ⟨y, hy, hy2⟩ := hy
    by_cases hbig : 1000000000000000000000000000000 < y
    · exact ⟨x, S6, by simp [forF, b_l_box_1, e2, e3, hr, e4, e5, e6, hy, hbig, hlen], by omega, by omega, gg, b6⟩
    · exact ⟨y, S6, by simp [forF, b_l_box_1, e2, e3, hr, e4, e5, e6, hy, hbig, hlen], by omega, by omega, gg, b6⟩
  · exact ⟨x, S3, by simp [forF, b_l_box_1, e2, e3, hr, h1030, hlen], by omega, by omega, g3, b3⟩
theorem box_loop (hΓ : HBox Γ) (hb : Bag S b) (n : Nat) (hn : n < 1000) : ∃ (l : List (Int × Int)) (p q r : Sl) (S2 : Sto), forL (forF (evCall Γ t (k + 2)) t (.nm 3) b_l_box_1) (rngL 0 n) [.val (.ref b), .val (.int n), .own (.lst []), .un, .un, .un] S = .ok (.nx [.val (.ref b), .val (.int n), .own (.lst (l.map dS)), p, q, r]) S2 ∧ OkB n l ∧ Bg S b S2 ∧ Bag S2 b := by
  let P : Nat → Env → Sto → Prop := fun i ε S' => ∃ (l : List (Int × Int)) (p q r : Sl), ε = [.val (.ref b), .val (.int n), .own (.lst (l.map dS)), p, q, r] ∧ OkB i l ∧ Bg S b S' ∧ Bag S' b
  obtain ⟨ε', S2, e2, l, p, q, r, rfl, h3, g2, b2⟩ := forL_inv (F := forF (evCall Γ t (k + 2)) t (.nm 3) b_l_box_1) P (ds := rngL 0 n)
    (by
      rintro i d ε S' hd ⟨l, p, q, r, rfl, h3, g, b'⟩
      have hi : i < n := by
        have := (List.getElem?_eq_some_iff.mp hd).1
        simpa [rngL] using this
      obtain ⟨x, S2, e2, ⟨h5, h6⟩, g2, b2⟩ := place_ok hΓ.toHDraw (t := t) (k := k) b'
      obtain ⟨r1, S3, e3, ⟨h7, h8⟩, g3, b3⟩ := take_ok hΓ.toHDraw (t := t) (k := k + 1) b2 4 (by omega)
      obtain ⟨y, S6, e6, h15, h16, g6, b6⟩ := box_turn hΓ (p := p) (q := q) (r := r) (n := n) (d := d) h3 (by omega) e2 h5 h6 e3 g3 b3
      refine ⟨_, S6, e6, l ++ [((if y < x then y else x), (if y > x then y else x))], .val d, .val (.int x), .val (.int y), by simp [dS], ⟨by simp [h3.len], fun s hs => ?_⟩, g.trans (g2.trans g6), b6⟩
      rcases List.mem_append.mp hs with hs | hs
      · exact h3.s s hs
      · obtain rfl := List.mem_singleton.mp hs
        refine ⟨?_, ?_, ?_⟩ <;> simp only [] <;> split <;> (try split) <;> omega) (ε := [.val (.ref b), .val (.int n), .own (.lst []), .un, .un, .un]) (S := S) ⟨[], .un, .un, .un, rfl, ⟨rfl, by simp⟩, hb.refl, hb⟩
  have hr : (rngL 0 n).length = n := by simp [rngL]
  rw [hr] at h3
  exact ⟨l, p, q, r, S2, e2, h3, g2, b2⟩
theorem box_ok (hΓ : HBox Γ) (hb : Bag S b) (n : Nat) (hn : n < 1000) : ∃ l S', evCall Γ t (k + 3) i_l_box [.ref b, .int n] S = .ok (dB l) S' ∧ OkB n l ∧ Bg S b S' ∧ Bag S' b := by
  obtain ⟨l, p, q, r, S2, e2, h3, g2, b2⟩ := box_loop hΓ (t := t) (k := k) hb n hn
  rw [call_unf hΓ.box rfl]
  refine ⟨l, S2, ?_, h3, g2, b2⟩
  have h62 : rng1F (.int n) = some (rngL 0 n) := by
    simp only [rng1F]
    rw [if_pos (by omega)]
    rfl
  simp [fn_l_box, startE, h62, e2, dB]

/-! meets, common -/
theorem tup_dB {l : List (Int × Int)} : D.tup (l.map dS) = dB l := rfl
def meetsM (a b : List (Int × Int)) : Bool := ((a.zip b).map fun p => decide (p.1.1 ≤ p.2.2) && decide (p.2.1 ≤ p.1.2)).all id
def cutM (a b : List (Int × Int)) : List (Int × Int) := (a.zip b).map fun p => ((if p.2.1 > p.1.1 then p.2.1 else p.1.1), (if p.2.2 < p.1.2 then p.2.2 else p.1.2))
theorem meets_ok (h : Γ i_meets = some fn_meets) {a c : List (Int × Int)} (ha : a.length ≤ 1000) : evCall Γ t (k + 1) i_meets [dB a, dB c] S = .ok (.bl (meetsM a c)) S := by
  rw [call_unf h rfl]
  have e := lcL_map (F := lcF (evCall Γ t k) e_meets_1 (.tp [(.nm 2), (.nm 3)]) none [2, 3] [.val (dB a), .val (dB c), .un, .un])
    (S := S) (f := fun p : (Int × Int) × (Int × Int) => D.tup [dS p.1, dS p.2]) (g := fun p => D.bl (decide (p.1.1 ≤ p.2.2) && decide (p.2.1 ≤ p.1.2))) (l := a.zip c) (by
      rintro ⟨⟨x1, x2⟩, ⟨y1, y2⟩⟩ _
      by_cases h1 : x1 ≤ y2 <;> simp [lcF, e_meets_1, dS, h1])
  have hl : ((a.zip c).map fun p : (Int × Int) × (Int × Int) => D.bl (decide (p.1.1 ≤ p.2.2) && decide (p.2.1 ≤ p.1.2))).length ≤ sizeLine := by
    have := line_ge
    rw [List.length_map, List.length_zip]
    omega
  have em : ((a.zip c).map fun p : (Int × Int) × (Int × Int) => D.bl (decide (p.1.1 ≤ p.2.2) && decide (p.2.1 ≤ p.1.2))) = (((a.zip c).map fun p => decide (p.1.1 ≤ p.2.2) && decide (p.2.1 ≤ p.1.2))).map D.bl := by rw [List.map_map]; rfl
  simp only [fn_meets, startE, List.map_cons, List.map_nil, List.length_cons, List.length_nil]
  simp [e, lcR_ok hl]
  rw [em, blt_all]
  simp [meetsM]
theorem cut_ok {call : Call} {el : Ex} {a c : List (Int × Int)} {x1 x2 i j : Nat} {ε : Env} (ha : a.length ≤ 1000)
    (hF : ∀ p : (Int × Int) × (Int × Int), lcF call el (.tp [(.nm i), (.nm j)]) none [i, j] ε (.tup [dS p.1, dS p.2]) S = .ok (some (dS ((if p.2.1 > p.1.1 then p.2.1 else p.1.1), (if p.2.2 < p.1.2 then p.2.2 else p.1.2)))) S) :
    lcR (lcL (lcF call el (.tp [(.nm i), (.nm j)]) none [i, j] ε) ((a.zip c).map fun p => D.tup [dS p.1, dS p.2]) S) = .ok (.lst ((cutM a c).map dS)) S := by
  have e := lcL_map (F := lcF call el (.tp [(.nm i), (.nm j)]) none [i, j] ε) (S := S) (f := fun p : (Int × Int) × (Int × Int) => D.tup [dS p.1, dS p.2])
    (g := fun p => dS ((if p.2.1 > p.1.1 then p.2.1 else p.1.1), (if p.2.2 < p.1.2 then p.2.2 else p.1.2))) (l := a.zip c) fun p _ => hF p
  have hl : ((a.zip c).map fun p : (Int × Int) × (Int × Int) => dS ((if p.2.1 > p.1.1 then p.2.1 else p.1.1), (if p.2.2 < p.1.2 then p.2.2 else p.1.2))).length ≤ sizeLine := by
    have := line_ge
    rw [List.length_map, List.length_zip]
    omega
  rw [e, lcR_ok hl, cutM, List.map_map]
  rfl
theorem common_ok (h : HMeets Γ) {a c : List (Int × Int)} (ha : a.length ≤ 1000) : evCall Γ t (k + 2) i_common [dB a, dB c] S = .ok (if meetsM a c then dB (cutM a c) else .non) S := by
  rw [call_unf h.common rfl]
  have e1 := meets_ok h.meets (t := t) (k := k) (S := S) (a := a) (c := c) ha
  cases hm : meetsM a c with
  | false => rw [hm] at e1; simp [fn_common, startE, e1]
  | true =>
    rw [hm] at e1
    have e := cut_ok (call := evCall Γ t (k + 1)) (S := S) (el := e_common_1) (i := 2) (j := 3) (ε := [.val (dB a), .val (dB c), .un, .un]) (c := c) ha (by
      rintro ⟨⟨x1, x2⟩, ⟨y1, y2⟩⟩
      simp [lcF, e_common_1, dS]) (x1 := 0) (x2 := 0)
    simp only [fn_common, startE, List.map_cons, List.map_nil, List.length_cons, List.length_nil]
    simp [e1, e, tup_dB]
theorem cut_comm (a c : List (Int × Int)) : cutM a c = cutM c a := by
  induction a generalizing c with
  | nil => simp [cutM]
  | cons x a ih =>
    cases c with
    | nil => simp [cutM]
    | cons y c =>
      have := ih c
      simp only [cutM, List.zip_cons_cons, List.map_cons] at this ⊢
      rw [this]
      congr 1
      ext <;> simp only [] <;> (repeat' split) <;> omega
theorem meets_comm (a c : List (Int × Int)) : meetsM a c = meetsM c a := by
  induction a generalizing c with
  | nil => simp [meetsM]
  | cons x a ih =>
    cases c with
    | nil => simp [meetsM]
    | cons y c =>
      have := ih c
      simp only [meetsM, List.zip_cons_cons, List.map_cons, List.all_cons, id] at this ⊢
      rw [this, Bool.and_comm (decide (x.1 ≤ y.2))]
/-- the two share a spot just where their cut is a box -/
theorem meets_cut {a c : List (Int × Int)} (ha : ∀ s ∈ a, s.1 ≤ s.2) (hc : ∀ s ∈ c, s.1 ≤ s.2) : ((cutM a c).filter fun s => decide (s.2 < s.1)) = [] ↔ meetsM a c = true := by
  induction a generalizing c with
  | nil => simp [meetsM, cutM]
  | cons x a ih =>
    cases c with
    | nil => simp [meetsM, cutM]
    | cons y c =>
      have := ih (c := c) (fun s h => ha s (List.mem_cons_of_mem _ h)) (fun s h => hc s (List.mem_cons_of_mem _ h))
      have h1 := ha x (List.mem_cons_self ..)
      have h2 := hc y (List.mem_cons_self ..)
      simp only [meetsM, cutM, List.zip_cons_cons, List.map_cons, List.all_cons, id, List.filter_cons] at this ⊢
      by_cases hh : x.1 ≤ y.2 ∧ y.1 ≤ x.2
      · have e1 : decide ((if y.2 < x.2 then y.2 else x.2) < (if y.1 > x.1 then y.1 else x.1)) = false := by
          apply decide_eq_false
          repeat' split
          all_goals omega
        rw [e1]
        simp [hh.1, hh.2, this]
      · have e1 : decide ((if y.2 < x.2 then y.2 else x.2) < (if y.1 > x.1 then y.1 else x.1)) = true := by
          apply decide_eq_true
          repeat' split
          all_goals omega
        rw [e1]
        have : ¬ (x.1 ≤ y.2 ∧ y.1 ≤ x.2) := hh
        simp only [if_true, reduceCtorEq, false_iff, Bool.and_eq_true, decide_eq_true_eq, not_and]
        intro h3
        exact absurd h3 hh
end
end BX
set_option Elab.async false
set_option linter.all false
set_option maxRecDepth 100000
set_option maxHeartbeats 1000000
/-! LRow: rows of things drawn. -/
namespace BX
open PySem L2
open PyProof.Rows hiding St Binds


/-- a comprehension whose items may change the store -/
theorem lcL_inv {F : D → Sto → R (Option D)} : ∀ {ds : List D} (P : Nat → List D → Sto → Prop) {xs0 : List D} {S : Sto}, (∀ i d xs S, ds[i]? = some d → P i xs S → ∃ x S', F d S = .ok (some x) S' ∧ P (i + 1) (xs ++ [x]) S') → P 0 xs0 S →
    ∃ xs S', lcL F ds S = .ok xs S' ∧ P ds.length (xs0 ++ xs) S'
  | [], P, xs0, S, _, h0 => ⟨[], S, rfl, by simpa using h0⟩
  | d :: ds, P, xs0, S, step, h0 => by
    obtain ⟨x, S1, e1, h1⟩ := step 0 d xs0 S rfl h0
    obtain ⟨xs, S2, e2, h2⟩ := lcL_inv (ds := ds) (fun i => P (i + 1)) (xs0 := xs0 ++ [x]) (S := S1) (fun i d' xs S hd hp => step (i + 1) d' xs S (by simpa using hd) hp) h1
    refine ⟨x :: xs, S2, ?_, by simpa using h2⟩
    simp only [lcL, e1, e2]
section
variable {Γ : Tab} {t k b : Nat} {S : Sto}
/-- items drawn one behind another -/
theorem lc_draw {α : Type} {F : D → Sto → R (Option D)} {f : α → D} {Ok : α → Prop} (hF : ∀ (d : D) (S : Sto), Bag S b → ∃ x S', F d S = .ok (some (f x)) S' ∧ Ok x ∧ Bg S b S' ∧ Bag S' b) (hb : Bag S b) (ds : List D) :
    ∃ (l : List α) (S' : Sto), lcL F ds S = .ok (l.map f) S' ∧ l.length = ds.length ∧ (∀ x ∈ l, Ok x) ∧ Bg S b S' ∧ Bag S' b := by
  obtain ⟨xs, S', e, l, h1, h2, h3, h4, h5⟩ := lcL_inv (F := F) (ds := ds) (fun i xs S' => ∃ l : List α, xs = l.map f ∧ l.length = i ∧ (∀ x ∈ l, Ok x) ∧ Bg S b S' ∧ Bag S' b) (xs0 := []) (S := S)
    (by
      rintro i d xs S' hd ⟨l, rfl, h2, h3, h4, h5⟩
      obtain ⟨x, S2, e2, o2, g2, b2⟩ := hF d S' h5
      refine ⟨f x, S2, e2, l ++ [x], by simp, by simp [h2], fun y hy => ?_, h4.trans g2, b2⟩
      rcases List.mem_append.mp hy with hy | hy
      · exact h3 y hy
      · obtain rfl := List.mem_singleton.mp hy
        exact o2) ⟨[], rfl, rfl, by simp, hb.refl, hb⟩
  simp only [List.nil_append] at h1
  exact ⟨l, S', by rw [e, h1], h2, h3, h4, h5⟩
theorem rng_len {n : Nat} : (rngL 0 n).length = n := by simp [rngL]
theorem rng1_ok {n : Nat} (hn : n < 1000000) : rng1F (.int n) = some (rngL 0 n) := by
  simp only [rng1F]
  rw [if_pos (by omega)]
  rfl
def InF (p : Int) : Prop := -10 ^ 30 ≤ p ∧ p ≤ 10 ^ 30
def dP (l : List Int) : D := .tup (l.map D.int)
theorem spot_ok (hΓ : HBox Γ) (hs : Γ i_l_spot = some fn_l_spot) (hb : Bag S b) (n : Nat) (hn : n < 1000) : ∃ l S', evCall Γ t (k + 3) i_l_spot [.ref b, .int n] S = .ok (dP l) S' ∧ l.length = n ∧ (∀ p ∈ l, InF p) ∧ Bg S b S' ∧ Bag S' b := by
  rw [call_unf hs rfl]
  obtain ⟨l, S', e, h1, h2, h3, h4⟩ := lc_draw (F := lcF (evCall Γ t (k + 2)) e_l_spot_1 (.nm 2) none [2] [.val (.ref b), .val (.int n), .un]) (f := D.int) (Ok := InF) (b := b) (S := S)
    (by
      intro d S hb
      obtain ⟨x, S2, e2, h, g2, b2⟩ := place_ok hΓ.toHDraw (t := t) (k := k) hb
      exact ⟨x, S2, by simp [lcF, e_l_spot_1, e2], h, g2, b2⟩) hb (rngL 0 n)
  rw [rng_len] at h1
  have hl : (l.map D.int).length ≤ sizeLine := by
    have := line_ge
    rw [List.length_map, h1]
    omega
  refine ⟨l, S', ?_, h1, h2, h3, h4⟩
  simp [fn_l_spot, startE, rng1_ok (n := n) (by omega), e, lcR_ok hl, dP]
end
theorem line_map {α β : Type} {l : List α} {f : α → β} (h : l.length ≤ 1000000) : (l.map f).length ≤ sizeLine := by
  have := line_ge
  rw [List.length_map]
  omega
@[simp] theorem eqF_int {i j : Int} : eqF (.int i) (.int j) = some (decide (i = j)) := by
  rw [eqF_ok rfl rfl]
  simp only [eqvD]
  rfl
@[simp] theorem len_dB {l : List (Int × Int)} : bltF .len [dB l] = some (.int l.length) := by simp [dB]
@[simp] theorem seq_dB {l : List (Int × Int)} : seqOf (dB l) = some (l.map dS) := (rfl)
@[simp] theorem seq_dP {l : List Int} : seqOf (dP l) = some (l.map D.int) := (rfl)
theorem bag_new {S : Sto} {x y : Int} : Bag (S ++ [.lst [.int x, .int y]]) S.length := ⟨x, y, by simp⟩
theorem turn_i {n i : Nat} {d : D} (hd : (rngL 0 n)[i]? = some d) : i < n ∧ d = .int i := by
  have hi : i < n := by
    have := (List.getElem?_eq_some_iff.mp hd).1
    simpa [rngL] using this
  refine ⟨hi, ?_⟩
  unfold rngL at hd
  rw [List.getElem?_map, List.getElem?_range hi] at hd
  simpa using hd.symm
end BX
set_option Elab.async false
set_option linter.all false
set_option maxRecDepth 100000
set_option maxHeartbeats 1000000
/-! K01 -/
namespace BX
open PySem L2
open PyProof.Rows hiding St Binds
abbrev i_is_whole : Nat := 30
abbrev i_is_far : Nat := 31
abbrev i_is_name : Nat := 55
abbrev i_is_side : Nat := 45
abbrev i_is_row_of : Nat := 32
abbrev i_is_box : Nat := 46
abbrev i_is_spot : Nat := 33
abbrev i_l_place_2 : Nat := 56
abbrev i_l_is_whole : Nat := 57
abbrev i_l_strange : Nat := 58
abbrev i_l_is_place : Nat := 59
abbrev i_l_is_side : Nat := 60
abbrev i_l_part : Nat := 61
abbrev i_l_thing : Nat := 62
abbrev i_l_row : Nat := 63
abbrev i_l_right : Nat := 64
abbrev i_l_word : Nat := 65
abbrev i_l_is_good_name : Nat := 66
abbrev i_law_k01 : Nat := 67
def fn_is_whole : Fn := ⟨1, 1, [(.ret (.and (.isi (.var 0) .int) (.not (.isi (.var 0) .bool))))]⟩
def fn_is_far : Fn := ⟨1, 1, [(.ret (.and (.call i_is_whole [(.var 0)] []) (.chn .le .le (.neg (.glb "FAR" (.int 1000000000000000000000000000000))) (.var 0) (.glb "FAR" (.int 1000000000000000000000000000000)))))]⟩
def e_is_name_1 : Ex := (.cmp .inn (.var 1) (.glb "LETTERS" (.str "abcdefghijklmnopqrstuvwxyz")))
def fn_is_name : Fn := ⟨1, 2, [(.ret (.and (.isi (.var 0) .str) (.and (.chn .le .le (.cst (.int 1)) (.blt .len [(.var 0)]) (.cst (.int 12))) (.blt .all [(.lc e_is_name_1 (.nm 1) (.seq (.var 0)) none [1])]))))]⟩
def e_is_side_1 : Ex := (.call i_is_far [(.var 1)] [])
def fn_is_side : Fn := ⟨1, 2, [(.ret (.and (.isi (.var 0) .tuple) (.and (.cmp .eq (.blt .len [(.var 0)]) (.cst (.int 2))) (.and (.blt .all [(.lc e_is_side_1 (.nm 1) (.seq (.var 0)) none [1])]) (.cmp .le (.ix (.var 0) (.cst (.int 0))) (.ix (.var 0) (.cst (.int 1))))))))]⟩
def fn_is_row_of : Fn := ⟨2, 2, [(.ret (.and (.isi (.var 0) .tuple) (.and (.chn .le .le (.cst (.int 1)) (.blt .len [(.var 0)]) (.glb "AXES" (.int 4))) (.or (.cmp .is (.var 1) (.cst (.non))) (.cmp .eq (.blt .len [(.var 0)]) (.var 1))))))]⟩
def e_is_box_1 : Ex := (.call i_is_side [(.var 2)] [])
def fn_is_box : Fn := ⟨2, 3, [(.ret (.and (.call i_is_row_of [(.var 0), (.var 1)] []) (.blt .all [(.lc e_is_box_1 (.nm 2) (.seq (.var 0)) none [2])])))]⟩
def e_is_spot_1 : Ex := (.call i_is_far [(.var 2)] [])
def fn_is_spot : Fn := ⟨2, 3, [(.ret (.and (.call i_is_row_of [(.var 0), (.var 1)] []) (.blt .all [(.lc e_is_spot_1 (.nm 2) (.seq (.var 0)) none [2])])))]⟩
def b_l_place_2_1 : List Sm := [(.asg (.nm 2) (.bin .add (.bin .mul (.var 2) (.bin .pow (.cst (.int 10)) (.cst (.int 6)))) (.call i_l_take [(.var 0), (.bin .pow (.cst (.int 10)) (.cst (.int 6)))] [])))]
def fn_l_place_2 : Fn := ⟨1, 4, [(.asg (.nm 1) (.call i_l_take [(.var 0), (.cst (.int 12))] [])),
  (.ite (.cmp .lt (.var 1) (.cst (.int 9))) [(.ret (.bin .sub (.call i_l_take [(.var 0), (.cst (.int 14))] []) (.cst (.int 4))))] []),
  (.ite (.cmp .lt (.var 1) (.cst (.int 11))) [(.ret (.bin .sub (.call i_l_take [(.var 0), (.cst (.int 2001))] []) (.cst (.int 1000))))] []),
  (.asg (.nm 2) (.cst (.int 0))),
  (.for (.nm 3) (.rng (.cst (.int 5))) b_l_place_2_1),
  (.ret (.ix (.lst [(.var 2), (.neg (.var 2)), (.bin .pow (.cst (.int 10)) (.cst (.int 30))), (.neg (.bin .pow (.cst (.int 10)) (.cst (.int 30))))]) (.call i_l_take [(.var 0), (.cst (.int 4))] [])))]⟩
def fn_l_is_whole : Fn := ⟨1, 1, [(.ret (.and (.isi (.var 0) .int) (.not (.isi (.var 0) .bool))))]⟩
def fn_l_strange : Fn := ⟨1, 2, [(.asg (.nm 1) (.lst [(.cst (.non)), (.cst (.bl true)), (.cst (.bl false)), (.cst (.str "1")), (.tup []), (.tup [(.cst (.int 0)), (.cst (.int 1))]), (.lst [(.cst (.int 0)), (.cst (.int 1))]), (.bin .add (.bin .pow (.cst (.int 10)) (.cst (.int 30))) (.cst (.int 1))), (.bin .sub (.neg (.bin .pow (.cst (.int 10)) (.cst (.int 30)))) (.cst (.int 1))), (.bin .pow (.cst (.int 10)) (.cst (.int 30))), (.neg (.bin .pow (.cst (.int 10)) (.cst (.int 30)))), (.prim .dnew [])])),
  (.ret (.ix (.var 1) (.call i_l_take [(.var 0), (.blt .len [(.var 1)])] [])))]⟩
def fn_l_is_place : Fn := ⟨1, 1, [(.ret (.and (.call i_l_is_whole [(.var 0)] []) (.cmp .le (.blt .abs [(.var 0)]) (.bin .pow (.cst (.int 10)) (.cst (.int 30))))))]⟩
def fn_l_is_side : Fn := ⟨1, 1, [(.ite (.or (.not (.isi (.var 0) .tuple)) (.cmp .ne (.blt .len [(.var 0)]) (.cst (.int 2)))) [(.ret (.cst (.bl false)))] []),
  (.ret (.and (.call i_l_is_place [(.ix (.var 0) (.cst (.int 0)))] []) (.and (.call i_l_is_place [(.ix (.var 0) (.cst (.int 1)))] []) (.cmp .le (.ix (.var 0) (.cst (.int 0))) (.ix (.var 0) (.cst (.int 1)))))))]⟩
def fn_l_part : Fn := ⟨2, 4, [(.asg (.nm 2) (.call i_l_place_2 [(.var 0)] [])),
  (.ite (.not (.var 1)) [(.ret (.var 2))] []),
  (.asg (.nm 3) (.ix (.lst [(.var 2), (.call i_l_place_2 [(.var 0)] [])]) (.call i_l_take [(.var 0), (.cst (.int 2))] []))),
  (.ite (.cmp .gt (.call i_l_take [(.var 0), (.cst (.int 4))] []) (.cst (.int 0))) [(.ret (.tup [(.blt .min [(.var 2), (.var 3)]), (.blt .max [(.var 2), (.var 3)])]))] []),
  (.ret (.ix (.lst [(.tup [(.var 2), (.var 3)]), (.lst [(.var 2), (.var 2)]), (.tup [(.var 2)]), (.tup [(.var 2), (.var 2), (.var 2)]), (.var 2)]) (.call i_l_take [(.var 0), (.cst (.int 5))] [])))]⟩
def e_l_thing_1 : Ex := (.call i_l_part [(.var 0), (.var 1)] [])
def fn_l_thing : Fn := ⟨2, 4, [(.own 2 (.lc e_l_thing_1 (.nm 3) (.rng (.call i_l_take [(.var 0), (.cst (.int 7))] [])) none [3])),
  (.ite (.and (.prim .lnemp [(.var 2)]) (.cmp .eq (.call i_l_take [(.var 0), (.cst (.int 3))] []) (.cst (.int 0)))) [(.asg (.nm 3) (.call i_l_take [(.var 0), (.blt .len [(.var 2)])] [])), (.setO 2 (.var 3) (.call i_l_strange [(.var 0)] []))] []),
  (.ite (.and (.prim .lnemp [(.var 2)]) (.and (.var 1) (.cmp .eq (.call i_l_take [(.var 0), (.cst (.int 5))] []) (.cst (.int 0))))) [(.asg (.nm 3) (.call i_l_take [(.var 0), (.blt .len [(.var 2)])] [])), (.setO 2 (.var 3) (.tup [(.call i_l_strange [(.var 0)] []), (.call i_l_strange [(.var 0)] [])]))] []),
  (.ite (.cmp .eq (.call i_l_take [(.var 0), (.cst (.int 9))] []) (.cst (.int 0))) [(.frz 2 (.ret (.var 2)))] []),
  (.ret (.blt .tuple [(.var 2)]))]⟩
def fn_l_row : Fn := ⟨2, 2, [(.ret (.and (.isi (.var 0) .tuple) (.and (.chn .le .le (.cst (.int 1)) (.blt .len [(.var 0)]) (.cst (.int 4))) (.or (.cmp .is (.var 1) (.cst (.non))) (.cmp .eq (.blt .len [(.var 0)]) (.var 1))))))]⟩
def e_l_right_1 : Ex := (.var 3)
def c_l_right_1 : Ex := (.not (.call i_l_is_side [(.var 3)] []))
def e_l_right_2 : Ex := (.var 3)
def c_l_right_2 : Ex := (.not (.call i_l_is_place [(.var 3)] []))
def fn_l_right : Fn := ⟨2, 5, [(.asg (.nm 2) (.and (.call i_l_row [(.var 0), (.var 1)] []) (.prim .lemp [(.lc e_l_right_1 (.nm 3) (.seq (.var 0)) (some c_l_right_1) [3])]))),
  (.asg (.nm 4) (.and (.call i_l_row [(.var 0), (.var 1)] []) (.prim .lemp [(.lc e_l_right_2 (.nm 3) (.seq (.var 0)) (some c_l_right_2) [3])]))),
  (.ite (.and (.cmp .is (.var 1) (.cst (.non))) (.not (.call i_l_same [(.call i_is_box [(.var 0)] [.non]), (.var 2)] []))) [(.ret (.cst (.bl false)))] []),
  (.ite (.and (.cmp .is (.var 1) (.cst (.non))) (.not (.call i_l_same [(.call i_is_spot [(.var 0)] [.non]), (.var 4)] []))) [(.ret (.cst (.bl false)))] []),
  (.ret (.and (.call i_l_same [(.callK i_is_box [(.var 0)] ["axes"] [(.var 1)] [.inl 0, .inl 1]), (.var 2)] []) (.call i_l_same [(.callK i_is_spot [(.var 0)] ["axes"] [(.var 1)] [.inl 0, .inl 1]), (.var 4)] [])))]⟩
def e_l_word_1 : Ex := (.ix (.cst (.str "abcdefghijklmnopqrstuvwxyz")) (.call i_l_take [(.var 0), (.cst (.int 26))] []))
def fn_l_word : Fn := ⟨1, 3, [(.own 1 (.lc e_l_word_1 (.nm 2) (.rng (.call i_l_take [(.var 0), (.cst (.int 15))] [])) none [2])),
  (.ite (.and (.prim .lnemp [(.var 1)]) (.cmp .eq (.call i_l_take [(.var 0), (.cst (.int 3))] []) (.cst (.int 0)))) [(.asg (.nm 2) (.call i_l_take [(.var 0), (.blt .len [(.var 1)])] [])), (.setO 1 (.var 2) (.ix (.cst (.str "AZ`{ 09_-\n~")) (.call i_l_take [(.var 0), (.cst (.int 11))] [])))] []),
  (.frz 1 (.ret (.prim (.join "") [(.var 1)])))]⟩
def e_l_is_good_name_1 : Ex := (.var 1)
def c_l_is_good_name_1 : Ex := (.not (.chn .le .le (.cst (.str "a")) (.var 1) (.cst (.str "z"))))
def fn_l_is_good_name : Fn := ⟨1, 2, [(.ret (.and (.chn .le .le (.cst (.int 1)) (.blt .len [(.var 0)]) (.cst (.int 12))) (.prim .lemp [(.lc e_l_is_good_name_1 (.nm 1) (.seq (.var 0)) (some c_l_is_good_name_1) [1])])))]⟩
def b_law_k01_1 : List Sm := [(.ite (.not (.call i_l_right [(.var 4), (.var 5)] [])) [(.ret (.cst (.bl false)))] [])]
def b_law_k01_2 : List Sm := [(.asg (.nm 4) (.call i_l_thing [(.var 2), (.var 3)] [])), (.for (.nm 5) (.seq (.lst [(.cst (.non)), (.cst (.int 1)), (.cst (.int 2)), (.cst (.int 3)), (.cst (.int 4))])) b_law_k01_1)]
def b_law_k01_3 : List Sm := [(.asg (.nm 2) (.call i_l_bag [(.var 0), (.var 1)] [])), (.for (.nm 3) (.seq (.lst [(.cst (.bl true)), (.cst (.bl false)), (.cst (.bl true))])) b_law_k01_2), (.asg (.nm 6) (.call i_l_strange [(.var 2)] [])), (.asg (.nm 7) (.call i_l_word [(.var 2)] [])), (.ite (.or (.not (.call i_l_right [(.var 6), (.cst (.non))] [])) (.not (.call i_l_right [(.var 7), (.cst (.int 1))] []))) [(.ret (.cst (.bl false)))] []), (.ite (.or (.not (.call i_l_same [(.call i_is_name [(.var 7)] []), (.call i_l_is_good_name [(.var 7)] [])] [])) (.cmp .isnot (.call i_is_name [(.lst [(.var 7)])] []) (.cst (.bl false)))) [(.ret (.cst (.bl false)))] []), (.ite (.cmp .isnot (.call i_is_name [(.var 6)] []) (.cst (.bl false))) [(.ret (.cst (.bl false)))] [])]
def fn_law_k01 : Fn := ⟨1, 8, [(.for (.nm 1) (.rng (.bin .add (.blt .min [(.blt .len [(.var 0)]), (.cst (.int 12))]) (.cst (.int 2)))) b_law_k01_3),
  (.ret (.cst (.bl true)))]⟩
def Γ : Tab := fun n => match n with
  | 30 => some fn_is_whole
  | 31 => some fn_is_far
  | 55 => some fn_is_name
  | 45 => some fn_is_side
  | 32 => some fn_is_row_of
  | 46 => some fn_is_box
  | 33 => some fn_is_spot
  | 2 => some fn_l_same
  | 3 => some fn_l_bag
  | 4 => some fn_l_take
  | 56 => some fn_l_place_2
  | 57 => some fn_l_is_whole
  | 58 => some fn_l_strange
  | 59 => some fn_l_is_place
  | 60 => some fn_l_is_side
  | 61 => some fn_l_part
  | 62 => some fn_l_thing
  | 63 => some fn_l_row
  | 64 => some fn_l_right
  | 65 => some fn_l_word
  | 66 => some fn_l_is_good_name
  | 67 => some fn_law_k01
  | _ => none
def nmT : Nat → Str := fun n => match n with
  | 30 => "is_whole"
  | 31 => "is_far"
  | 55 => "is_name"
  | 45 => "is_side"
  | 32 => "is_row_of"
  | 46 => "is_box"
  | 33 => "is_spot"
  | 2 => "_law_same"
  | 3 => "_law_bag"
  | 4 => "_law_take"
  | 56 => "_law_place"
  | 57 => "_law_is_whole"
  | 58 => "_law_strange"
  | 59 => "_law_is_place"
  | 60 => "_law_is_side"
  | 61 => "_law_part"
  | 62 => "_law_thing"
  | 63 => "_law_row"
  | 64 => "_law_right"
  | 65 => "_law_word"
  | 66 => "_law_is_good_name"
  | 67 => "law"
  | _ => ""
def dvT : Nat → Nat → List D → Bool := fun f n dv => match f with
  | 46 => match dv with | [.non] => true | _ => false
  | 33 => match dv with | [.non] => true | _ => false
  | _ => dv.isEmpty
def kwT : Nat → Nat → List Str → List (Nat ⊕ D) → Bool := fun f n ks pm => match f with
  | 46 => n == 1 && ks == (["axes"] : List Str) && (match pm with | [.inl 0, .inl 1] => true | _ => false)
  | 33 => n == 1 && ks == (["axes"] : List Str) && (match pm with | [.inl 0, .inl 1] => true | _ => false)
  | _ => false
def conT : Str → D → Bool := fun x d => (x == "AXES" && (match d with | .int i0 => i0 == 4 | _ => false)) || (x == "FAR" && (match d with | .int i0 => i0 == 1000000000000000000000000000000 | _ => false)) || (x == "LETTERS" && (match d with | .str s0 => s0 == "abcdefghijklmnopqrstuvwxyz" | _ => false))
def T : Tb := { isF := fun n => [30, 31, 55, 45, 32, 46, 33, 2, 3, 4, 56, 57, 58, 59, 60, 61, 62, 63, 64, 65, 66, 67].contains n, nm := nmT, dvB := dvT, conB := conT, kwB := kwT }
def topS (i : Nat) : Stmt := PySem.Challenge.pw_boxgrove_k01_what_are_boxes_and_spots.main.body.getD i (.Pass ⟨0, 0, 0, 0⟩)
/-! plain values -/
def kd : D → Bool
  | .ref _ => false
  | .obj _ _ => false
  | .scr _ => false
  | _ => true
def farB : D → Bool
  | .int i => decide (-1000000000000000000000000000000 ≤ i) && decide (i ≤ 1000000000000000000000000000000)
  | _ => false
def leB : D → D → Bool
  | .int i, .int j => decide (i ≤ j)
  | _, _ => false
def sideB : D → Bool
  | .tup [a, b] => farB a && farB b && leB a b
  | _ => false
def rowB : D → Option Int → Bool
  | .tup l, m => decide (1 ≤ (l.length : Int)) && decide ((l.length : Int) ≤ 4) && (match m with | none => true | some j => decide ((l.length : Int) = j))
  | _, _ => false
def itemsB (p : D → Bool) : D → Bool
  | .tup l => l.all p
  | _ => false
def axD : Option Int → D
  | none => .non
  | some j => .int j
/-- the parts are plain -/
def pl1 (d : D) : Prop := kd d = true ∧ ∀ l, d = .tup l → l.length ≤ 1000 ∧ ∀ x ∈ l, kd x = true
def pl2 (d : D) : Prop := kd d = true ∧ ∀ l, d = .tup l → l.length ≤ 1000 ∧ ∀ x ∈ l, pl1 x
structure HIs (Γ : Tab) : Prop where
  whole : Γ i_is_whole = some fn_is_whole
  far : Γ i_is_far = some fn_is_far
  side : Γ i_is_side = some fn_is_side
  row : Γ i_is_row_of = some fn_is_row_of
  box : Γ i_is_box = some fn_is_box
  spot : Γ i_is_spot = some fn_is_spot
  name : Γ i_is_name = some fn_is_name
  lwhole : Γ i_l_is_whole = some fn_l_is_whole
  lplace : Γ i_l_is_place = some fn_l_is_place
  lside : Γ i_l_is_side = some fn_l_is_side
  lrow : Γ i_l_row = some fn_l_row
  same : Γ i_l_same = some fn_l_same
theorem all_map {l : List D} {p : D → Bool} : bltF .all [.lst (l.map fun x => .bl (p x))] = some (.bl (l.all p)) := by
  have : (l.map fun x => D.bl (p x)) = (l.map p).map D.bl := by simp
  rw [this, blt_all]
  simp
theorem lcL_id {F : D → Sto → R (Option D)} {S : Sto} {g : D → D} {l : List D} (h : ∀ p ∈ l, F p S = .ok (some (g p)) S) : lcL F l S = .ok (l.map g) S := by
  have := lcL_map (F := F) (S := S) (f := id) (g := g) (l := l) h
  simpa using this
theorem lcL_fid {F : D → Sto → R (Option D)} {S : Sto} {t : D → Bool} {l : List D} (h : ∀ p ∈ l, F p S = .ok (if t p = true then some p else none) S) : lcL F l S = .ok (l.filter t) S := by
  have := lcL_filter (F := F) (S := S) (f := id) (g := id) (t := t) (l := l) h
  simpa using this
theorem line_k {n : Nat} (h : n ≤ 1000) : n ≤ sizeLine := by have := line_ge; omega
section
variable {Γ : Tab} (hΓ : HIs Γ) {t k : Nat} {S : Sto}
include hΓ
theorem far_ok (d : D) (h : kd d = true) : evCall Γ t (k + 2) i_is_far [d] S = .ok (.bl (farB d)) S := by
  rw [call_unf hΓ.far rfl]
  have hw : evCall Γ t (k + 1) i_is_whole [d] S = .ok (.bl (match d with | .int _ => true | _ => false)) S := by
    rw [call_unf hΓ.whole rfl]
    cases d <;> simp [kd] at h <;> simp [fn_is_whole, startE, kindIs]
  cases d <;> simp [kd] at h <;> first | (simp [fn_is_far, startE, hw, farB]; done) | skip
  rename_i i _
  by_cases h1 : -1000000000000000000000000000000 ≤ i <;> simp [fn_is_far, startE, hw, farB, h1]
theorem side_ok (d : D) (h : pl1 d) : evCall Γ t (k + 3) i_is_side [d] S = .ok (.bl (sideB d)) S := by
  rw [call_unf hΓ.side rfl]
  obtain ⟨h1, h2⟩ := h
  cases d <;> simp [kd] at h1 <;> first | (simp [fn_is_side, startE, kindIs, sideB]; done) | skip
  rename_i l
  obtain ⟨h3, h4⟩ := h2 l rfl
  have hl : lcL (lcF (evCall Γ t (k + 2)) e_is_side_1 (.nm 1) none [1] [.val (.tup l), .un]) l S = .ok (l.map fun x => .bl (farB x)) S := lcL_id (fun x hx => by simp [lcF, e_is_side_1, far_ok hΓ x (h4 x hx)])
  have hz : (l.map fun x => D.bl (farB x)).length ≤ sizeLine := by rw [List.length_map]; exact line_k h3
  by_cases hlen : (l.length : Int) = 2
  · obtain ⟨a, b, rfl⟩ : ∃ a b, l = [a, b] := by
      rcases l with _ | ⟨a, _ | ⟨b, _ | ⟨c, l⟩⟩⟩ <;> simp at hlen
      · exact ⟨a, b, rfl⟩
      · omega
    by_cases hf : (farB a && farB b) = true
    · simp only [Bool.and_eq_true] at hf
      obtain ⟨f1, f2⟩ := hf
      cases a <;> simp only [farB, Bool.false_eq_true] at f1
      cases b <;> simp only [farB, Bool.false_eq_true] at f2
      simp only [List.map_cons, List.map_nil, farB, f1, f2] at hl hz
      simp [fn_is_side, startE, kindIs, sideB, hl, lcR_ok hz, farB, f1, f2, leB, bltF, blsOf]
    · have hf' : (farB a && farB b) = false := by simpa using hf
      have ha : bltF .all [.lst ([a, b].map fun x => .bl (farB x))] = some (.bl false) := by rw [all_map]; simp [hf']
      simp only [List.map_cons, List.map_nil] at ha hl hz
      simp [fn_is_side, startE, kindIs, sideB, hl, lcR_ok hz, ha, hf']
  · have : sideB (.tup l) = false := by
      rcases l with _ | ⟨a, _ | ⟨b, _ | ⟨c, l⟩⟩⟩ <;> first | rfl | (simp at hlen)
    simp [fn_is_side, startE, kindIs, this, hlen]
theorem row_ok (d : D) (m : Option Int) (h : kd d = true) : evCall Γ t (k + 1) i_is_row_of [d, axD m] S = .ok (.bl (rowB d m)) S := by
  rw [call_unf hΓ.row rfl]
  cases d <;> simp [kd] at h <;> first | (simp [fn_is_row_of, startE, kindIs, rowB]; done) | skip
  rename_i l
  cases m with
  | none =>
    by_cases h1 : 1 ≤ (l.length : Int) <;> by_cases h2 : (l.length : Int) ≤ 4 <;> simp [fn_is_row_of, startE, kindIs, rowB, axD, h1, h2]
  | some j =>
    by_cases h1 : 1 ≤ (l.length : Int) <;> by_cases h2 : (l.length : Int) ≤ 4 <;> simp [fn_is_row_of, startE, kindIs, rowB, axD, h1, h2]
theorem lrow_ok (d : D) (m : Option Int) (h : kd d = true) : evCall Γ t (k + 1) i_l_row [d, axD m] S = .ok (.bl (rowB d m)) S := by
  rw [call_unf hΓ.lrow rfl]
  cases d <;> simp [kd] at h <;> first | (simp [fn_l_row, startE, kindIs, rowB]; done) | skip
  rename_i l
  cases m with
  | none =>
    by_cases h1 : 1 ≤ (l.length : Int) <;> by_cases h2 : (l.length : Int) ≤ 4 <;> simp [fn_l_row, startE, kindIs, rowB, axD, h1, h2]
  | some j =>
    by_cases h1 : 1 ≤ (l.length : Int) <;> by_cases h2 : (l.length : Int) ≤ 4 <;> simp [fn_l_row, startE, kindIs, rowB, axD, h1, h2]
theorem row_tup {d : D} {m : Option Int} (h : rowB d m = true) : ∃ l, d = .tup l := by
  cases d <;> first | exact ⟨_, rfl⟩ | cases h
theorem isbox_ok (d : D) (m : Option Int) (h : pl2 d) : evCall Γ t (k + 4) i_is_box [d, axD m] S = .ok (.bl (rowB d m && itemsB sideB d)) S := by
  rw [call_unf hΓ.box rfl]
  have hr := row_ok hΓ (t := t) (k := k + 2) (S := S) d m h.1
  cases hb : rowB d m with
  | false =>
    rw [hb] at hr
    simp [fn_is_box, startE, hr]
  | true =>
    rw [hb] at hr
    obtain ⟨l, rfl⟩ := row_tup hΓ hb
    obtain ⟨h3, h4⟩ := h.2 l rfl
    have hl : lcL (lcF (evCall Γ t (k + 3)) e_is_box_1 (.nm 2) none [2] [.val (.tup l), .val (axD m), .un]) l S = .ok (l.map fun x => .bl (sideB x)) S := lcL_id (fun x hx => by simp [lcF, e_is_box_1, side_ok hΓ x (h4 x hx)])
    have hz : (l.map fun x => D.bl (sideB x)).length ≤ sizeLine := by rw [List.length_map]; exact line_k h3
    simp [fn_is_box, startE, hr, hl, lcR_ok hz, all_map, itemsB]
theorem spot_ok1 (d : D) (m : Option Int) (h : pl1 d) : evCall Γ t (k + 3) i_is_spot [d, axD m] S = .ok (.bl (rowB d m && itemsB farB d)) S := by
  rw [call_unf hΓ.spot rfl]
  have hr := row_ok hΓ (t := t) (k := k + 1) (S := S) d m h.1
  cases hb : rowB d m with
  | false =>
    rw [hb] at hr
    simp [fn_is_spot, startE, hr]
  | true =>
    rw [hb] at hr
    obtain ⟨l, rfl⟩ := row_tup hΓ hb
    obtain ⟨h3, h4⟩ := h.2 l rfl
    have hl : lcL (lcF (evCall Γ t (k + 2)) e_is_spot_1 (.nm 2) none [2] [.val (.tup l), .val (axD m), .un]) l S = .ok (l.map fun x => .bl (farB x)) S := lcL_id (fun x hx => by simp [lcF, e_is_spot_1, far_ok hΓ x (h4 x hx)])
    have hz : (l.map fun x => D.bl (farB x)).length ≤ sizeLine := by rw [List.length_map]; exact line_k h3
    simp [fn_is_spot, startE, hr, hl, lcR_ok hz, all_map, itemsB]
theorem lplace_ok (d : D) (h : kd d = true) : evCall Γ t (k + 2) i_l_is_place [d] S = .ok (.bl (farB d)) S := by
  rw [call_unf hΓ.lplace rfl]
  have hw : evCall Γ t (k + 1) i_l_is_whole [d] S = .ok (.bl (match d with | .int _ => true | _ => false)) S := by
    rw [call_unf hΓ.lwhole rfl]
    cases d <;> simp [kd] at h <;> simp [fn_l_is_whole, startE, kindIs]
  cases d <;> simp [kd] at h <;> first | (simp [fn_l_is_place, startE, hw, farB]; done) | skip
  rename_i i _
  simp only [fn_l_is_place, startE, farB]
  simp [hw]
  by_cases hi : i < 0
  · rw [if_pos hi, Bool.eq_iff_iff]; simp only [decide_eq_true_eq, Bool.and_eq_true]; omega
  · rw [if_neg hi, Bool.eq_iff_iff]; simp only [decide_eq_true_eq, Bool.and_eq_true]; omega
theorem lside_ok (d : D) (h : pl1 d) : evCall Γ t (k + 3) i_l_is_side [d] S = .ok (.bl (sideB d)) S := by
  rw [call_unf hΓ.lside rfl]
  obtain ⟨h1, h2⟩ := h
  cases d <;> simp [kd] at h1 <;> first | (simp [fn_l_is_side, startE, kindIs, sideB]; done) | skip
  rename_i l
  obtain ⟨h3, h4⟩ := h2 l rfl
  by_cases hlen : (l.length : Int) = 2
  · obtain ⟨a, b, rfl⟩ : ∃ a b, l = [a, b] := by
      rcases l with _ | ⟨a, _ | ⟨b, _ | ⟨c, l⟩⟩⟩ <;> simp at hlen
      · exact ⟨a, b, rfl⟩
      · omega
    have pa := lplace_ok hΓ (t := t) (k := k) (S := S) a (h4 a (by simp))
    have pb := lplace_ok hΓ (t := t) (k := k) (S := S) b (h4 b (by simp))
    cases fa : farB a with
    | false => simp [fn_l_is_side, startE, kindIs, sideB, pa, fa]
    | true =>
      cases fb : farB b with
      | false => simp [fn_l_is_side, startE, kindIs, sideB, pa, fa, pb, fb]
      | true =>
        cases a <;> simp only [farB, Bool.false_eq_true] at fa
        cases b <;> simp only [farB, Bool.false_eq_true] at fb
        simp [fn_l_is_side, startE, kindIs, sideB, pa, pb, farB, fa, fb, leB]
  · have : sideB (.tup l) = false := by
      rcases l with _ | ⟨a, _ | ⟨b, _ | ⟨c, l⟩⟩⟩ <;> first | rfl | (simp at hlen)
    simp [fn_l_is_side, startE, kindIs, this, hlen]
theorem isame_ok (a b : Bool) : evCall Γ t (k + 1) i_l_same [.bl a, .bl b] S = .ok (.bl (decide (a = b))) S := by
  rw [call_unf hΓ.same rfl]
  have : eqF (.bl a) (.bl b) = some (decide (a = b)) := by cases a <;> cases b <;> rfl
  simp [fn_l_same, startE, kindIs, this]
end
/-! draws -/
theorem place2_ok {Γ : Tab} {t k b : Nat} {S : Sto} (hT : Γ i_l_take = some fn_l_take) (hP : Γ i_l_place_2 = some fn_l_place_2) (hb : Bag S b) : ∃ p S', evCall Γ t (k + 2) i_l_place_2 [.ref b] S = .ok (.int p) S' ∧ Bg S b S' ∧ Bag S' b := by
  obtain ⟨r1, S1, e1, ⟨h1, h2⟩, g1, b1⟩ := take2_ok (Γ := Γ) hT (t := t) (k := k) hb 12 (by omega)
  rw [call_unf hP rfl]
  by_cases h9 : r1 < 9
  · obtain ⟨r2, S2, e2, ⟨h3, h4⟩, g2, b2⟩ := take2_ok (Γ := Γ) hT (t := t) (k := k) b1 14 (by omega)
    refine ⟨r2 - 4, S2, ?_, g1.trans g2, b2⟩
    simp [fn_l_place_2, startE, e1, h9, e2]
  by_cases h11 : r1 < 11
  · obtain ⟨r2, S2, e2, ⟨h3, h4⟩, g2, b2⟩ := take2_ok (Γ := Γ) hT (t := t) (k := k) b1 2001 (by omega)
    refine ⟨r2 - 1000, S2, ?_, g1.trans g2, b2⟩
    simp [fn_l_place_2, startE, e1, h9, h11, e2]
  let P : Nat → Env → Sto → Prop := fun i ε S' => ∃ (f : Int) (p : Sl), ε = [.val (.ref b), .val (.int r1), .val (.int f), p] ∧ Bg S b S' ∧ Bag S' b
  obtain ⟨ε', S2, e2, f, p, rfl, g2, b2⟩ := forL_inv (F := forF (evCall Γ t (k + 1)) t (.nm 3) b_l_place_2_1) P (ds := rngL 0 5)
    (by
      rintro i d ε S' hd ⟨f, p, rfl, g, b'⟩
      obtain ⟨r2, S2, e2, ⟨h5, h6⟩, g2, b2⟩ := take2_ok (Γ := Γ) hT (t := t) (k := k) b' 1000000 (by omega)
      refine ⟨_, S2, ?_, f * 1000000 + r2, .val d, rfl, g.trans g2, b2⟩
      simp [forF, b_l_place_2_1, e2]) (ε := [.val (.ref b), .val (.int r1), .val (.int 0), .un]) (S := S1) ⟨0, .un, rfl, g1, b1⟩
  obtain ⟨r3, S3, e3, ⟨h5, h6⟩, g3, b3⟩ := take2_ok (Γ := Γ) hT (t := t) (k := k) b2 4 (by omega)
  have hl : ∃ q : Int, atI [D.int f, .int (-f), .int 1000000000000000000000000000000, .int (-1000000000000000000000000000000)] r3 = some (.int q) := by
    have : r3 = 0 ∨ r3 = 1 ∨ r3 = 2 ∨ r3 = 3 := by omega
    rcases this with rfl | rfl | rfl | rfl
    · exact ⟨f, atI_int (by omega) rfl⟩
    · exact ⟨-f, atI_int (by omega) rfl⟩
    · exact ⟨_, atI_int (by omega) rfl⟩
    · exact ⟨_, atI_int (by omega) rfl⟩
  obtain ⟨q, hq⟩ := hl
  refine ⟨q, S3, ?_, g2.trans g3, b3⟩
  simp [fn_l_place_2, startE, e1, h9, h11, e2, e3, hq, rng1F]
theorem atI_mem {α : Type} {l : List α} {r : Int} (h0 : 0 ≤ r) (h1 : r < (l.length : Int)) : ∃ d, atI l r = some d ∧ d ∈ l := by
  have h : r.toNat < l.length := by omega
  exact ⟨l[r.toNat], atI_int h0 (by simp [h]), List.getElem_mem h⟩
theorem ixN_ok {n : Nat} {r : Int} (h0 : 0 ≤ r) (h1 : r < (n : Int)) : ixN n r = some r.toNat := by
  unfold ixN
  rw [if_pos h0, if_pos h1]
def strL : List D := [.non, .bl true, .bl false, .str "1", .tup [], .tup [.int 0, .int 1], .lst [.int 0, .int 1], .int 1000000000000000000000000000001, .int (-1000000000000000000000000000001), .int 1000000000000000000000000000000, .int (-1000000000000000000000000000000), .dct [] []]
theorem strL_kd {d : D} (h : d ∈ strL) : pl1 d := by
  simp only [strL, List.mem_cons, List.not_mem_nil, or_false] at h
  rcases h with rfl | rfl | rfl | rfl | rfl | rfl | rfl | rfl | rfl | rfl | rfl | rfl <;> refine ⟨rfl, fun l e => ?_⟩ <;> cases e
  · simp
  · simp [kd]
theorem pl1_pl2 {d : D} (h : kd d = true) (h2 : ∀ l, d = .tup l → l.length ≤ 1000 ∧ ∀ x ∈ l, ∃ i, x = D.int i) : pl2 d := ⟨h, fun l e => ⟨(h2 l e).1, fun x hx => by
  obtain ⟨i, rfl⟩ := (h2 l e).2 x hx
  exact ⟨rfl, fun l e => by cases e⟩⟩⟩
theorem strL_pl2 {d : D} (h : d ∈ strL) : pl2 d := by
  simp only [strL, List.mem_cons, List.not_mem_nil, or_false] at h
  rcases h with rfl | rfl | rfl | rfl | rfl | rfl | rfl | rfl | rfl | rfl | rfl | rfl <;> refine pl1_pl2 rfl fun l e => ?_ <;> cases e
  · simp
  · simp
structure HTh (Γ : Tab) : Prop extends HIs Γ where
  take : Γ i_l_take = some fn_l_take
  place : Γ i_l_place_2 = some fn_l_place_2
  strange : Γ i_l_strange = some fn_l_strange
  part : Γ i_l_part = some fn_l_part
  thing : Γ i_l_thing = some fn_l_thing
  right : Γ i_l_right = some fn_l_right
  word : Γ i_l_word = some fn_l_word
  good : Γ i_l_is_good_name = some fn_l_is_good_name
section
variable {Γ : Tab} (hΓ : HTh Γ) {t k b : Nat} {S : Sto}
include hΓ
theorem strange_ok (hb : Bag S b) : ∃ d S', evCall Γ t (k + 2) i_l_strange [.ref b] S = .ok d S' ∧ d ∈ strL ∧ Bg S b S' ∧ Bag S' b := by
  rw [call_unf hΓ.strange rfl]
  obtain ⟨r, S1, e1, ⟨h1, h2⟩, g1, b1⟩ := take2_ok hΓ.take (t := t) (k := k) hb 12 (by omega)
  obtain ⟨d, hd, hm⟩ := atI_mem (l := strL) h1 (by simpa [strL] using h2)
  refine ⟨d, S1, ?_, hm, g1, b1⟩
  simp only [strL] at hd
  simp [fn_l_strange, startE, e1, hd]
theorem int_pl1 (i : Int) : pl1 (.int i) := ⟨rfl, fun l e => by cases e⟩
theorem part_ok (hb : Bag S b) (sides : Bool) : ∃ d S', evCall Γ t (k + 3) i_l_part [.ref b, .bl sides] S = .ok d S' ∧ pl1 d ∧ Bg S b S' ∧ Bag S' b := by
  rw [call_unf hΓ.part rfl]
  obtain ⟨p, S1, e1, g1, b1⟩ := place2_ok hΓ.take hΓ.place (t := t) (k := k) hb
  cases sides with
  | false => exact ⟨.int p, S1, by simp [fn_l_part, startE, e1], int_pl1 hΓ p, g1, b1⟩
  | true =>
    obtain ⟨q, S2, e2, g2, b2⟩ := place2_ok hΓ.take hΓ.place (t := t) (k := k) b1
    obtain ⟨r3, S3, e3, ⟨h1, h2⟩, g3, b3⟩ := take2_ok hΓ.take (t := t) (k := k + 1) b2 2 (by omega)
    obtain ⟨x, hx, hm⟩ := atI_mem (l := [D.int p, .int q]) h1 (by simpa using h2)
    obtain ⟨o, rfl⟩ : ∃ o, x = .int o := by
      simp only [List.mem_cons, List.not_mem_nil, or_false] at hm
      rcases hm with rfl | rfl <;> exact ⟨_, rfl⟩
    obtain ⟨r4, S4, e4, ⟨h3, h4⟩, g4, b4⟩ := take2_ok hΓ.take (t := t) (k := k + 1) b3 4 (by omega)
    have g := ((g1.trans g2).trans g3).trans g4
    by_cases h5 : 0 < r4
    · refine ⟨.tup [.int (if o < p then o else p), .int (if o > p then o else p)], S4, ?_, ⟨rfl, fun l e => ?_⟩, g, b4⟩
      · simp [fn_l_part, startE, e1, e2, e3, hx, e4, h5]
      · cases e; exact ⟨by simp, fun x hx => by
          simp only [List.mem_cons, List.not_mem_nil, or_false] at hx
          rcases hx with rfl | rfl <;> rfl⟩
    · obtain ⟨r5, S5, e5, ⟨h6, h7⟩, g5, b5⟩ := take2_ok hΓ.take (t := t) (k := k + 1) b4 5 (by omega)
      obtain ⟨y, hy, hym⟩ := atI_mem (l := [D.tup [.int p, .int o], .lst [.int p, .int p], .tup [.int p], .tup [.int p, .int p, .int p], .int p]) h6 (by simpa using h7)
      refine ⟨y, S5, ?_, ?_, g.trans g5, b5⟩
      · simp [fn_l_part, startE, e1, e2, e3, hx, e4, h5, e5, hy]
      · simp only [List.mem_cons, List.not_mem_nil, or_false] at hym
        rcases hym with rfl | rfl | rfl | rfl | rfl <;> refine ⟨rfl, fun l e => ?_⟩ <;> cases e <;> simp [kd]
end
/-! words -/
def charL : List Nat := [97, 98, 99, 100, 101, 102, 103, 104, 105, 106, 107, 108, 109, 110, 111, 112, 113, 114, 115, 116, 117, 118, 119, 120, 121, 122, 65, 90, 96, 123, 32, 48, 57, 95, 45, 10, 126]
def chD (c : Nat) : D := .str ⟨#[c]⟩
theorem ix_str {z : Str} {l : List Nat} (hz : z.cps.toList = l) (hl : l.length ≤ 1000) {S : Sto} {r : Int} (h0 : 0 ≤ r) (h1 : r < (l.length : Int)) : ∃ c, ixS S (.str z) (.int r) = some (chD c) ∧ c ∈ l := by
  obtain ⟨c, hc, hm⟩ := atI_mem h0 h1
  refine ⟨c, ?_, hm⟩
  show ixF (.str z) (.int r) = _
  have : z.length ≤ sizeLine := by
    have : z.length = l.length := by rw [← hz]; simp [Str.length]
    rw [this]; exact line_k hl
  simp only [ixF]
  rw [if_pos this, hz, hc]
  rfl
theorem joinL_one : ∀ l : List Nat, TL.joinL [] (l.map fun c => [c]) = l
  | [] => rfl
  | [_] => rfl
  | a :: b :: l => by
    show [a] ++ ([] ++ TL.joinL [] ((b :: l).map fun c => [c])) = _
    rw [joinL_one (b :: l)]
    rfl
theorem join_chars {l : List Nat} {S : Sto} (h : l.length ≤ 1000) : prF (.join "") [.lst (l.map chD)] S = .ok (.str (SX.S l)) S := by
  have e1 : l.map chD = (l.map fun c => (⟨#[c]⟩ : Str)).map D.str := by simp [chD]
  have e2 : (l.map fun c => (⟨#[c]⟩ : Str)) = (l.map fun c => [c]).map SX.S := by simp
  have e3 : ((l.map fun c => (⟨#[c]⟩ : Str)).map (·.length)).sum = l.length := by
    clear h e1 e2
    induction l with
    | nil => rfl
    | cons a l ih => simp only [List.map_cons, List.sum_cons, ih, List.length_cons]; simp [Str.length]; omega
  have e4 : ("" : Str).length = 0 := rfl
  rw [e1, pr_join (by rw [e3, e4]; omega)]
  rw [e2, show ("" : Str) = SX.S [] from rfl, SX.join_S, joinL_one]
def nameB (l : List Nat) : Bool := decide (1 ≤ (l.length : Int)) && decide ((l.length : Int) ≤ 12) && l.all fun c => decide (c ∈ charL.take 26)
section
variable {Γ : Tab} (hΓ : HTh Γ) {t k b : Nat} {S : Sto}
include hΓ
theorem word_ok (hb : Bag S b) : ∃ l S', evCall Γ t (k + 2) i_l_word [.ref b] S = .ok (.str (SX.S l)) S' ∧ (∀ c ∈ l, c ∈ charL) ∧ l.length ≤ 15 ∧ Bg S b S' ∧ Bag S' b := by
  rw [call_unf hΓ.word rfl]
  obtain ⟨r1, S1, e1, ⟨h1, h2⟩, g1, b1⟩ := take2_ok hΓ.take (t := t) (k := k) hb 15 (by omega)
  obtain ⟨n, rfl⟩ : ∃ n : Nat, r1 = (n : Int) := ⟨r1.toNat, by omega⟩
  obtain ⟨l, S2, e2, hl, hok, g2, b2⟩ := lc_draw (F := lcF (evCall Γ t (k + 1)) e_l_word_1 (.nm 2) none [2] [.val (.ref b), .un, .un]) (f := chD) (Ok := fun c => c ∈ charL) (b := b) (S := S1)
    (by
      intro d S hb
      obtain ⟨r, S2, e2, ⟨h3, h4⟩, g2, b2⟩ := take2_ok hΓ.take (t := t) (k := k) hb 26 (by omega)
      obtain ⟨c, hc, hm⟩ := ix_str (z := "abcdefghijklmnopqrstuvwxyz") (l := charL.take 26) (by decide +kernel) (by decide) (S := S2) h3 (by simpa [charL] using h4)
      exact ⟨c, S2, by simp [lcF, e_l_word_1, e2, hc], List.mem_of_mem_take hm, g2, b2⟩) b1 (rngL 0 n)
  rw [rng_len] at hl
  have hz : (l.map chD).length ≤ sizeLine := by rw [List.length_map]; exact line_k (by omega)
  have hr := rng1_ok (n := n) (by omega)
  have g := g1.trans g2
  cases hc : l with
  | nil =>
    subst hc
    refine ⟨[], S2, ?_, by simp, by simp, g, b2⟩
    have hj := join_chars (l := []) (S := S2) (by simp)
    simp only [List.map_nil] at hj e2 hz
    simp [fn_l_word, startE, e1, hr, e2, lcR_ok hz, hj]
  | cons c0 l0 =>
    have hne : (l.map chD).isEmpty = false := by rw [hc]; rfl
    obtain ⟨r3, S3, e3, ⟨h5, h6⟩, g3, b3⟩ := take2_ok hΓ.take (t := t) (k := k) b2 3 (by omega)
    by_cases h7 : r3 = 0
    · subst h7
      have hpos : 0 < (l.length : Int) ∧ (l.length : Int) < 2 ^ 64 := by
        have : 0 < l.length := by rw [hc]; simp
        omega
      obtain ⟨r4, S4, e4, ⟨h8, h9⟩, g4, b4⟩ := take2_ok hΓ.take (t := t) (k := k) b3 l.length hpos
      obtain ⟨r5, S5, e5, ⟨h10, h11⟩, g5, b5⟩ := take2_ok hΓ.take (t := t) (k := k) b4 11 (by omega)
      obtain ⟨c, hcc, hm⟩ := ix_str (z := "AZ`{ 09_-\n~") (l := charL.drop 26) (by decide +kernel) (by decide) (S := S5) h10 (by simpa [charL] using h11)
      have hx := ixN_ok (n := l.length) h8 h9
      refine ⟨l.set r4.toNat c, S5, ?_, fun x hx => ?_, by rw [List.length_set]; omega, ((g.trans g3).trans g4).trans g5, b5⟩
      · have hj := join_chars (l := l.set r4.toNat c) (S := S5) (by rw [List.length_set]; omega)
        rw [List.map_set] at hj
        simp [fn_l_word, startE, e1, hr, e2, lcR_ok hz, hne, e3, e4, e5, hcc, hx, hj]
      · rcases List.mem_or_eq_of_mem_set hx with hx | rfl
        · exact hok x hx
        · exact List.mem_of_mem_drop hm
    · refine ⟨l, S3, ?_, hok, by omega, g.trans g3, b3⟩
      have hj := join_chars (l := l) (S := S3) (by omega)
      simp [fn_l_word, startE, e1, hr, e2, lcR_ok hz, hne, e3, h7, hj]
theorem seq_S {l : List Nat} (h : l.length ≤ 1000) : seqOf (.str (SX.S l)) = some (l.map chD) := by
  simp only [seqOf]
  rw [if_pos (by rw [SX.S_len]; exact line_k h)]
  simp [chD]
theorem len_S {l : List Nat} (h : l.length ≤ 1000) : bltF .len [.str (SX.S l)] = some (.int l.length) := by
  simp only [bltF]
  rw [if_pos (by rw [SX.S_len]; exact line_k h), SX.S_len]
theorem name_ok (l : List Nat) (h : l.length ≤ 1000) : evCall Γ t (k + 1) i_is_name [.str (SX.S l)] S = .ok (.bl (nameB l)) S := by
  rw [call_unf hΓ.name rfl]
  have hl : lcL (lcF (evCall Γ t k) e_is_name_1 (.nm 1) none [1] [.val (.str (SX.S l)), .un]) (l.map chD) S = .ok (l.map fun c => .bl (decide (c ∈ charL.take 26))) S := lcL_map (fun c hc => by
    have e : inF (chD c) (.str "abcdefghijklmnopqrstuvwxyz") = some (decide (c ∈ charL.take 26)) := by
      simp only [inF, chD]
      exact congrArg some (SX.in_one (charL.take 26) c)
    simp [lcF, e_is_name_1, cmpF, e])
  have hz : (l.map fun c => D.bl (decide (c ∈ charL.take 26))).length ≤ sizeLine := by rw [List.length_map]; exact line_k h
  have ha : bltF .all [.lst (l.map fun c => .bl (decide (c ∈ charL.take 26)))] = some (.bl (l.all fun c => decide (c ∈ charL.take 26))) := by
    have : (l.map fun c => D.bl (decide (c ∈ charL.take 26))) = (l.map fun c => decide (c ∈ charL.take 26)).map D.bl := by simp
    rw [this, blt_all]
    simp [List.all_map]
  have e1 := len_S hΓ h
  have e2 := seq_S hΓ h
  generalize SX.S l = w at *
  by_cases h1 : 1 ≤ (l.length : Int) <;> by_cases h2 : (l.length : Int) ≤ 12 <;> simp [fn_is_name, startE, kindIs, e1, e2, hl, lcR_ok hz, ha, nameB, h1, h2]
theorem good_ok (l : List Nat) (h : l.length ≤ 1000) (hc : ∀ c ∈ l, c ∈ charL) : evCall Γ t (k + 1) i_l_is_good_name [.str (SX.S l)] S = .ok (.bl (nameB l)) S := by
  rw [call_unf hΓ.good rfl]
  have hl : lcL (lcF (evCall Γ t k) e_l_is_good_name_1 (.nm 1) (some c_l_is_good_name_1) [1] [.val (.str (SX.S l)), .un]) (l.map chD) S = .ok ((l.filter fun c => !decide (c ∈ charL.take 26)).map chD) S := lcL_filter (fun c hcl => by
    have key : ∀ c ∈ charL, decide ([c] < [97]) = true ∧ decide (c ∈ charL.take 26) = false ∨ decide ([c] < [97]) = false ∧ decide ([122] < [c]) = !decide (c ∈ charL.take 26) := by decide +kernel
    have a1 : cmpF .le (.str "a") (chD c) = some (!decide ([c] < [97])) := rfl
    have a2 : cmpF .le (chD c) (.str "z") = some (!decide ([122] < [c])) := rfl
    rcases key c (hc c hcl) with ⟨k1, k2⟩ | ⟨k1, k2⟩
    · simp [lcF, e_l_is_good_name_1, c_l_is_good_name_1, a1, k1, k2]
    · rw [k1] at a1
      rw [k2] at a2
      cases hh : decide (c ∈ charL.take 26) <;> rw [hh] at a2 <;> simp [lcF, e_l_is_good_name_1, c_l_is_good_name_1, a1, a2])
  have hz : ((l.filter fun c => !decide (c ∈ charL.take 26)).map chD).length ≤ sizeLine := by rw [List.length_map]; exact line_k (Nat.le_trans (List.length_filter_le _ _) h)
  have he : ((l.filter fun c => !decide (c ∈ charL.take 26)).map chD).isEmpty = l.all fun c => decide (c ∈ charL.take 26) := by
    rw [Bool.eq_iff_iff]
    simp only [List.isEmpty_iff, List.map_eq_nil_iff, List.filter_eq_nil_iff, List.all_eq_true]
    simp
  have e1 := len_S hΓ h
  have e2 := seq_S hΓ h
  generalize SX.S l = w at *
  by_cases h1 : 1 ≤ (l.length : Int) <;> by_cases h2 : (l.length : Int) ≤ 12 <;> simp [fn_l_is_good_name, startE, e1, e2, hl, lcR_ok hz, he, nameB, h1, h2]
theorem name_no {d : D} (h : kd d = true) (hs : ∀ x, d ≠ .str x) : evCall Γ t (k + 1) i_is_name [d] S = .ok (.bl false) S := by
  rw [call_unf hΓ.name rfl]
  cases d <;> simp [kd] at h <;> first | exact absurd rfl (hs _) | simp [fn_is_name, startE, kindIs]
theorem name_str {d : D} (h : d ∈ strL) : evCall Γ t (k + 1) i_is_name [d] S = .ok (.bl false) S := by
  have h0 := h
  simp only [strL, List.mem_cons, List.not_mem_nil, or_false] at h
  by_cases hs : d = .str "1"
  · subst hs
    have := name_ok hΓ (t := t) (k := k) (S := S) [49] (by simp)
    rw [show (nameB [49]) = false from by decide +kernel] at this
    exact this
  · refine name_no hΓ (strL_kd h0).1 fun x e => ?_
    subst e
    rcases h with h | h | h | h | h | h | h | h | h | h | h | h <;> first | exact hs h | cases h
end
/-! things -/
theorem set_pl1 {l : List D} {d : D} {n : Nat} (h : ∀ x ∈ l, pl1 x) (hd : pl1 d) : ∀ x ∈ l.set n d, pl1 x := fun x hx => by
  rcases List.mem_or_eq_of_mem_set hx with hx | rfl
  · exact h x hx
  · exact hd
section
variable {Γ : Tab} (hΓ : HTh Γ) {t k b : Nat} {S : Sto}
include hΓ
theorem two_pl1 {d e : D} (h1 : d ∈ strL) (h2 : e ∈ strL) : pl1 (.tup [d, e]) := ⟨rfl, fun l h => by
  cases h
  refine ⟨by simp, fun x hx => ?_⟩
  simp only [List.mem_cons, List.not_mem_nil, or_false] at hx
  rcases hx with rfl | rfl
  · exact (strL_kd h1).1
  · exact (strL_kd h2).1⟩
theorem thing1 (hb : Bag S b) (sides : Bool) {l : List D} (hl : ∀ x ∈ l, pl1 x) (hn : l.length ≤ 7) {x : Sl} :
    ∃ l' x' S', evS (evCall Γ t (k + 3)) t (fn_l_thing.body.getD 1 .pass) [.val (.ref b), .val (.bl sides), .own (.lst l), x] S = .ok (.nx [.val (.ref b), .val (.bl sides), .own (.lst l'), x']) S' ∧ (∀ x ∈ l', pl1 x) ∧ l'.length = l.length ∧ Bg S b S' ∧ Bag S' b := by
  by_cases he : l = []
  · subst he
    exact ⟨[], x, S, by simp [fn_l_thing], by simp, rfl, hb.refl, hb⟩
  have hne : l.isEmpty = false := by cases l <;> simp at he ⊢
  have hpos : 0 < l.length := by cases l <;> simp at he ⊢
  obtain ⟨r, S1, e1, _, g1, b1⟩ := take2_ok hΓ.take (t := t) (k := k + 2) hb 3 (by omega)
  by_cases hr : r = 0
  · subst hr
    obtain ⟨r2, S2, e2, ⟨h1, h2⟩, g2, b2⟩ := take2_ok hΓ.take (t := t) (k := k + 2) b1 l.length (by omega)
    obtain ⟨d, S3, e3, hd, g3, b3⟩ := strange_ok hΓ (t := t) (k := k + 1) b2
    have hx := ixN_ok (n := l.length) h1 h2
    refine ⟨l.set r2.toNat d, .val (.int r2), S3, ?_, set_pl1 hl (strL_kd hd), by simp, (g1.trans g2).trans g3, b3⟩
    simp [fn_l_thing, hne, e1, e2, e3, hx]
  · refine ⟨l, x, S1, ?_, hl, rfl, g1, b1⟩
    simp [fn_l_thing, hne, e1, hr]
theorem thing2 (hb : Bag S b) (sides : Bool) {l : List D} (hl : ∀ x ∈ l, pl1 x) (hn : l.length ≤ 7) {x : Sl} :
    ∃ l' x' S', evS (evCall Γ t (k + 3)) t (fn_l_thing.body.getD 2 .pass) [.val (.ref b), .val (.bl sides), .own (.lst l), x] S = .ok (.nx [.val (.ref b), .val (.bl sides), .own (.lst l'), x']) S' ∧ (∀ x ∈ l', pl1 x) ∧ l'.length = l.length ∧ Bg S b S' ∧ Bag S' b := by
  by_cases he : l = []
  · subst he
    exact ⟨[], x, S, by simp [fn_l_thing], by simp, rfl, hb.refl, hb⟩
  have hne : l.isEmpty = false := by cases l <;> simp at he ⊢
  have hpos : 0 < l.length := by cases l <;> simp at he ⊢
  cases sides with
  | false => exact ⟨l, x, S, by simp [fn_l_thing, hne], hl, rfl, hb.refl, hb⟩
  | true =>
    obtain ⟨r, S1, e1, _, g1, b1⟩ := take2_ok hΓ.take (t := t) (k := k + 2) hb 5 (by omega)
    by_cases hr : r = 0
    · subst hr
      obtain ⟨r2, S2, e2, ⟨h1, h2⟩, g2, b2⟩ := take2_ok hΓ.take (t := t) (k := k + 2) b1 l.length (by omega)
      obtain ⟨d, S3, e3, hd, g3, b3⟩ := strange_ok hΓ (t := t) (k := k + 1) b2
      obtain ⟨d', S4, e4, hd', g4, b4⟩ := strange_ok hΓ (t := t) (k := k + 1) b3
      have hx := ixN_ok (n := l.length) h1 h2
      refine ⟨l.set r2.toNat (.tup [d, d']), .val (.int r2), S4, ?_, set_pl1 hl (two_pl1 hΓ hd hd'), by simp, ((g1.trans g2).trans g3).trans g4, b4⟩
      simp [fn_l_thing, hne, e1, e2, e3, e4, hx]
    · refine ⟨l, x, S1, ?_, hl, rfl, g1, b1⟩
      simp [fn_l_thing, hne, e1, hr]
theorem thing_ok (hb : Bag S b) (sides : Bool) : ∃ d S', evCall Γ t (k + 4) i_l_thing [.ref b, .bl sides] S = .ok d S' ∧ pl2 d ∧ Bg S b S' ∧ Bag S' b := by
  rw [call_unf hΓ.thing rfl]
  obtain ⟨r1, S1, e1, ⟨h1, h2⟩, g1, b1⟩ := take2_ok hΓ.take (t := t) (k := k + 2) hb 7 (by omega)
  obtain ⟨n, rfl⟩ : ∃ n : Nat, r1 = (n : Int) := ⟨r1.toNat, by omega⟩
  obtain ⟨l, S2, e2, hl, hok, g2, b2⟩ := lc_draw (F := lcF (evCall Γ t (k + 3)) e_l_thing_1 (.nm 3) none [3] [.val (.ref b), .val (.bl sides), .un, .un]) (f := id) (Ok := pl1) (b := b) (S := S1)
    (by
      intro d S hb
      obtain ⟨x, S2, e2, hx, g2, b2⟩ := part_ok hΓ (t := t) (k := k) hb sides
      exact ⟨x, S2, by simp [lcF, e_l_thing_1, e2], hx, g2, b2⟩) b1 (rngL 0 n)
  rw [rng_len] at hl
  rw [List.map_id] at e2
  have hz : l.length ≤ sizeLine := line_k (by omega)
  have hr := rng1_ok (n := n) (by omega)
  obtain ⟨l3, x3, S3, e3, hl3, hn3, g3, b3⟩ := thing1 hΓ (t := t) (k := k) b2 sides hok (by omega) (x := .un)
  obtain ⟨l4, x4, S4, e4, hl4, hn4, g4, b4⟩ := thing2 hΓ (t := t) (k := k) b3 sides hl3 (by omega) (x := x3)
  obtain ⟨r5, S5, e5, _, g5, b5⟩ := take2_ok hΓ.take (t := t) (k := k + 2) b4 9 (by omega)
  have g := (((g1.trans g2).trans g3).trans g4).trans g5
  have s0 : evS (evCall Γ t (k + 3)) t (fn_l_thing.body.getD 0 .pass) [.val (.ref b), .val (.bl sides), .un, .un] S = .ok (.nx [.val (.ref b), .val (.bl sides), .own (.lst l), .un]) S2 := by
    simp [fn_l_thing, e1, hr, e2, lcR_ok hz]
  have hbody : fn_l_thing.body = fn_l_thing.body.getD 0 .pass :: fn_l_thing.body.getD 1 .pass :: fn_l_thing.body.getD 2 .pass :: fn_l_thing.body.drop 3 := rfl
  have hs : startE fn_l_thing.slots [.ref b, .bl sides] = [.val (.ref b), .val (.bl sides), .un, .un] := rfl
  rw [hs, hbody]
  simp only [evB_cons, s0, thn_nx, e3, e4]
  have hl4' : l4.length ≤ 1000 := by omega
  by_cases h5 : r5 = 0
  · subst h5
    refine ⟨.lst l4, S5, ?_, ⟨rfl, fun l e => by cases e⟩, g, b5⟩
    simp [fn_l_thing, e5]
  · refine ⟨.tup l4, S5, ?_, ⟨rfl, fun l e => by cases e; exact ⟨hl4', hl4⟩⟩, g, b5⟩
    simp [fn_l_thing, e5, h5]
theorem pl2_1 {d : D} (h : pl2 d) : pl1 d := ⟨h.1, fun l e => ⟨(h.2 l e).1, fun x hx => ((h.2 l e).2 x hx).1⟩⟩
theorem filt_emp {l : List D} {p : D → Bool} : (l.filter fun x => !p x).isEmpty = l.all p := by
  rw [Bool.eq_iff_iff]
  simp only [List.isEmpty_iff, List.filter_eq_nil_iff, List.all_eq_true]
  simp
theorem right_ok (d : D) (m : Option Int) (h : pl2 d) : evCall Γ t (k + 5) i_l_right [d, axD m] S = .ok (.bl true) S := by
  rw [call_unf hΓ.right rfl]
  have hs : startE fn_l_right.slots [d, axD m] = [.val d, .val (axD m), .un, .un, .un] := rfl
  have hr := lrow_ok hΓ.toHIs (t := t) (k := k + 3) (S := S) d m h.1
  have s0 : ∃ y, evS (evCall Γ t (k + 4)) t (fn_l_right.body.getD 0 .pass) [.val d, .val (axD m), .un, .un, .un] S = .ok (.nx [.val d, .val (axD m), .val (.bl (rowB d m && itemsB sideB d)), y, .un]) S := by
    cases hb : rowB d m with
    | false =>
      rw [hb] at hr
      exact ⟨.un, by simp [fn_l_right, hr]⟩
    | true =>
      rw [hb] at hr
      obtain ⟨l, rfl⟩ := row_tup hΓ.toHIs hb
      obtain ⟨h3, h4⟩ := h.2 l rfl
      have hl : lcL (lcF (evCall Γ t (k + 4)) e_l_right_1 (.nm 3) (some c_l_right_1) [3] [.val (.tup l), .val (axD m), .un, .un, .un]) l S = .ok (l.filter fun x => !sideB x) S := lcL_fid (fun x hx => by
        have := lside_ok hΓ.toHIs (t := t) (k := k + 1) (S := S) x (h4 x hx)
        cases hh : sideB x <;> simp [lcF, e_l_right_1, c_l_right_1, this, hh])
      have hz : (l.filter fun x => !sideB x).length ≤ sizeLine := line_k (Nat.le_trans (List.length_filter_le _ _) h3)
      have he := filt_emp hΓ (l := l) (p := sideB)
      generalize l.filter (fun x => !sideB x) = fl at *
      exact ⟨.un, by simp [fn_l_right, hr, hl, lcR_ok hz, he, itemsB]⟩
  obtain ⟨y, s0⟩ := s0
  have s1 : ∃ y', evS (evCall Γ t (k + 4)) t (fn_l_right.body.getD 1 .pass) [.val d, .val (axD m), .val (.bl (rowB d m && itemsB sideB d)), y, .un] S = .ok (.nx [.val d, .val (axD m), .val (.bl (rowB d m && itemsB sideB d)), y', .val (.bl (rowB d m && itemsB farB d))]) S := by
    cases hb : rowB d m with
    | false =>
      rw [hb] at hr
      exact ⟨y, by simp [fn_l_right, hr]⟩
    | true =>
      rw [hb] at hr
      obtain ⟨l, rfl⟩ := row_tup hΓ.toHIs hb
      obtain ⟨h3, h4⟩ := h.2 l rfl
      simp only [Bool.true_and]
      have hl : lcL (lcF (evCall Γ t (k + 4)) e_l_right_2 (.nm 3) (some c_l_right_2) [3] [.val (.tup l), .val (axD m), .val (.bl (itemsB sideB (.tup l))), y, .un]) l S = .ok (l.filter fun x => !farB x) S := lcL_fid (fun x hx => by
        have := lplace_ok hΓ.toHIs (t := t) (k := k + 2) (S := S) x (h4 x hx).1
        cases hh : farB x <;> simp [lcF, e_l_right_2, c_l_right_2, this, hh])
      have hz : (l.filter fun x => !farB x).length ≤ sizeLine := line_k (Nat.le_trans (List.length_filter_le _ _) h3)
      have he := filt_emp hΓ (l := l) (p := farB)
      have hi : itemsB farB (.tup l) = l.all farB := rfl
      generalize l.filter (fun x => !farB x) = fl at *
      exact ⟨y, by simp [fn_l_right, hr, hl, lcR_ok hz, he, hi]⟩
  obtain ⟨y', s1⟩ := s1
  have hbox := isbox_ok hΓ.toHIs (t := t) (k := k) (S := S) d m h
  have hspot := spot_ok1 hΓ.toHIs (t := t) (k := k + 1) (S := S) d m (pl2_1 hΓ h)
  generalize (rowB d m && itemsB sideB d) = bx at *
  generalize (rowB d m && itemsB farB d) = sp at *
  have hbody : fn_l_right.body = fn_l_right.body.getD 0 .pass :: fn_l_right.body.getD 1 .pass :: fn_l_right.body.drop 2 := rfl
  rw [hs, hbody]
  simp only [evB_cons, s0, thn_nx, s1]
  have f1 := isame_ok hΓ.toHIs (t := t) (k := k + 3) (S := S) bx bx
  have f2 := isame_ok hΓ.toHIs (t := t) (k := k + 3) (S := S) sp sp
  simp only [decide_true] at f1 f2
  cases m with
  | none =>
    simp only [axD] at *
    simp [fn_l_right, hbox, hspot, f1, f2]
  | some j =>
    simp only [axD] at *
    simp [fn_l_right, hbox, hspot, f1, f2]
end
theorem hth : HTh Γ := ⟨⟨rfl, rfl, rfl, rfl, rfl, rfl, rfl, rfl, rfl, rfl, rfl, rfl⟩, rfl, rfl, rfl, rfl, rfl, rfl, rfl, rfl⟩
theorem many_ok {k : Nat} {S : Sto} {d : D} (h : pl2 d) {v0 v1 v2 v3 v5 v6 v7 : Sl} : ∃ w5, forL (forF (evCall Γ 1000 (k + 5)) 1000 (.nm 5) b_law_k01_1) [.non, .int 1, .int 2, .int 3, .int 4] [v0, v1, v2, v3, .val d, v5, v6, v7] S = .ok (.nx [v0, v1, v2, v3, .val d, w5, v6, v7]) S := by
  have r0 := right_ok hth (t := 1000) (k := k) (S := S) d none h
  have r1 := right_ok hth (t := 1000) (k := k) (S := S) d (some 1) h
  have r2 := right_ok hth (t := 1000) (k := k) (S := S) d (some 2) h
  have r3 := right_ok hth (t := 1000) (k := k) (S := S) d (some 3) h
  have r4 := right_ok hth (t := 1000) (k := k) (S := S) d (some 4) h
  simp only [axD] at r0 r1 r2 r3 r4
  refine ⟨.val (.int 4), ?_⟩
  simp [forF, b_law_k01_1, r0, r1, r2, r3, r4]
theorem main_law : ∀ ns : List Int, ns.length ≤ 63 → ∃ S', evCall Γ 1000 9 i_law_k01 [.scr (ns.map .int)] [] = .ok (.bl true) S' := by
  intro ns hns
  rw [call_unf (show Γ i_law_k01 = some fn_law_k01 from rfl) rfl]
  let P : Nat → Env → Sto → Prop := fun i ε S => ∃ p1 p2 p3 p4 p5 p6 p7 : Sl, ε = [.val (.scr (ns.map .int)), p1, p2, p3, p4, p5, p6, p7]
  obtain ⟨n, hn, hn2⟩ : ∃ n : Nat, (if 12 < (ns.length : Int) then 12 else (ns.length : Int)) + 2 = (n : Int) ∧ n ≤ 14 := by
    split
    · exact ⟨14, rfl, by omega⟩
    · exact ⟨ns.length + 2, by omega, by omega⟩
  obtain ⟨ε', S2, e2, p1, p2, p3, p4, p5, p6, p7, rfl⟩ := forL_inv (F := forF (evCall Γ 1000 8) 1000 (.nm 1) b_law_k01_3) P (ds := rngL 0 n)
    (by
      rintro i d ε S hd ⟨p1, p2, p3, p4, p5, p6, p7, rfl⟩
      obtain ⟨hi, rfl⟩ := turn_i hd
      obtain ⟨x, y, eb⟩ := bag2_ok (Γ := Γ) (t := 1000) (k := 7) (S := S) rfl ns (i : Int) (by omega)
      have hb0 : Bag (S ++ [.lst [.int x, .int y]]) S.length := bag_new
      obtain ⟨ε3, S3, e3, q3, q4, q5, q6, q7, rfl, b3⟩ := forL_inv (F := forF (evCall Γ 1000 8) 1000 (.nm 3) b_law_k01_2) (fun _ ε S' => ∃ q3 q4 q5 q6 q7 : Sl, ε = [.val (.scr (ns.map .int)), .val (.int i), .val (.ref S.length), q3, q4, q5, q6, q7] ∧ Bag S' S.length) (ds := [.bl true, .bl false, .bl true])
        (by
          rintro j d ε S' hd ⟨q3, q4, q5, q6, q7, rfl, hb⟩
          obtain ⟨sd, rfl⟩ : ∃ sd, d = .bl sd := by
            have := List.mem_of_getElem? hd
            simp only [List.mem_cons, List.not_mem_nil, or_false] at this
            rcases this with rfl | rfl | rfl <;> exact ⟨_, rfl⟩
          obtain ⟨th, S4, e4, hth4, _, b4⟩ := thing_ok hth (t := 1000) (k := 4) hb sd
          obtain ⟨w5, e5⟩ := many_ok (k := 3) (S := S4) hth4 (v0 := .val (.scr (ns.map .int))) (v1 := .val (.int i)) (v2 := .val (.ref S.length)) (v3 := .val (.bl sd)) (v5 := q5) (v6 := q6) (v7 := q7)
          refine ⟨_, S4, ?_, .val (.bl sd), .val th, w5, q6, q7, rfl, b4⟩
          simp only [forF, setT_nm, opk_some]
          simp only [b_law_k01_2]
          simp [-forL_cons, e4, e5]) (ε := [.val (.scr (ns.map .int)), .val (.int i), .val (.ref S.length), p3, p4, p5, p6, p7]) (S := S ++ [.lst [.int x, .int y]]) ⟨_, _, _, _, _, rfl, hb0⟩
      obtain ⟨st, S4, e4, hst, _, b4⟩ := strange_ok hth (t := 1000) (k := 6) b3
      obtain ⟨wd, S5, e5, hwd, hwl, _, b5⟩ := word_ok hth (t := 1000) (k := 6) b4
      have r1 := right_ok hth (t := 1000) (k := 3) (S := S5) st none (strL_pl2 hst)
      have r2 := right_ok hth (t := 1000) (k := 3) (S := S5) (.str (SX.S wd)) (some 1) ⟨rfl, fun l e => by cases e⟩
      simp only [axD] at r1 r2
      have n1 := name_ok hth (t := 1000) (k := 7) (S := S5) wd (by omega)
      have n2 := good_ok hth (t := 1000) (k := 7) (S := S5) wd (by omega) hwd
      have n3 := isame_ok hth.toHIs (t := 1000) (k := 7) (S := S5) (nameB wd) (nameB wd)
      simp only [decide_true] at n3
      have n4 := name_no hth (t := 1000) (k := 7) (S := S5) (d := .lst [.str (SX.S wd)]) rfl (fun x e => by cases e)
      have n5 := name_str hth (t := 1000) (k := 7) (S := S5) hst
      generalize SX.S wd = ww at *
      refine ⟨[.val (.scr (ns.map .int)), .val (.int i), .val (.ref S.length), q3, q4, q5, .val st, .val (.str ww)], S5, ?_, _, _, _, _, _, _, _, rfl⟩
      simp only [forF, setT_nm, opk_some]
      simp only [b_law_k01_3]
      simp [-forL_cons, eb, e3, e4, e5, r1, r2, n1, n2, n3, n4, n5]) (ε := [.val (.scr (ns.map .int)), .un, .un, .un, .un, .un, .un, .un]) (S := []) ⟨_, _, _, _, _, _, _, rfl⟩
  refine ⟨S2, ?_⟩
  have hr := rng1_ok (n := n) (by omega)
  simp [fn_law_k01, startE, hn, hr, e2]
theorem sc_is_whole : FnScope ["thing"] ["thing"] (defScope (topS 4)) := ⟨rfl, rfl, rfl, by decide +kernel, rfl, by decide +kernel, by decide +kernel⟩
theorem ch_is_whole : chB T ["thing"] (defScope (topS 4)) (locB (defScope (topS 4))) fn_is_whole.body (defBody (topS 4)) = true := by decide +kernel
theorem sc_is_far : FnScope ["thing"] ["thing"] (defScope (topS 5)) := ⟨rfl, rfl, rfl, by decide +kernel, rfl, by decide +kernel, by decide +kernel⟩
theorem ch_is_far : chB T ["thing"] (defScope (topS 5)) (locB (defScope (topS 5))) fn_is_far.body (defBody (topS 5)) = true := by decide +kernel
theorem sc_is_name : FnScope ["thing", "sign"] ["thing"] (defScope (topS 6)) := ⟨rfl, rfl, rfl, by decide +kernel, rfl, by decide +kernel, by decide +kernel⟩
theorem ch_is_name : chB T ["thing", "sign"] (defScope (topS 6)) (locB (defScope (topS 6))) fn_is_name.body (defBody (topS 6)) = true := by decide +kernel
theorem sc_is_side : FnScope ["thing", "end"] ["thing"] (defScope (topS 7)) := ⟨rfl, rfl, rfl, by decide +kernel, rfl, by decide +kernel, by decide +kernel⟩
theorem ch_is_side : chB T ["thing", "end"] (defScope (topS 7)) (locB (defScope (topS 7))) fn_is_side.body (defBody (topS 7)) = true := by decide +kernel
theorem sc_is_row_of : FnScope ["thing", "axes"] ["thing", "axes"] (defScope (topS 8)) := ⟨rfl, rfl, rfl, by decide +kernel, rfl, by decide +kernel, by decide +kernel⟩
theorem ch_is_row_of : chB T ["thing", "axes"] (defScope (topS 8)) (locB (defScope (topS 8))) fn_is_row_of.body (defBody (topS 8)) = true := by decide +kernel
theorem sc_is_box : FnScope ["thing", "axes", "side"] ["thing", "axes"] (defScope (topS 9)) := ⟨rfl, rfl, rfl, by decide +kernel, rfl, by decide +kernel, by decide +kernel⟩
theorem ch_is_box : chB T ["thing", "axes", "side"] (defScope (topS 9)) (locB (defScope (topS 9))) fn_is_box.body (defBody (topS 9)) = true := by decide +kernel
theorem sc_is_spot : FnScope ["thing", "axes", "place"] ["thing", "axes"] (defScope (topS 10)) := ⟨rfl, rfl, rfl, by decide +kernel, rfl, by decide +kernel, by decide +kernel⟩
theorem ch_is_spot : chB T ["thing", "axes", "place"] (defScope (topS 10)) (locB (defScope (topS 10))) fn_is_spot.body (defBody (topS 10)) = true := by decide +kernel
theorem sc_l_same : FnScope ["_law_one", "_law_other"] ["_law_one", "_law_other"] (defScope (topS 12)) := ⟨rfl, rfl, rfl, by decide +kernel, rfl, by decide +kernel, by decide +kernel⟩
theorem ch_l_same : chB T ["_law_one", "_law_other"] (defScope (topS 12)) (locB (defScope (topS 12))) fn_l_same.body (defBody (topS 12)) = true := by decide +kernel
theorem sc_l_bag : FnScope ["_law_script", "_law_k", "_law_cell", "_law_seed"] ["_law_script", "_law_k"] (defScope (topS 13)) := ⟨rfl, rfl, rfl, by decide +kernel, rfl, by decide +kernel, by decide +kernel⟩
theorem ch_l_bag : chB T ["_law_script", "_law_k", "_law_cell", "_law_seed"] (defScope (topS 13)) (locB (defScope (topS 13))) fn_l_bag.body (defBody (topS 13)) = true := by decide +kernel
theorem sc_l_take : FnScope ["_law_bag_here", "_law_many", "_law_found"] ["_law_bag_here", "_law_many"] (defScope (topS 14)) := ⟨rfl, rfl, rfl, by decide +kernel, rfl, by decide +kernel, by decide +kernel⟩
theorem ch_l_take : chB T ["_law_bag_here", "_law_many", "_law_found"] (defScope (topS 14)) (locB (defScope (topS 14))) fn_l_take.body (defBody (topS 14)) = true := by decide +kernel
theorem sc_l_place_2 : FnScope ["_law_bag_here", "_law_turn", "_law_found", "_law_part_here"] ["_law_bag_here"] (defScope (topS 15)) := ⟨rfl, rfl, rfl, by decide +kernel, rfl, by decide +kernel, by decide +kernel⟩
theorem ch_l_place_2 : chB T ["_law_bag_here", "_law_turn", "_law_found", "_law_part_here"] (defScope (topS 15)) (locB (defScope (topS 15))) fn_l_place_2.body (defBody (topS 15)) = true := by decide +kernel
theorem sc_l_is_whole : FnScope ["_law_thing_here"] ["_law_thing_here"] (defScope (topS 16)) := ⟨rfl, rfl, rfl, by decide +kernel, rfl, by decide +kernel, by decide +kernel⟩
theorem ch_l_is_whole : chB T ["_law_thing_here"] (defScope (topS 16)) (locB (defScope (topS 16))) fn_l_is_whole.body (defBody (topS 16)) = true := by decide +kernel
theorem sc_l_strange : FnScope ["_law_bag_here", "_law_some"] ["_law_bag_here"] (defScope (topS 17)) := ⟨rfl, rfl, rfl, by decide +kernel, rfl, by decide +kernel, by decide +kernel⟩
theorem ch_l_strange : chB T ["_law_bag_here", "_law_some"] (defScope (topS 17)) (locB (defScope (topS 17))) fn_l_strange.body (defBody (topS 17)) = true := by decide +kernel
theorem sc_l_is_place : FnScope ["_law_thing_here"] ["_law_thing_here"] (defScope (topS 18)) := ⟨rfl, rfl, rfl, by decide +kernel, rfl, by decide +kernel, by decide +kernel⟩
theorem ch_l_is_place : chB T ["_law_thing_here"] (defScope (topS 18)) (locB (defScope (topS 18))) fn_l_is_place.body (defBody (topS 18)) = true := by decide +kernel
theorem sc_l_is_side : FnScope ["_law_thing_here"] ["_law_thing_here"] (defScope (topS 19)) := ⟨rfl, rfl, rfl, by decide +kernel, rfl, by decide +kernel, by decide +kernel⟩
theorem ch_l_is_side : chB T ["_law_thing_here"] (defScope (topS 19)) (locB (defScope (topS 19))) fn_l_is_side.body (defBody (topS 19)) = true := by decide +kernel
theorem sc_l_part : FnScope ["_law_bag_here", "_law_sides", "_law_one", "_law_other"] ["_law_bag_here", "_law_sides"] (defScope (topS 20)) := ⟨rfl, rfl, rfl, by decide +kernel, rfl, by decide +kernel, by decide +kernel⟩
theorem ch_l_part : chB T ["_law_bag_here", "_law_sides", "_law_one", "_law_other"] (defScope (topS 20)) (locB (defScope (topS 20))) fn_l_part.body (defBody (topS 20)) = true := by decide +kernel
theorem sc_l_thing : FnScope ["_law_bag_here", "_law_sides", "_law_parts", "_law_at"] ["_law_bag_here", "_law_sides"] (defScope (topS 21)) := ⟨rfl, rfl, rfl, by decide +kernel, rfl, by decide +kernel, by decide +kernel⟩
theorem ch_l_thing : chB T ["_law_bag_here", "_law_sides", "_law_parts", "_law_at"] (defScope (topS 21)) (locB (defScope (topS 21))) fn_l_thing.body (defBody (topS 21)) = true := by decide +kernel
theorem sc_l_row : FnScope ["_law_thing_here", "_law_many"] ["_law_thing_here", "_law_many"] (defScope (topS 22)) := ⟨rfl, rfl, rfl, by decide +kernel, rfl, by decide +kernel, by decide +kernel⟩
theorem ch_l_row : chB T ["_law_thing_here", "_law_many"] (defScope (topS 22)) (locB (defScope (topS 22))) fn_l_row.body (defBody (topS 22)) = true := by decide +kernel
theorem sc_l_right : FnScope ["_law_thing_here", "_law_many", "_law_boxes", "_law_one", "_law_spots"] ["_law_thing_here", "_law_many"] (defScope (topS 23)) := ⟨rfl, rfl, rfl, by decide +kernel, rfl, by decide +kernel, by decide +kernel⟩
theorem ch_l_right : chB T ["_law_thing_here", "_law_many", "_law_boxes", "_law_one", "_law_spots"] (defScope (topS 23)) (locB (defScope (topS 23))) fn_l_right.body (defBody (topS 23)) = true := by decide +kernel
theorem sc_l_word : FnScope ["_law_bag_here", "_law_signs", "_law_at"] ["_law_bag_here"] (defScope (topS 24)) := ⟨rfl, rfl, rfl, by decide +kernel, rfl, by decide +kernel, by decide +kernel⟩
theorem ch_l_word : chB T ["_law_bag_here", "_law_signs", "_law_at"] (defScope (topS 24)) (locB (defScope (topS 24))) fn_l_word.body (defBody (topS 24)) = true := by decide +kernel
theorem sc_l_is_good_name : FnScope ["_law_word_here", "_law_sign"] ["_law_word_here"] (defScope (topS 25)) := ⟨rfl, rfl, rfl, by decide +kernel, rfl, by decide +kernel, by decide +kernel⟩
theorem ch_l_is_good_name : chB T ["_law_word_here", "_law_sign"] (defScope (topS 25)) (locB (defScope (topS 25))) fn_l_is_good_name.body (defBody (topS 25)) = true := by decide +kernel
theorem sc_law_k01 : FnScope ["_law_script", "_law_k", "_law_bag_here", "_law_sides", "_law_thing_here", "_law_many", "_law_other", "_law_word_here"] ["_law_script"] (defScope (topS 26)) := ⟨rfl, rfl, rfl, by decide +kernel, rfl, by decide +kernel, by decide +kernel⟩
theorem ch_law_k01 : chB T ["_law_script", "_law_k", "_law_bag_here", "_law_sides", "_law_thing_here", "_law_many", "_law_other", "_law_word_here"] (defScope (topS 26)) (locB (defScope (topS 26))) fn_law_k01.body (defBody (topS 26)) = true := by decide +kernel
theorem dv_is_box (n : Nat) (dv : List D) (h : T.dvB 46 n dv = true) : dv.all flatD = true ∧ dv.map vOf = [.non] := by
  simp only [T, dvT] at h
  split at h
  · simp only [Bool.and_eq_true, beq_iff_eq] at h
    try (cases h)
    try (subst h)
    exact ⟨rfl, rfl⟩
  · cases h
theorem kw_is_box (n : Nat) (ks : List Str) (pm : List (Nat ⊕ D)) (h : T.kwB 46 n ks pm = true) : n = 1 ∧ ks = (["axes"] : List Str) ∧ pmFlat pm = true ∧ pm = (List.range 2).map .inl := by
  simp only [T, kwT, Bool.and_eq_true, beq_iff_eq] at h
  obtain ⟨⟨rfl, rfl⟩, h⟩ := h
  refine ⟨rfl, rfl, ?_⟩
  split at h
  · exact ⟨rfl, rfl⟩
  · cases h
theorem dv_is_spot (n : Nat) (dv : List D) (h : T.dvB 33 n dv = true) : dv.all flatD = true ∧ dv.map vOf = [.non] := by
  simp only [T, dvT] at h
  split at h
  · simp only [Bool.and_eq_true, beq_iff_eq] at h
    try (cases h)
    try (subst h)
    exact ⟨rfl, rfl⟩
  · cases h
theorem kw_is_spot (n : Nat) (ks : List Str) (pm : List (Nat ⊕ D)) (h : T.kwB 33 n ks pm = true) : n = 1 ∧ ks = (["axes"] : List Str) ∧ pmFlat pm = true ∧ pm = (List.range 2).map .inl := by
  simp only [T, kwT, Bool.and_eq_true, beq_iff_eq] at h
  obtain ⟨⟨rfl, rfl⟩, h⟩ := h
  refine ⟨rfl, rfl, ?_⟩
  split at h
  · exact ⟨rfl, rfl⟩
  · cases h
theorem facts {K : PySem.W.Frag} {mg : Str → Option Value} {h : Heap} (X : K.In h) (G : h.Ns mainGlobals mg) (aL : FnAt K "law" (topS 26)) (a30 : FnAt K "is_whole" (topS 4)) (a31 : FnAt K "is_far" (topS 5)) (a55 : FnAt K "is_name" (topS 6)) (a45 : FnAt K "is_side" (topS 7)) (a32 : FnAt K "is_row_of" (topS 8)) (a46 : FnAtK K "is_box" (topS 9) [("axes", .non)]) (a33 : FnAtK K "is_spot" (topS 10) [("axes", .non)]) (a2 : FnAt K "_law_same" (topS 12)) (a3 : FnAt K "_law_bag" (topS 13)) (a4 : FnAt K "_law_take" (topS 14)) (a56 : FnAt K "_law_place" (topS 15)) (a57 : FnAt K "_law_is_whole" (topS 16)) (a58 : FnAt K "_law_strange" (topS 17)) (a59 : FnAt K "_law_is_place" (topS 18)) (a60 : FnAt K "_law_is_side" (topS 19)) (a61 : FnAt K "_law_part" (topS 20)) (a62 : FnAt K "_law_thing" (topS 21)) (a63 : FnAt K "_law_row" (topS 22)) (a64 : FnAt K "_law_right" (topS 23)) (a65 : FnAt K "_law_word" (topS 24)) (a66 : FnAt K "_law_is_good_name" (topS 25)) : ∀ f, T.isF f = true → FnFact T Γ K mg f := by
  intro f hf
  have hm : f ∈ [30, 31, 55, 45, 32, 46, 33, 2, 3, 4, 56, 57, 58, 59, 60, 61, 62, 63, 64, 65, 66, 67] := by simpa [T] using hf
  simp only [List.mem_cons, List.not_mem_nil, or_false] at hm
  rcases hm with rfl | rfl | rfl | rfl | rfl | rfl | rfl | rfl | rfl | rfl | rfl | rfl | rfl | rfl | rfl | rfl | rfl | rfl | rfl | rfl | rfl | rfl
  · exact fact_of X G a30 rfl sc_is_whole rfl ch_is_whole (fun _ _ _ _ _ _ us hl => match us, hl with | [_], _ => rfl) (fun n dv h => by simpa [T, dvT] using h) (fun n ks pm => by simp [T, kwT])
  · exact fact_of X G a31 rfl sc_is_far rfl ch_is_far (fun _ _ _ _ _ _ us hl => match us, hl with | [_], _ => rfl) (fun n dv h => by simpa [T, dvT] using h) (fun n ks pm => by simp [T, kwT])
  · exact fact_of X G a55 rfl sc_is_name rfl ch_is_name (fun _ _ _ _ _ _ us hl => match us, hl with | [_], _ => rfl) (fun n dv h => by simpa [T, dvT] using h) (fun n ks pm => by simp [T, kwT])
  · exact fact_of X G a45 rfl sc_is_side rfl ch_is_side (fun _ _ _ _ _ _ us hl => match us, hl with | [_], _ => rfl) (fun n dv h => by simpa [T, dvT] using h) (fun n ks pm => by simp [T, kwT])
  · exact fact_of X G a32 rfl sc_is_row_of rfl ch_is_row_of (fun _ _ _ _ _ _ us hl => match us, hl with | [_, _], _ => rfl) (fun n dv h => by simpa [T, dvT] using h) (fun n ks pm => by simp [T, kwT])
  · exact fact_ofK (n0 := 1) X G a46 rfl sc_is_box rfl ch_is_box (by simp) rfl (fun _ _ _ _ _ _ us ks h1 h2 => match us, ks, h1, h2 with | [_], [_], _, _ => ⟨_, _, _, _, _, _, rfl, rfl, rfl⟩) (fun _ _ _ _ _ _ us ks h1 h2 => match us, ks, h1, h2 with | [_], [_], _, _ => rfl) (fun n dv h => dv_is_box n dv h) (fun n ks pm h => kw_is_box n ks pm h)
  · exact fact_ofK (n0 := 1) X G a33 rfl sc_is_spot rfl ch_is_spot (by simp) rfl (fun _ _ _ _ _ _ us ks h1 h2 => match us, ks, h1, h2 with | [_], [_], _, _ => ⟨_, _, _, _, _, _, rfl, rfl, rfl⟩) (fun _ _ _ _ _ _ us ks h1 h2 => match us, ks, h1, h2 with | [_], [_], _, _ => rfl) (fun n dv h => dv_is_spot n dv h) (fun n ks pm h => kw_is_spot n ks pm h)
  · exact fact_of X G a2 rfl sc_l_same rfl ch_l_same (fun _ _ _ _ _ _ us hl => match us, hl with | [_, _], _ => rfl) (fun n dv h => by simpa [T, dvT] using h) (fun n ks pm => by simp [T, kwT])
  · exact fact_of X G a3 rfl sc_l_bag rfl ch_l_bag (fun _ _ _ _ _ _ us hl => match us, hl with | [_, _], _ => rfl) (fun n dv h => by simpa [T, dvT] using h) (fun n ks pm => by simp [T, kwT])
  · exact fact_of X G a4 rfl sc_l_take rfl ch_l_take (fun _ _ _ _ _ _ us hl => match us, hl with | [_, _], _ => rfl) (fun n dv h => by simpa [T, dvT] using h) (fun n ks pm => by simp [T, kwT])
  · exact fact_of X G a56 rfl sc_l_place_2 rfl ch_l_place_2 (fun _ _ _ _ _ _ us hl => match us, hl with | [_], _ => rfl) (fun n dv h => by simpa [T, dvT] using h) (fun n ks pm => by simp [T, kwT])
  · exact fact_of X G a57 rfl sc_l_is_whole rfl ch_l_is_whole (fun _ _ _ _ _ _ us hl => match us, hl with | [_], _ => rfl) (fun n dv h => by simpa [T, dvT] using h) (fun n ks pm => by simp [T, kwT])
  · exact fact_of X G a58 rfl sc_l_strange rfl ch_l_strange (fun _ _ _ _ _ _ us hl => match us, hl with | [_], _ => rfl) (fun n dv h => by simpa [T, dvT] using h) (fun n ks pm => by simp [T, kwT])
  · exact fact_of X G a59 rfl sc_l_is_place rfl ch_l_is_place (fun _ _ _ _ _ _ us hl => match us, hl with | [_], _ => rfl) (fun n dv h => by simpa [T, dvT] using h) (fun n ks pm => by simp [T, kwT])
  · exact fact_of X G a60 rfl sc_l_is_side rfl ch_l_is_side (fun _ _ _ _ _ _ us hl => match us, hl with | [_], _ => rfl) (fun n dv h => by simpa [T, dvT] using h) (fun n ks pm => by simp [T, kwT])
  · exact fact_of X G a61 rfl sc_l_part rfl ch_l_part (fun _ _ _ _ _ _ us hl => match us, hl with | [_, _], _ => rfl) (fun n dv h => by simpa [T, dvT] using h) (fun n ks pm => by simp [T, kwT])
  · exact fact_of X G a62 rfl sc_l_thing rfl ch_l_thing (fun _ _ _ _ _ _ us hl => match us, hl with | [_, _], _ => rfl) (fun n dv h => by simpa [T, dvT] using h) (fun n ks pm => by simp [T, kwT])
  · exact fact_of X G a63 rfl sc_l_row rfl ch_l_row (fun _ _ _ _ _ _ us hl => match us, hl with | [_, _], _ => rfl) (fun n dv h => by simpa [T, dvT] using h) (fun n ks pm => by simp [T, kwT])
  · exact fact_of X G a64 rfl sc_l_right rfl ch_l_right (fun _ _ _ _ _ _ us hl => match us, hl with | [_, _], _ => rfl) (fun n dv h => by simpa [T, dvT] using h) (fun n ks pm => by simp [T, kwT])
  · exact fact_of X G a65 rfl sc_l_word rfl ch_l_word (fun _ _ _ _ _ _ us hl => match us, hl with | [_], _ => rfl) (fun n dv h => by simpa [T, dvT] using h) (fun n ks pm => by simp [T, kwT])
  · exact fact_of X G a66 rfl sc_l_is_good_name rfl ch_l_is_good_name (fun _ _ _ _ _ _ us hl => match us, hl with | [_], _ => rfl) (fun n dv h => by simpa [T, dvT] using h) (fun n ks pm => by simp [T, kwT])
  · exact fact_of X G aL rfl sc_law_k01 rfl ch_law_k01 (fun _ _ _ _ _ _ us hl => match us, hl with | [_], _ => rfl) (fun n dv h => by simpa [T, dvT] using h) (fun n ks pm => by simp [T, kwT])
theorem con_ok {K : PySem.W.Frag} {mg : Str → Option Value} {hp : Heap} (X : K.In hp) (G : hp.Ns mainGlobals mg) (c_AXES : ConAt K "AXES" (.int 4)) (c_FAR : ConAt K "FAR" (.int 1000000000000000000000000000000)) (c_LETTERS : ConAt K "LETTERS" (.str "abcdefghijklmnopqrstuvwxyz")) : ∀ x d, T.conB x d = true → flatD d = true ∧ ∃ u, mg x = some u ∧ RelV (vOf d) u := by
  intro x d h
  simp only [T, conT, Bool.or_eq_true, Bool.and_eq_true, beq_iff_eq] at h
  rcases h with ((⟨rfl, h⟩) | ⟨rfl, h⟩) | ⟨rfl, h⟩
  · split at h
    · simp only [beq_iff_eq] at h
      subst h
      exact ⟨rfl, c_AXES.mg X G⟩
    · cases h
  · split at h
    · simp only [beq_iff_eq] at h
      subst h
      exact ⟨rfl, c_FAR.mg X G⟩
    · cases h
  · split at h
    · simp only [beq_iff_eq] at h
      subst h
      exact ⟨rfl, c_LETTERS.mg X G⟩
    · cases h
theorem walk {l : PySem.W.OpenLaw} {q : Program} {loose : List Str} {XP : (Str → Option Value) → Heap → Prop} {YP : World → Heap → Prop} {d : DefRec} {K : Params → PySem.W.Frag}
    (hn : l.most = some 63) (hdf : d.params.defaults = []) (hnm : d.name = "law") (hY : ∀ (w : World) (h : Heap), YP w h → (K w.params).In h)
    (F : ∀ (w : World) (h : Heap), (K w.params).In h → Blts (K w.params) ∧ ConAt (K w.params) "AXES" (.int 4) ∧ ConAt (K w.params) "FAR" (.int 1000000000000000000000000000000) ∧ ConAt (K w.params) "LETTERS" (.str "abcdefghijklmnopqrstuvwxyz") ∧ FnAt (K w.params) "law" (topS 26) ∧ FnAt (K w.params) "is_whole" (topS 4) ∧ FnAt (K w.params) "is_far" (topS 5) ∧ FnAt (K w.params) "is_name" (topS 6) ∧ FnAt (K w.params) "is_side" (topS 7) ∧ FnAt (K w.params) "is_row_of" (topS 8) ∧ FnAtK (K w.params) "is_box" (topS 9) [("axes", .non)] ∧ FnAtK (K w.params) "is_spot" (topS 10) [("axes", .non)] ∧ FnAt (K w.params) "_law_same" (topS 12) ∧ FnAt (K w.params) "_law_bag" (topS 13) ∧ FnAt (K w.params) "_law_take" (topS 14) ∧ FnAt (K w.params) "_law_place" (topS 15) ∧ FnAt (K w.params) "_law_is_whole" (topS 16) ∧ FnAt (K w.params) "_law_strange" (topS 17) ∧ FnAt (K w.params) "_law_is_place" (topS 18) ∧ FnAt (K w.params) "_law_is_side" (topS 19) ∧ FnAt (K w.params) "_law_part" (topS 20) ∧ FnAt (K w.params) "_law_thing" (topS 21) ∧ FnAt (K w.params) "_law_row" (topS 22) ∧ FnAt (K w.params) "_law_right" (topS 23) ∧ FnAt (K w.params) "_law_word" (topS 24) ∧ FnAt (K w.params) "_law_is_good_name" (topS 25)) :
    PySem.W.WalkO q loose XP YP l.row.toRowW d [] (fun f vs => PySem.call f vs) := by
  refine law_walk (T := T) (Γ := Γ) (turns := 1000) (kk := 8) (fL := i_law_k01) (x := "_law_script") hn hdf ⟨rfl, by decide, by decide⟩ hY rfl rfl rfl main_law fun w mg fa h KX G hmg => ?_
  obtain ⟨B, c_AXES, c_FAR, c_LETTERS, aL, a30, a31, a55, a45, a32, a46, a33, a2, a3, a4, a56, a57, a58, a59, a60, a61, a62, a63, a64, a65, a66⟩ := F w h KX
  refine ⟨facts KX G aL a30 a31 a55 a45 a32 a46 a33 a2 a3 a4 a56 a57 a58 a59 a60 a61 a62 a63 a64 a65 a66, B, con_ok KX G c_AXES c_FAR c_LETTERS, ?_⟩
  obtain ⟨a, oc, od, an, kV, doc, pm, cdv, ct, osl, h1, h2, h3, h4⟩ := aL
  have e : a = fa := by
    have e1 := PySem.W.mg_of KX G h1
    rw [hnm, e1] at hmg
    cases hmg
    rfl
  subst e
  exact ⟨_, _, _, _, _, _, funD_mk (st := topS 26) h2 h3 h4 (.inl ⟨rfl, rfl⟩) (.inl rfl), sc_law_k01, rfl, ch_law_k01, fun s v => .of_eq rfl⟩
end BX
open PySem PySem.W PyProof.Rows
set_option maxRecDepth 100000 in
set_option maxHeartbeats 0 in
theorem PySem.Challenge.cw_boxgrove_k01_what_are_boxes_and_spots_holds : PySem.Challenge.rw_boxgrove_k01_what_are_boxes_and_spots.Holds := by
  w_on; o_law; k_head; (case hw => w_witness2)
  k_fill
  refine BX.walk (l := PySem.Challenge.rw_boxgrove_k01_what_are_boxes_and_spots) rfl rfl rfl (fun w h Y => PySem.W.kIn_of Y) ?F
  case F =>
    intro w h KX
    refine' ⟨⟨?zb1, ?zb2, ?zb3, ?zb4, ?zb5, ?zb6, ?zb7, ?zb8, ?zb9, ?zb10, ?zb11, ?zb12, ?zb13, ?zb14, ?zb15, ?zb16, ?zb17, ?zb18⟩, ?zcAXES, ?zcFAR, ?zcLETTERS, ?zg0, ?zg1, ?zg2, ?zg3, ?zg4, ?zg5, ?zg6, ?zg7, ?zg8, ?zg9, ?zg10, ?zg11, ?zg12, ?zg13, ?zg14, ?zg15, ?zg16, ?zg17, ?zg18, ?zg19, ?zg20, ?zg21⟩
    (case zb1 => k_is)
    (case zb2 => k_is)
    (case zb3 => k_is)
    (case zb4 => k_is)
    (case zb5 => k_is)
    (case zb6 => k_is)
    (case zb7 => k_is)
    (case zb8 => k_is)
    (case zb9 => k_is)
    (case zb10 => k_is)
    (case zb11 => k_is)
    (case zb12 => k_is)
    (case zb13 => k_is)
    (case zb14 => k_is)
    (case zb15 => k_is)
    (case zb16 => k_is)
    (case zb17 => k_is)
    (case zb18 => k_is)
    (case zcAXES => refine' BX.conAt_int ?zvAXES; (case zvAXES => k_is))
    (case zcFAR => refine' BX.conAt_int ?zvFAR; (case zvFAR => k_is))
    (case zcLETTERS => refine' BX.conAt_str ?zvLETTERS; (case zvLETTERS => k_is))
    (case zg0 => refine' BX.fnAt_mk ?zn0 ?zl0 ?zc0 ?zk0; (case zn0 => k_is); (case zl0 => k_is); (case zc0 => k_is); (case zk0 => k_is))
    (case zg1 => refine' BX.fnAt_mk ?zn1 ?zl1 ?zc1 ?zk1; (case zn1 => k_is); (case zl1 => k_is); (case zc1 => k_is); (case zk1 => k_is))
    (case zg2 => refine' BX.fnAt_mk ?zn2 ?zl2 ?zc2 ?zk2; (case zn2 => k_is); (case zl2 => k_is); (case zc2 => k_is); (case zk2 => k_is))
    (case zg3 => refine' BX.fnAt_mk ?zn3 ?zl3 ?zc3 ?zk3; (case zn3 => k_is); (case zl3 => k_is); (case zc3 => k_is); (case zk3 => k_is))
    (case zg4 => refine' BX.fnAt_mk ?zn4 ?zl4 ?zc4 ?zk4; (case zn4 => k_is); (case zl4 => k_is); (case zc4 => k_is); (case zk4 => k_is))
    (case zg5 => refine' BX.fnAt_mk ?zn5 ?zl5 ?zc5 ?zk5; (case zn5 => k_is); (case zl5 => k_is); (case zc5 => k_is); (case zk5 => k_is))
    (case zg6 => refine' BX.fnAtK_non ?zn6 ?zl6 ?zc6 ?zk6 ?zd6; (case zn6 => k_is); (case zl6 => k_is); (case zc6 => k_is); (case zk6 => k_is); (case zd6 => k_is))
    (case zg7 => refine' BX.fnAtK_non ?zn7 ?zl7 ?zc7 ?zk7 ?zd7; (case zn7 => k_is); (case zl7 => k_is); (case zc7 => k_is); (case zk7 => k_is); (case zd7 => k_is))
    (case zg8 => refine' BX.fnAt_mk ?zn8 ?zl8 ?zc8 ?zk8; (case zn8 => k_is); (case zl8 => k_is); (case zc8 => k_is); (case zk8 => k_is))
    (case zg9 => refine' BX.fnAt_mk ?zn9 ?zl9 ?zc9 ?zk9; (case zn9 => k_is); (case zl9 => k_is); (case zc9 => k_is); (case zk9 => k_is))
    (case zg10 => refine' BX.fnAt_mk ?zn10 ?zl10 ?zc10 ?zk10; (case zn10 => k_is); (case zl10 => k_is); (case zc10 => k_is); (case zk10 => k_is))
    (case zg11 => refine' BX.fnAt_mk ?zn11 ?zl11 ?zc11 ?zk11; (case zn11 => k_is); (case zl11 => k_is); (case zc11 => k_is); (case zk11 => k_is))
    (case zg12 => refine' BX.fnAt_mk ?zn12 ?zl12 ?zc12 ?zk12; (case zn12 => k_is); (case zl12 => k_is); (case zc12 => k_is); (case zk12 => k_is))
    (case zg13 => refine' BX.fnAt_mk ?zn13 ?zl13 ?zc13 ?zk13; (case zn13 => k_is); (case zl13 => k_is); (case zc13 => k_is); (case zk13 => k_is))
    (case zg14 => refine' BX.fnAt_mk ?zn14 ?zl14 ?zc14 ?zk14; (case zn14 => k_is); (case zl14 => k_is); (case zc14 => k_is); (case zk14 => k_is))
    (case zg15 => refine' BX.fnAt_mk ?zn15 ?zl15 ?zc15 ?zk15; (case zn15 => k_is); (case zl15 => k_is); (case zc15 => k_is); (case zk15 => k_is))
    (case zg16 => refine' BX.fnAt_mk ?zn16 ?zl16 ?zc16 ?zk16; (case zn16 => k_is); (case zl16 => k_is); (case zc16 => k_is); (case zk16 => k_is))
    (case zg17 => refine' BX.fnAt_mk ?zn17 ?zl17 ?zc17 ?zk17; (case zn17 => k_is); (case zl17 => k_is); (case zc17 => k_is); (case zk17 => k_is))
    (case zg18 => refine' BX.fnAt_mk ?zn18 ?zl18 ?zc18 ?zk18; (case zn18 => k_is); (case zl18 => k_is); (case zc18 => k_is); (case zk18 => k_is))
    (case zg19 => refine' BX.fnAt_mk ?zn19 ?zl19 ?zc19 ?zk19; (case zn19 => k_is); (case zl19 => k_is); (case zc19 => k_is); (case zk19 => k_is))
    (case zg20 => refine' BX.fnAt_mk ?zn20 ?zl20 ?zc20 ?zk20; (case zn20 => k_is); (case zl20 => k_is); (case zc20 => k_is); (case zk20 => k_is))
    (case zg21 => refine' BX.fnAt_mk ?zn21 ?zl21 ?zc21 ?zk21; (case zn21 => k_is); (case zl21 => k_is); (case zc21 => k_is); (case zk21 => k_is))
