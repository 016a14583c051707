import PyProof.Rows.All
import Wide.All
import OpenK.AllK
import Wide.FinOn
import HandS.ForMost
import HandS.ForExc
import HandS.Zip
import HandS.Rev
import HandS.Wide
import HandS.CallSlots
import HandS.Defaults
import HandS.Style
import HandS.Flow
import HandS.ForDict
import HandS.Text
import HandS.DictComp
import PyProof.FString5
import KE.SortKeyHeap
import KE.DataMinKey
import HandS.Lambda
import HandS.Flt
import HandS.IsInst
import HandS.Conv
import HandS.RevRange
import HandS.SortInts
import PyProof.EqAt
import PyProof.NeKinds
import KE.KSortKey
import HandS.Deep
import KE.SortData
import HandS.MakeKw
import HandS.NoneIn
import HandS.EndTab
import KE.KNestM
import HandS.Head0
import HandS.Head1
import HandS.Head2
import HandS.HeadHook1
import HandS.HeadHook2
import HandS.HeadWalk
import PySem.Challenge.RW_boxgrove_k08_whole_splits_are_the_best_c
set_option Elab.async false
set_option linter.all false
set_option maxRecDepth 100000
/-! BX1: plain data, a resolved syntax, its evaluator. -/
namespace BX
open PySem L2

/-- data: immutable values; a list, a dict, an instance that nobody changes is a value too; ref n: the n-th object of the store; scr: the script -/
inductive D where
  | non | bl (b : Bool) | int (i : Int) | str (x : Str) | tup (l : List D) | lst (l : List D) | ref (n : Nat) | scr (l : List D)
  | dct (ks : List Key) (vs : List D) | obj (fs : List Str) (vs : List D)
  deriving Inhabited

/-- an exception: its class's name, its fields -/
structure Exc where
  cls : Str
  fs : List (Str × D)

inductive Ob where
  | lst (l : List D)
  | dct (ks : List Key) (vs : List D)
  | ins (cls : Str) (fs : List (Str × D))
  | fdct (ks : List Key) (vs : List D)
abbrev Sto := List Ob

inductive R (α : Type) where
  | ok (a : α) (S : Sto)
  | exc (x : Exc) (S : Sto)
  | stuck

@[inline] def R.bd {α β : Type} : R α → (α → Sto → R β) → R β
  | .ok a S, f => f a S
  | .exc x S, _ => .exc x S
  | .stuck, _ => .stuck
@[simp] theorem R.bd_ok {α β : Type} (a : α) (S : Sto) (f : α → Sto → R β) : (R.ok a S).bd f = f a S := (rfl)
@[simp] theorem R.bd_exc {α β : Type} (x : Exc) (S : Sto) (f : α → Sto → R β) : (R.exc x S : R α).bd f = .exc x S := (rfl)
@[simp] theorem R.bd_stuck {α β : Type} (f : α → Sto → R β) : (R.stuck : R α).bd f = .stuck := (rfl)

theorem R.bd_assoc {α β γ : Type} (r : R α) (f : α → Sto → R β) (g : β → Sto → R γ) : (r.bd f).bd g = r.bd fun a S => (f a S).bd g := by cases r <;> rfl
/-- an option as a result -/
def R.of {α : Type} (S : Sto) : Option α → R α
  | some a => .ok a S
  | none => .stuck
@[simp] theorem R.of_some {α : Type} (S : Sto) (a : α) : R.of S (some a) = .ok a S := (rfl)
@[simp] theorem R.of_none {α : Type} (S : Sto) : R.of S (none : Option α) = .stuck := (rfl)

/-! ### operators on data -/
inductive BOp where | add | sub | mul | fdiv | mod | pow | shl | shr
inductive COp where | eq | ne | lt | le | gt | ge | is | isnot | inn | nin

def mulOk (i j : Int) : Bool := decide ((-(2 ^ 64) < i ∧ i < 2 ^ 64) ∨ (-(2 ^ 64) < j ∧ j < 2 ^ 64) ∨ i.natAbs.log2 + j.natAbs.log2 < 1000000)
def binF : BOp → D → D → Option D
  | .add, .int i, .int j => some (.int (i + j))
  | .add, .str x, .str y => if x.length + y.length ≤ sizeLine then some (.str (x ++ y)) else none
  | .add, .tup x, .tup y => if x.length + y.length ≤ sizeLine then some (.tup (x ++ y)) else none
  | .add, .lst x, .lst y => if x.length + y.length ≤ sizeLine then some (.lst (x ++ y)) else none
  | .sub, .int i, .int j => some (.int (i - j))
  | .mul, .int i, .int j => if mulOk i j then some (.int (i * j)) else none
  | .mul, .lst x, .int k => if -(2 ^ 63) ≤ k ∧ k < 2 ^ 63 ∧ x.length * k.toNat ≤ sizeLine then some (.lst (List.replicate k.toNat x).flatten) else none
  | .fdiv, .int i, .int j => if 0 < j ∧ j.natAbs.log2 < 9000 then some (.int (i / j)) else none
  | .mod, .int i, .int j => if 0 < j then some (.int (i % j)) else none
  | .pow, .int i, .int j => if 0 ≤ j ∧ j ≤ 1000000 ∧ (Builtin.Int.intBits i : Int) * j ≤ 2 ^ 27 then some (.int (i ^ j.toNat)) else none
  | .shl, .int i, .int j => if 0 ≤ j ∧ j ≤ 1000000 ∧ i.natAbs < 2 ^ 64 then some (.int (i * 2 ^ j.toNat)) else none
  | .shr, .int i, .int j => if 0 ≤ j then some (.int (i / 2 ^ j.toNat)) else none
  | _, _, _ => none

mutual
def toPy : D → Option PyData
  | .non => some .none
  | .bl b => some (.bool b)
  | .int i => some (.int i)
  | .str x => some (.str x)
  | .tup l => (toPys l).map .tuple
  | .lst l => (toPys l).map .list
  | .ref _ => none
  | .scr _ => none
  | .dct _ _ => none
  | .obj _ _ => none
def toPys : List D → Option (List PyData)
  | [] => some []
  | d :: ds => match toPy d, toPys ds with
    | some p, some ps => some (p :: ps)
    | _, _ => none
end
/-! ### keys -/
/-- values sorted by data -/
def sortV {α : Type} (vs : List α) (kz : List PyData) : List α := ((vs.zip kz).mergeSort (PySem.W.dataLe false (·.2))).map (·.1)
def btK (kz : List PyData) (i j : Nat) : Bool := PySem.W.dataLt (kz.getD i .none) (kz.getD j .none)
def tup1 : PyData → Bool
  | .tuple (_ :: _) => true
  | _ => false
def noTN : PyData → Bool
  | .tuple _ => false
  | .none => false
  | _ => true
def notN : PyData → Bool
  | .none => false
  | _ => true
/-- keys that may be sorted by, compared -/
def keyPy (ks : List D) : Option (List PyData) := match toPys ks with
  | some kz => if (kz.all fun a => kz.all fun b => PySem.W.alike a b) = true ∧ (kz.all tup1 = true ∨ kz.all noTN = true) ∧ (∀ d ∈ kz, d.depth ≤ 60) ∧ kz.all notN = true then some kz else none
  | none => none

/-- == -/
def eqF (a b : D) : Option Bool := match toPy a, toPy b with
  | some p, some q => if SeqAt.shaped p = true ∧ SeqAt.shaped q = true then some (PyData.eqv p q) else none
  | _, _ => none
/-- values that may stand in a list that is searched -/
def flatD : D → Bool
  | .non | .bl _ | .int _ | .str _ => true
  | _ => false
def eqD : D → D → Bool
  | .non, .non => true
  | .bl a, .bl b => a == b
  | .bl a, .int j => (if a then 1 else 0) == j
  | .int i, .bl b => i == (if b then 1 else 0)
  | .int i, .int j => i == j
  | .str x, .str y => x == y
  | _, _ => false
def inF (x : D) : D → Option Bool
  | .tup l => if flatD x && l.all flatD then some (l.any fun y => eqD y x) else none
  | .lst l => if flatD x && l.all flatD then some (l.any fun y => eqD y x) else none
  | .str y => match x with
    | .str x => some (!(Builtin.Str.occurrences y x 0 y.length 1).isEmpty)
    | _ => none
  | _ => none
def isF (a b : D) : Option Bool := match b with
  | .non => some (match a with | .non => true | _ => false)
  | .bl c => match a with | .bl d => some (decide (d = c)) | _ => none
  | _ => none
/-- < of two tuples -/
def ltT (a b : List D) : Option Bool := match toPys a, toPys b with
  | some p, some q => if PySem.W.alike (.tuple p) (.tuple q) = true ∧ (PyData.tuple p).depth ≤ 60 then some (PySem.W.dataLt (.tuple p) (.tuple q)) else none
  | _, _ => none
def cmpF : COp → D → D → Option Bool
  | .lt, .int i, .int j => some (decide (i < j))
  | .le, .int i, .int j => some (decide (i ≤ j))
  | .gt, .int i, .int j => some (decide (j < i))
  | .ge, .int i, .int j => some (decide (j ≤ i))
  | .lt, .str x, .str y => some (decide (x.cps.toList < y.cps.toList))
  | .le, .str x, .str y => some (!decide (y.cps.toList < x.cps.toList))
  | .gt, .str x, .str y => some (decide (y.cps.toList < x.cps.toList))
  | .ge, .str x, .str y => some (!decide (x.cps.toList < y.cps.toList))
  | .lt, .tup a, .tup b => ltT a b
  | .eq, a, b => eqF a b
  | .ne, a, b => (eqF a b).map (!·)
  | .is, a, b => isF a b
  | .isnot, a, b => (isF a b).map (!·)
  | .inn, a, b => inF a b
  | .nin, a, b => (inF a b).map (!·)
  | _, _, _ => none
def truF : D → Option Bool
  | .non => some false
  | .bl b => some b
  | .int i => some (i != 0)
  | .str y => if y.length ≤ sizeLine then some ((y.length : Int) != 0) else none
  | .tup l => some (!l.isEmpty)
  | .lst l => some (!l.isEmpty)
  | .ref _ => none
  | .scr _ => none
  | .dct _ _ => none
  | .obj _ _ => none

/-- built-in types -/
inductive Ty where | int | bool | str | tuple | list | dict
/-- built-in functions of data -/
inductive Blt where | len | abs | max | min | sum | all | any | tuple | list
def intsOf : List D → Option (List Int)
  | [] => some []
  | .int i :: r => (intsOf r).map (i :: ·)
  | _ => none
def blsOf : List D → Option (List Bool)
  | [] => some []
  | .bl i :: r => (blsOf r).map (i :: ·)
  | _ => none
def maxI : List Int → Int → Int
  | [], m => m
  | x :: r, m => maxI r (if x > m then x else m)
def minI : List Int → Int → Int
  | [], m => m
  | x :: r, m => minI r (if x < m then x else m)
def bltF : Blt → List D → Option D
  | .len, [.str y] => if y.length ≤ sizeLine then some (.int y.length) else none
  | .len, [.tup l] => some (.int l.length)
  | .len, [.lst l] => some (.int l.length)
  | .len, [.scr l] => some (.int l.length)
  | .abs, [.int i] => some (.int (if i < 0 then -i else i))
  | .max, [.int i, .int j] => some (.int (if j > i then j else i))
  | .max, [.int i, .int j, .int k] => some (.int (if k > (if j > i then j else i) then k else (if j > i then j else i)))
  | .max, [.lst l] => match intsOf l with | some (m :: r) => some (.int (maxI r m)) | _ => none
  | .min, [.int i, .int j] => some (.int (if j < i then j else i))
  | .min, [.lst l] => match intsOf l with | some (m :: r) => some (.int (minI r m)) | _ => none
  | .sum, [.lst l] => (intsOf l).map fun ns => .int ns.sum
  | .all, [.lst l] => (blsOf l).map fun bs => .bl (bs.all id)
  | .any, [.lst l] => (blsOf l).map fun bs => .bl (bs.any id)
  | .tuple, [.lst l] => some (.tup l)
  | .tuple, [.tup l] => some (.tup l)
  | .list, [.lst l] => some (.lst l)
  | .list, [.tup l] => some (.lst l)
  | _, _ => none
def ixF : D → D → Option D
  | .lst l, .int i => atI l i
  | .tup l, .int i => atI l i
  | .scr l, .int i => atI l i
  | .str z, .int i => if z.length ≤ sizeLine then (atI z.cps.toList i).map fun c => .str ⟨#[c]⟩ else none
  | _, _ => none
def cutD (xs : List D) (lo hi : Option Int) : List D := (xs.drop (HT.sIx xs.length 0 lo)).take (HT.sIx xs.length xs.length hi - HT.sIx xs.length 0 lo)
def slF : D → Option Int → Option Int → Option D
  | .lst l, lo, hi => some (.lst (cutD l lo hi))
  | .scr l, lo, hi => some (.lst (cutD l lo hi))
  | .tup l, lo, hi => if ¬ (HT.sIx l.length 0 lo = 0 ∧ HT.sIx l.length l.length hi = l.length) then some (.tup (cutD l lo hi)) else none
  | _, _, _ => none

def sortI (ns : List Int) : List Int := ns.mergeSort fun a b => decide (a ≤ b)
def rngL0 (i j : Int) : List D := (List.range (j - i).toNat).map fun x => D.int (i + (x : Nat))
/-- further pure functions of one value: list(reversed(x)), list(range(n)) -/
inductive Op1 where | lrev | lrg | srt | srtD
/-- of two: list(range(a, b)) -/
inductive Op2 where | lrg2
def op1F : Op1 → D → Option D
  | .lrev, .lst l => some (.lst l.reverse)
  | .srt, .lst l => (intsOf l).map fun ns => .lst ((sortI ns).map .int)
  | .srtD, .lst l => (keyPy l).map fun kz => .lst (sortV l kz)
  | .lrg, .int j => if 0 ≤ j ∧ j ≤ 16777216 then some (.lst (rngL0 0 j)) else none
  | _, _ => none
def idxF (l : List D) : D → Option D
  | .int i => (intsOf l).bind fun ns => (ns.findIdx? fun n => decide (n = i)).map fun j => .int (j : Nat)
  | _ => none
def op2F : Op2 → D → D → Option D
  | .lrg2, .int i, .int j => if 0 ≤ i ∧ i ≤ 16777216 ∧ 0 ≤ j ∧ j ≤ 16777216 then some (.lst (rngL0 i j)) else none
  | _, _, _ => none
/-- a call's arguments out of what is written: the j-th written one, or a default -/
def pmF (ds : List D) : List (Nat ⊕ D) → List D
  | [] => []
  | .inl j :: r => ds.getD j .non :: pmF ds r
  | .inr d :: r => d :: pmF ds r

/-! ### dicts, the store's objects -/
def keyD : D → Option Key
  | .int i => some (.inl i)
  | .str x => some (.inr x)
  | _ => none
def dOfKey : Key → D
  | .inl i => .int i
  | .inr x => .str x
def getK (ks : List Key) (vs : List D) (k : Key) : Option D := ((ks.zip vs).find? fun p => decide (p.1 = k)).map (·.2)
def hasK (ks : List Key) (vs : List D) (k : Key) : Bool := (getK ks vs k).isSome
def putKs (ks : List Key) (k : Key) : List Key := if ks.any (fun j => decide (j = k)) = true then ks else ks ++ [k]
def putVs (ks : List Key) (vs : List D) (k : Key) (v : D) : List D := if ks.any (fun j => decide (j = k)) = true then (ks.zip vs).map fun p => if p.1 = k then v else p.2 else vs ++ [v]
def dropKs (ks : List Key) (k : Key) : List Key := ks.filter fun j => decide (j ≠ k)
def dropVs (ks : List Key) (vs : List D) (k : Key) : List D := ((ks.zip vs).filter fun p => decide (p.1 ≠ k)).map (·.2)
/-- what a value shows where it is looked at -/
def dr (S : Sto) : D → D
  | .ref n => match S[n]? with
    | some (.lst l) => .lst l
    | some (.dct ks vs) => .dct ks vs
    | some (.fdct ks vs) => .dct ks vs
    | _ => .ref n
  | d => d
def fldF (S : Sto) (f : Str) : D → Option D
  | .obj fs vs => ((fs.zip vs).find? fun p => decide (p.1 = f)).map (·.2)
  | .ref n => match S[n]? with
    | some (.ins _ fs) => fs.lookup f
    | _ => none
  | _ => none
def keysL (ks : List Key) : List D := ks.map dOfKey
def strsOf : List D → Option (List Str)
  | [] => some []
  | .str x :: r => (strsOf r).map (x :: ·)
  | _ => none
def leS (x y : Str) : Bool := decide (x.cps.toList ≤ y.cps.toList)
def sortS (xs : List Str) : List Str := xs.mergeSort leS
def eqF2 (a b : D) : Option Bool := match toPy a, toPy b with
  | some p, some q => if SeqAt.shaped p = true ∧ SeqAt.shaped q = true ∧ p.depth ≤ 60 ∧ q.depth ≤ 60 then some (PyData.eqv p q) else none
  | _, _ => none
def eqDct (ks : List Key) (vs : List D) (js : List Key) (us : List D) : Option Bool :=
  if ks.length = js.length then (ks.zip vs).foldr (fun p r => match getK js us p.1 with
    | some u => match eqF2 p.2 u, r with
      | some e, some b => some (e && b)
      | _, _ => none
    | none => match r with
      | some _ => some false
      | none => none) (some true) else some false
/-- primitives of looked-at values -/
inductive Pr where
  | dnew | ndnew | dget | din | dnin | dget1 | dget2 | dlen | deq | dne | dcopy | ndcopy | dlist | dsort | ssort | join (y : Str) | fld (f : Str) | llen | lcopy | nlcopy | tlt | lemp | lnemp
def prF : Pr → List D → Sto → R D
  | .dnew, [], S => .ok (.dct [] []) S
  | .ndnew, [], S => .ok (.ref S.length) (S ++ [.dct [] []])
  | .dget, [d, k], S => match dr S d, keyD k with
    | .dct ks vs, some k => R.of S (getK ks vs k)
    | _, _ => .stuck
  | .din, [k, d], S => match dr S d, keyD k with
    | .dct ks vs, some k => .ok (.bl (hasK ks vs k)) S
    | _, _ => .stuck
  | .dnin, [k, d], S => match dr S d, keyD k with
    | .dct ks vs, some k => .ok (.bl (!hasK ks vs k)) S
    | _, _ => .stuck
  | .dget1, [d, k], S => match dr S d, keyD k with
    | .dct ks vs, some k => .ok ((getK ks vs k).getD .non) S
    | _, _ => .stuck
  | .dget2, [d, k, x], S => match dr S d, keyD k with
    | .dct ks vs, some k => .ok ((getK ks vs k).getD x) S
    | _, _ => .stuck
  | .dlen, [d], S => match dr S d with
    | .dct ks _ => .ok (.int ks.length) S
    | _ => .stuck
  | .deq, [a, b], S => match dr S a, dr S b with
    | .dct ks vs, .dct js us => R.of S ((eqDct ks vs js us).map .bl)
    | _, _ => .stuck
  | .dne, [a, b], S => match dr S a, dr S b with
    | .dct ks vs, .dct js us => R.of S ((eqDct ks vs js us).map fun k => .bl (!k))
    | _, _ => .stuck
  | .dcopy, [d], S => match dr S d with
    | .dct ks vs => .ok (.dct ks vs) S
    | _ => .stuck
  | .ndcopy, [d], S => match dr S d with
    | .dct ks vs => .ok (.ref S.length) (S ++ [.dct ks vs])
    | _ => .stuck
  | .dlist, [d], S => match dr S d with
    | .dct ks _ => .ok (.lst (keysL ks)) S
    | _ => .stuck
  | .dsort, [d], S => match dr S d with
    | .dct ks _ => R.of S ((strsOf (keysL ks)).bind fun xs => if xs.length < 64 then some (.lst ((sortS xs).map .str)) else none)
    | _ => .stuck
  | .ssort, [d], S => match dr S d with
    | .lst l => R.of S ((strsOf l).bind fun xs => if xs.length < 64 then some (.lst ((sortS xs).map .str)) else none)
    | _ => .stuck
  | .join y, [d], S => match dr S d with
    | .lst l => R.of S ((strsOf l).bind fun xs => if (xs.map (·.length)).sum + xs.length * y.length ≤ 16777216 then some (.str (Txt.join y xs)) else none)
    | _ => .stuck
  | .fld f, [d], S => R.of S (fldF S f d)
  | .llen, [d], S => match dr S d with
    | .lst l => .ok (.int l.length) S
    | _ => .stuck
  | .lcopy, [d], S => match dr S d with
    | .lst l => .ok (.lst l) S
    | _ => .stuck
  | .lemp, [d], S => match dr S d with
    | .lst l => .ok (.bl l.isEmpty) S
    | _ => .stuck
  | .lnemp, [d], S => match dr S d with
    | .lst l => .ok (.bl (!l.isEmpty)) S
    | _ => .stuck
  | .nlcopy, [d], S => match dr S d with
    | .lst l => .ok (.ref S.length) (S ++ [.lst l])
    | _ => .stuck
  | _, _, _ => .stuck

/-! ### the syntax -/
/-- targets: a slot, a tuple of targets -/
inductive Tg where
  | nm (i : Nat)
  | tp (l : List Tg)
mutual
inductive Ex where
  | cst (d : D)
  | var (i : Nat)
  | glb (x : Str) (d : D)
  | bin (o : BOp) (a b : Ex)
  | neg (a : Ex)
  | cmp (o : COp) (a b : Ex)
  | chn (o o' : COp) (a b c : Ex)
  | chn3 (o o' o2 : COp) (a b c d : Ex)
  | and (a b : Ex) | or (a b : Ex) | not (a : Ex)
  | ite (c a b : Ex)
  | tup (es : List Ex) | lst (es : List Ex) | nlst (es : List Ex)
  | ix (a b : Ex)
  | sl (a : Ex) (lo hi : Option Ex)
  | call (f : Nat) (es : List Ex) (dv : List D)
  | callK (f : Nat) (es : List Ex) (ks : List Str) (kes : List Ex) (pm : List (Nat ⊕ D))
  | op1 (o : Op1) (a : Ex)
  | op2 (o : Op2) (a b : Ex)
  | blt (b : Blt) (es : List Ex)
  | isi (a : Ex) (t : Ty)
  | lc (el : Ex) (tg : Tg) (it : Itx) (cond : Option Ex) (own : List Nat)
  | prim (p : Pr) (es : List Ex)
  | srtK (l : Ex) (i : Nat) (key : Ex)
  | lc2 (el : Ex) (tg : Tg) (it : Itx) (cond : Option Ex) (tg1 : Tg) (it1 : Itx) (own own1 : List Nat)
  | minK (l : Ex) (i : Nat) (key : Ex)
  | mth (f : Nat) (c m : Str) (o : Ex) (es : List Ex) (dv : List D)
  | mk (f : Nat) (c : Str) (es : List Ex) (dv : List D)
  | mthK (f : Nat) (c m : Str) (o : Ex) (es : List Ex) (ks : List Str) (kes : List Ex) (pm : List (Nat ⊕ D))
  | mkK (f : Nat) (c : Str) (es : List Ex) (ks : List Str) (kes : List Ex) (pm : List (Nat ⊕ D))
  | lidx (a b : Ex)
  | orV (a b : Ex)
  | mkV (f : Nat) (c : Str) (fs : List Str) (es : List Ex)
  | dsp (es : List Ex)
  | dc (kx vx : Ex) (tg : Tg) (it : Itx) (cond : Option Ex) (own : List Nat)
inductive Itx where
  | seq (e : Ex)
  | rng (a : Ex)
  | rng2 (a b : Ex)
  | zip (a b : Ex)
  | rev (a : Ex)
  | rrng (a : Ex)
  | dk (e : Ex) | dit (e : Ex) | dvl (e : Ex) | enu (e : Ex)
end
inductive Sm where
  | asg (t : Tg) (e : Ex)
  | par (i j : Nat) (a b : Ex)
  | own (i : Nat) (e : Ex)
  | frz (i : Nat) (s : Sm)
  | aug (i : Nat) (o : BOp) (e : Ex)
  | star (i j : Nat) (e : Ex)
  | set (a i e : Ex)
  | app (i : Nat) (e : Ex)
  | setO (i : Nat) (k e : Ex)
  | slO (i : Nat) (lo hi e : Ex)
  | augO (i : Nat) (k : Ex) (o : BOp) (e : Ex)
  | setOD (i : Nat) (k e : Ex)
  | setD (a k e : Ex)
  | setF (a : Ex) (c f : Str) (e : Ex)
  | augF (a : Ex) (c f : Str) (o : BOp) (e : Ex)
  | parF (j : Nat) (c : Str) (ts : List (Nat ⊕ Str)) (e : Ex)
  | chnF (j : Nat) (c f1 f2 : Str) (e : Ex)
  | insO (i : Nat) (k e : Ex)
  | starO (i j : Nat) (e : Ex)
  | appR (a e : Ex)
  | lk (p : Ex) (s : Sm)
  | popOD (i : Nat) (k : Ex)
  | popD (a k : Ex)
  | popO (t : Tg) (i : Nat)
  | extO (i : Nat) (e : Ex)
  | exp (e : Ex)
  | ret (e : Ex)
  | retN
  | ite (c : Ex) (a b : List Sm)
  | for (t : Tg) (it : Itx) (b : List Sm)
  | whl (c : Ex) (b : List Sm)
  | brk | cnt | pass
  | dead

inductive Sl where | un | val (d : D) | own (d : D)
abbrev Env := List Sl

inductive Fl where
  | nx (ε : Env) | bk (ε : Env) | ct (ε : Env) | rt (d : D) | ex (x : Exc) (ε : Env)
/-- an expression's end within a statement -/
def R.lf {α : Type} (r : R α) (ε : Env) (f : α → Sto → R Fl) : R Fl := match r with
  | .ok a S => f a S
  | .exc x S => .ok (.ex x ε) S
  | .stuck => .stuck
@[simp] theorem R.lf_ok {α : Type} (a : α) (S : Sto) (ε : Env) (f : α → Sto → R Fl) : (R.ok a S).lf ε f = f a S := (rfl)
@[simp] theorem R.lf_exc {α : Type} (x : Exc) (S : Sto) (ε : Env) (f : α → Sto → R Fl) : (R.exc x S : R α).lf ε f = .ok (.ex x ε) S := (rfl)
@[simp] theorem R.lf_stuck {α : Type} (ε : Env) (f : α → Sto → R Fl) : (R.stuck : R α).lf ε f = .stuck := (rfl)

def getV (ε : Env) (i : Nat) (S : Sto) : R D := match ε[i]? with
  | some (.val d) => .ok d S
  | _ => .stuck
/-- a variable in a place where its value is looked at, not kept -/
def opd (ε : Env) (e : Ex) (S : Sto) (r : R D) : R D := match e with
  | .var i => match ε[i]? with
    | some (.own d) => .ok d S
    | _ => r
  | _ => r
mutual
def setT : Tg → D → Env → Option Env
  | .nm i, d, ε => some (ε.set i (.val d))
  | .tp l, .tup ds, ε => setTs l ds ε
  | .tp l, .lst ds, ε => setTs l ds ε
  | _, _, _ => none
def setTs : List Tg → List D → Env → Option Env
  | [], [], ε => some ε
  | t :: ts, d :: ds, ε => match setT t d ε with
    | some ε' => setTs ts ds ε'
    | none => none
  | _, _, _ => none
end
def wipeE (ε : Env) : List Nat → Env
  | [] => ε
  | v :: vs => (wipeE ε vs).set v .un

/-- one pass over the items -/
def forL (body : D → Env → Sto → R Fl) : List D → Env → Sto → R Fl
  | [], ε, S => .ok (.nx ε) S
  | d :: ds, ε, S => (body d ε S).bd fun f S' => match f with
    | .nx ε' => forL body ds ε' S'
    | .ct ε' => forL body ds ε' S'
    | .bk ε' => .ok (.nx ε') S'
    | f => .ok f S'
/-- the items of a comprehension; no exception leaves it -/
def lcL (elt : D → Sto → R (Option D)) : List D → Sto → R (List D)
  | [], S => .ok [] S
  | d :: ds, S => match elt d S with
    | .ok (some x) S' => match lcL elt ds S' with
      | .ok xs S'' => .ok (x :: xs) S''
      | _ => .stuck
    | .ok none S' => lcL elt ds S'
    | _ => .stuck
/-- the items of a comprehension's first clause, each with a list of items -/
def lcM (elt : D → Sto → R (List D)) : List D → Sto → R (List D)
  | [], S => .ok [] S
  | d :: ds, S => match elt d S with
    | .ok xs S' => match lcM elt ds S' with
      | .ok ys S'' => .ok (xs ++ ys) S''
      | _ => .stuck
    | _ => .stuck
def seqOf : D → Option (List D)
  | .lst l => some l
  | .tup l => some l
  | .str z => if z.length ≤ sizeLine then some (z.cps.toList.map fun c => .str ⟨#[c]⟩) else none
  | _ => none
def rngL (lo : Int) (n : Nat) : List D := (List.range n).map fun i => D.int (lo + (i : Nat))
def rng1F : D → Option (List D)
  | .int j => if -(2 ^ 62) ≤ j ∧ j < 2 ^ 62 then some (rngL 0 j.toNat) else none
  | _ => none
def rng2F : D → D → Option (List D)
  | .int i, .int j => if -(2 ^ 62) ≤ i ∧ i < 2 ^ 62 ∧ -(2 ^ 62) ≤ j ∧ j < 2 ^ 62 then some (rngL i (j - i).toNat) else none
  | _, _ => none
def zipF : D → D → Option (List D)
  | .lst a, .lst b => some (List.zipWith (fun x y => D.tup [x, y]) a b)
  | .tup a, .tup b => some (List.zipWith (fun x y => D.tup [x, y]) a b)
  | _, _ => none
def kindIs : D → Ty → Option Bool
  | .non, _ => some false
  | .bl _, .bool => some true
  | .bl _, .int => some true
  | .int _, .int => some true
  | .str _, .str => some true
  | .tup _, .tuple => some true
  | .lst _, .list => some true
  | .dct _ _, .dict => some true
  | .ref _, _ => none
  | .obj _ _, _ => none
  | .scr _, _ => none
  | _, _ => some false
def intPart : D → Option Int
  | .int i => some i
  | _ => none

/-- a written dict's entries -/
def dspF : List D → List Key → List D → Option (List Key × List D)
  | [], ks, vs => some (ks, vs)
  | k :: v :: r, ks, vs => match keyD k with
    | some q => dspF r (putKs ks q) (putVs ks vs q v)
    | none => none
  | _, _, _ => none
/-- the entries of a dict comprehension; no exception leaves it -/
def lcD (elt : D → Sto → R (Option (D × D))) : List D → List Key → List D → Sto → R (List Key × List D)
  | [], ks, vs, S => .ok (ks, vs) S
  | d :: ds, ks, vs, S => match elt d S with
    | .ok (some p) S' => match keyD p.1 with
      | some q => if ks.length < sizeLine then lcD elt ds (putKs ks q) (putVs ks vs q p.2) S' else .stuck
      | none => .stuck
    | .ok none S' => lcD elt ds ks vs S'
    | _ => .stuck
/-- a dict that is walked -/
def dctW (S : Sto) : D → Option (List Key × List D)
  | .dct ks vs => some (ks, vs)
  | .ref n => match S[n]? with
    | some (.fdct ks vs) => some (ks, vs)
    | _ => none
  | _ => none
def enuF : D → Option (List D)
  | .lst l => some (l.zipIdx.map fun p => .tup [.int (p.2 : Nat), p.1])
  | _ => none
/-- a new instance that nobody will change: what its making must have done -/
noncomputable def mkvR (c : Str) (fs : List Str) (ds : List D) (S : Sto) (r : R D) : R D :=
  @ite _ (r = .ok .non (S ++ [.ins c (fs.zip ds)]) ∧ ds.length = fs.length ∧ fs.Nodup) (Classical.propDecidable _) (.ok (.obj fs ds) S) .stuck
abbrev Call := Nat → List D → Sto → R D
noncomputable section
variable (call : Call)
mutual
def evE : Ex → Env → Sto → R D
  | .cst d, _, S => .ok d S
  | .var i, ε, S => getV ε i S
  | .glb _ d, _, S => .ok d S
  | .bin o a b, ε, S => (opd ε a S (evE a ε S)).bd fun x S1 => (opd ε b S1 (evE b ε S1)).bd fun y S2 => R.of S2 (binF o x y)
  | .neg a, ε, S => (evE a ε S).bd fun x S1 => match x with
    | .int i => .ok (.int (-i)) S1
    | _ => .stuck
  | .cmp o a b, ε, S => (opd ε a S (evE a ε S)).bd fun x S1 => (opd ε b S1 (evE b ε S1)).bd fun y S2 => R.of S2 ((cmpF o x y).map .bl)
  | .chn o o' a b c, ε, S => (opd ε a S (evE a ε S)).bd fun x S1 => (opd ε b S1 (evE b ε S1)).bd fun y S2 => (R.of S2 (cmpF o x y)).bd fun k S3 =>
      if k = true then (opd ε c S3 (evE c ε S3)).bd fun z S4 => R.of S4 ((cmpF o' y z).map .bl) else .ok (.bl false) S3
  | .and a b, ε, S => (evE a ε S).bd fun x S1 => match x with
    | .bl true => evE b ε S1
    | .bl false => .ok (.bl false) S1
    | _ => .stuck
  | .or a b, ε, S => (evE a ε S).bd fun x S1 => match x with
    | .bl false => evE b ε S1
    | .bl true => .ok (.bl true) S1
    | _ => .stuck
  | .not a, ε, S => (opd ε a S (evE a ε S)).bd fun x S1 => R.of S1 ((truF x).map fun k => .bl (!k))
  | .ite c a b, ε, S => (evT c ε S).bd fun k S1 => if k = true then evE a ε S1 else evE b ε S1
  | .tup es, ε, S => (evEs es ε S).bd fun ds S1 => if ds.length ≤ sizeLine then .ok (.tup ds) S1 else .stuck
  | .lst es, ε, S => (evEs es ε S).bd fun ds S1 => if ds.length ≤ sizeLine then .ok (.lst ds) S1 else .stuck
  | .nlst es, ε, S => (evEs es ε S).bd fun ds S1 => if ds.length ≤ sizeLine then .ok (.ref S1.length) (S1 ++ [.lst ds]) else .stuck
  | .ix a b, ε, S => (opd ε a S (evE a ε S)).bd fun x S1 => (evE b ε S1).bd fun y S2 => match x with
    | .ref n => match S2[n]? with
      | some (.lst l) => R.of S2 (ixF (.lst l) y)
      | _ => .stuck
    | _ => R.of S2 (ixF x y)
  | .sl a lo hi, ε, S => (opd ε a S (evE a ε S)).bd fun x S1 => (evP lo ε S1).bd fun l S2 => (evP hi ε S2).bd fun h S3 => R.of S3 (slF x l h)
  | .call f es dv, ε, S => (evEs es ε S).bd fun ds S1 => call f (ds ++ dv) S1
  | .callK f es _ kes pm, ε, S => (evEs es ε S).bd fun ds S1 => (evEs kes ε S1).bd fun zs S2 => call f (pmF (ds ++ zs) pm) S2
  | .op1 o a, ε, S => (evE a ε S).bd fun x S1 => R.of S1 (op1F o x)
  | .op2 o a b, ε, S => (evE a ε S).bd fun x S1 => (evE b ε S1).bd fun y S2 => R.of S2 (op2F o x y)
  | .chn3 .., _, _ => .stuck
  | .blt b es, ε, S => (evOs es ε S).bd fun ds S1 => R.of S1 (bltF b ds)
  | .isi a t, ε, S => (opd ε a S (evE a ε S)).bd fun x S1 => R.of S1 ((kindIs x t).map .bl)
  | .lc el tg it cond own, ε, S => (evI it ε S).bd fun ds S1 =>
      match lcL (fun d S => match setT tg d (wipeE ε own) with
        | some ε' => (evC cond ε' S).bd fun k S2 => if k = true then (evE el ε' S2).bd fun x S3 => .ok (some x) S3 else .ok none S2
        | none => .stuck) ds S1 with
      | .ok xs S2 => if xs.length ≤ sizeLine then .ok (.lst xs) S2 else .stuck
      | _ => .stuck
  | .prim p es, ε, S => (evOs es ε S).bd fun ds S1 => prF p ds S1
  | .lc2 el tg it cond tg1 it1 own own1, ε, S => (evI it ε S).bd fun ds S1 =>
      match lcM (fun d S => match setT tg d (wipeE ε own) with
        | some ε' => (evC cond ε' S).bd fun k S2 => if k = true then (evI it1 ε' S2).bd fun ds1 S3 =>
            lcL (fun d1 S => match setT tg1 d1 (wipeE ε' own1) with
              | some ε2 => (evE el ε2 S).bd fun x S4 => .ok (some x) S4
              | none => .stuck) ds1 S3 else .ok [] S2
        | none => .stuck) ds S1 with
      | .ok xs S2 => if xs.length ≤ sizeLine then .ok (.lst xs) S2 else .stuck
      | _ => .stuck
  | .srtK l i key, ε, S => (evE l ε S).bd fun x S1 => match x with
    | .lst ds => match lcL (fun d S => (evE key (ε.set i (.val d)) S).bd fun k S' => .ok (some k) S') ds S1 with
      | .ok ks S2 => R.of S2 ((keyPy ks).map fun kz => .lst (sortV ds kz))
      | _ => .stuck
    | _ => .stuck
  | .minK l i key, ε, S => (evE l ε S).bd fun x S1 => match x with
    | .lst ds => match lcL (fun d S => (evE key (ε.set i (.val d)) S).bd fun k S' => .ok (some k) S') ds S1 with
      | .ok ks S2 => R.of S2 ((keyPy ks).bind fun kz => ds[argBest (btK kz) (ds.length - 1)]?)
      | _ => .stuck
    | _ => .stuck
  | .mth f c m o es dv, ε, S => (evE o ε S).bd fun x S1 => match x with
    | .ref n => match S1[n]? with
      | some (.ins c' fs) => if c' = c ∧ fs.lookup m = none then (evEs es ε S1).bd fun ds S2 => call f (.ref n :: (ds ++ dv)) S2 else .stuck
      | _ => .stuck
    | _ => .stuck
  | .mk f c es dv, ε, S => (evEs es ε S).bd fun ds S1 => (call f (.ref S1.length :: (ds ++ dv)) (S1 ++ [.ins c []])).bd fun x S2 => match x with
    | .non => .ok (.ref S1.length) S2
    | _ => .stuck
  | .mthK f c m o es _ kes pm, ε, S => (evE o ε S).bd fun x S1 => match x with
    | .ref n => match S1[n]? with
      | some (.ins c' fs) => if c' = c ∧ fs.lookup m = none then (evEs es ε S1).bd fun ds S2 => (evEs kes ε S2).bd fun zs S3 => call f (pmF (.ref n :: (ds ++ zs)) pm) S3 else .stuck
      | _ => .stuck
    | _ => .stuck
  | .mkK f c es _ kes pm, ε, S => (evEs es ε S).bd fun ds S1 => (evEs kes ε S1).bd fun zs S2 => (call f (pmF (.ref S2.length :: (ds ++ zs)) pm) (S2 ++ [.ins c []])).bd fun x S3 => match x with
    | .non => .ok (.ref S2.length) S3
    | _ => .stuck
  | .lidx a b, ε, S => (evE a ε S).bd fun x S1 => match x with
    | .lst l => (evE b ε S1).bd fun y S2 => R.of S2 (idxF l y)
    | _ => .stuck
  | .orV a b, ε, S => (evE a ε S).bd fun x S1 => (R.of S1 (truF x)).bd fun k S2 => if k = true then .ok x S2 else evE b ε S2
  | .mkV f c fs es, ε, S => (evEs es ε S).bd fun ds S1 => mkvR c fs ds S1 (call f (.ref S1.length :: ds) (S1 ++ [.ins c []]))
  | .dsp es, ε, S => (evEs es ε S).bd fun ds S1 => R.of S1 ((dspF ds [] []).map fun p => .dct p.1 p.2)
  | .dc kx vx tg it cond own, ε, S => (evI it ε S).bd fun ds S1 =>
      match lcD (fun d S => match setT tg d (wipeE ε own) with
        | some ε' => (evC cond ε' S).bd fun k S2 => if k = true then (evE kx ε' S2).bd fun y S3 => (evE vx ε' S3).bd fun z S4 => .ok (some (y, z)) S4 else .ok none S2
        | none => .stuck) ds [] [] S1 with
      | .ok p S2 => .ok (.dct p.1 p.2) S2
      | _ => .stuck
/-- as a test -/
def evT : Ex → Env → Sto → R Bool
  | .and a b, ε, S => (evT a ε S).bd fun k S1 => if k = true then evT b ε S1 else .ok false S1
  | .or a b, ε, S => (evT a ε S).bd fun k S1 => if k = true then .ok true S1 else evT b ε S1
  | .not a, ε, S => (evT a ε S).bd fun k S1 => .ok (!k) S1
  | .var i, ε, S => (opd ε (.var i) S (evE (.var i) ε S)).bd fun x S1 => R.of S1 (truF x)
  | .cst d, _, S => R.of S (truF d)
  | .glb _ d, _, S => R.of S (truF d)
  | .cmp o a b, ε, S => (opd ε a S (evE a ε S)).bd fun x S1 => (opd ε b S1 (evE b ε S1)).bd fun y S2 => R.of S2 (cmpF o x y)
  | .chn o o' a b c, ε, S => (opd ε a S (evE a ε S)).bd fun x S1 => (opd ε b S1 (evE b ε S1)).bd fun y S2 => (R.of S2 (cmpF o x y)).bd fun k S3 =>
      if k = true then (opd ε c S3 (evE c ε S3)).bd fun z S4 => R.of S4 (cmpF o' y z) else .ok false S3
  | .chn3 o o' o2 a b c d, ε, S => (opd ε a S (evE a ε S)).bd fun x S1 => (opd ε b S1 (evE b ε S1)).bd fun y S2 => (R.of S2 (cmpF o x y)).bd fun k S3 =>
      if k = true then (opd ε c S3 (evE c ε S3)).bd fun z S4 => (R.of S4 (cmpF o' y z)).bd fun k2 S5 =>
        if k2 = true then (opd ε d S5 (evE d ε S5)).bd fun v S6 => R.of S6 (cmpF o2 z v) else .ok false S5
      else .ok false S3
  | .call f es dv, ε, S => ((evEs es ε S).bd fun ds S1 => call f (ds ++ dv) S1).bd fun x S1 => R.of S1 (truF x)
  | .callK f es _ kes pm, ε, S => ((evEs es ε S).bd fun ds S1 => (evEs kes ε S1).bd fun zs S2 => call f (pmF (ds ++ zs) pm) S2).bd fun x S1 => R.of S1 (truF x)
  | .blt b es, ε, S => ((evOs es ε S).bd fun ds S1 => R.of S1 (bltF b ds)).bd fun x S1 => R.of S1 (truF x)
  | .isi a t, ε, S => (opd ε a S (evE a ε S)).bd fun x S1 => R.of S1 (kindIs x t)
  | .ix a b, ε, S => ((opd ε a S (evE a ε S)).bd fun x S1 => (evE b ε S1).bd fun y S2 => match x with
    | .ref n => match S2[n]? with
      | some (.lst l) => R.of S2 (ixF (.lst l) y)
      | _ => .stuck
    | _ => R.of S2 (ixF x y)).bd fun x S1 => R.of S1 (truF x)
  | .prim p es, ε, S => ((evOs es ε S).bd fun ds S1 => prF p ds S1).bd fun x S1 => R.of S1 (truF x)
  | .mth f c m o es dv, ε, S => ((evE o ε S).bd fun x S1 => match x with
    | .ref n => match S1[n]? with
      | some (.ins c' fs) => if c' = c ∧ fs.lookup m = none then (evEs es ε S1).bd fun ds S2 => call f (.ref n :: (ds ++ dv)) S2 else .stuck
      | _ => .stuck
    | _ => .stuck).bd fun x S1 => R.of S1 (truF x)
  | _, _, _ => .stuck
def evEs : List Ex → Env → Sto → R (List D)
  | [], _, S => .ok [] S
  | e :: es, ε, S => (evE e ε S).bd fun d S1 => (evEs es ε S1).bd fun ds S2 => .ok (d :: ds) S2
def evOs : List Ex → Env → Sto → R (List D)
  | [], _, S => .ok [] S
  | e :: es, ε, S => (opd ε e S (evE e ε S)).bd fun d S1 => (evOs es ε S1).bd fun ds S2 => .ok (d :: ds) S2
def evP : Option Ex → Env → Sto → R (Option Int)
  | none, _, S => .ok none S
  | some e, ε, S => (evE e ε S).bd fun d S1 => match d with
    | .int i => .ok (some i) S1
    | _ => .stuck
def evC : Option Ex → Env → Sto → R Bool
  | none, _, S => .ok true S
  | some e, ε, S => evT e ε S
def evI : Itx → Env → Sto → R (List D)
  | .seq e, ε, S => (evE e ε S).bd fun x S1 => R.of S1 (seqOf x)
  | .rng a, ε, S => (evE a ε S).bd fun x S1 => R.of S1 (rng1F x)
  | .rng2 a b, ε, S => (evE a ε S).bd fun x S1 => (evE b ε S1).bd fun y S2 => R.of S2 (rng2F x y)
  | .zip a b, ε, S => (evE a ε S).bd fun x S1 => (evE b ε S1).bd fun y S2 => R.of S2 (zipF x y)
  | .rev a, ε, S => (evE a ε S).bd fun x S1 => match x with
    | .lst l => .ok l.reverse S1
    | .tup l => .ok l.reverse S1
    | _ => .stuck
  | .rrng a, ε, S => (evE a ε S).bd fun x S1 => R.of S1 ((rng1F x).map List.reverse)
  | .dk e, ε, S => (evE e ε S).bd fun x S1 => R.of S1 ((dctW S1 x).map fun p => keysL p.1)
  | .dit e, ε, S => (evE e ε S).bd fun x S1 => R.of S1 ((dctW S1 x).map fun p => List.zipWith (fun k v => .tup [dOfKey k, v]) p.1 p.2)
  | .dvl e, ε, S => (evE e ε S).bd fun x S1 => R.of S1 ((dctW S1 x).map (·.2))
  | .enu e, ε, S => (evE e ε S).bd fun x S1 => R.of S1 (enuF x)
end

/-- a while loop, by a bound on its turns -/
def whlL (test : Env → Sto → R Bool) (body : Env → Sto → R Fl) : Nat → Env → Sto → R Fl
  | 0, _, _ => .stuck
  | n + 1, ε, S => (test ε S).lf ε fun k S1 => if k = true then (body ε S1).bd fun f S' => (match f with
    | .nx ε' => whlL test body n ε' S'
    | .ct ε' => whlL test body n ε' S'
    | .bk ε' => .ok (.nx ε') S'
    | f => .ok f S') else .ok (.nx ε) S1
/-- l[a:c] = v -/
def slPut (l : List D) : D → D → D → Option (List D)
  | .lst m, .int a, .int c => if 0 ≤ a ∧ a ≤ c ∧ c ≤ l.length ∧ l.length + m.length ≤ sizeLine then some (l.take a.toNat ++ m ++ l.drop c.toNat) else none
  | _, _, _ => none
def lstAt : Sto → D → Option (List D)
  | S, .ref n => match S[n]? with
    | some (.lst l) => some l
    | _ => none
  | _, _ => none
def setDS (o k v : D) (S : Sto) : Option Sto := match o with
  | .ref n => match S[n]?, keyD k with
    | some (.dct ks vs), some k => if ks.length < sizeLine then some (S.set n (.dct (putKs ks k) (putVs ks vs k v))) else none
    | _, _ => none
  | _ => none
def popDS (o k : D) (S : Sto) : Option Sto := match o with
  | .ref n => match S[n]?, keyD k with
    | some (.dct ks vs), some k => if hasK ks vs k = true then some (S.set n (.dct (dropKs ks k) (dropVs ks vs k))) else none
    | _, _ => none
  | _ => none
def isDct : D → Sto → Bool
  | .ref n, S => match S[n]? with
    | some (.dct _ _) => true
    | _ => false
  | _, _ => false
def putFD (f : Str) (v : D) : List (Str × D) → List (Str × D)
  | [] => [(f, v)]
  | (g, u) :: r => if g = f then (g, v) :: r else (g, u) :: putFD f v r
def setFS (o : D) (c f : Str) (v : D) (S : Sto) : Option Sto := match o with
  | .ref n => match S[n]? with
    | some (.ins c' fs) => if c' = c ∧ fs.length < 1000 then some (S.set n (.ins c (putFD f v fs))) else none
    | _ => none
  | _ => none
/-- one target of names and own attributes -/
def putT (j : Nat) (c : Str) : Nat ⊕ Str → D → Env → Sto → Option (Env × Sto)
  | .inl i, d, ε, S => some (ε.set i (.val d), S)
  | .inr f, d, ε, S => match ε[j]? with
    | some (.val o) => (setFS o c f d S).map fun S' => (ε, S')
    | _ => none
def putTs (j : Nat) (c : Str) : List (Nat ⊕ Str) → List D → Env → Sto → Option (Env × Sto)
  | [], [], ε, S => some (ε, S)
  | t :: ts, d :: ds, ε, S => match putT j c t d ε S with
    | some p => putTs j c ts ds p.1 p.2
    | none => none
  | _, _, _, _ => none
/-- an int attribute -/
def fldI (S : Sto) (c f : Str) : D → Option Int
  | .ref n => match S[n]? with
    | some (.ins c' fs) => if c' = c then (match fs.lookup f with
      | some (.int i) => some i
      | _ => none) else none
    | _ => none
  | _ => none
/-- a dict that may be locked -/
def lkAt (S : Sto) (r : R D) : Option (Nat × List Key × List D) := match r with
  | .ok (.ref n) _ => match S[n]? with
    | some (.dct ks vs) => some (n, ks, vs)
    | _ => none
  | _ => none
/-- .. and is let go -/
def unlk (n : Nat) (ks : List Key) (vs : List D) : R Fl → R Fl
  | .ok (.ex x ε) S => .ok (.ex x ε) S
  | .ok f S => .ok f (S.set n (.dct ks vs))
  | r => r
def setL (o : D) (i v : D) (S : Sto) : Option Sto := match o, i with
  | .ref n, .int k => match S[n]? with
    | some (.lst l) => (ixN l.length k).map fun j => S.set n (.lst (l.set j v))
    | _ => none
  | _, _ => none
variable (turns : Nat)
mutual
def evS : Sm → Env → Sto → R Fl
  | .asg t e, ε, S => (evE call e ε S).lf ε fun d S1 => match setT t d ε with
    | some ε' => .ok (.nx ε') S1
    | none => .stuck
  | .par i j a b, ε, S => (evE call a ε S).lf ε fun x S1 => (evE call b ε S1).lf ε fun y S2 => .ok (.nx ((ε.set i (.val x)).set j (.val y))) S2
  | .own i e, ε, S => (evE call e ε S).lf ε fun d S1 => .ok (.nx (ε.set i (.own d))) S1
  | .frz i s, ε, S => match ε[i]? with
    | some (.own d) => evS s (ε.set i (.val d)) S
    | _ => evS s ε S
  | .aug i o e, ε, S => match ε[i]? with
    | some (.val (.int x)) => (evE call e ε S).lf ε fun y S1 => match y with
      | .int y => match binF o (.int x) (.int y) with
        | some z => .ok (.nx (ε.set i (.val z))) S1
        | none => .stuck
      | _ => .stuck
    | _ => .stuck
  | .star i j e, ε, S => (evE call e ε S).lf ε fun d S1 => match d with
    | .lst (x :: l) => if l.length < sizeLine then .ok (.nx ((ε.set i (.val x)).set j (.val (.lst l)))) S1 else .stuck
    | .tup (x :: l) => if l.length < sizeLine then .ok (.nx ((ε.set i (.val x)).set j (.val (.lst l)))) S1 else .stuck
    | _ => .stuck
  | .set a i e, ε, S => (evE call e ε S).lf ε fun v S1 => (evE call a ε S1).lf ε fun o S2 => (evE call i ε S2).lf ε fun k S3 => match setL o k v S3 with
    | some S4 => .ok (.nx ε) S4
    | none => .stuck
  | .app i e, ε, S => match ε[i]? with
    | some (.own (.lst l)) => (evE call e ε S).lf ε fun y S1 => if l.length < sizeLine then .ok (.nx (ε.set i (.own (.lst (l ++ [y]))))) S1 else .stuck
    | _ => .stuck
  | .setO i k e, ε, S => (evE call e ε S).lf ε fun v S1 => match ε[i]? with
    | some (.own (.lst l)) => (evE call k ε S1).lf ε fun kk S2 => match kk with
      | .int q => match ixN l.length q with
        | some j => .ok (.nx (ε.set i (.own (.lst (l.set j v))))) S2
        | none => .stuck
      | _ => .stuck
    | _ => .stuck
  | .slO i lo hi e, ε, S => (evE call e ε S).lf ε fun v S1 => match ε[i]? with
    | some (.own (.lst l)) => (evE call lo ε S1).lf ε fun a S2 => (evE call hi ε S2).lf ε fun c S3 => match slPut l v a c with
      | some l' => .ok (.nx (ε.set i (.own (.lst l')))) S3
      | none => .stuck
    | _ => .stuck
  | .augO i k o e, ε, S => match ε[i]? with
    | some (.own (.lst l)) => (evE call k ε S).lf ε fun kk S1 => match kk with
      | .int q => match atI l q, ixN l.length q with
        | some (.int x), some j => (evE call e ε S1).lf ε fun y S2 => match y with
          | .int y => match binF o (.int x) (.int y) with
            | some z => .ok (.nx (ε.set i (.own (.lst (l.set j z))))) S2
            | none => .stuck
          | _ => .stuck
        | _, _ => .stuck
      | _ => .stuck
    | _ => .stuck
  | .setOD i k e, ε, S => (evE call e ε S).lf ε fun v S1 => match ε[i]? with
    | some (.own (.dct ks vs)) => (evE call k ε S1).lf ε fun kk S2 => match keyD kk with
      | some q => if ks.length < sizeLine then .ok (.nx (ε.set i (.own (.dct (putKs ks q) (putVs ks vs q v))))) S2 else .stuck
      | none => .stuck
    | _ => .stuck
  | .setD a k e, ε, S => (evE call e ε S).lf ε fun v S1 => (evE call a ε S1).lf ε fun o S2 => (evE call k ε S2).lf ε fun kk S3 => match setDS o kk v S3 with
    | some S4 => .ok (.nx ε) S4
    | none => .stuck
  | .setF a c f e, ε, S => (evE call e ε S).lf ε fun v S1 => (evE call a ε S1).lf ε fun o S2 => match setFS o c f v S2 with
    | some S3 => .ok (.nx ε) S3
    | none => .stuck
  | .augF a c f o e, ε, S => (evE call a ε S).lf ε fun x S1 => match fldI S1 c f x with
    | some i => (evE call e ε S1).lf ε fun y S2 => match y with
      | .int j => match binF o (.int i) (.int j) with
        | some z => match setFS x c f z S2 with
          | some S3 => .ok (.nx ε) S3
          | none => .stuck
        | none => .stuck
      | _ => .stuck
    | none => .stuck
  | .parF j c ts e, ε, S => (evE call e ε S).lf ε fun d S1 => match d with
    | .tup ds => match putTs j c ts ds ε S1 with
      | some p => .ok (.nx p.1) p.2
      | none => .stuck
    | .lst ds => match putTs j c ts ds ε S1 with
      | some p => .ok (.nx p.1) p.2
      | none => .stuck
    | _ => .stuck
  | .chnF j c f1 f2 e, ε, S => (evE call e ε S).lf ε fun d S1 => match putTs j c [.inr f1, .inr f2] [d, d] ε S1 with
    | some p => .ok (.nx p.1) p.2
    | none => .stuck
  | .insO i k e, ε, S => match ε[i]? with
    | some (.own (.lst _)) => (evE call k ε S).lf ε fun kk S1 => (evE call e ε S1).lf ε fun y S2 => match ε[i]?, kk with
      | some (.own (.lst l)), .int q => if l.length < sizeLine ∧ 0 ≤ q ∧ q < 2 ^ 63 then .ok (.nx (ε.set i (.own (.lst (l.take q.toNat ++ [y] ++ l.drop q.toNat))))) S2 else .stuck
      | _, _ => .stuck
    | _ => .stuck
  | .starO i j e, ε, S => (evE call e ε S).lf ε fun d S1 => match d with
    | .lst (x :: l) => if l.length < sizeLine ∧ i ≠ j then .ok (.nx ((ε.set i (.val x)).set j (.own (.lst l)))) S1 else .stuck
    | .tup (x :: l) => if l.length < sizeLine ∧ i ≠ j then .ok (.nx ((ε.set i (.val x)).set j (.own (.lst l)))) S1 else .stuck
    | _ => .stuck
  | .appR a e, ε, S => (evE call a ε S).lf ε fun o S1 => match o with
    | .ref n => match S1[n]? with
      | some (.lst _) => (evE call e ε S1).lf ε fun y S2 => match S2[n]? with
        | some (.lst l) => if l.length < sizeLine then .ok (.nx ε) (S2.set n (.lst (l ++ [y]))) else .stuck
        | _ => .stuck
      | _ => .stuck
    | _ => .stuck
  | .lk p s, ε, S => match lkAt S (evE call p ε S) with
    | some q => unlk q.1 q.2.1 q.2.2 (evS s ε (S.set q.1 (.fdct q.2.1 q.2.2)))
    | none => evS s ε S
  | .popOD i k, ε, S => match ε[i]? with
    | some (.own (.dct ks vs)) => (evE call k ε S).lf ε fun kk S1 => match keyD kk with
      | some q => if hasK ks vs q = true then .ok (.nx (ε.set i (.own (.dct (dropKs ks q) (dropVs ks vs q))))) S1 else .stuck
      | none => .stuck
    | _ => .stuck
  | .popD a k, ε, S => (evE call a ε S).lf ε fun o S1 => if isDct o S1 = true then (evE call k ε S1).lf ε fun kk S2 => match popDS o kk S2 with
    | some S3 => .ok (.nx ε) S3
    | none => .stuck
    else .stuck
  | .popO t i, ε, S => match ε[i]? with
    | some (.own (.lst l)) => match l.getLast? with
      | some d => match setT t d (ε.set i (.own (.lst l.dropLast))) with
        | some ε' => .ok (.nx ε') S
        | none => .stuck
      | none => .stuck
    | _ => .stuck
  | .extO i e, ε, S => match ε[i]? with
    | some (.own (.lst l)) => (evE call e ε S).lf ε fun y S1 => match y with
      | .lst m => if l.length + m.length ≤ sizeLine then .ok (.nx (ε.set i (.own (.lst (l ++ m))))) S1 else .stuck
      | _ => .stuck
    | _ => .stuck
  | .exp e, ε, S => (evE call e ε S).lf ε fun _ S1 => .ok (.nx ε) S1
  | .ret e, ε, S => (evE call e ε S).lf ε fun d S1 => .ok (.rt d) S1
  | .retN, _, S => .ok (.rt .non) S
  | .ite c a b, ε, S => (evT call c ε S).lf ε fun k S1 => if k = true then evB a ε S1 else evB b ε S1
  | .for t it b, ε, S => (evI call it ε S).lf ε fun ds S1 => forL (fun d ε S => match setT t d ε with
    | some ε' => evB b ε' S
    | none => .stuck) ds ε S1
  | .whl c b, ε, S => whlL (fun ε S => evT call c ε S) (fun ε S => evB b ε S) turns ε S
  | .brk, ε, S => .ok (.bk ε) S
  | .cnt, ε, S => .ok (.ct ε) S
  | .pass, ε, S => .ok (.nx ε) S
  | .dead, _, _ => .stuck
def evB : List Sm → Env → Sto → R Fl
  | [], ε, S => .ok (.nx ε) S
  | s :: ss, ε, S => (evS s ε S).bd fun f S1 => match f with
    | .nx ε' => evB ss ε' S1
    | f => .ok f S1
end
end

/-- a def: how many parameters, how many slots, its body -/
structure Fn where
  par : Nat
  slots : Nat
  body : List Sm
abbrev Tab := Nat → Option Fn
def startE (n : Nat) (ds : List D) : Env := ds.map .val ++ List.replicate (n - ds.length) .un
def flOut : R Fl → R D
  | .ok (.rt d) S => .ok d S
  | .ok (.nx _) S => .ok .non S
  | .ok (.ex x _) S => .exc x S
  | .ok _ _ => .stuck
  | .exc x S => .exc x S
  | .stuck => .stuck
noncomputable def evCall (Γ : Tab) (turns : Nat) : Nat → Call
  | 0, _, _, _ => .stuck
  | k + 1, f, ds, S => match Γ f with
    | some F => if ds.length = F.par then flOut (evB (evCall Γ turns k) turns F.body (startE F.slots ds) S) else .stuck
    | none => .stuck
end BX
set_option Elab.async false
set_option linter.all false
set_option maxRecDepth 100000
/-! BX2: how data lie in the heap. -/
namespace BX
open PySem L2

/-- what is tracked: the store's objects' addresses; the addresses of what never changes -/
structure Wd where
  ρ : List Addr
  Φ : Addr → Prop
  dis : ∀ a ∈ ρ, ¬ Φ a
  nd : ρ.Nodup

/-- what a law's text gives: the classes' addresses, what an exception is -/
structure Gx where
  K : PySem.W.Frag
  cls : Str → Option Addr
  rx : Wd → Hp → Exc → Value → Option Addr → Prop
  tabs : List (Addr × Str) := []
/-- neither a table of code objects nor a code object -/
def NT (o : Option HO) : Prop := (∀ ps, o ≠ some (.tbl ps)) ∧ ∀ f, o ≠ some (.ext f)
theorem nt_none : NT none := And.intro (fun _ z => nomatch z) (fun _ z => nomatch z)
theorem nt_lst {vs : List V} : NT (some (.lst vs)) := And.intro (fun _ z => nomatch z) (fun _ z => nomatch z)
theorem nt_tup {vs : List V} : NT (some (.tup vs)) := And.intro (fun _ z => nomatch z) (fun _ z => nomatch z)
theorem nt_dK {kvs : List (Key × V)} : NT (some (.dK kvs)) := And.intro (fun _ z => nomatch z) (fun _ z => nomatch z)
theorem nt_frz {o : Obj} {u : HO} : NT (some (.frz o u)) := And.intro (fun _ z => nomatch z) (fun _ z => nomatch z)
theorem nt_ins {C dx : Addr} {fs : List (Str × V)} : NT (some (.ins C dx fs)) := And.intro (fun _ z => nomatch z) (fun _ z => nomatch z)
theorem nt_own {x : Addr} : NT (some (.own x)) := And.intro (fun _ z => nomatch z) (fun _ z => nomatch z)
theorem tabs_upd {T : List (Addr × Str)} {H : Hp} {p : Addr} {o : HO} (t : LamX.Tabs T H) (h : NT (H p)) : LamX.Tabs T (upd H p o) := fun q hq => by
  obtain ⟨ps, h1, h2, h3⟩ := t q hq
  refine ⟨ps, by rw [upd_ne (fun z => by rw [z] at h1; exact h.1 _ h1)]; exact h1, h2, fun pos cv hc => ?_⟩
  obtain ⟨c, e1, e2⟩ := h3 pos cv hc
  exact ⟨c, e1, by rw [upd_ne (fun z => by rw [z] at e2; exact h.2 _ e2)]; exact e2⟩

def KtT (K : PySem.W.Frag) (a : Addr) (xs : List V) : Prop :=
  ∃ (o : Obj) (its : Array Value) (n : Nat), K.lookup a = some o ∧ o.cls = .type "tuple" ∧ o.data = .seq its n ∧ its.size ≤ sizeLine ∧ Vals xs its.toList

def KtL (K : PySem.W.Frag) (a : Addr) (xs : List V) : Prop :=
  ∃ (o : Obj) (its : Array Value) (n : Nat), K.lookup a = some o ∧ o.cls = .type "list" ∧ o.dict = none ∧ o.data = .seq its n ∧ its.size ≤ sizeLine ∧ Vals xs its.toList
section
variable (K : PySem.W.Frag) (w : Wd) (H : Hp)
def ImT (a : Addr) (vs : List V) : Prop := (w.Φ a ∧ Rd H a (.tup vs)) ∨ KtT K a vs
def ImL (a : Addr) (vs : List V) : Prop := w.Φ a ∧ Rd H a (.lst vs)
def ImS (a : Addr) (vs : List V) : Prop := (w.Φ a ∧ Rd H a (.lst vs)) ∨ KtL K a vs
mutual
def RV : V → D → Prop
  | v, .non => v = .non
  | v, .bl b => v = .bl b
  | v, .int i => v = .int i
  | v, .str x => v = .str x
  | v, .tup l => ∃ a vs, v = .ref a ∧ ImT K w H a vs ∧ RVs vs l
  | v, .lst l => ∃ a vs, v = .ref a ∧ ImL w H a vs ∧ RVs vs l
  | v, .ref n => ∃ a, w.ρ[n]? = some a ∧ v = .ref a
  | v, .scr l => ∃ a vs, v = .ref a ∧ ImS K w H a vs ∧ RVs vs l
  | v, .dct ks ds => ∃ a o kvs, v = .ref a ∧ w.Φ a ∧ H a = some (.frz o (.dK kvs)) ∧ kvs.map (·.1) = ks ∧ RVs (kvs.map (·.2)) ds
  | v, .obj fs ds => ∃ a C dx fv, v = .ref a ∧ w.Φ a ∧ H a = some (.ins C dx fv) ∧ Cls K C ∧ (∀ f ∈ fs, NoAttr K C f) ∧ fv.map (·.1) = fs ∧ RVs (fv.map (·.2)) ds
def RVs : List V → List D → Prop
  | vs, [] => vs = []
  | vs, d :: ds => ∃ v r, vs = v :: r ∧ RV v d ∧ RVs r ds
end
/-- what stands at an own list's, an own dict's address -/
def OwnAt (a : Addr) : D → Prop
  | .lst l => ∃ vs, H a = some (.lst vs) ∧ RVs K w H vs l
  | .dct ks ds => ∃ kvs, H a = some (.dK kvs) ∧ kvs.map (·.1) = ks ∧ RVs K w H (kvs.map (·.2)) ds
  | _ => False
/-- looked at, not kept -/
def RO (v : V) (d : D) : Prop := RV K w H v d ∨ ∃ a, v = .ref a ∧ a ∉ w.ρ ∧ OwnAt K w H a d
def ROs : List V → List D → Prop
  | vs, [] => vs = []
  | vs, d :: ds => ∃ v r, vs = v :: r ∧ RO K w H v d ∧ ROs r ds
end

structure Ext (w : Wd) (H : Hp) (w' : Wd) (H' : Hp) : Prop where
  ρ : ∃ t, w'.ρ = w.ρ ++ t ∧ ∀ a ∈ t, H a = none
  Φ : ∀ a, w.Φ a → w'.Φ a
  new : ∀ a, w'.Φ a → w.Φ a ∨ H a = none
  keep : ∀ a o, H a = some o → a ∉ w.ρ → (∀ ps, o ≠ .tbl ps) → H' a = some o
  dom : ∀ a, H a ≠ none → H' a ≠ none
  fz : ∀ a o u, H a = some (.frz o u) → H' a = some (.frz o u)

/-- between two states of one body: own lists may have changed -/
structure ExtS (w : Wd) (H : Hp) (w' : Wd) (H' : Hp) : Prop where
  ρ : ∃ t, w'.ρ = w.ρ ++ t
  Φ : ∀ a, w.Φ a → w'.Φ a
  keep : ∀ a o, w.Φ a → H a = some o → (∀ ps, o ≠ .tbl ps) → H' a = some o
  fz : ∀ a o u, H a = some (.frz o u) → H' a = some (.frz o u)

section
variable {K : PySem.W.Frag} {w w' w'' : Wd} {H H' H'' : Hp}
theorem Ext.toS (e : Ext w H w' H') : ExtS w H w' H' := ⟨let ⟨t, h, _⟩ := e.ρ; ⟨t, h⟩, e.Φ, fun a o h q n => e.keep a o q (fun z => w.dis a z h) n, e.fz⟩
theorem ExtS.refl : ExtS w H w H := ⟨⟨[], by simp⟩, fun _ h => h, fun _ _ _ h _ => h, fun _ _ _ h => h⟩
theorem ExtS.trans (e : ExtS w H w' H') (f : ExtS w' H' w'' H'') : ExtS w H w'' H'' := by
  obtain ⟨t, et⟩ := e.ρ
  obtain ⟨u, eu⟩ := f.ρ
  exact ⟨⟨t ++ u, by rw [eu, et, List.append_assoc]⟩, fun a h => f.Φ a (e.Φ a h), fun a o h q n => f.keep a o (e.Φ a h) (e.keep a o h q n) n, fun a o u h => f.fz a o u (e.fz a o u h)⟩
theorem Rd.keep {a : Addr} {u : HO} (h : Rd H a u) (nu : ∀ ps, u ≠ .tbl ps) (k : ∀ o, H a = some o → (∀ ps, o ≠ .tbl ps) → H' a = some o) : Rd H' a u := by
  rcases h with h | ⟨o, h⟩
  · exact .inl (k _ h nu)
  · exact .inr ⟨o, k _ h fun _ z => nomatch z⟩
theorem Rd.ne {a : Addr} {u : HO} (h : Rd H a u) : H a ≠ none := by
  rcases h with h | ⟨o, h⟩ <;> (rw [h]; exact fun z => nomatch z)
theorem Ext.refl : Ext w H w H := ⟨⟨[], by simp, fun _ z => by simp at z⟩, fun _ h => h, fun _ h => .inl h, fun _ _ h _ _ => h, fun _ h => h, fun _ _ _ h => h⟩
/-- what stood stands -/
theorem Ext.trans (e : Ext w H w' H') (f : Ext w' H' w'' H'') : Ext w H w'' H'' := by
  obtain ⟨t, et, ht⟩ := e.ρ
  obtain ⟨u, eu, hu⟩ := f.ρ
  have back : ∀ a, H' a = none → H a = none := fun a h => by
    cases q : H a with
    | none => rfl
    | some o => exact absurd h (e.dom a (by rw [q]; exact fun z => nomatch z))
  refine ⟨⟨t ++ u, by rw [eu, et, List.append_assoc], fun a ha => ?_⟩, fun a h => f.Φ a (e.Φ a h), fun a h => ?_, fun a o h n m => f.keep a o (e.keep a o h n m) (fun z => ?_) m, fun a h => f.dom a (e.dom a h), fun a o u h => f.fz a o u (e.fz a o u h)⟩
  · rcases List.mem_append.mp ha with h | h
    · exact ht a h
    · exact back a (hu a h)
  · rcases f.new a h with h1 | h1
    · exact e.new a h1
    · exact .inr (back a h1)
  · rw [et] at z
    rcases List.mem_append.mp z with z | z
    · exact n z
    · rw [ht a z] at h; cases h
theorem ExtS.imT (e : ExtS w H w' H') {a : Addr} {vs : List V} (h : ImT K w H a vs) : ImT K w' H' a vs := by
  rcases h with ⟨h1, h2⟩ | h
  · exact .inl ⟨e.Φ a h1, Rd.keep h2 (fun _ z => nomatch z) fun o q n => e.keep a o h1 q n⟩
  · exact .inr h
theorem ExtS.imL (e : ExtS w H w' H') {a : Addr} {vs : List V} (h : ImL w H a vs) : ImL w' H' a vs :=
  ⟨e.Φ a h.1, Rd.keep h.2 (fun _ z => nomatch z) fun o q n => e.keep a o h.1 q n⟩
theorem ExtS.rdK (e : ExtS w H w' H') {a : Addr} {u : HO} (h1 : w.Φ a) (nu : ∀ ps, u ≠ .tbl ps) (h2 : Rd H a u) : Rd H' a u := Rd.keep h2 nu fun o q n => e.keep a o h1 q n
theorem ExtS.imS (e : ExtS w H w' H') {a : Addr} {vs : List V} (h : ImS K w H a vs) : ImS K w' H' a vs := by
  rcases h with ⟨h1, h2⟩ | h
  · exact .inl ⟨e.Φ a h1, Rd.keep h2 (fun _ z => nomatch z) fun o q n => e.keep a o h1 q n⟩
  · exact .inr h
theorem ExtS.at (e : ExtS w H w' H') {n : Nat} {a : Addr} (h : w.ρ[n]? = some a) : w'.ρ[n]? = some a := by
  obtain ⟨t, et⟩ := e.ρ
  have hl : n < w.ρ.length := (List.getElem?_eq_some_iff.mp h).1
  rw [et, List.getElem?_append_left hl]; exact h
mutual
theorem RV.exts (e : ExtS w H w' H') : ∀ (d : D) (v : V), RV K w H v d → RV K w' H' v d
  | .non, _, h => by simp only [RV] at h ⊢; exact h
  | .bl _, _, h => by simp only [RV] at h ⊢; exact h
  | .int _, _, h => by simp only [RV] at h ⊢; exact h
  | .str _, _, h => by simp only [RV] at h ⊢; exact h
  | .tup l, v, h => by
    simp only [RV] at h ⊢
    obtain ⟨a, vs, h1, h2, h3⟩ := h
    exact ⟨a, vs, h1, e.imT h2, RVs.exts e l vs h3⟩
  | .lst l, v, h => by
    simp only [RV] at h ⊢
    obtain ⟨a, vs, h1, h2, h3⟩ := h
    exact ⟨a, vs, h1, e.imL h2, RVs.exts e l vs h3⟩
  | .ref n, v, h => by
    simp only [RV] at h ⊢
    obtain ⟨a, h1, h2⟩ := h
    exact ⟨a, e.at h1, h2⟩
  | .scr l, v, h => by
    simp only [RV] at h ⊢
    obtain ⟨a, vs, h1, h2, h3⟩ := h
    exact ⟨a, vs, h1, e.imS h2, RVs.exts e l vs h3⟩
  | .dct ks ds, v, h => by
    simp only [RV] at h ⊢
    obtain ⟨a, o, kvs, h1, h2, h3, h4, h5⟩ := h
    exact ⟨a, o, kvs, h1, e.Φ a h2, e.fz a _ _ h3, h4, RVs.exts e ds _ h5⟩
  | .obj fs ds, v, h => by
    simp only [RV] at h ⊢
    obtain ⟨a, C, dx, fv, h1, h2, h3, h4, h5, h6, h7⟩ := h
    exact ⟨a, C, dx, fv, h1, e.Φ a h2, e.keep a _ h2 h3 (fun _ z => nomatch z), h4, h5, h6, RVs.exts e ds _ h7⟩
theorem RVs.exts (e : ExtS w H w' H') : ∀ (ds : List D) (vs : List V), RVs K w H vs ds → RVs K w' H' vs ds
  | [], _, h => by simp only [RVs] at h ⊢; exact h
  | d :: ds, vs, h => by
    simp only [RVs] at h ⊢
    obtain ⟨v, r, h1, h2, h3⟩ := h
    exact ⟨v, r, h1, RV.exts e d v h2, RVs.exts e ds r h3⟩
end
theorem RV.ext (e : Ext w H w' H') (d : D) (v : V) (h : RV K w H v d) : RV K w' H' v d := RV.exts e.toS d v h
theorem RVs.ext (e : Ext w H w' H') (ds : List D) (vs : List V) (h : RVs K w H vs ds) : RVs K w' H' vs ds := RVs.exts e.toS ds vs h
theorem Ext.at (e : Ext w H w' H') {n : Nat} {a : Addr} (h : w.ρ[n]? = some a) : w'.ρ[n]? = some a := e.toS.at h
theorem OwnAt.ne {a : Addr} {d : D} (h : OwnAt K w H a d) : H a ≠ none := by
  cases d <;> try exact h.elim
  · obtain ⟨vs, h, _⟩ := h; rw [h]; exact fun z => nomatch z
  · obtain ⟨vs, h, _⟩ := h; rw [h]; exact fun z => nomatch z
theorem OwnAt.exts (e : ExtS w H w' H') {a : Addr} {d : D} (h : OwnAt K w H a d) (k : H' a = H a) : OwnAt K w' H' a d := by
  cases d <;> try exact h.elim
  · obtain ⟨vs, h1, h2⟩ := h; exact ⟨vs, k.trans h1, RVs.exts e _ _ h2⟩
  · obtain ⟨vs, h1, h2, h3⟩ := h; exact ⟨vs, k.trans h1, h2, RVs.exts e _ _ h3⟩
theorem OwnAt.nt {a : Addr} {d : D} (h : OwnAt K w H a d) : NT (H a) := by
  cases d <;> try exact h.elim
  · obtain ⟨vs, h, _⟩ := h; rw [h]; exact nt_lst
  · obtain ⟨vs, h, _⟩ := h; rw [h]; exact nt_dK
theorem OwnAt.ext (e : Ext w H w' H') {a : Addr} {d : D} (h : OwnAt K w H a d) (n : a ∉ w.ρ) : OwnAt K w' H' a d := h.exts e.toS (by
  cases q : H a with
  | none => exact absurd q h.ne
  | some o => exact e.keep a o q n fun ps z => h.nt.1 ps (by rw [q, z]))
theorem RO.ext (e : Ext w H w' H') {d : D} {v : V} (h : RO K w H v d) : RO K w' H' v d := by
  rcases h with h | ⟨a, h1, h2, h3⟩
  · exact .inl (RV.ext e d v h)
  · refine .inr ⟨a, h1, fun z => ?_, h3.ext e h2⟩
    obtain ⟨t, et, ht⟩ := e.ρ
    rw [et] at z
    rcases List.mem_append.mp z with z | z
    · exact h2 z
    · exact h3.ne (ht a z)
theorem ROs.ext (e : Ext w H w' H') : ∀ {ds : List D} {vs : List V}, ROs K w H vs ds → ROs K w' H' vs ds
  | [], _, h => h
  | d :: ds, vs, ⟨v, r, h1, h2, h3⟩ => ⟨v, r, h1, RO.ext e h2, ROs.ext e h3⟩
theorem RVs.toO : ∀ {ds : List D} {vs : List V}, RVs K w H vs ds → ROs K w H vs ds
  | [], _, h => by simp only [RVs] at h; exact h
  | d :: ds, vs, h => by
    simp only [RVs] at h
    obtain ⟨v, r, h1, h2, h3⟩ := h
    exact ⟨v, r, h1, .inl h2, RVs.toO h3⟩
theorem RVs.length : ∀ {ds : List D} {vs : List V}, RVs K w H vs ds → vs.length = ds.length
  | [], _, h => by simp only [RVs] at h; subst h; rfl
  | d :: ds, vs, h => by
    simp only [RVs] at h
    obtain ⟨v, r, h1, h2, h3⟩ := h
    subst h1
    simp [RVs.length h3]
theorem RVs.append : ∀ {ds es : List D} {vs us : List V}, RVs K w H vs ds → RVs K w H us es → RVs K w H (vs ++ us) (ds ++ es)
  | [], _, _, _, h, g => by simp only [RVs] at h; subst h; exact g
  | d :: ds, _, vs, us, h, g => by
    simp only [RVs] at h
    obtain ⟨v, r, h1, h2, h3⟩ := h
    subst h1
    simp only [List.cons_append, RVs]
    exact ⟨v, _, rfl, h2, RVs.append h3 g⟩
theorem RVs.get : ∀ {ds : List D} {vs : List V} {i : Nat} {d : D}, RVs K w H vs ds → ds[i]? = some d → ∃ v, vs[i]? = some v ∧ RV K w H v d
  | [], _, _, _, _, e => by simp at e
  | d :: ds, vs, i, d', h, e => by
    simp only [RVs] at h
    obtain ⟨v, r, h1, h2, h3⟩ := h
    subst h1
    cases i with
    | zero => simp at e; subst e; exact ⟨v, by simp, h2⟩
    | succ i =>
      obtain ⟨u, g1, g2⟩ := RVs.get (i := i) h3 (by simpa using e)
      exact ⟨u, by simpa using g1, g2⟩
theorem RVs.set {d : D} {v : V} (hv : RV K w H v d) : ∀ {ds : List D} {vs : List V} (i : Nat), RVs K w H vs ds → RVs K w H (vs.set i v) (ds.set i d)
  | [], _, _, h => by simp only [RVs] at h; subst h; simp [RVs]
  | e :: ds, vs, i, h => by
    simp only [RVs] at h
    obtain ⟨u, r, h1, h2, h3⟩ := h
    subst h1
    cases i with
    | zero => simp only [List.set_cons_zero, RVs]; exact ⟨v, r, rfl, hv, h3⟩
    | succ i => simp only [List.set_cons_succ, RVs]; exact ⟨u, _, rfl, h2, RVs.set hv i h3⟩
theorem RVs.drop : ∀ {ds : List D} {vs : List V} (n : Nat), RVs K w H vs ds → RVs K w H (vs.drop n) (ds.drop n)
  | _, _, 0, h => h
  | [], _, _ + 1, h => by simp only [RVs] at h; subst h; simp [RVs]
  | e :: ds, vs, n + 1, h => by
    simp only [RVs] at h
    obtain ⟨u, r, h1, h2, h3⟩ := h
    subst h1
    exact RVs.drop n h3
theorem RVs.take : ∀ {ds : List D} {vs : List V} (n : Nat), RVs K w H vs ds → RVs K w H (vs.take n) (ds.take n)
  | _, _, 0, h => by simp [RVs]
  | [], _, _ + 1, h => by simp only [RVs] at h; subst h; simp [RVs]
  | e :: ds, vs, n + 1, h => by
    simp only [RVs] at h
    obtain ⟨u, r, h1, h2, h3⟩ := h
    subst h1
    simp only [List.take_succ_cons, RVs]
    exact ⟨u, _, rfl, h2, RVs.take n h3⟩
theorem RVs.rep {ds : List D} {vs : List V} (h : RVs K w H vs ds) : ∀ k : Nat, RVs K w H (List.replicate k vs).flatten (List.replicate k ds).flatten
  | 0 => by simp [RVs]
  | k + 1 => by
    simp only [List.replicate_succ, List.flatten_cons]
    exact h.append (RVs.rep h k)
theorem RVs.atI {ds : List D} {vs : List V} {i : Int} {d : D} (h : RVs K w H vs ds) (e : L2.atI ds i = some d) : ∃ v, L2.atI vs i = some v ∧ RV K w H v d := by
  unfold L2.atI at e ⊢
  rw [h.length]
  cases q : ixN ds.length i with
  | none => rw [q] at e; cases e
  | some j =>
    rw [q] at e
    exact RVs.get h e

/-- the store -/
structure RF (G : Gx) (w : Wd) (H : Hp) (fv : List (Str × V)) (fs : List (Str × D)) : Prop where
  ks : fv.map (·.1) = fs.map (·.1)
  vs : RVs G.K w H (fv.map (·.2)) (fs.map (·.2))
def ROb (G : Gx) (w : Wd) (H : Hp) (a : Addr) : Ob → Prop
  | .lst l => ∃ vs, H a = some (.lst vs) ∧ RVs G.K w H vs l
  | .dct ks ds => ∃ kvs, H a = some (.dK kvs) ∧ kvs.map (·.1) = ks ∧ RVs G.K w H (kvs.map (·.2)) ds
  | .ins c fs => ∃ C dx fv, G.cls c = some C ∧ H a = some (.ins C dx fv) ∧ RF G w H fv fs ∧ Cls G.K C ∧ ∀ f ∈ fs.map (·.1), NoAttr G.K C f
  | .fdct ks ds => ∃ o kvs, H a = some (.frz o (.dK kvs)) ∧ kvs.map (·.1) = ks ∧ RVs G.K w H (kvs.map (·.2)) ds
structure RSt (G : Gx) (w : Wd) (S : Sto) (H : Hp) : Prop where
  len : w.ρ.length = S.length
  ob : ∀ (n : Nat) (o : Ob), S[n]? = some o → ∃ a, w.ρ[n]? = some a ∧ ROb G w H a o
  phi : ∀ a, w.Φ a → H a ≠ none ∧ NT (H a)
  tab : LamX.Tabs G.tabs H
theorem ROb.nt {G : Gx} {a : Addr} {o : Ob} (h : ROb G w H a o) : NT (H a) := by
  cases o with
  | lst l => obtain ⟨vs, h, _⟩ := h; rw [h]; exact nt_lst
  | dct ks ds => obtain ⟨vs, h, _⟩ := h; rw [h]; exact nt_dK
  | ins c fs => obtain ⟨C, dx, fv, _, h, _⟩ := h; rw [h]; exact nt_ins
  | fdct ks ds => obtain ⟨o, vs, h, _⟩ := h; rw [h]; exact nt_frz
theorem ROb.ne {G : Gx} {a : Addr} {o : Ob} (h : ROb G w H a o) : H a ≠ none := by
  cases o with
  | lst l => obtain ⟨vs, h, _⟩ := h; rw [h]; exact fun z => nomatch z
  | dct ks ds => obtain ⟨vs, h, _⟩ := h; rw [h]; exact fun z => nomatch z
  | ins c fs => obtain ⟨C, dx, fv, _, h, _⟩ := h; rw [h]; exact fun z => nomatch z
  | fdct ks ds => obtain ⟨o, vs, h, _⟩ := h; rw [h]; exact fun z => nomatch z
theorem RSt.rho {G : Gx} {S : Sto} (r : RSt G w S H) : ∀ a ∈ w.ρ, H a ≠ none := fun a h => by
  obtain ⟨n, hn, e⟩ := List.mem_iff_getElem.mp h
  have hs : n < S.length := by rw [← r.len]; exact hn
  obtain ⟨b, e1, h1⟩ := r.ob n S[n] (by simp [hs])
  have : a = b := by rw [List.getElem?_eq_getElem hn] at e1; rw [← e]; exact Option.some.inj e1
  subst this
  exact h1.ne
/-- an object whose own content is what it was -/
theorem ROb.exts {G : Gx} {a : Addr} {o : Ob} (e : ExtS w H w' H') (h : ROb G w H a o) (k : H' a = H a) : ROb G w' H' a o := by
  cases o with
  | lst l => obtain ⟨vs, h1, h2⟩ := h; exact ⟨vs, k.trans h1, RVs.exts e _ _ h2⟩
  | dct ks ds => obtain ⟨vs, h1, h2, h3⟩ := h; exact ⟨vs, k.trans h1, h2, RVs.exts e _ _ h3⟩
  | ins c fs => obtain ⟨C, dx, fv, h1, h2, h3, h4⟩ := h; exact ⟨C, dx, fv, h1, k.trans h2, ⟨h3.ks, RVs.exts e _ _ h3.vs⟩, h4⟩
  | fdct ks ds => obtain ⟨o, vs, h1, h2, h3⟩ := h; exact ⟨o, vs, k.trans h1, h2, RVs.exts e _ _ h3⟩
theorem ROb.ext {G : Gx} {a : Addr} {o : Ob} (e : Ext w H w' H') (h : ROb G w H a o) (k : H' a = H a) : ROb G w' H' a o := h.exts e.toS k

theorem nf_of {a : Addr} {o : HO} (h : H a = some o) (d : ∀ ob u, o ≠ .frz ob u := by exact fun _ _ z => nomatch z) : ∀ ob u, H a ≠ some (.frz ob u) := fun ob u z => by
  rw [h] at z
  exact d ob u (Option.some.inj z)
theorem OwnAt.nf {K : PySem.W.Frag} {w : Wd} {H : Hp} {a : Addr} {d : D} (h : OwnAt K w H a d) : ∀ ob u, H a ≠ some (.frz ob u) := by
  cases d <;> try exact h.elim
  · obtain ⟨vs, h, _⟩ := h; exact nf_of h
  · obtain ⟨vs, h, _⟩ := h; exact nf_of h
/-- the frame: H0 the heap at the def's entry (what an own list's address was not in) -/
def RSl (K : PySem.W.Frag) (w : Wd) (H0 H : Hp) : Option (Option V) → Sl → Prop
  | _, .un => True
  | o, .val d => ∃ v, o = some (some v) ∧ RV K w H v d
  | o, .own d => ∃ a, o = some (some (.ref a)) ∧ OwnAt K w H a d ∧ a ∉ w.ρ ∧ ¬ w.Φ a ∧ H0 a = none
structure REn (K : PySem.W.Frag) (w : Wd) (H0 : Hp) (σ : St) (H : Hp) (ε : Env) : Prop where
  len : σ.length = ε.length
  sl : ∀ (i : Nat) (s : Sl), ε[i]? = some s → RSl K w H0 H σ[i]? s
  ap : ∀ (i j : Nat) (d e : D) (a : Addr), i ≠ j → ε[i]? = some (.own d) → ε[j]? = some (.own e) → σ[i]? = some (some (.ref a)) → σ[j]? ≠ some (some (.ref a))
theorem RSl.ext {H0 : Hp} {o : Option (Option V)} {s : Sl} (e : Ext w H w' H') (h : RSl K w H0 H o s) : RSl K w' H0 H' o s := by
  cases s with
  | un => trivial
  | val d => obtain ⟨v, h1, h2⟩ := h; exact ⟨v, h1, RV.ext e _ _ h2⟩
  | own d =>
    obtain ⟨a, h2, h3, h5, h6, h7⟩ := h
    refine ⟨a, h2, h3.ext e h5, fun z => ?_, fun z => ?_, h7⟩
    · obtain ⟨t, et, ht⟩ := e.ρ
      rw [et] at z
      rcases List.mem_append.mp z with z | z
      · exact h5 z
      · exact h3.ne (ht a z)
    · rcases e.new a z with z | z
      · exact h6 z
      · exact h3.ne z
theorem REn.ext {H0 : Hp} {σ : St} {ε : Env} (e : Ext w H w' H') (h : REn K w H0 σ H ε) : REn K w' H0 σ H' ε :=
  ⟨h.len, fun i s q => (h.sl i s q).ext e, h.ap⟩

/-- a new immutable object -/
def Wd.imm (w : Wd) (p : Addr) (h : p ∉ w.ρ) : Wd := ⟨w.ρ, fun a => w.Φ a ∨ a = p, fun a ha z => by
  rcases z with z | z
  · exact w.dis a ha z
  · exact h (z ▸ ha), w.nd⟩
def Wd.obj (w : Wd) (p : Addr) (h : p ∉ w.ρ) (g : ¬ w.Φ p) : Wd := ⟨w.ρ ++ [p], w.Φ, fun a ha z => by
  rcases List.mem_append.mp ha with q | q
  · exact w.dis a q z
  · exact g ((List.mem_singleton.mp q) ▸ z), List.nodup_append.mpr ⟨w.nd, List.nodup_cons.mpr ⟨by simp, List.nodup_nil⟩, fun a ha b hb => by
    rintro rfl
    exact h ((List.mem_singleton.mp hb) ▸ ha)⟩⟩
variable {G : Gx} {S : Sto}
theorem RSt.fresh (r : RSt G w S H) {p : Addr} (h : H p = none) : p ∉ w.ρ ∧ ¬ w.Φ p := ⟨fun z => r.rho p z h, fun z => (r.phi p z).1 h⟩
theorem dom_upd {p : Addr} {o : HO} : ∀ a, H a ≠ none → upd H p o a ≠ none := fun a h => by
  by_cases e : a = p
  · subst e; rw [upd_same]; exact fun z => nomatch z
  · rw [upd_ne e]; exact h
theorem fz_upd {p : Addr} {o : HO} (h : ∀ ob u, H p ≠ some (.frz ob u)) : ∀ a ob u, H a = some (.frz ob u) → upd H p o a = some (.frz ob u) := fun a ob u q => by
  have e : a ≠ p := fun z => h ob u (by rw [← z]; exact q)
  rw [upd_ne e]; exact q
/-- what is no table may be laid at a place -/
def NTo (o : HO) : Prop := NT (some o)
theorem ext_imm (r : RSt G w S H) {p : Addr} {o : HO} (h : H p = none) : Ext w H (w.imm p (r.fresh h).1) (upd H p o) :=
  ⟨⟨[], by simp [Wd.imm], fun _ z => by simp at z⟩, fun a q => .inl q, fun a q => by
    rcases q with q | q
    · exact .inl q
    · exact .inr (q ▸ h), fun a u q _ _ => by
    by_cases e : a = p
    · subst e; rw [h] at q; cases q
    · rw [upd_ne e]; exact q, dom_upd, fz_upd (by rw [h]; exact fun _ _ z => nomatch z)⟩
theorem rst_imm (r : RSt G w S H) {p : Addr} {o : HO} (h : H p = none) (no : NTo o := by first | exact nt_lst | exact nt_tup | exact nt_dK | exact nt_frz) : RSt G (w.imm p (r.fresh h).1) S (upd H p o) :=
  ⟨r.len, fun n ob q => by
    obtain ⟨a, e, k⟩ := r.ob n ob q
    refine ⟨a, e, k.ext (ext_imm r h) (upd_ne fun z => ?_)⟩
    subst z
    exact k.ne h, fun a q => by
    by_cases e : a = p
    · subst e; rw [upd_same]; exact And.intro (fun z => nomatch z) no
    · rw [upd_ne e]
      rcases q with q | q
      · exact r.phi a q
      · exact absurd q e, tabs_upd r.tab (by rw [h]; exact nt_none)⟩
/-- a new object that nobody will keep (a list looked at): the heap alone -/
theorem ext_tmp {p : Addr} {o : HO} (h : H p = none) : Ext w H w (upd H p o) :=
  ⟨⟨[], by simp, fun _ z => by simp at z⟩, fun a q => q, fun a q => .inl q, fun a u q _ _ => by
    by_cases e : a = p
    · subst e; rw [h] at q; cases q
    · rw [upd_ne e]; exact q, dom_upd, fz_upd (by rw [h]; exact fun _ _ z => nomatch z)⟩
theorem rst_tmp (r : RSt G w S H) {p : Addr} {o : HO} (h : H p = none) (no : NTo o := by first | exact nt_lst | exact nt_tup | exact nt_dK | exact nt_frz) : RSt G w S (upd H p o) :=
  ⟨r.len, fun n ob q => by
    obtain ⟨a, e, k⟩ := r.ob n ob q
    refine ⟨a, e, k.ext (ext_tmp h) (upd_ne fun z => ?_)⟩
    subst z
    exact k.ne h, fun a q => by
    by_cases e : a = p
    · subst e; rw [upd_same]; exact And.intro (fun z => nomatch z) no
    · rw [upd_ne e]; exact r.phi a q, tabs_upd r.tab (by rw [h]; exact nt_none)⟩
theorem rv_tup (r : RSt G w S H) {p : Addr} {vs : List V} {ds : List D} (h : H p = none) (hv : RVs G.K w H vs ds) : RV G.K (w.imm p (r.fresh h).1) (upd H p (.tup vs)) (.ref p) (.tup ds) := by
  simp only [RV]
  exact ⟨p, vs, rfl, .inl ⟨.inr rfl, .inl upd_same⟩, RVs.ext (ext_imm r h) _ _ hv⟩
theorem rv_lst (r : RSt G w S H) {p : Addr} {vs : List V} {ds : List D} (h : H p = none) (hv : RVs G.K w H vs ds) : RV G.K (w.imm p (r.fresh h).1) (upd H p (.lst vs)) (.ref p) (.lst ds) := by
  simp only [RV]
  exact ⟨p, vs, rfl, ⟨.inr rfl, .inl upd_same⟩, RVs.ext (ext_imm r h) _ _ hv⟩
theorem rv_dct (r : RSt G w S H) {p : Addr} {ob : Obj} {kvs : List (Key × V)} {ks : List Key} {ds : List D} (h : H p = none) (hk : kvs.map (·.1) = ks) (hv : RVs G.K w H (kvs.map (·.2)) ds) : RV G.K (w.imm p (r.fresh h).1) (upd H p (.frz ob (.dK kvs))) (.ref p) (.dct ks ds) := by
  simp only [RV]
  exact ⟨p, ob, kvs, rfl, .inr rfl, upd_same, hk, RVs.ext (ext_imm r h) _ _ hv⟩
theorem ext_obj (r : RSt G w S H) {p : Addr} {o : HO} (h : H p = none) : Ext w H (w.obj p (r.fresh h).1 (r.fresh h).2) (upd H p o) :=
  ⟨⟨[p], rfl, fun a z => (List.mem_singleton.mp z) ▸ h⟩, fun a q => q, fun a q => .inl q, fun a u q _ _ => by
    by_cases e : a = p
    · subst e; rw [h] at q; cases q
    · rw [upd_ne e]; exact q, dom_upd, fz_upd (by rw [h]; exact fun _ _ z => nomatch z)⟩
/-- what a new object of the store is -/
def NewO (G : Gx) (w : Wd) (H : Hp) : HO → Ob → Prop
  | .lst vs, .lst l => RVs G.K w H vs l
  | .dK kvs, .dct ks ds => kvs.map (·.1) = ks ∧ RVs G.K w H (kvs.map (·.2)) ds
  | _, _ => False
theorem rst_objO (r : RSt G w S H) {p : Addr} {o : HO} {ob : Ob} (h : H p = none) (hv : NewO G w H o ob) : RSt G (w.obj p (r.fresh h).1 (r.fresh h).2) (S ++ [ob]) (upd H p o) :=
  ⟨by simp [Wd.obj, r.len], fun n u q => by
    by_cases hn : n < S.length
    · rw [List.getElem?_append_left hn] at q
      obtain ⟨a, e, k⟩ := r.ob n u q
      refine ⟨a, (ext_obj (o := o) r h).at e, k.ext (ext_obj r h) (upd_ne fun z => ?_)⟩
      subst z
      exact k.ne h
    · have hn' : n = S.length := by
        have := (List.getElem?_eq_some_iff.mp q).1
        simp at this
        omega
      subst hn'
      simp at q
      subst q
      refine ⟨p, ?_, ?_⟩
      · show (w.ρ ++ [p])[S.length]? = some p
        rw [← r.len]
        simp
      · cases o <;> cases ob <;> try exact hv.elim
        · exact ⟨_, upd_same, RVs.ext (ext_obj r h) _ _ hv⟩
        · exact ⟨_, upd_same, hv.1, RVs.ext (ext_obj r h) _ _ hv.2⟩, fun a q => by
    by_cases e : a = p
    · subst e; exact absurd q (r.fresh h).2
    · rw [upd_ne e]; exact r.phi a q, tabs_upd r.tab (by rw [h]; exact nt_none)⟩
theorem rst_obj (r : RSt G w S H) {p : Addr} {vs : List V} {ds : List D} (h : H p = none) (hv : RVs G.K w H vs ds) : RSt G (w.obj p (r.fresh h).1 (r.fresh h).2) (S ++ [.lst ds]) (upd H p (.lst vs)) := rst_objO r (ob := .lst ds) h hv
theorem rv_obj (r : RSt G w S H) {p : Addr} {o : HO} (h : H p = none) : RV G.K (w.obj p (r.fresh h).1 (r.fresh h).2) (upd H p o) (.ref p) (.ref S.length) := by
  simp only [RV]
  refine ⟨p, ?_, rfl⟩
  show (w.ρ ++ [p])[S.length]? = some p
  rw [← r.len]
  simp

theorem Ext.out (e : Ext w H w' H') {a : Addr} (h : H a ≠ none) (n : a ∉ w.ρ) : a ∉ w'.ρ := fun z => by
  obtain ⟨t, et, ht⟩ := e.ρ
  rw [et] at z
  rcases List.mem_append.mp z with z | z
  · exact n z
  · exact h (ht a z)
theorem Ext.outΦ (e : Ext w H w' H') {a : Addr} (h : H a ≠ none) (n : ¬ w.Φ a) : ¬ w'.Φ a := fun z => by
  rcases e.new a z with z | z
  · exact n z
  · exact h z
/-- an own list becomes a value -/
theorem exts_own {p : Addr} (hp : p ∉ w.ρ) : ExtS w H (w.imm p hp) H := ⟨⟨[], by simp [Wd.imm]⟩, fun a q => .inl q, fun a o _ h _ => h, fun _ _ _ h => h⟩
theorem rst_own (r : RSt G w S H) {p : Addr} (hp : p ∉ w.ρ) (hn : H p ≠ none ∧ NT (H p)) : RSt G (w.imm p hp) S H :=
  ⟨r.len, fun n ob q => by
    obtain ⟨a, e, k⟩ := r.ob n ob q
    exact ⟨a, e, k.exts (exts_own hp) rfl⟩, fun a q => by
    rcases q with q | q
    · exact r.phi a q
    · rw [q]; exact hn, r.tab⟩
/-- an own list changes -/
theorem exts_upd {p : Addr} {o : HO} (hp : ¬ w.Φ p) (hf : ∀ ob u, H p ≠ some (.frz ob u)) : ExtS w H w (upd H p o) := ⟨⟨[], by simp⟩, fun a q => q, fun a u q h _ => by
  rw [upd_ne (fun z => by subst z; exact hp q)]; exact h, fz_upd hf⟩
theorem rst_upd (r : RSt G w S H) {p : Addr} {o : HO} (hp : p ∉ w.ρ) (hq : ¬ w.Φ p) (hk : NT (H p)) (hf : ∀ ob u, H p ≠ some (.frz ob u)) : RSt G w S (upd H p o) :=
  ⟨r.len, fun n ob q => by
    obtain ⟨a, e, k⟩ := r.ob n ob q
    refine ⟨a, e, k.exts (exts_upd hq hf) (upd_ne fun z => ?_)⟩
    subst z
    exact hp (List.mem_of_getElem? e), fun a q => by
    by_cases e : a = p
    · subst e; exact absurd q hq
    · rw [upd_ne e]; exact r.phi a q, tabs_upd r.tab hk⟩
/-- an object of the store changes -/
theorem exts_obj {p : Addr} {o : HO} (hp : p ∈ w.ρ) (hf : ∀ ob u, H p ≠ some (.frz ob u)) : ExtS w H w (upd H p o) := exts_upd (w.dis p hp) hf
theorem ext_set {p : Addr} {o : HO} (hp : p ∈ w.ρ) (hf : ∀ ob u, H p ≠ some (.frz ob u)) : Ext w H w (upd H p o) := ⟨⟨[], by simp, fun _ z => by simp at z⟩, fun a q => q, fun a q => .inl q, fun a u q n _ => by
  rw [upd_ne (fun z => by subst z; exact n hp)]; exact q, dom_upd, fz_upd hf⟩
theorem rst_setO (r : RSt G w S H) {p : Addr} {n : Nat} {o : HO} {nb : Ob} (e : w.ρ[n]? = some p) (hn : n < S.length) (hv : ROb G w (upd H p o) p nb) (hf : ∀ ob u, H p ≠ some (.frz ob u)) : RSt G w (S.set n nb) (upd H p o) := by
  have hp : p ∈ w.ρ := List.mem_of_getElem? e
  have hkk : NT (H p) := by
    obtain ⟨b, e1, h1⟩ := r.ob n S[n] (by simp [hn])
    rw [e] at e1
    cases e1
    exact h1.nt
  refine ⟨by simp [r.len], fun m ob q => ?_, fun a q => ?_, tabs_upd r.tab hkk⟩
  · by_cases hm : n = m
    · subst hm
      rw [List.getElem?_set_self hn] at q
      cases q
      exact ⟨p, e, hv⟩
    · rw [List.getElem?_set_ne hm] at q
      obtain ⟨a, e', k⟩ := r.ob m ob q
      refine ⟨a, e', k.exts (exts_obj hp hf) (upd_ne fun z => hm ?_)⟩
      subst z
      have h1 := List.getElem?_eq_some_iff.mp e
      have h2 := List.getElem?_eq_some_iff.mp e'
      exact (List.getElem_inj w.nd).mp (h1.2.trans h2.2.symm)
  · by_cases z : a = p
    · subst z; exact absurd q (w.dis a hp)
    · rw [upd_ne z]; exact r.phi a q
theorem rst_set (r : RSt G w S H) {p : Addr} {n : Nat} {vs : List V} {l : List D} (e : w.ρ[n]? = some p) (hn : n < S.length) (hv : RVs G.K w H vs l) (hf : ∀ ob u, H p ≠ some (.frz ob u)) : RSt G w (S.set n (.lst l)) (upd H p (.lst vs)) :=
  rst_setO r e hn ⟨vs, upd_same, RVs.exts (exts_obj (List.mem_of_getElem? e) hf) _ _ hv⟩ hf
theorem rst_setD (r : RSt G w S H) {p : Addr} {n : Nat} {kvs : List (Key × V)} {ks : List Key} {ds : List D} (e : w.ρ[n]? = some p) (hn : n < S.length) (hk : kvs.map (·.1) = ks) (hv : RVs G.K w H (kvs.map (·.2)) ds) (hf : ∀ ob u, H p ≠ some (.frz ob u)) : RSt G w (S.set n (.dct ks ds)) (upd H p (.dK kvs)) :=
  rst_setO r e hn ⟨kvs, upd_same, hk, RVs.exts (exts_obj (List.mem_of_getElem? e) hf) _ _ hv⟩ hf
end
end BX
set_option Elab.async false
set_option linter.all false
set_option maxRecDepth 100000
set_option maxHeartbeats 2000000
/-! BX3: the operators. -/
namespace BX
open PySem L2 PyProof.Rows

section
variable {K : PySem.W.Frag} {w w' : Wd} {H H' : Hp} {v : V}
theorem RO.non (h : RO K w H v .non) : v = .non := by
  rcases h with h | ⟨a, _, _, h⟩
  · simpa [RV] using h
  · exact h.elim
theorem RO.bl {b : Bool} (h : RO K w H v (.bl b)) : v = .bl b := by
  rcases h with h | ⟨a, _, _, h⟩
  · simpa [RV] using h
  · exact h.elim
theorem RO.int {i : Int} (h : RO K w H v (.int i)) : v = .int i := by
  rcases h with h | ⟨a, _, _, h⟩
  · simpa [RV] using h
  · exact h.elim
theorem RO.str {x : Str} (h : RO K w H v (.str x)) : v = .str x := by
  rcases h with h | ⟨a, _, _, h⟩
  · simpa [RV] using h
  · exact h.elim
theorem ImT.sq {a : Addr} {vs : List V} (h : ImT K w H a vs) : SqT K H a vs := by
  rcases h with ⟨_, h⟩ | h
  · exact .inl h
  · exact .inr h
theorem RO.tup {l : List D} (h : RO K w H v (.tup l)) : RV K w H v (.tup l) ∧ ∃ a vs, v = .ref a ∧ SqT K H a vs ∧ RVs K w H vs l := by
  rcases h with h | ⟨a, _, _, h⟩
  · refine ⟨h, ?_⟩
    simp only [RV] at h
    obtain ⟨a, vs, h1, h2, h3⟩ := h
    exact ⟨a, vs, h1, h2.sq, h3⟩
  · exact h.elim
theorem RO.lst {l : List D} (h : RO K w H v (.lst l)) : ∃ a vs, v = .ref a ∧ Rd H a (.lst vs) ∧ RVs K w H vs l := by
  rcases h with h | ⟨a, h1, h2, vs, h3, h5⟩
  · simp only [RV] at h
    obtain ⟨a, vs, h1, h2, h3⟩ := h
    exact ⟨a, vs, h1, h2.2, h3⟩
  · exact ⟨a, vs, h1, .inl h3, h5⟩
theorem RO.dct {ks : List Key} {ds : List D} (h : RO K w H v (.dct ks ds)) : ∃ a kvs, v = .ref a ∧ Rd H a (.dK kvs) ∧ kvs.map (·.1) = ks ∧ RVs K w H (kvs.map (·.2)) ds := by
  rcases h with h | ⟨a, h1, h2, kvs, h3, h4, h5⟩
  · simp only [RV] at h
    obtain ⟨a, o, kvs, h1, h2, h3, h4, h5⟩ := h
    exact ⟨a, kvs, h1, .inr ⟨o, h3⟩, h4, h5⟩
  · exact ⟨a, kvs, h1, .inl h3, h4, h5⟩
theorem RO.obj {fs : List Str} {ds : List D} (h : RO K w H v (.obj fs ds)) : ∃ a C dx fv, v = .ref a ∧ H a = some (.ins C dx fv) ∧ Cls K C ∧ (∀ f ∈ fs, NoAttr K C f) ∧ fv.map (·.1) = fs ∧ RVs K w H (fv.map (·.2)) ds := by
  rcases h with h | ⟨a, _, _, h⟩
  · simp only [RV] at h
    obtain ⟨a, C, dx, fv, h1, h2, h3, h4, h5, h6, h7⟩ := h
    exact ⟨a, C, dx, fv, h1, h3, h4, h5, h6, h7⟩
  · exact h.elim
theorem RO.refn {n : Nat} (h : RO K w H v (.ref n)) : ∃ a, w.ρ[n]? = some a ∧ v = .ref a := by
  rcases h with h | ⟨a, _, _, h⟩
  · simpa only [RV] using h
  · exact h.elim
theorem ImS.sq {a : Addr} {vs : List V} (h : ImS K w H a vs) : SqL K H a vs := by
  rcases h with ⟨_, h⟩ | h
  · exact .inl h
  · exact .inr h
theorem RO.scr {l : List D} (h : RO K w H v (.scr l)) : ∃ a vs, v = .ref a ∧ SqL K H a vs ∧ RVs K w H vs l := by
  rcases h with h | ⟨a, _, _, h⟩
  · simp only [RV] at h
    obtain ⟨a, vs, h1, h2, h3⟩ := h
    exact ⟨a, vs, h1, h2.sq, h3⟩
  · exact h.elim
@[simp] theorem RV_int {i : Int} : RV K w H (.int i) (.int i) := by simp [RV]
@[simp] theorem RV_bl {i : Bool} : RV K w H (.bl i) (.bl i) := by simp [RV]
@[simp] theorem RV_str {i : Str} : RV K w H (.str i) (.str i) := by simp [RV]
@[simp] theorem RV_non : RV K w H .non .non := by simp [RV]
end

/-- the answer of a value-level rule -/
def An (G : Gx) (w : Wd) (S : Sto) (H : Hp) (d : D) (Q : VK) : Prop := ∀ w' H' v, Ext w H w' H' → RSt G w' S H' → RV G.K w' H' v d → Q v H'
def rD2 (G : Gx) (f : D → D → Option D) : R2 := fun x y H Q => ∃ w S a b d, RSt G w S H ∧ RO G.K w H x a ∧ RO G.K w H y b ∧ f a b = some d ∧ An G w S H d Q
section
variable {G : Gx} {w : Wd} {S : Sto} {H : Hp} {d : D} {Q : VK}
theorem An.here {v : V} (q : An G w S H d Q) (hS : RSt G w S H) (h : RV G.K w H v d) : Q v H := q w H v Ext.refl hS h
theorem An.tup {p : Addr} {vs : List V} {ds : List D} (q : An G w S H (.tup ds) Q) (hS : RSt G w S H) (hp : H p = none) (h : RVs G.K w H vs ds) : Q (.ref p) (upd H p (.tup vs)) :=
  q _ _ _ (ext_imm hS hp) (rst_imm hS hp) (rv_tup hS hp h)
theorem An.lst {p : Addr} {vs : List V} {ds : List D} (q : An G w S H (.lst ds) Q) (hS : RSt G w S H) (hp : H p = none) (h : RVs G.K w H vs ds) : Q (.ref p) (upd H p (.lst vs)) :=
  q _ _ _ (ext_imm hS hp) (rst_imm hS hp) (rv_lst hS hp h)
end

section
variable {X : Cx}
def rCatR : R2 := fun x y H Q => ∃ l b xs zs, x = .ref l ∧ y = .ref b ∧ Rd H l (.lst xs) ∧ Rd H b (.lst zs) ∧ xs.length + zs.length ≤ sizeLine ∧ ∀ p, H p = none → Q (.ref p) (upd H p (.lst (xs ++ zs)))
theorem op_catR : OpR X (binaryOp .Add) rCatR := by
  intro pins s σ H x y v u Q I rx ry h
  obtain ⟨l, b, xs, zs, rfl, rfl, hH, hB, hz, q⟩ := h
  cases rx
  cases ry
  obtain ⟨z, its, n, r, e⟩ := hH.ok I.hok
  obtain ⟨z2, its2, n2, r2, e2⟩ := hB.ok I.hok
  have hl := r.length
  have hl2 := r2.length
  refine PySem.P.add_list e e2 ?_ (by rw [List.size_toArray, List.size_toArray]; omega)
  have ea : its.toArray ++ its2.toArray = (its ++ its2).toArray := by simp
  rw [ea]
  exact ⟨.ref _, _, I.lnew (t' := s.toks) (r.append r2) (by rw [List.length_append]; omega), rfl, q _ I.fresh⟩
theorem op_catT0 : OpR X (binaryOp .Add) (fun x y H Q => ∃ a b ys, x = .ref a ∧ y = .ref b ∧ SqT X.K H a [] ∧ SqT X.K H b ys ∧ Q (.ref b) H) := by
  intro pins s σ H x y v u Q I rx ry h
  obtain ⟨a, b, ys, rfl, rfl, ha, hb, q⟩ := h
  cases rx
  cases ry
  obtain ⟨its, r1, p1, _⟩ := I.tuple ha
  obtain ⟨its2, r2, p2, _⟩ := I.tuple hb
  cases r1
  obtain ⟨⟨cls, dd, data, sl⟩, ho, hc, n, hd⟩ := id p1
  obtain ⟨⟨cls2, dd2, data2, sl2⟩, ho2, hc2, n2, hd2⟩ := id p2
  simp only at hc hd hc2 hd2
  subst hc hd hc2 hd2
  exact concat_meets ⟨_, ho, rfl⟩ ⟨_, ho2, rfl⟩ noFill_tuple_add seq_tuple_add PySem.F.slot_tuple_add PySem.F.entry_tuple_add (PySem.F.args_tuple_add_2 _ _)
      (tuple_addW0 a b _ _ n n2 dd dd2 sl sl2 (by rfl)) ⟨ho, ho2, ⟨.ref b, H, I, rfl, q⟩⟩
/-- the operator's name -/
def bopN : BOp → Operator
  | .add => .Add | .sub => .Sub | .mul => .Mult | .fdiv => .FloorDiv | .mod => .Mod | .pow => .Pow | .shl => .LShift | .shr => .RShift
theorem mulOk_ok {i j : Int} (h : mulOk i j = true) : IntMulOk i j := by
  unfold mulOk at h
  rcases of_decide_eq_true h with h | h | h
  · exact CMul.ok (.inl h)
  · exact CMul.ok (.inr h)
  · exact CMulW.ok h
theorem op_mulD : OpR X (binaryOp .Mult) (rI (fun i j => mulOk i j = true) fun i j => .int (i * j)) := opI fun _ _ _ _ _ _ _ hc q => mul_int q (mulOk_ok hc)
theorem op_powD : OpR X (binaryOp .Pow) (rI (fun i j => 0 ≤ j ∧ j ≤ 1000000 ∧ (Builtin.Int.intBits i : Int) * j ≤ 2 ^ 27) fun i j => .int (i ^ j.toNat)) := opI fun _ _ _ _ _ _ _ hc q => pow_int hc.1 hc.2.2 q
def rRep : R2 := fun x y H Q => ∃ a vs k, x = .ref a ∧ y = .int k ∧ Rd H a (.lst vs) ∧ -(2 ^ 63) ≤ k ∧ k < 2 ^ 63 ∧ vs.length * k.toNat ≤ sizeLine ∧ ∀ p, H p = none → Q (.ref p) (upd H p (.lst (List.replicate k.toNat vs).flatten))
theorem op_rep : OpR X (binaryOp .Mult) rRep := by
  intro pins s σ H x y v u Q I rx ry h
  obtain ⟨a, vs, k, rfl, rfl, hr, h1, h2', hz, q⟩ := h
  cases rx
  obtain ⟨t, rfl⟩ := ry
  obtain ⟨z, its, n, r, e⟩ := hr.ok I.hok
  have hl := r.length
  have hlen : its.toArray.size * k.toNat ≤ sizeLine := by rw [List.size_toArray, ← hl]; exact hz
  have hcap : ¬ its.toArray.size * k.toNat > (2 ^ 63 - 1) / 8 := by
    have : (sizeLine : Nat) ≤ (2 ^ 63 - 1) / 8 := by decide
    omega
  have hfit : ¬ (!Builtin.List.listFitsIndex k) = true := by
    rw [fitsIndex_both h1 h2']
    exact Bool.false_ne_true
  have hlong : ¬ Builtin.List.listTooLong (its.toArray.size * k.toNat) = true := by
    rw [notLongL hlen]
    exact Bool.false_ne_true
  have hnew : List.foldl (fun x1 x2 => x1 ++ x2) #[] (List.replicate (if its.toArray.isEmpty = true then 0 else k.toNat) its.toArray) = (List.replicate k.toNat its).flatten.toArray := by
    have f0 : ∀ m : Nat, List.foldl (fun x1 x2 => x1 ++ x2) #[] (List.replicate m its.toArray) = (List.replicate m its).flatten.toArray := fun m => by
      have := foldl_rep its m []
      rw [List.nil_append] at this
      exact this
    rw [f0]
    cases its with
    | nil => simp
    | cons a r' => rw [if_neg (by simp)]
  refine wpAny_binaryOp_repeat_ref (T := "list") (U := "int") (by decide) ⟨_, e, rfl⟩ (fun s' => typeIs_int s' k t) noFill_list_mul F.fills_int_mul F.slot_int_rmul repeat_list F.slot_int_index.lookup
    (call_meets F.slot_int_rmul (typeIs_int s k t) F.entry_int_rmul (F.args_int_rmul_2 _ _) (int___rmul___int_list k t a its.toArray n)
      ⟨e, rfl, ⟨_, e, rfl⟩, call_meets F.slot_list_mul ⟨_, e, rfl⟩ F.entry_list_mul (F.args_list_mul_2 _ _) (AutoListH.list___mul___list_int_3 a its.toArray n k t hfit hcap hlong) ⟨e, ?_⟩⟩)
  rw [hnew]
  exact ⟨.ref _, _, I.lnew (t' := s.toks) (r.rep k.toNat) (by rw [PyProof.Rows.lm_len_rep_flat, Nat.mul_comm]; exact hz), rfl, q _ I.fresh⟩
theorem rep_ok {G : Gx} (hK : G.K = X.K) : OpR X (binaryOp .Mult) (rD2 G fun a b => match a, b with
  | .lst x, .int k => if -(2 ^ 63) ≤ k ∧ k < 2 ^ 63 ∧ x.length * k.toNat ≤ sizeLine then some (.lst (List.replicate k.toNat x).flatten) else none
  | _, _ => none) := by
  intro pins s σ H x y v u Q I rx ry h
  obtain ⟨w, S, a, b, d, hS, ra, rb, hf, q⟩ := h
  dsimp only at hf
  split at hf
  · rename_i l k
    split at hf
    · rename_i hc
      cases hf
      obtain ⟨a, vs, rfl, h2, h3⟩ := ra.lst
      obtain rfl := rb.int
      obtain ⟨h1, h2', hz⟩ := hc
      exact op_rep pins s σ H _ _ v u Q I rx ry ⟨a, vs, k, rfl, rfl, h2, h1, h2', by rw [h3.length]; exact hz, fun p hp => q.lst hS hp (h3.rep _)⟩
    · cases hf
  · cases hf
theorem bin_ok {G : Gx} (hK : G.K = X.K) (o : BOp) : OpR X (binaryOp (bopN o)) (rD2 G (binF o)) := by
  intro pins s σ H x y v u Q I rx ry h
  obtain ⟨w, S, a, b, d, hS, ra, rb, hf, q⟩ := h
  unfold binF at hf
  split at hf
  · cases hf; obtain rfl := ra.int; obtain rfl := rb.int
    exact op_add pins s σ H _ _ v u Q I rx ry ⟨_, _, rfl, rfl, q.here hS RV_int⟩
  · split at hf
    · rename_i hc
      cases hf; obtain rfl := ra.str; obtain rfl := rb.str
      exact op_add_str pins s σ H _ _ v u Q I rx ry ⟨_, _, rfl, rfl, hc, q.here hS RV_str⟩
    · cases hf
  · split at hf
    · rename_i hc
      cases hf
      obtain ⟨r1, a, vs, rfl, h1, h2⟩ := ra.tup
      obtain ⟨r2, b, us, rfl, g1, g2⟩ := rb.tup
      rw [hK] at h1 g1
      by_cases e0 : vs = []
      · have e := h2.length
        rw [e0] at e
        have e := List.eq_nil_of_length_eq_zero e.symm
        subst e e0
        exact op_catT0 pins s σ H _ _ v u Q I rx ry ⟨a, b, us, rfl, rfl, h1, g1, q.here hS r2⟩
      · refine op_catT pins s σ H _ _ v u Q I rx ry ⟨a, b, vs, us, rfl, rfl, h1, g1, e0, by rw [h2.length, g2.length]; exact hc, fun z => ?_, fun _ p hp => q.tup hS hp (h2.append g2)⟩
        have e := g2.length
        rw [z] at e
        have e := List.eq_nil_of_length_eq_zero e.symm
        subst e
        rw [List.append_nil] at q
        exact q.here hS r1
    · cases hf
  · split at hf
    · rename_i hc
      cases hf
      obtain ⟨a, vs, rfl, h1, h2⟩ := ra.lst
      obtain ⟨b, us, rfl, g1, g2⟩ := rb.lst
      exact op_catR pins s σ H _ _ v u Q I rx ry ⟨a, b, vs, us, rfl, rfl, h1, g1, by rw [h2.length, g2.length]; exact hc, fun p hp => q.lst hS hp (h2.append g2)⟩
    · cases hf
  · cases hf; obtain rfl := ra.int; obtain rfl := rb.int
    exact op_sub pins s σ H _ _ v u Q I rx ry ⟨_, _, rfl, rfl, q.here hS RV_int⟩
  · split at hf
    · rename_i hc
      cases hf; obtain rfl := ra.int; obtain rfl := rb.int
      exact op_mulD pins s σ H _ _ v u Q I rx ry ⟨_, _, rfl, rfl, hc, q.here hS RV_int⟩
    · cases hf
  · exact rep_ok hK pins s σ H x y v u Q I rx ry ⟨w, S, _, _, d, hS, ra, rb, hf, q⟩
  · split at hf
    · rename_i hc
      cases hf; obtain rfl := ra.int; obtain rfl := rb.int
      exact op_fdivW pins s σ H _ _ v u Q I rx ry ⟨_, _, rfl, rfl, hc, q.here hS RV_int⟩
    · cases hf
  · split at hf
    · rename_i hc
      cases hf; obtain rfl := ra.int; obtain rfl := rb.int
      exact op_mod pins s σ H _ _ v u Q I rx ry ⟨_, _, rfl, rfl, hc, q.here hS RV_int⟩
    · cases hf
  · split at hf
    · rename_i hc
      cases hf; obtain rfl := ra.int; obtain rfl := rb.int
      exact op_powD pins s σ H _ _ v u Q I rx ry ⟨_, _, rfl, rfl, hc, q.here hS RV_int⟩
    · cases hf
  · split at hf
    · rename_i hc
      cases hf; obtain rfl := ra.int; obtain rfl := rb.int
      exact op_shl pins s σ H _ _ v u Q I rx ry ⟨_, _, rfl, rfl, hc, q.here hS RV_int⟩
    · cases hf
  · split at hf
    · rename_i hc
      cases hf; obtain rfl := ra.int; obtain rfl := rb.int
      exact op_shr pins s σ H _ _ v u Q I rx ry ⟨_, _, rfl, rfl, hc, q.here hS RV_int⟩
    · cases hf
  · cases hf
theorem neg_ok {G : Gx} : UnR X (unaryOp .USub) (fun x H Q => ∃ w S i, RSt G w S H ∧ RO G.K w H x (.int i) ∧ An G w S H (.int (-i)) Q) := by
  intro pins s σ H x v Q I rx h
  obtain ⟨w, S, i, hS, ra, q⟩ := h
  obtain rfl := ra.int
  exact un_neg pins s σ H _ v Q I rx ⟨_, rfl, q.here hS RV_int⟩

/-! ### comparisons -/
mutual
theorem RV.dp {K : PySem.W.Frag} {w : Wd} {H : Hp} : ∀ (d : D) (v : V) (p : PyData), RV K w H v d → toPy d = some p → Dp K H v p
  | .non, v, p, h, e => by simp only [RV] at h; subst h; simp only [toPy] at e; cases e; exact .non
  | .bl b, v, p, h, e => by simp only [RV] at h; subst h; simp only [toPy] at e; cases e; exact .bl _
  | .int b, v, p, h, e => by simp only [RV] at h; subst h; simp only [toPy] at e; cases e; exact .int _
  | .str b, v, p, h, e => by simp only [RV] at h; subst h; simp only [toPy] at e; cases e; exact .str _
  | .tup l, v, p, h, e => by
    simp only [RV] at h
    obtain ⟨a, vs, rfl, h2, h3⟩ := h
    simp only [toPy] at e
    cases q : toPys l with
    | none => rw [q] at e; cases e
    | some ps => rw [q] at e; cases e; exact .tup h2.sq (RVs.dp l vs ps h3 q)
  | .lst l, v, p, h, e => by
    simp only [RV] at h
    obtain ⟨a, vs, rfl, h2, h3⟩ := h
    simp only [toPy] at e
    cases q : toPys l with
    | none => rw [q] at e; cases e
    | some ps => rw [q] at e; cases e; exact .lst (.inl h2.2) (RVs.dp l vs ps h3 q)
  | .ref _, _, _, _, e => by simp only [toPy] at e; cases e
  | .scr _, _, _, _, e => by simp only [toPy] at e; cases e
  | .dct _ _, _, _, _, e => by simp only [toPy] at e; cases e
  | .obj _ _, _, _, _, e => by simp only [toPy] at e; cases e
theorem RVs.dp {K : PySem.W.Frag} {w : Wd} {H : Hp} : ∀ (ds : List D) (vs : List V) (ps : List PyData), RVs K w H vs ds → toPys ds = some ps → DpAll K H vs ps
  | [], vs, ps, h, e => by simp only [RVs] at h; subst h; simp only [toPys] at e; cases e; exact .nil
  | d :: ds, vs, ps, h, e => by
    simp only [RVs] at h
    obtain ⟨v, r, rfl, h2, h3⟩ := h
    simp only [toPys] at e
    split at e
    · rename_i p' ps' e1 e2
      cases e
      exact .cons (RV.dp d v p' h2 e1) (RVs.dp ds r ps' h3 e2)
    · cases e
end
theorem RO.dp {K : PySem.W.Frag} {w : Wd} {H : Hp} {d : D} {v : V} {p : PyData} (h : RO K w H v d) (e : toPy d = some p) : Dp K H v p := by
  rcases h with h | ⟨a, rfl, _, h3⟩
  · exact RV.dp d v p h e
  · cases d <;> try exact h3.elim
    case dct => simp only [toPy] at e; cases e
    rename_i l
    obtain ⟨vs, h3, h5⟩ := h3
    simp only [toPy] at e
    cases q : toPys l with
    | none => rw [q] at e; cases e
    | some ps => rw [q] at e; cases e; exact .lst (.inl (.inl h3)) (RVs.dp l vs ps h5 q)
theorem ltT_some {a b : List D} {k : Bool} (h : ltT a b = some k) : ∃ p q, toPy (.tup a) = some (.tuple p) ∧ toPy (.tup b) = some (.tuple q) ∧ PySem.W.alike (.tuple p) (.tuple q) = true ∧ (PyData.tuple p).depth ≤ 60 ∧ k = PySem.W.dataLt (.tuple p) (.tuple q) := by
  unfold ltT at h
  split at h
  · rename_i p q e1 e2
    split at h
    · rename_i hc
      cases h
      exact ⟨p, q, by simp [toPy, e1], by simp [toPy, e2], hc.1, hc.2, rfl⟩
    · cases h
  · cases h
theorem eqF_some {a b : D} {k : Bool} (h : eqF a b = some k) : ∃ p q, toPy a = some p ∧ toPy b = some q ∧ SeqAt.shaped p = true ∧ SeqAt.shaped q = true ∧ k = PyData.eqv p q := by
  unfold eqF at h
  split at h
  · rename_i p q e1 e2
    split at h
    · rename_i hc
      cases h
      exact ⟨p, q, e1, e2, hc.1, hc.2, rfl⟩
    · cases h
  · cases h
def vOf : D → V
  | .bl b => .bl b
  | .int i => .int i
  | .str x => .str x
  | _ => .non
theorem RV.flat {K : PySem.W.Frag} {w : Wd} {H : Hp} {d : D} {v : V} (h : RV K w H v d) (f : flatD d = true) : v = vOf d ∧ flatV v = true := by
  cases d <;> simp [flatD] at f <;> simp only [RV] at h <;> subst h <;> exact ⟨rfl, rfl⟩
theorem RO.flat {K : PySem.W.Frag} {w : Wd} {H : Hp} {d : D} {v : V} (h : RO K w H v d) (f : flatD d = true) : v = vOf d ∧ flatV v = true := by
  rcases h with h | ⟨a, rfl, _, h3⟩
  · exact h.flat f
  · cases d <;> first | exact h3.elim | (simp [flatD] at f)
theorem RVs.flat {K : PySem.W.Frag} {w : Wd} {H : Hp} : ∀ {ds : List D} {vs : List V}, RVs K w H vs ds → ds.all flatD = true → vs = ds.map vOf ∧ vs.all flatV = true
  | [], _, h, _ => by simp only [RVs] at h; subst h; simp
  | d :: ds, _, h, f => by
    simp only [RVs] at h
    obtain ⟨v, r, rfl, h2, h3⟩ := h
    simp only [List.all_cons, Bool.and_eq_true] at f
    obtain ⟨e1, e2⟩ := h2.flat f.1
    obtain ⟨e3, e4⟩ := RVs.flat h3 f.2
    subst e1 e3
    simp [e2]
    intro x hx
    have := List.all_eq_true.mp e4 (vOf x) (List.mem_map.mpr ⟨x, hx, rfl⟩)
    exact this
theorem eqV_of {y x : D} (fy : flatD y = true) (fx : flatD x = true) : eqV (vOf y) (vOf x) = eqD y x := by
  cases y <;> simp [flatD] at fy <;> cases x <;> simp [flatD] at fx <;> rfl
theorem inV_of {x : D} (fx : flatD x = true) : ∀ {l : List D}, l.all flatD = true → inV (vOf x) (l.map vOf) = l.any fun y => eqD y x
  | [], _ => rfl
  | y :: l, f => by
    simp only [List.all_cons, Bool.and_eq_true] at f
    show (eqV (vOf y) (vOf x) || inV (vOf x) (l.map vOf)) = (eqD y x || l.any fun y => eqD y x)
    rw [eqV_of f.1 fx, inV_of fx f.2]
def copN : COp → CmpOp
  | .eq => .Eq | .ne => .NotEq | .lt => .Lt | .le => .LtE | .gt => .Gt | .ge => .GtE | .is => .Is | .isnot => .IsNot | .inn => .In | .nin => .NotIn
theorem isF_ok {K : PySem.W.Frag} {w : Wd} {H : Hp} {x y : V} {a b : D} {k : Bool} (ra : RO K w H x a) (rb : RO K w H y b) (h : isF a b = some k) : (y = .non ∧ k = decide (x = V.non)) ∨ ∃ c d : Bool, x = .bl c ∧ y = .bl d ∧ k = decide (c = d) := by
  unfold isF at h
  split at h
  · cases h
    refine .inl ⟨rb.non, ?_⟩
    cases a with
    | non => rw [ra.non]; rfl
    | bl _ => rw [ra.bl]; rfl
    | int _ => rw [ra.int]; rfl
    | str _ => rw [ra.str]; rfl
    | tup _ => obtain ⟨_, a, vs, rfl, _⟩ := ra.tup; rfl
    | lst _ => obtain ⟨a, vs, rfl, _⟩ := ra.lst; rfl
    | ref _ => obtain ⟨a, _, rfl⟩ := ra.refn; rfl
    | scr _ => obtain ⟨a, vs, rfl, _⟩ := ra.scr; rfl
    | dct _ _ => obtain ⟨a, vs, rfl, _⟩ := ra.dct; rfl
    | obj _ _ => obtain ⟨a, _, _, _, rfl, _⟩ := ra.obj; rfl
  · split at h
    · cases h
      exact .inr ⟨_, _, ra.bl, rb.bl, rfl⟩
    · cases h
  · cases h
theorem cmp_ok {G : Gx} (hK : G.K = X.K) (hu : X.A.units + 64 < cLine) (o : COp) : OpR X (compareOp (copN o)) (rD2 G fun a b => (cmpF o a b).map .bl) := by
  intro pins s σ H x y v u Q I rx ry h
  obtain ⟨w, S, a, b, d, hS, ra, rb, hf, q⟩ := h
  dsimp only at hf
  cases hc : cmpF o a b with
  | none => rw [hc] at hf; cases hf
  | some k =>
    rw [hc] at hf
    cases hf
    have fin : Q (.bl k) H := q.here hS RV_bl
    unfold cmpF at hc
    split at hc
    · cases hc; obtain rfl := ra.int; obtain rfl := rb.int
      exact op_lt pins s σ H _ _ v u Q I rx ry ⟨_, _, rfl, rfl, fin⟩
    · cases hc; obtain rfl := ra.int; obtain rfl := rb.int
      exact op_le pins s σ H _ _ v u Q I rx ry ⟨_, _, rfl, rfl, fin⟩
    · cases hc; obtain rfl := ra.int; obtain rfl := rb.int
      exact op_gt pins s σ H _ _ v u Q I rx ry ⟨_, _, rfl, rfl, fin⟩
    · cases hc; obtain rfl := ra.int; obtain rfl := rb.int
      exact op_ge pins s σ H _ _ v u Q I rx ry ⟨_, _, rfl, rfl, fin⟩
    · cases hc; obtain rfl := ra.str; obtain rfl := rb.str
      obtain ⟨t, rfl⟩ := rx; obtain ⟨t', rfl⟩ := ry
      exact PyProof.Rows.lt_str (fin_bl I fin rfl)
    · cases hc; obtain rfl := ra.str; obtain rfl := rb.str
      obtain ⟨t, rfl⟩ := rx; obtain ⟨t', rfl⟩ := ry
      exact PySem.P.le_str (fin_bl I fin rfl)
    · cases hc; obtain rfl := ra.str; obtain rfl := rb.str
      obtain ⟨t, rfl⟩ := rx; obtain ⟨t', rfl⟩ := ry
      exact PySem.P.gt_str (fin_bl I fin rfl)
    · cases hc; obtain rfl := ra.str; obtain rfl := rb.str
      obtain ⟨t, rfl⟩ := rx; obtain ⟨t', rfl⟩ := ry
      exact PySem.P.ge_str (fin_bl I fin rfl)
    · obtain ⟨p, p', e1, e2, ha, hd, rfl⟩ := ltT_some hc
      obtain ⟨as, r1⟩ := Dp.reads I _ x v (hK ▸ ra.dp e1) rx
      obtain ⟨bs, r2⟩ := Dp.reads I _ y u (hK ▸ rb.dp e2) ry
      exact PySem.W.lt_data r1 r2 ha (fun z => nomatch z) (Nat.lt_of_le_of_lt (Nat.add_le_add_left (Nat.le_trans (Nat.min_le_left _ _) (Nat.le_trans hd (by omega : 60 ≤ 64))) _) hu) (fin_bl I fin rfl)
    · obtain ⟨p, p', e1, e2, s1, s2, rfl⟩ := eqF_some hc
      exact op_eqD hu pins s σ H _ _ v u Q I rx ry ⟨p, p', hK ▸ ra.dp e1, hK ▸ rb.dp e2, s1, s2, fin⟩
    · cases hc' : eqF a b with
      | none => rw [hc'] at hc; cases hc
      | some k' =>
        rw [hc'] at hc
        cases hc
        obtain ⟨p, p', e1, e2, s1, s2, rfl⟩ := eqF_some hc'
        exact op_neD hu pins s σ H _ _ v u Q I rx ry ⟨p, p', hK ▸ ra.dp e1, hK ▸ rb.dp e2, s1, s2, fin⟩
    · rcases isF_ok ra rb hc with ⟨e1, e2⟩ | ⟨c, d, e1, e2, e3⟩
      · subst e2
        exact op_isN pins s σ H _ _ v u Q I rx ry ⟨e1, fin⟩
      · subst e3
        exact op_isBl pins s σ H _ _ v u Q I rx ry ⟨c, d, e1, e2, fin⟩
    · cases hc' : isF a b with
      | none => rw [hc'] at hc; cases hc
      | some k' =>
        rw [hc'] at hc
        cases hc
        rcases isF_ok ra rb hc' with ⟨e1, e2⟩ | ⟨c, d, e1, e2, e3⟩
        · subst e2
          exact op_notN pins s σ H _ _ v u Q I rx ry ⟨e1, fin⟩
        · subst e3
          exact op_notBl pins s σ H _ _ v u Q I rx ry ⟨c, d, e1, e2, fin⟩
    · unfold inF at hc
      split at hc
      · split at hc
        · rename_i l hf
          cases hc
          simp only [Bool.and_eq_true] at hf
          obtain ⟨e1, e2⟩ := ra.flat hf.1
          obtain ⟨_, p, vs, rfl, h1, h2⟩ := rb.tup
          obtain ⟨e3, e4⟩ := h2.flat hf.2
          exact op_in_seq pins s σ H _ _ v u Q I rx ry ⟨p, vs, rfl, .inr (hK ▸ h1), e2, e4, by simp only [Bool.false_eq_true, if_false]; rw [e1, e3, inV_of hf.1 hf.2]; exact fin⟩
        · cases hc
      · split at hc
        · rename_i l hf
          cases hc
          simp only [Bool.and_eq_true] at hf
          obtain ⟨e1, e2⟩ := ra.flat hf.1
          obtain ⟨p, vs, rfl, h1, h2⟩ := rb.lst
          obtain ⟨e3, e4⟩ := h2.flat hf.2
          exact op_in_seq pins s σ H _ _ v u Q I rx ry ⟨p, vs, rfl, .inl (.inl h1), e2, e4, by simp only [Bool.false_eq_true, if_false]; rw [e1, e3, inV_of hf.1 hf.2]; exact fin⟩
        · cases hc
      · split at hc
        · cases hc
          obtain rfl := ra.str
          obtain rfl := rb.str
          exact op_in_str pins s σ H _ _ v u Q I rx ry ⟨_, _, rfl, rfl, fin⟩
        · cases hc
      · cases hc
    · unfold inF at hc
      split at hc
      · split at hc
        · rename_i l hf
          cases hc
          simp only [Bool.and_eq_true] at hf
          obtain ⟨e1, e2⟩ := ra.flat hf.1
          obtain ⟨_, p, vs, rfl, h1, h2⟩ := rb.tup
          obtain ⟨e3, e4⟩ := h2.flat hf.2
          exact op_notIn_seq pins s σ H _ _ v u Q I rx ry ⟨p, vs, rfl, .inr (hK ▸ h1), e2, e4, by simp only [if_true]; rw [e1, e3, inV_of hf.1 hf.2]; exact fin⟩
        · cases hc
      · split at hc
        · rename_i l hf
          cases hc
          simp only [Bool.and_eq_true] at hf
          obtain ⟨e1, e2⟩ := ra.flat hf.1
          obtain ⟨p, vs, rfl, h1, h2⟩ := rb.lst
          obtain ⟨e3, e4⟩ := h2.flat hf.2
          exact op_notIn_seq pins s σ H _ _ v u Q I rx ry ⟨p, vs, rfl, .inl (.inl h1), e2, e4, by simp only [if_true]; rw [e1, e3, inV_of hf.1 hf.2]; exact fin⟩
        · cases hc
      · split at hc
        · cases hc
          obtain rfl := ra.str
          obtain rfl := rb.str
          exact op_notIn_str pins s σ H _ _ v u Q I rx ry ⟨_, _, rfl, rfl, fin⟩
        · cases hc
      · cases hc
    · cases hc
theorem RVs.nil_iff {K : PySem.W.Frag} {w : Wd} {H : Hp} {ds : List D} {vs : List V} (h : RVs K w H vs ds) : vs.isEmpty = ds.isEmpty := by
  have := h.length
  cases vs <;> cases ds <;> simp_all
theorem tru_of {G : Gx} {w : Wd} {H : Hp} {x : V} {d : D} {k : Bool} (hK : G.K = X.K) (r : RO G.K w H x d) (h : truF d = some k) : TruV X.K x H k := by
  cases d with
  | non => obtain rfl := r.non; simp only [truF] at h; cases h; rfl
  | bl _ => obtain rfl := r.bl; simp only [truF] at h; cases h; rfl
  | int _ => obtain rfl := r.int; simp only [truF] at h; cases h; rfl
  | str _ =>
    obtain rfl := r.str
    simp only [truF] at h
    split at h
    · rename_i hc; cases h; exact ⟨hc, rfl⟩
    · cases h
  | tup l =>
    obtain ⟨_, a, vs, rfl, h1, h2⟩ := r.tup
    simp only [truF] at h
    cases h
    exact .inr (.inl ⟨vs, hK ▸ h1, by rw [h2.nil_iff]⟩)
  | lst l =>
    obtain ⟨a, vs, rfl, h1, h2⟩ := r.lst
    simp only [truF] at h
    cases h
    exact .inl ⟨vs, .inl h1, by rw [h2.nil_iff]⟩
  | ref _ => simp only [truF] at h; cases h
  | scr _ => simp only [truF] at h; cases h
  | obj _ _ => simp only [truF] at h; cases h
  | dct _ _ => simp only [truF] at h; cases h
end
end BX
set_option Elab.async false
set_option linter.all false
set_option maxRecDepth 100000
set_option maxHeartbeats 2000000
/-! BX3b: built-in functions, items, slices, isinstance. -/
namespace BX
open PySem L2 PyProof.Rows
section
variable {X : Cx}
def rDL (G : Gx) (f : List D → Option D) : List V → Hp → VK → Prop := fun vs H Q => ∃ w S ds d, RSt G w S H ∧ ROs G.K w H vs ds ∧ f ds = some d ∧ An G w S H d Q
def bltN : Blt → Str
  | .len => "len" | .abs => "abs" | .max => "max" | .min => "min" | .sum => "sum" | .all => "all" | .any => "any" | .tuple => "tuple" | .list => "list"
def bltV : Blt → Value
  | .len => .builtin "len" | .abs => .builtin "abs" | .max => .builtin "max" | .min => .builtin "min" | .sum => .builtin "sum" | .all => .builtin "all" | .any => .builtin "any" | .tuple => .type "tuple" | .list => .type "list"
theorem blt_boot : ∀ b : Blt, bootBuiltins (bltN b) = some (bltV b)
  | .len => by decide +kernel
  | .abs => by decide +kernel
  | .max => by decide +kernel
  | .min => by decide +kernel
  | .sum => by decide +kernel
  | .all => by decide +kernel
  | .any => by decide +kernel
  | .tuple => by decide +kernel
  | .list => by decide +kernel
section
variable {K : PySem.W.Frag} {w : Wd} {H : Hp}
theorem ROs.one {vs : List V} {d : D} (h : ROs K w H vs [d]) : ∃ v, vs = [v] ∧ RO K w H v d := by
  obtain ⟨v, r, rfl, h1, h2⟩ := h
  obtain rfl : r = [] := h2
  exact ⟨v, rfl, h1⟩
theorem ROs.two {vs : List V} {d e : D} (h : ROs K w H vs [d, e]) : ∃ v u, vs = [v, u] ∧ RO K w H v d ∧ RO K w H u e := by
  obtain ⟨v, r, rfl, h1, h2⟩ := h
  obtain ⟨u, rfl, h3⟩ := ROs.one h2
  exact ⟨v, u, rfl, h1, h3⟩
theorem ROs.three {vs : List V} {d e f : D} (h : ROs K w H vs [d, e, f]) : ∃ v u t, vs = [v, u, t] ∧ RO K w H v d ∧ RO K w H u e ∧ RO K w H t f := by
  obtain ⟨v, r, rfl, h1, h2⟩ := h
  obtain ⟨u, t, rfl, h3, h4⟩ := ROs.two h2
  exact ⟨v, u, t, rfl, h1, h3, h4⟩
theorem RVs.ints : ∀ {l : List D} {vs : List V} {ns : List Int}, RVs K w H vs l → intsOf l = some ns → vs = ns.map V.int
  | [], vs, ns, h, e => by simp only [RVs] at h; subst h; simp only [intsOf] at e; cases e; rfl
  | d :: l, vs, ns, h, e => by
    simp only [RVs] at h
    obtain ⟨v, r, rfl, h2, h3⟩ := h
    cases d <;> simp only [intsOf] at e <;> try cases e
    rename_i i
    cases q : intsOf l with
    | none => rw [q] at e; cases e
    | some ms =>
      rw [q] at e
      cases e
      simp only [RV] at h2
      subst h2
      rw [RVs.ints h3 q]
      rfl
theorem RVs.bls : ∀ {l : List D} {vs : List V} {bs : List Bool}, RVs K w H vs l → blsOf l = some bs → vs = bs.map V.bl
  | [], vs, ns, h, e => by simp only [RVs] at h; subst h; simp only [blsOf] at e; cases e; rfl
  | d :: l, vs, ns, h, e => by
    simp only [RVs] at h
    obtain ⟨v, r, rfl, h2, h3⟩ := h
    cases d <;> simp only [blsOf] at e <;> try cases e
    rename_i i
    cases q : blsOf l with
    | none => rw [q] at e; cases e
    | some ms =>
      rw [q] at e
      cases e
      simp only [RV] at h2
      subst h2
      rw [RVs.bls h3 q]
      rfl
end
theorem maxI_spec : ∀ (r : List Int) (m : Int), maxI r m ∈ m :: r ∧ ∀ y ∈ m :: r, y ≤ maxI r m
  | [], m => by simp [maxI]
  | x :: r, m => by
    simp only [maxI]
    obtain ⟨h1, h2⟩ := maxI_spec r (if x > m then x else m)
    have hz : ∀ z, (if x > m then x else m) = z → (z = x ∨ z = m) ∧ x ≤ z ∧ m ≤ z := fun z e => by split at e <;> omega
    generalize (if x > m then x else m) = z at h1 h2 hz ⊢
    obtain ⟨e0, e1, e2⟩ := hz z rfl
    refine ⟨?_, fun y hy => ?_⟩
    · rcases List.mem_cons.mp h1 with h | h
      · rw [h]; rcases e0 with e | e <;> simp [e]
      · simp [h]
    · have h0 := h2 _ (List.mem_cons_self ..)
      rcases List.mem_cons.mp hy with h | hy
      · subst h; omega
      · rcases List.mem_cons.mp hy with h | hy
        · subst h; omega
        · exact h2 y (List.mem_cons_of_mem _ hy)
theorem minI_spec : ∀ (r : List Int) (m : Int), minI r m ∈ m :: r ∧ ∀ y ∈ m :: r, minI r m ≤ y
  | [], m => by simp [minI]
  | x :: r, m => by
    simp only [minI]
    obtain ⟨h1, h2⟩ := minI_spec r (if x < m then x else m)
    have hz : ∀ z, (if x < m then x else m) = z → (z = x ∨ z = m) ∧ z ≤ x ∧ z ≤ m := fun z e => by split at e <;> omega
    generalize (if x < m then x else m) = z at h1 h2 hz ⊢
    obtain ⟨e0, e1, e2⟩ := hz z rfl
    refine ⟨?_, fun y hy => ?_⟩
    · rcases List.mem_cons.mp h1 with h | h
      · rw [h]; rcases e0 with e | e <;> simp [e]
      · simp [h]
    · have h0 := h2 _ (List.mem_cons_self ..)
      rcases List.mem_cons.mp hy with h | hy
      · subst h; omega
      · rcases List.mem_cons.mp hy with h | hy
        · subst h; omega
        · exact h2 y (List.mem_cons_of_mem _ hy)
theorem blt_ok {G : Gx} (hK : G.K = X.K) (hc : X.calm = true) (b : Blt) : CallR X (bltV b) (rDL G (bltF b)) := by
  intro pins s σ H xs us Q I r h
  obtain ⟨w, S, ds, d, hS, rs, hf, q⟩ := h
  unfold bltF at hf
  split at hf
  · obtain ⟨v, rfl, rv⟩ := rs.one
    obtain rfl := rv.str
    split at hf
    · rename_i hz
      cases hf
      exact call_len_str pins s σ H _ us Q I r ⟨_, rfl, hz, q.here hS RV_int⟩
    · cases hf
  · obtain ⟨v, rfl, rv⟩ := rs.one
    obtain ⟨_, a, vs, rfl, h1, h2⟩ := rv.tup
    cases hf
    exact call_len_seq pins s σ H _ us Q I r ⟨a, vs, rfl, .inr (hK ▸ h1), by rw [h2.length]; exact q.here hS RV_int⟩
  · obtain ⟨v, rfl, rv⟩ := rs.one
    obtain ⟨a, vs, rfl, h1, h2⟩ := rv.lst
    cases hf
    exact call_len_seq pins s σ H _ us Q I r ⟨a, vs, rfl, .inl (.inl h1), by rw [h2.length]; exact q.here hS RV_int⟩
  · obtain ⟨v, rfl, rv⟩ := rs.one
    obtain ⟨a, vs, rfl, h1, h2⟩ := rv.scr
    cases hf
    exact call_len_seq pins s σ H _ us Q I r ⟨a, vs, rfl, .inl (hK ▸ h1), by rw [h2.length]; exact q.here hS RV_int⟩
  · obtain ⟨v, rfl, rv⟩ := rs.one
    obtain rfl := rv.int
    cases hf
    exact call_abs pins s σ H _ us Q I r ⟨_, rfl, q.here hS RV_int⟩
  · obtain ⟨v, u, rfl, rv, ru⟩ := rs.two
    obtain rfl := rv.int
    obtain rfl := ru.int
    cases hf
    exact call_max2 hc pins s σ H _ us Q I r ⟨_, _, rfl, q.here hS RV_int⟩
  · obtain ⟨v, u, t, rfl, rv, ru, rt⟩ := rs.three
    obtain rfl := rv.int
    obtain rfl := ru.int
    obtain rfl := rt.int
    cases hf
    refine call_max3Nu hc pins s σ H _ us Q I r ⟨_, _, _, _, rfl, ?_, q.here hS RV_int⟩
    rename_i i j k
    simp only [nuMax3, nuMax2, nuLt, nuCB, Option.map_some, Option.bind_some]
    by_cases h1 : i < j
    · simp only [h1, decide_true, if_true, gt_iff_lt, Option.map_some]
      by_cases h2 : j < k <;> simp [h2]
    · simp only [h1, decide_false, Bool.false_eq_true, if_false, gt_iff_lt, Option.map_some]
      by_cases h2 : i < k <;> simp [h2]
  · obtain ⟨v, rfl, rv⟩ := rs.one
    obtain ⟨a, vs, rfl, h1, h2⟩ := rv.lst
    split at hf
    · rename_i m r' e
      cases hf
      have e1 := h2.ints e
      subst e1
      refine cr_max hc pins s σ H _ us Q I r ⟨a, m :: r', rfl, .inl h1, by simp, fun m' h3 h4 => ?_⟩
      obtain ⟨g1, g2⟩ := maxI_spec r' m
      have e2 : m' = maxI r' m := Int.le_antisymm (g2 m' h3) (h4 _ g1)
      rw [e2]
      exact q.here hS RV_int
    · cases hf
  · obtain ⟨v, u, rfl, rv, ru⟩ := rs.two
    obtain rfl := rv.int
    obtain rfl := ru.int
    cases hf
    exact call_min2 hc pins s σ H _ us Q I r ⟨_, _, rfl, q.here hS RV_int⟩
  · obtain ⟨v, rfl, rv⟩ := rs.one
    obtain ⟨a, vs, rfl, h1, h2⟩ := rv.lst
    split at hf
    · rename_i m r' e
      cases hf
      have e1 := h2.ints e
      subst e1
      refine cr_min hc pins s σ H _ us Q I r ⟨a, m :: r', rfl, .inl h1, by simp, fun m' h3 h4 => ?_⟩
      obtain ⟨g1, g2⟩ := minI_spec r' m
      have e2 : m' = minI r' m := Int.le_antisymm (h4 _ g1) (g2 m' h3)
      rw [e2]
      exact q.here hS RV_int
    · cases hf
  · obtain ⟨v, rfl, rv⟩ := rs.one
    obtain ⟨a, vs, rfl, h1, h2⟩ := rv.lst
    rename_i l
    cases e : intsOf l with
    | none => rw [e] at hf; cases hf
    | some ns =>
      rw [e] at hf
      cases hf
      have e1 := h2.ints e
      subst e1
      exact cr_sum hc pins s σ H _ us Q I r ⟨a, ns, rfl, .inl h1, q.here hS RV_int⟩
  · obtain ⟨v, rfl, rv⟩ := rs.one
    obtain ⟨a, vs, rfl, h1, h2⟩ := rv.lst
    rename_i l
    cases e : blsOf l with
    | none => rw [e] at hf; cases hf
    | some ns =>
      rw [e] at hf
      cases hf
      have e1 := h2.bls e
      subst e1
      exact cr_all hc pins s σ H _ us Q I r ⟨a, ns, rfl, .inl h1, q.here hS RV_bl⟩
  · obtain ⟨v, rfl, rv⟩ := rs.one
    obtain ⟨a, vs, rfl, h1, h2⟩ := rv.lst
    rename_i l
    cases e : blsOf l with
    | none => rw [e] at hf; cases hf
    | some ns =>
      rw [e] at hf
      cases hf
      have e1 := h2.bls e
      subst e1
      exact cr_any hc pins s σ H _ us Q I r ⟨a, ns, rfl, .inl h1, q.here hS RV_bl⟩
  · obtain ⟨v, rfl, rv⟩ := rs.one
    obtain ⟨a, vs, rfl, h1, h2⟩ := rv.lst
    cases hf
    exact call_tuple_of pins s σ H _ us Q I r ⟨a, vs, rfl, .inl ⟨.inl h1, fun p hp => q.tup hS hp h2⟩⟩
  · obtain ⟨v, rfl, rv⟩ := rs.one
    obtain ⟨r1, a, vs, rfl, h1, h2⟩ := rv.tup
    cases hf
    exact call_tuple_of pins s σ H _ us Q I r ⟨a, vs, rfl, .inr ⟨hK ▸ h1, q.here hS r1⟩⟩
  · obtain ⟨v, rfl, rv⟩ := rs.one
    obtain ⟨a, vs, rfl, h1, h2⟩ := rv.lst
    cases hf
    exact call_list_of pins s σ H _ us Q I r ⟨a, vs, rfl, .inl (.inl h1), fun p hp => q.lst hS hp h2⟩
  · obtain ⟨v, rfl, rv⟩ := rs.one
    obtain ⟨r1, a, vs, rfl, h1, h2⟩ := rv.tup
    cases hf
    exact call_list_of pins s σ H _ us Q I r ⟨a, vs, rfl, .inr (hK ▸ h1), fun p hp => q.lst hS hp h2⟩
  · cases hf

/-! ### items, slices -/
/-- x[y], x a value or an object of the store -/
def ixS (S : Sto) (x y : D) : Option D := match x with
  | .ref n => match S[n]? with
    | some (.lst l) => ixF (.lst l) y
    | _ => none
  | _ => ixF x y
def rIxD (G : Gx) : R2 := fun x y H Q => ∃ w S a b d, RSt G w S H ∧ RO G.K w H x a ∧ RO G.K w H y b ∧ ixS S a b = some d ∧ An G w S H d Q
theorem ixF_int {a b d : D} (h : ixF a b = some d) : ∃ i, b = .int i := by
  cases b <;> cases a <;> simp [ixF] at h
  all_goals exact ⟨_, rfl⟩
theorem ix_ok {G : Gx} (hK : G.K = X.K) : IxR X (rIxD G) := by
  intro value slice pins s σ H x y v u Q I rx ry h hsub
  obtain ⟨w, S, a, b, d, hS, ra, rb, hf, q⟩ := h
  refine ix_seq value slice pins s σ H x y v u Q I rx ry ?_ hsub
  cases a with
  | ref n =>
    simp only [ixS] at hf
    split at hf
    · rename_i l e
      obtain ⟨i, rfl⟩ := ixF_int hf
      obtain rfl := rb.int
      obtain ⟨p, e1, rfl⟩ := ra.refn
      obtain ⟨p', e2, vs, e3, e4⟩ := hS.ob n _ e
      rw [e1] at e2
      cases e2
      obtain ⟨v', h1, h2⟩ := RVs.atI e4 (by simpa only [ixF] using hf)
      exact .inl ⟨p, vs, i, v', rfl, rfl, .inl (.inl e3), h1, q.here hS h2⟩
    · cases hf
  | lst l =>
    simp only [ixS] at hf
    obtain ⟨i, rfl⟩ := ixF_int hf
    obtain rfl := rb.int
    obtain ⟨p, vs, rfl, e3, e4⟩ := ra.lst
    obtain ⟨v', h1, h2⟩ := RVs.atI e4 (by simpa only [ixF] using hf)
    exact .inl ⟨p, vs, i, v', rfl, rfl, .inl e3, h1, q.here hS h2⟩
  | scr l =>
    simp only [ixS] at hf
    obtain ⟨i, rfl⟩ := ixF_int hf
    obtain rfl := rb.int
    obtain ⟨p, vs, rfl, e3, e4⟩ := ra.scr
    obtain ⟨v', h1, h2⟩ := RVs.atI e4 (by simpa only [ixF] using hf)
    exact .inl ⟨p, vs, i, v', rfl, rfl, hK ▸ e3, h1, q.here hS h2⟩
  | tup l =>
    simp only [ixS] at hf
    obtain ⟨i, rfl⟩ := ixF_int hf
    obtain rfl := rb.int
    obtain ⟨_, p, vs, rfl, e3, e4⟩ := ra.tup
    obtain ⟨v', h1, h2⟩ := RVs.atI e4 (by simpa only [ixF] using hf)
    exact .inr (.inl ⟨p, vs, i, v', rfl, rfl, hK ▸ e3, h1, q.here hS h2⟩)
  | str z =>
    simp only [ixS] at hf
    obtain ⟨i, rfl⟩ := ixF_int hf
    obtain rfl := rb.int
    obtain rfl := ra.str
    simp only [ixF] at hf
    split at hf
    · rename_i hz
      cases e : atI z.cps.toList i with
      | none => rw [e] at hf; cases hf
      | some c =>
        rw [e] at hf
        cases hf
        exact .inr (.inr ⟨z, i, c, rfl, rfl, hz, e, q.here hS RV_str⟩)
    · cases hf
  | non => simp [ixS, ixF] at hf
  | bl _ => simp [ixS, ixF] at hf
  | int _ => simp [ixS, ixF] at hf
  | dct _ _ => simp [ixS, ixF] at hf
  | obj _ _ => simp [ixS, ixF] at hf
theorem RVs.cut {K : PySem.W.Frag} {w : Wd} {H : Hp} {ds : List D} {vs : List V} (h : RVs K w H vs ds) (lo hi : Option Int) : RVs K w H (cutV vs lo hi) (cutD ds lo hi) := by
  unfold cutV cutD
  rw [h.length]
  exact (h.drop _).take _
theorem sl_ok {G : Gx} (hK : G.K = X.K) : SlR X (fun x lo hi H Q => ∃ w S a d, RSt G w S H ∧ RO G.K w H x a ∧ slF a lo hi = some d ∧ An G w S H d Q) := by
  intro pins s σ H x v vl vu lo hi sl Q I rx hs pl pu h
  obtain ⟨w, S, a, d, hS, ra, hf, q⟩ := h
  cases a with
  | lst l =>
    simp only [slF] at hf
    cases hf
    obtain ⟨p, vs, rfl, e3, e4⟩ := ra.lst
    exact sl_list pins s σ H _ v vl vu lo hi sl Q I rx hs pl pu ⟨p, vs, rfl, .inl e3, fun p' hp => q.lst hS hp (e4.cut lo hi)⟩
  | scr l =>
    simp only [slF] at hf
    cases hf
    obtain ⟨p, vs, rfl, e3, e4⟩ := ra.scr
    exact sl_list pins s σ H _ v vl vu lo hi sl Q I rx hs pl pu ⟨p, vs, rfl, hK ▸ e3, fun p' hp => q.lst hS hp (e4.cut lo hi)⟩
  | tup l =>
    simp only [slF] at hf
    obtain ⟨_, p, vs, rfl, e3, e4⟩ := ra.tup
    split at hf
    · rename_i hw
      cases hf
      exact sl_tup pins s σ H _ v vl vu lo hi sl Q I rx hs pl pu ⟨p, vs, rfl, hK ▸ e3, by rw [e4.length]; exact hw, fun p' hp => q.tup hS hp (e4.cut lo hi)⟩
    · cases hf
  | non => simp [slF] at hf
  | bl _ => simp [slF] at hf
  | int _ => simp [slF] at hf
  | str _ => simp [slF] at hf
  | ref _ => simp [slF] at hf
  | dct _ _ => simp [slF] at hf
  | obj _ _ => simp [slF] at hf

/-! ### isinstance -/
def tyN : Ty → String
  | .int => "int" | .bool => "bool" | .str => "str" | .tuple => "tuple" | .list => "list" | .dict => "dict"
theorem ty_boot : ∀ t : Ty, bootBuiltins (Str.ofString (tyN t)) = some (.type (tyN t))
  | .int => by decide +kernel
  | .bool => by decide +kernel
  | .str => by decide +kernel
  | .tuple => by decide +kernel
  | .list => by decide +kernel
  | .dict => by decide +kernel
def tyD : D → String
  | .non => "NoneType" | .bl _ => "bool" | .int _ => "int" | .str _ => "str" | .tup _ => "tuple" | .lst _ => "list" | .ref _ => "" | .scr _ => "" | .dct _ _ => "dict" | .obj _ _ => ""
theorem kit_all : ∀ (n : String), n ∈ ["NoneType", "bool", "int", "str", "tuple", "list", "dict"] → ∀ t : Ty, kitB n (tyN t) = some (n == tyN t || (n == "bool" && tyN t == "int")) := by
  intro n hn t
  simp only [List.mem_cons, List.not_mem_nil, or_false] at hn
  rcases hn with rfl | rfl | rfl | rfl | rfl | rfl | rfl <;> cases t <;> decide +kernel
theorem tyX_of {K : PySem.W.Frag} {w : Wd} {H : Hp} {x : V} {d : D} (r : RO K w H x d) (h : (∀ n, d ≠ .ref n) ∧ (∀ l, d ≠ .scr l) ∧ ∀ l m, d ≠ .obj l m) : TyX K H x (.type (tyD d)) := by
  cases d with
  | non => obtain rfl := r.non; exact .base .non
  | bl _ => obtain rfl := r.bl; exact .base (.bl _)
  | int _ => obtain rfl := r.int; exact .base (.int _)
  | str _ => obtain rfl := r.str; exact .base (.str _)
  | tup l =>
    obtain ⟨r1, _⟩ := r.tup
    simp only [RV] at r1
    obtain ⟨a, vs, rfl, h2, _⟩ := r1
    rcases h2 with ⟨_, h2 | ⟨o, h2⟩⟩ | ⟨o, its, n, h1, h2, _⟩
    · exact .base (.tup h2)
    · exact .fTuple h2
    · exact .kTuple h1 h2
  | lst l =>
    obtain ⟨a, vs, rfl, h2, _⟩ := r.lst
    rcases h2 with h2 | ⟨o, h2⟩
    · exact .base (.lst h2)
    · exact .base (.frz h2)
  | ref n => exact absurd rfl (h.1 n)
  | scr n => exact absurd rfl (h.2.1 n)
  | obj l m => exact absurd rfl (h.2.2 l m)
  | dct ks ds =>
    obtain ⟨a, kvs, rfl, h2, _⟩ := r.dct
    rcases h2 with h2 | ⟨o, h2⟩
    · exact .base (.dK h2)
    · exact .fDict h2
theorem kindIs_kit {d : D} {t : Ty} {k : Bool} (h : kindIs d t = some k) : ((∀ n, d ≠ .ref n) ∧ (∀ l, d ≠ .scr l) ∧ ∀ l m, d ≠ .obj l m) ∧ kitB (tyD d) (tyN t) = some k := by
  cases d with
  | ref n => cases t <;> simp [kindIs] at h
  | scr n => cases t <;> simp [kindIs] at h
  | non => refine ⟨⟨(fun n z => nomatch z), (fun n z => nomatch z), (fun n m z => nomatch z)⟩, ?_⟩; rw [kit_all _ (by simp [tyD])]; rw [← h]; cases t <;> decide +kernel
  | bl b => refine ⟨⟨(fun n z => nomatch z), (fun n z => nomatch z), (fun n m z => nomatch z)⟩, ?_⟩; rw [kit_all _ (by simp [tyD])]; rw [← h]; cases t <;> simp only [kindIs, tyD] <;> decide +kernel
  | int b => refine ⟨⟨(fun n z => nomatch z), (fun n z => nomatch z), (fun n m z => nomatch z)⟩, ?_⟩; rw [kit_all _ (by simp [tyD])]; rw [← h]; cases t <;> simp only [kindIs, tyD] <;> decide +kernel
  | str b => refine ⟨⟨(fun n z => nomatch z), (fun n z => nomatch z), (fun n m z => nomatch z)⟩, ?_⟩; rw [kit_all _ (by simp [tyD])]; rw [← h]; cases t <;> simp only [kindIs, tyD] <;> decide +kernel
  | tup b => refine ⟨⟨(fun n z => nomatch z), (fun n z => nomatch z), (fun n m z => nomatch z)⟩, ?_⟩; rw [kit_all _ (by simp [tyD])]; rw [← h]; cases t <;> simp only [kindIs, tyD] <;> decide +kernel
  | obj n m => cases t <;> simp [kindIs] at h
  | dct b c => refine ⟨⟨(fun n z => nomatch z), (fun n z => nomatch z), (fun n m z => nomatch z)⟩, ?_⟩; rw [kit_all _ (by simp [tyD])]; rw [← h]; cases t <;> simp only [kindIs, tyD] <;> decide +kernel
  | lst b => refine ⟨⟨(fun n z => nomatch z), (fun n z => nomatch z), (fun n m z => nomatch z)⟩, ?_⟩; rw [kit_all _ (by simp [tyD])]; rw [← h]; cases t <;> simp only [kindIs, tyD] <;> decide +kernel
theorem isi_ok {G : Gx} (hK : G.K = X.K) (t : Ty) : CallR X (.builtin "isinstance") (fun vs H Q => ∃ w S x a k, vs = [x, .ty (tyN t)] ∧ RSt G w S H ∧ RO G.K w H x a ∧ kindIs a t = some k ∧ Q (.bl k) H) := by
  intro pins s σ H xs us Q I r h
  obtain ⟨w, S, x, a, k, rfl, hS, ra, hk, q⟩ := h
  obtain ⟨h1, h2⟩ := kindIs_kit hk
  exact call_isi pins s σ H _ us Q I r ⟨x, _, _, _, k, rfl, .ty _, tyX_of (hK ▸ ra) h1, kit_ty h2, q⟩
end
end BX
set_option Elab.async false
set_option linter.all false
set_option maxRecDepth 100000
set_option maxHeartbeats 2000000
/-! BX3c: rules that the layer lacks: first, *rest = x; list(reversed(x)); a op b op c op d as a test. -/
namespace BX
open PySem L2 PyProof.Rows
section
variable {prog : Program} {w : World} {A : Around} {E : Value → Shared → Prop} {s : Shared}
/-- a walk begun further on -/
theorem walk_from {wd : World} {pr : Program} {Ar : Around} {I : Addr} {fp wr : List Addr} {Gp : Array GenState → Array GenState → Prop} {n j : Nat} {P : Nat → Value → Prop} {St : Nat → Shared → Prop} (W : WalksS pr wd Ar I fp wr Gp n P St) (hj : j ≤ n) :
    WalksS pr wd Ar I fp wr Gp (n - j) (fun i => P (i + j)) (fun i => St (i + j)) where
  sub := W.sub
  grefl := W.grefl
  gtrans := W.gtrans
  frame := fun i => W.frame (i + j)
  item := fun i t Q E' hi st hQ => W.item (i + j) t Q E' (by omega) st fun v t' p st' m => hQ v t' p (by rw [show i + 1 + j = i + j + 1 by omega]; exact st') m
  done := fun t Q E' st hQ => W.done t Q E' (by rw [show n - j + j = n by omega] at st; exact st) hQ
  self := fun i => W.self (i + j)
theorem items_tail {items acc : Array Value} {j : Nat} (hj : j ≤ items.size) (h : ItemsOf (fun i v => items[i + j]? = some v) acc (items.size - j)) : acc.toList = items.toList.drop j := by
  apply List.ext_getElem?
  intro m
  have hs : acc.toList.length = items.size - j := by rw [Array.length_toList]; exact h.1
  by_cases hm : m < items.size - j
  · have e1 : acc.toList[m]? = some acc.toList[m] := List.getElem?_eq_getElem (by omega)
    have e2 := h.2 m _ (by rw [← Array.getElem?_toList]; exact e1)
    rw [e1, List.getElem?_drop, ← e2, Array.getElem?_toList, Nat.add_comm]
  · rw [List.getElem?_eq_none (by omega), List.getElem?_eq_none (by rw [List.length_drop, Array.length_toList]; omega)]
theorem collect_li {it l : Addr} {items : Array Value} {j : Nat} {Q : List Value → Shared → Prop} (hh : A.handled = none) (hit : s.heap.IsListIter it l j) (hl : s.heap.IsList l items) (hne : l ≠ it) (hj : j ≤ items.size) (hz : items.size ≤ sizeLine)
    (hQ : ∀ (h' : Heap) (tk : Nat), (∀ b o, b ≠ it → s.heap.get? b = some o → h'.get? b = some o) → Q (items.toList.drop j) { s with heap := h', toks := tk }) : wpAny (model prog w) A (collect (.ref it)) Q E s := by
  have W := walk_from (j := j) (Walks.list (prog := prog) (w := w) (A := A.in1) hh it l hne items).toS hj
  obtain ⟨oi, hoi, _⟩ := id hit
  obtain ⟨ol, hol, _⟩ := id hl
  refine wpAny_collect_iter (.inr (.inr (.inl rfl))) W (fun i t st => Heap.IsListIter.typeIs st.1) ⟨by rw [Nat.zero_add]; exact hit, hl⟩ (fun b hb => ?_) (by simp) (fun s' acc hm ha => ?_) (by omega)
  · simp only [List.mem_cons, List.not_mem_nil, or_false] at hb
    rcases hb with rfl | rfl
    · exact Heap.lt_size hoi
    · exact Heap.lt_size hol
  · rw [items_tail hj ha, Moved.eq_with hm]
    exact hQ _ _ fun b o hb e => hm.heap b o (fun z => hb (List.mem_singleton.mp z)) e
theorem collect_ti {it l : Addr} {items : Array Value} {j : Nat} {Q : List Value → Shared → Prop} (hh : A.handled = none) (hit : IsTupIter s.heap it l j) (hl : IsTup s.heap l items) (hne : l ≠ it) (hj : j ≤ items.size) (hz : items.size ≤ sizeLine)
    (hQ : ∀ (h' : Heap) (tk : Nat), (∀ b o, b ≠ it → s.heap.get? b = some o → h'.get? b = some o) → Q (items.toList.drop j) { s with heap := h', toks := tk }) : wpAny (model prog w) A (collect (.ref it)) Q E s := by
  have W := walk_from (j := j) (Walks.tuple (prog := prog) (w := w) (A := A.in1) hh it l hne items).toS hj
  obtain ⟨oi, hoi, hoc, _⟩ := id hit
  obtain ⟨ol, hol, _⟩ := id hl
  refine wpAny_collect_iter (.inr (.inr (.inr rfl))) W (fun i t st => ?_) ⟨by rw [Nat.zero_add]; exact hit, hl⟩ (fun b hb => ?_) (by simp) (fun s' acc hm ha => ?_) (by omega)
  · obtain ⟨o, e1, e2, _⟩ := st.1
    exact ⟨o, e1, e2⟩
  · simp only [List.mem_cons, List.not_mem_nil, or_false] at hb
    rcases hb with rfl | rfl
    · exact Heap.lt_size hoi
    · exact Heap.lt_size hol
  · rw [items_tail hj ha, Moved.eq_with hm]
    exact hQ _ _ fun b o hb e => hm.heap b o (fun z => hb (List.mem_singleton.mp z)) e
/-- x, *xs of a list -/
theorem star_list {l : Addr} {x : Value} {xs : List Value} {Q : List Value → Shared → Prop} (hh : A.handled = none) (hl : s.heap.IsList l (x :: xs).toArray) (hz : xs.length < sizeLine)
    (hQ : ∀ (h' : Heap) (tk : Nat), (∀ b o, s.heap.get? b = some o → h'.get? b = some o) → Q [x, .ref h'.objs.size] { s with heap := h'.push { cls := .type "list", data := .seq xs.toArray }, toks := tk }) :
    wpAny (model prog w) A (unpackItems (.ref l) 2 (some 1)) Q E s := by
  have hlt : l ≠ s.heap.objs.size := by obtain ⟨o, ho, _⟩ := hl; exact Nat.ne_of_lt (Heap.lt_size ho)
  unfold unpackItems
  refine wpAny_bind ?_
  unfold notIterableAtAll
  refine wpAny_bind (wpAny_specialOf hl.typeIs slot_list_iter.lookup ?_)
  refine wpAny_pure ?_
  simp only [Bool.false_eq_true, if_false]
  refine wpAny_bind (wpAny_holding (wpAny_pyIter_list hl ?_))
  refine wpAny_bind (wpAny_holding (PySem.W.kun_draw hlt 1 0 _ _ ⟨_, Heap.get?_push_size _ rfl, rfl, rfl⟩ (hl.push _) (by simp) fun h1 it1 sb => ?_))
  have l1 : h1.IsList l (x :: xs).toArray := (hl.push _).extBut sb.extBut hlt
  simp only [List.drop_zero, List.take_succ_cons, List.take_zero, List.length_cons, List.length_nil]
  rw [if_neg (by omega)]
  refine wpAny_bind (wpAny_holding (collect_li (s := { s with heap := h1 }) (j := 1) hh it1 l1 hlt (by simp) (by simp; omega) fun h2 tk k2 => ?_))
  simp only [List.drop_succ_cons, List.drop_zero]
  rw [if_neg (by omega)]
  refine wpAny_bind ?_
  refine wpAny_newList (wpAny_pure ?_) (by simp; omega)
  simp only [Nat.sub_self, Nat.sub_zero, List.take_length, List.drop_length, List.append_nil, List.cons_append, List.nil_append]
  exact hQ h2 tk fun b o e => k2 b o (Nat.ne_of_lt (Heap.lt_size e)) (sb.extBut b o (Nat.ne_of_lt (Heap.lt_size e)) (Heap.get?_push_of_some _ e))
/-- x, *xs of a tuple -/
theorem star_tup {l : Addr} {x : Value} {xs : List Value} {Q : List Value → Shared → Prop} (hh : A.handled = none) (hl : IsTup s.heap l (x :: xs).toArray) (hz : xs.length < sizeLine)
    (hQ : ∀ (h' : Heap) (tk : Nat), (∀ b o, s.heap.get? b = some o → h'.get? b = some o) → Q [x, .ref h'.objs.size] { s with heap := h'.push { cls := .type "list", data := .seq xs.toArray }, toks := tk }) :
    wpAny (model prog w) A (unpackItems (.ref l) 2 (some 1)) Q E s := by
  have hlt : l ≠ s.heap.objs.size := by obtain ⟨o, ho, _⟩ := hl; exact Nat.ne_of_lt (Heap.lt_size ho)
  unfold unpackItems
  refine wpAny_bind ?_
  unfold notIterableAtAll
  refine wpAny_bind (wpAny_specialOf hl.typeIs slot_tuple_iter.lookup ?_)
  refine wpAny_pure ?_
  simp only [Bool.false_eq_true, if_false]
  refine wpAny_bind (wpAny_holding (iter_tuple hl ?_))
  refine wpAny_bind (wpAny_holding (draw_tuple hlt 1 0 _ _ ⟨_, Heap.get?_push_size _ rfl, rfl, rfl⟩ (hl.push _) (by simp) fun h1 it1 sb => ?_))
  have l1 : IsTup h1 l (x :: xs).toArray := (hl.push _).extBut sb.extBut hlt
  simp only [List.drop_zero, List.take_succ_cons, List.take_zero, List.length_cons, List.length_nil]
  rw [if_neg (by omega)]
  refine wpAny_bind (wpAny_holding (collect_ti (s := { s with heap := h1 }) (j := 1) hh it1 l1 hlt (by simp) (by simp; omega) fun h2 tk k2 => ?_))
  simp only [List.drop_succ_cons, List.drop_zero]
  rw [if_neg (by omega)]
  refine wpAny_bind ?_
  refine wpAny_newList (wpAny_pure ?_) (by simp; omega)
  simp only [Nat.sub_self, Nat.sub_zero, List.take_length, List.drop_length, List.append_nil, List.cons_append, List.nil_append]
  exact hQ h2 tk fun b o e => k2 b o (Nat.ne_of_lt (Heap.lt_size e)) (sb.extBut b o (Nat.ne_of_lt (Heap.lt_size e)) (Heap.get?_push_of_some _ e))
end
section
variable {X : Cx} {pos p1 p2 sp : Pos}
/-- x, *y = a list or a tuple -/
def gStar (K : PySem.W.Frag) (i j : Nat) : TG := fun v σ H Q => ∃ a x xs, v = .ref a ∧ (SqL K H a (x :: xs) ∨ SqT K H a (x :: xs)) ∧ xs.length < sizeLine ∧ ∀ q, H q = none → Q ((σ.set i (some x)).set j (some (.ref q))) (upd H q (.lst xs))
theorem pg_star {i j k : Nat} {x y : Str} (hc : X.calm = true) (hN : X.N.Nodup) (hi : X.N[i]? = some x) (hj : X.N[j]? = some y) (hx : Loc X.env.scope x) (hy : Loc X.env.scope y)
    (hf : X.fn x = true ∨ X.env.scope.names.lookup x = some .local) (hf2 : X.fn y = true ∨ X.env.scope.names.lookup y = some .local) : PG X (.Tuple [.Name x p1, .Starred (.Name y p2) sp] k pos) (gStar X.K i j) := by
  refine ⟨fun pins s σ H v u Q I r hw => ?_⟩
  obtain ⟨a, z, zs, rfl, hq, hz, hw⟩ := hw
  obtain rfl : u = Value.ref a := r
  rw [PyProof.Rows.assign_Tuple]
  refine wpAny_bind (wpAny_standAt ?_)
  show wpAny _ _ (unpack (.ref a) [(false, assign (.Name x p1) X.env), (true, assign (.Name y p2) X.env)]) _ _ s
  unfold unpack
  have key : ∀ (zv : Value) (zvs : List Value) (h' : Heap) (tk : Nat), RelV z zv → Vals zs zvs → (∀ b o, s.heap.get? b = some o → h'.get? b = some o) →
      wpAny (model X.prog X.w) X.A (assignInOrder ([(false, assign (.Name x p1) X.env), (true, assign (.Name y p2) X.env)].map (·.2)) [zv, .ref h'.objs.size]) (fun _ s' => ∃ σ' H', Inv X pins σ' H' s' ∧ Q σ' H') X.xe { s with heap := h'.push { cls := .type "list", data := .seq zvs.toArray }, toks := tk } := by
    intro zv zvs h' tk rz rzs hk
    have I1 : Inv X pins σ H { s with heap := h', toks := tk } := I.kept hk
    have hfr : H h'.objs.size = none := I1.hok.fresh (Nat.le_refl _)
    have I2 : Inv X pins σ (upd H h'.objs.size (.lst zs)) { s with heap := h'.push { cls := .type "list", data := .seq zvs.toArray }, toks := tk } := I1.laid (t' := tk) (fun b o e => Heap.get?_push_of_some _ e) (Nat.le_refl _)
      (show ObjOk X.prog X.w _ _ _ (.lst zs) from ⟨by omega, zvs, 0, rzs, Heap.get?_push_size _ rfl⟩)
    have g1 := pg_name (pos := p1) hN hi hx hf
    have g2 := pg_name (pos := p2) hN hj hy hf2
    refine assignInOrder_cons (thn (g1.run pins _ σ _ z zv (fun σ' H' => σ' = σ.set i (some z) ∧ H' = upd H h'.objs.size (.lst zs)) I2 rz ⟨rfl, rfl⟩) fun _ s2 q2 => ?_)
    obtain ⟨σ2, H2, I3, rfl, rfl⟩ := q2
    refine assignInOrder_cons (thn (g2.run pins s2 _ _ (.ref h'.objs.size) (.ref h'.objs.size) (fun σ' H' => σ' = (σ.set i (some z)).set j (some (.ref h'.objs.size)) ∧ H' = upd H h'.objs.size (.lst zs)) I3 rfl ⟨rfl, rfl⟩) fun _ s3 q3 => ?_)
    obtain ⟨σ3, H3, I4, rfl, rfl⟩ := q3
    exact assignInOrder_nil ⟨_, _, I4, hw _ hfr⟩
  show wpAny _ _ (holding [Value.ref a] (unpackItems (.ref a) 2 (some 1)) >>= _) _ _ s
  rcases hq with hq | hq
  · obtain ⟨its, rv, pl, _⟩ := I.list hq
    cases rv with
    | cons rz rzs =>
      refine wpAny_bind (wpAny_holding (star_list (I.ok.hd hc) pl.isList (by rw [← rzs.length]; exact hz) fun h' tk hk => key _ _ h' tk rz rzs hk))
  · obtain ⟨its, rv, pl, _⟩ := I.tuple hq
    cases rv with
    | cons rz rzs =>
      refine wpAny_bind (wpAny_holding (star_tup (I.ok.hd hc) pl (by rw [← rzs.length]; exact hz) fun h' tk hk => key _ _ h' tk rz rzs hk))
end
/-! list(reversed(list)) -/
section
variable {prog : Program} {w : World} {A : Around} {E : Value → Shared → Prop} {s : Shared}
theorem ext_rev {R : Result → Shared → Prop} {it l : Addr} {items : Array Value} (hh : A.handled = none) (hit : s.heap.IsRevIter it l ((items.size : Int) - 1)) (hl : s.heap.IsList l items) (hne : l ≠ it) (hn : items.size ≤ sizeLine) (D : Addr) (res : Value) (c0 : Nat)
    (hD : s.heap.get? D = some { cls := .type "list", data := .seq #[] c0 }) (hDi : D ≠ it) (hDl : D ≠ l)
    (hR : ∀ (h' : Heap) (tk : Nat) (acc : Array Value) (c' : Nat), (∀ b o, b ≠ D → b ≠ it → s.heap.get? b = some o → h'.get? b = some o) → h'.get? D = some { cls := .type "list", dict := none, data := .seq acc c', slots := #[] } →
      ItemsOf (fun i v => items[items.size - 1 - i]? = some v) acc items.size → R (.ok (.ret res)) { s with heap := h', toks := tk }) :
    wpAny (model prog w) A.in1 (Builtin.List.listExtendWith (.ref D) (.ref it) res)
      (fun fin s' => match fin with | .done f => R (.ok f) s' | .again c' => c'.quiet = true ∧ codeAny (model prog w) A c' R s') (fun e s' => R (.error e) s') s := by
  have W := (Walks.listRev (prog := prog) (w := w) (A := A.in1) hh it l hne items).toS
  have hT : s.TypeIs (.ref it) "list_reverseiterator" := hit.typeIs
  have hDf : D ∉ [it, l] := by simp only [List.mem_cons, List.not_mem_nil, or_false, not_or]; exact ⟨hDi, hDl⟩
  have n1 : Builtin.List.listSameRef (.ref D) (.ref it) = false := by simp [Builtin.List.listSameRef, hDi]
  unfold Builtin.List.listExtendWith
  refine wpAny_bind (wpAny_typeOf hT ?_)
  rw [if_neg (by rw [n1]; decide)]
  refine wpAny_bind (wpAny_pyIter_revIter hit ?_)
  refine wpAny_bind (wpAny_holding ?_)
  unfold Builtin.List.listLengthHint
  refine wpAny_bind (wpAny_specialOf hT RT.nolen_lri ?_)
  show wpAny _ A.in1 (specialOf (Value.ref it) (Str.ofString "__length_hint__") >>= _) _ _ _
  refine wpAny_bind (wpAny_specialOf hT RT.hint_lri ?_)
  generalize hid : ("list_reverseiterator.__length_hint__" : String) = idr
  wp_delta
  rw [show splitId idr = some ("list_reverseiterator", "__length_hint__") from by subst hid; decide +kernel]
  subst hid
  refine wpAny_bind (wpAny_isInstance (b := true) hT (by rw [isSubtype_type]; kernel_rfl) ?_)
  refine wpAny_pure ?_
  rw [if_neg (by decide)]
  have z0 : ((items.size : Nat) : Int) - 1 - ((0 : Nat) : Int) = (items.size : Int) - 1 := by omega
  refine wpAny_pure ⟨plainId_quiet F.plain_extend_loop _, codeAny_extend_loopS W hn D hDf res items.size 0 _ _ c0 rfl (Nat.zero_le _) ⟨Nat.zero_le _, by rw [z0]; exact hit, hl⟩ hD (ItemsOf.nil _) fun s' acc c' hm hD' ha => ?_⟩
  rw [Moved.eq_with hm]
  refine hR _ _ acc c' (fun b o hb hbi e => hm.heap b o (fun z => ?_) e) hD' ha
  rcases List.mem_cons.mp z with z | z
  · exact hb z
  · exact hbi (List.mem_singleton.mp z)
theorem call_list_rev {it l : Addr} {items : Array Value} {Q : Value → Shared → Prop} (hh : A.handled = none) (hit : s.heap.IsRevIter it l ((items.size : Int) - 1)) (hl : s.heap.IsList l items) (hne : l ≠ it) (hn : items.size ≤ sizeLine)
    (hQ : ∀ (h' : Heap) (tk : Nat) (acc : Array Value) (c' : Nat), (∀ b o, b ≠ it → s.heap.get? b = some o → h'.get? b = some o) → h'.get? s.heap.objs.size = some { cls := .type "list", dict := none, data := .seq acc c', slots := #[] } →
      ItemsOf (fun i v => items[items.size - 1 - i]? = some v) acc items.size → Q (.ref s.heap.objs.size) { s with heap := h', toks := tk }) :
    wpAny (model prog w) A (call (.type "list") [.ref it]) Q E s := by
  obtain ⟨oi, hoi, _⟩ := id hit
  obtain ⟨ol, hol, _⟩ := id hl
  refine callType_codes (Q₁ := fun obj s1 => obj = .ref s.heap.objs.size ∧ s1 = { s with heap := s.heap.push { cls := .type "list", data := .seq #[] } }) F.called_list (F.typeCall_list_1 _) F.entry_list_init (code_list_new _ ⟨rfl, rfl⟩) fun obj s1 q1 => ?_
  obtain ⟨rfl, rfl⟩ := q1
  have hS : (s.heap.push { cls := .type "list", data := .seq #[] }).get? s.heap.objs.size = some { cls := .type "list", data := .seq #[] } := Heap.get?_push_size _ rfl
  refine ⟨⟨_, hS, rfl⟩, F.args_list_init_2 _ _, ?_⟩
  show wpAny _ _ (do let old ← Builtin.List.listItems (.ref s.heap.objs.size); Builtin.List.listUpdate (.ref s.heap.objs.size) (fun _ => #[]); letGo old.toList.reverse; Builtin.List.listExtendWith (.ref s.heap.objs.size) (.ref it) .none) _ _ _
  refine wpAny_bind ?_
  unfold Builtin.List.listItems
  refine wpAny_bind (wpAny_seqItems hS rfl (wpAny_pure ?_))
  show wpAny _ _ (updateSeq s.heap.objs.size (fun _ => #[]) >>= fun _ => letGo (#[] : Array Value).toList.reverse >>= fun _ => Builtin.List.listExtendWith (.ref s.heap.objs.size) (.ref it) .none) _ _ _
  refine wpAny_bind (wpAny_updateSeq hS rfl ?_)
  have hS2 := Heap.get?_update_self (Obj.mapSeq (fun _ => (#[] : Array Value))) hS rfl
  have oth : ∀ b o, s.heap.get? b = some o → ((s.heap.push { cls := .type "list", data := .seq #[] }).update s.heap.objs.size (Obj.mapSeq (fun _ => (#[] : Array Value)))).get? b = some o :=
    fun b o e => (Heap.get?_update_other _ _ (Ne.symm (Nat.ne_of_lt (Heap.lt_size e)))).trans (Heap.get?_push_of_some _ e)
  refine wpAny_bind (wpAny_letGo ?_)
  refine ext_rev (A := A.in1) hh (hit.at fun o e => oth _ _ e) (hl.at fun o e => oth _ _ e) hne hn _ _ _ hS2 (Nat.ne_of_gt (Heap.lt_size hoi)) (Nat.ne_of_gt (Heap.lt_size hol)) fun h' tk acc c' hk hS' ha => ?_
  exact ⟨rfl, hQ h' tk acc c' (fun b o hb e => hk b o (Nat.ne_of_lt (Heap.lt_size e)) hb (oth b o e)) hS' ha⟩
end
section
variable {X : Cx} {pos p1 p2 pos2 : Pos}
def tLstRev (K : PySem.W.Frag) (te : TE) : TE := fun σ H Q => te σ H fun v H1 => ∃ (a : Addr) (xs : List V), v = .ref a ∧ SqL K H1 a xs ∧ ∀ q, H1 q = none → Q (.ref q) (upd H1 q (.lst xs.reverse))
theorem pe_lstRev {e : Expr} {te : TE} (hc : X.calm = true) (hg : Gl X "list") (hm : X.mg "list" = none) (hg2 : Gl X "reversed") (hm2 : X.mg "reversed" = none) (he : PE X e te) (hs : starEach [e] X.env = (false, eval e X.env) :: starEach [] X.env) :
    PE X (.Call (.Name "list" p1) [.Call (.Name "reversed" p2) [e] [] pos2] [] pos) (tLstRev X.K te) := by
  have hs2 : starEach [.Call (.Name "reversed" p2) [e] [] pos2] X.env = (false, eval (.Call (.Name "reversed" p2) [e] [] pos2) X.env) :: starEach [] X.env := rfl
  refine ⟨fun pins s σ H Q I h => ?_⟩
  refine Call_ (ld_blt I hg hm boot_list (PyProof.Rows.callWith_type1 (args_cons (Call_ (ld_blt I hg2 hm2 PyProof.Rows.boot_reversed (PyProof.Rows.callWith_type1 (args_cons (thn (he.run pins s σ H _ I h) fun u t1 ⟨v, H1, I1, r1, q1⟩ => args_nil ?_) hs) hs rfl))) hs2) hs2 rfl))
  obtain ⟨a, xs, rfl, hq, q⟩ := q1
  obtain rfl : u = Value.ref a := r1
  obtain ⟨its, rv, p', hz⟩ := I1.list hq
  refine call_reversed_list p'.isList (args_nil ?_)
  have I2 : Inv X pins σ H1 { t1 with heap := t1.heap.push (revObj a ((its.toArray.size : Int) - 1)) } := I1.kept (t' := t1.toks) fun b o e => Heap.get?_push_of_some _ e
  obtain ⟨f0, f1, f2, f3, f4, f5⟩ := I1.fpOk (H' := H1) (b := t1.heap.objs.size) (Nat.le_refl _) (I1.hok.fresh (Nat.le_refl _))
  have hl := p'.isList
  obtain ⟨ol, hol, _⟩ := id hl
  have hne : a ≠ t1.heap.objs.size := Nat.ne_of_lt (Heap.lt_size hol)
  have hn : its.toArray.size ≤ sizeLine := by rw [List.size_toArray, ← rv.length]; exact hz
  refine call_list_rev (s := { t1 with heap := t1.heap.push (revObj a ((its.toArray.size : Int) - 1)) }) (I1.ok.hd hc) ⟨_, Heap.get?_push_size _ rfl, rfl, rfl⟩ (hl.push _) hne hn fun h' tk acc c' hk hS ha => ?_
  refine ⟨.ref _, upd H1 _ (.lst xs.reverse), I2.turnedNew (t' := tk) (ch := [t1.heap.objs.size]) (fun b o hb e => hk b o (fun z => hb (by simp [z])) e) (fun b hb => ?_) (Nat.le_refl _) ⟨by rw [List.length_reverse]; exact hz, acc.toList, c', RT.vals_rev rv ha, ?_⟩, rfl, q _ (I2.hok.fresh (Nat.le_refl _))⟩
  · obtain rfl := List.mem_singleton.mp hb
    exact I1.fpOk (H' := H1) (Nat.le_refl _) (I1.hok.fresh (Nat.le_refl _))
  · rw [Array.toArray_toList]; exact hS
end
/-! sorted -/
theorem sortI_perm (ns : List Int) : (sortI ns).Perm ns := List.mergeSort_perm ..
theorem sortI_le (ns : List Int) : (sortI ns).Pairwise (· ≤ ·) := by
  have := List.pairwise_mergeSort (le := fun a b : Int => decide (a ≤ b)) (fun a b c h1 h2 => by simp only [decide_eq_true_eq] at h1 h2 ⊢; omega) (fun a b => by simp only [Bool.or_eq_true, decide_eq_true_eq]; omega) ns
  exact this.imp fun h => by simpa using h
theorem sortI_eq {ns ns' : List Int} (hp : ns'.Perm ns) (hs : ns'.Pairwise (· ≤ ·)) : ns' = sortI ns :=
  List.Perm.eq_of_pairwise (le := fun a b : Int => a ≤ b) (fun a b _ _ h1 h2 => Int.le_antisymm h1 h2) hs (sortI_le ns) (hp.trans (sortI_perm ns).symm)
/-! l[i] of a list, for l[i] op= e -/
section
variable {X : Cx}
theorem get_lst : PGet X (rIxL X.K) := by
  intro pins s σ H x y v u Q I rx ry h
  obtain ⟨p, xs, i, z, rfl, rfl, hq, he, q⟩ := h
  cases rx
  obtain ⟨t, rfl⟩ := ry
  obtain ⟨its, r, pl, hz⟩ := I.list hq
  obtain ⟨j, h1, h2, h3, h4, h5⟩ := atI_get he
  obtain ⟨u, ew, rw'⟩ := r.get h2
  have hl := r.length
  have hn := line63
  have fin : EP X pins σ Q u s := ⟨z, H, I, rw', q⟩
  by_cases h0 : 0 ≤ i
  · have hj : i.toNat = j := by
      rw [seqIndex_of h0 h5] at h1
      exact Option.some.inj h1
    exact wpAny_getItem_list pl.isList h0 (by omega) (by rw [hj]; simpa using ew) fin
  · have hj : (i + (its.toArray.size : Int)).toNat = j := by
      rw [seqIndex_neg (by omega) h4] at h1
      rw [List.size_toArray, ← hl]
      exact Option.some.inj h1
    exact wpAny_getItem_list_neg pl.isList (by omega) (by rw [List.size_toArray] <;> omega) (by omega) (by rw [hj]; simpa using ew) fin
end
/-! a op b op c op d as a test -/
section
variable {X : Cx} {a b c d : Expr} {ta tb tc td : TE} {pos : Pos}
def tChain3 (r r' r2 : R2) (ta tb tc td : TE) : TT := fun σ H Q => ta σ H fun x H1 => tb σ H1 fun y H2 => r x y H2 fun z H3 => ∃ k, z = .bl k ∧
  (if k = true then tc σ H3 fun x3 H4 => r' y x3 H4 fun z2 H5 => ∃ k2, z2 = .bl k2 ∧ (if k2 = true then td σ H5 fun x4 H6 => r2 x3 x4 H6 fun z3 H7 => ∃ k3, z3 = .bl k3 ∧ Q k3 H7 else Q false H5) else Q false H3)
theorem pt_chain3 {o o' o2 : CmpOp} {r r' r2 : R2} (ho : OpR X (compareOp o) r) (ho' : OpR X (compareOp o') r') (ho2 : OpR X (compareOp o2) r2) (ha : PE X a ta) (hb : PE X b tb) (hc : PE X c tc) (hd : PE X d td)
    (hm : lastMarks [o, o', o2] [b, c, d] = false) : PT X (.Compare a [o, o', o2] [b, c, d] pos) (tChain3 r r' r2 ta tb tc td) := by
  refine ⟨fun pins s σ H Q I h => ?_⟩
  refine isTrue_chain (thn (ha.run pins s σ H _ I h) fun v s1 ⟨x, H1, I1, r1, q1⟩ => test_link (thn (hb.run pins s1 σ H1 _ I1 q1) fun u s2 ⟨y, H2, I2, rr2, q2⟩ =>
    thn (ho pins s2 σ H2 x y v u _ I2 r1 rr2 q2) fun d1 s3 ⟨z, H3, I3, r3, k, e, q3⟩ => ?_)) hm
  subst e
  cases r3
  refine wpAny_truthy_bool ?_
  cases k with
  | false => exact ite_ff ⟨H3, I3, q3⟩
  | true =>
    refine ite_tt (test_link (thn (hc.run pins s3 σ H3 _ I3 q3) fun w3 s4 ⟨x3, H4, I4, r4, q4⟩ => thn (ho' pins s4 σ H4 y x3 u w3 _ I4 rr2 r4 q4) fun d2 s5 ⟨z2, H5, I5, r5, k2, e2, q5⟩ => ?_))
    subst e2
    cases r5
    refine wpAny_truthy_bool ?_
    cases k2 with
    | false => exact ite_ff ⟨H5, I5, q5⟩
    | true =>
      refine ite_tt (test_last (thn (hd.run pins s5 σ H5 _ I5 q5) fun w4 s6 ⟨x4, H6, I6, r6, q6⟩ => thn (ho2 pins s6 σ H6 x3 x4 w3 w4 _ I6 r4 r6 q6) fun d3 s7 ⟨z3, H7, I7, r7, k3, e3, q7⟩ => ?_))
      subst e3
      cases r7
      exact wpAny_truthy_bool ⟨H7, I7, q7⟩
end
end BX
set_option Elab.async false
set_option linter.all false
set_option maxRecDepth 100000
set_option maxHeartbeats 2000000
/-! BX3d: dicts, fields, sorted texts: what the primitives ask. -/
namespace BX
open PySem L2 PyProof.Rows

section
variable {K : PySem.W.Frag} {G : Gx} {w : Wd} {S : Sto} {H : Hp} {v : V} {d : D}
/-- what a looked-at value is, seen through the store -/
theorem dr_dct (hS : RSt G w S H) (r : RO G.K w H v d) {ks : List Key} {ds : List D} (e : dr S d = .dct ks ds) : ∃ a kvs, v = .ref a ∧ Rd H a (.dK kvs) ∧ kvs.map (·.1) = ks ∧ RVs G.K w H (kvs.map (·.2)) ds := by
  cases d <;> simp only [dr] at e <;> try cases e
  case ref n =>
    split at e
    · cases e
    · rename_i ks' vs' h
      cases e
      obtain ⟨a, e1, rfl⟩ := r.refn
      obtain ⟨a', e2, kvs, h1, h2, h3⟩ := hS.ob n _ h
      rw [e1] at e2
      cases e2
      exact ⟨a, kvs, rfl, .inl h1, h2, h3⟩
    · rename_i ks' vs' h
      cases e
      obtain ⟨a, e1, rfl⟩ := r.refn
      obtain ⟨a', e2, o, kvs, h1, h2, h3⟩ := hS.ob n _ h
      rw [e1] at e2
      cases e2
      exact ⟨a, kvs, rfl, .inr ⟨o, h1⟩, h2, h3⟩
    · cases e
  case dct => exact r.dct
theorem dr_lst (hS : RSt G w S H) (r : RO G.K w H v d) {l : List D} (e : dr S d = .lst l) : ∃ a vs, v = .ref a ∧ Rd H a (.lst vs) ∧ RVs G.K w H vs l := by
  cases d <;> simp only [dr] at e <;> try cases e
  case ref n =>
    split at e
    · rename_i l' h
      cases e
      obtain ⟨a, e1, rfl⟩ := r.refn
      obtain ⟨a', e2, vs, h1, h2⟩ := hS.ob n _ h
      rw [e1] at e2
      cases e2
      exact ⟨a, vs, rfl, .inl h1, h2⟩
    · cases e
    · cases e
    · cases e
  case lst => exact r.lst
theorem key_of (r : RO K w H v d) {k : Key} (e : keyD d = some k) : v = kV k := by
  cases d <;> simp only [keyD] at e <;> cases e
  · exact r.int
  · exact r.str
theorem keyD_rv (k : Key) : RV K w H (kV k) (dOfKey k) := by
  cases k <;> simp [kV, dOfKey, RV]
theorem keys_rvs : ∀ (ks : List Key), RVs K w H (ks.map kV) (keysL ks)
  | [] => by simp [keysL, RVs]
  | k :: ks => by simp only [keysL, List.map_cons, RVs]; exact ⟨_, _, rfl, keyD_rv k, keys_rvs ks⟩
theorem getK_nil (k : Key) (ds : List D) : getK [] ds k = none := rfl
theorem getK_cons (j : Key) (ks : List Key) (x : D) (ds : List D) (k : Key) : getK (j :: ks) (x :: ds) k = if j = k then some x else getK ks ds k := by
  unfold getK
  simp only [List.zip_cons_cons, List.find?_cons]
  by_cases h : j = k <;> simp [h]
theorem getK_rel : ∀ {kvs : List (Key × V)} {ks : List Key} {ds : List D}, kvs.map (·.1) = ks → RVs K w H (kvs.map (·.2)) ds → ∀ k, (getK ks ds k = none ∧ valV kvs k = none) ∨ ∃ x u, getK ks ds k = some x ∧ valV kvs k = some u ∧ RV K w H u x
  | [], ks, ds, hk, hr, k => by
    subst hk
    exact .inl ⟨rfl, rfl⟩
  | (j, u) :: kvs, ks, ds, hk, hr, k => by
    subst hk
    cases ds with
    | nil => simp only [List.map_cons, RVs] at hr; cases hr
    | cons x ds =>
      simp only [List.map_cons, RVs] at hr ⊢
      obtain ⟨v, r, e, h1, h2⟩ := hr
      cases e
      rw [getK_cons]
      by_cases h : j = k
      · rw [if_pos h, valV_pos (p := (j, u)) h]
        exact .inr ⟨x, u, rfl, rfl, h1⟩
      · rw [if_neg h, valV_neg (p := (j, u)) h]
        exact getK_rel rfl h2 k
theorem getK_isSome {kvs : List (Key × V)} {ks : List Key} {ds : List D} (hk : kvs.map (·.1) = ks) (hr : RVs K w H (kvs.map (·.2)) ds) (k : Key) : hasK ks ds k = (valV kvs k).isSome := by
  rcases getK_rel hk hr k with ⟨h1, h2⟩ | ⟨x, u, h1, h2, _⟩ <;> simp [hasK, h1, h2]
theorem kvs_len {kvs : List (Key × V)} {ks : List Key} (hk : kvs.map (·.1) = ks) : kvs.length = ks.length := by rw [← hk, List.length_map]
/-- d[k] = v -/
theorem put_rel {kvs : List (Key × V)} {ks : List Key} {ds : List D} (hk : kvs.map (·.1) = ks) (hr : RVs K w H (kvs.map (·.2)) ds) {u : V} {x : D} (hx : RV K w H u x) (k : Key) : (putK kvs k u).map (·.1) = putKs ks k ∧ RVs K w H ((putK kvs k u).map (·.2)) (putVs ks ds k x) := by
  have hany : (kvs.any fun kv => decide (kv.1 = k)) = ks.any fun j => decide (j = k) := by rw [← hk, List.any_map]; rfl
  unfold putK putKs putVs
  rw [hany]
  split
  · refine ⟨?_, ?_⟩
    · rw [← hk, List.map_map]
      apply List.map_congr_left
      intro p _
      show (if p.1 = k then _ else _ : Key × V).1 = p.1
      split <;> rfl
    · clear hany
      rename_i hh
      clear hh
      induction kvs generalizing ks ds with
      | nil => subst hk; simp [RVs]
      | cons p kvs ih =>
        subst hk
        cases ds with
        | nil => simp only [List.map_cons, RVs] at hr; obtain ⟨_, _, h, _⟩ := hr
        | cons y ds =>
          simp only [List.map_cons, RVs, List.zip_cons_cons] at hr ⊢
          obtain ⟨v, r, e, h1, h2⟩ := hr
          cases e
          refine ⟨_, _, rfl, ?_, ih rfl h2⟩
          by_cases hpk : p.1 = k
          · simp only [hpk, if_true]; exact hx
          · simp only [hpk, if_false]; exact h1
  · refine ⟨by simp [hk], ?_⟩
    rw [List.map_append]
    exact hr.append (by simp only [List.map_cons, List.map_nil, RVs]; exact ⟨_, _, rfl, hx, rfl⟩)
theorem drop_rel {kvs : List (Key × V)} {ks : List Key} {ds : List D} (hk : kvs.map (·.1) = ks) (hr : RVs K w H (kvs.map (·.2)) ds) (k : Key) : (dropK kvs k).map (·.1) = dropKs ks k ∧ RVs K w H ((dropK kvs k).map (·.2)) (dropVs ks ds k) := by
  unfold dropK dropKs dropVs
  refine ⟨by rw [← hk, List.filter_map]; rfl, ?_⟩
  induction kvs generalizing ks ds with
  | nil => subst hk; simp [RVs]
  | cons p kvs ih =>
    subst hk
    cases ds with
    | nil => simp only [List.map_cons, RVs] at hr; obtain ⟨_, _, h, _⟩ := hr
    | cons y ds =>
      simp only [List.map_cons, RVs, List.zip_cons_cons] at hr ⊢
      obtain ⟨v, r, e, h1, h2⟩ := hr
      cases e
      by_cases hpk : p.1 = k
      · simpa [List.filter_cons, hpk] using ih rfl h2
      · simp only [List.filter_cons, hpk, ne_eq, not_false_eq_true, decide_true, if_true, List.map_cons, RVs]
        exact ⟨_, _, rfl, h1, ih rfl h2⟩
/-- an instance's field -/
theorem fld_zip : ∀ {fv : List (Str × V)} {fs : List Str} {ds : List D} {f : Str} {x : D}, fv.map (·.1) = fs → RVs K w H (fv.map (·.2)) ds → ((fs.zip ds).find? fun p => decide (p.1 = f)).map (·.2) = some x → ∃ u, fv.lookup f = some u ∧ RV K w H u x ∧ f ∈ fs
  | [], fs, ds, f, x, hk, hr, e => by subst hk; simp at e
  | (g, u) :: fv, fs, ds, f, x, hk, hr, e => by
    subst hk
    cases ds with
    | nil => simp only [List.map_cons, RVs] at hr; obtain ⟨_, _, h, _⟩ := hr
    | cons y ds =>
      simp only [List.map_cons, RVs, List.zip_cons_cons, List.find?_cons] at hr e ⊢
      obtain ⟨v, r, e1, h1, h2⟩ := hr
      cases e1
      by_cases h : g = f
      · subst h
        simp at e
        subst e
        exact ⟨u, by simp [List.lookup], h1, List.mem_cons_self ..⟩
      · simp only [h, decide_false] at e
        obtain ⟨u', h3, h4, h5⟩ := fld_zip rfl h2 e
        refine ⟨u', ?_, h4, List.mem_cons_of_mem _ h5⟩
        have hb : (f == g) = false := by simpa using fun z => h z.symm
        simp only [List.lookup, hb]
        exact h3
theorem look_zip {fs : List (Str × D)} {f : Str} : fs.lookup f = (((fs.map (·.1)).zip (fs.map (·.2))).find? fun p => decide (p.1 = f)).map (·.2) := by
  induction fs with
  | nil => rfl
  | cons p fs ih =>
    obtain ⟨g, x⟩ := p
    simp only [List.map_cons, List.zip_cons_cons, List.find?_cons, List.lookup]
    by_cases h : g = f
    · subst h; simp
    · have hb : (f == g) = false := by simpa using fun z => h z.symm
      simp only [hb, h, decide_false]
      exact ih
theorem fld_rel (hS : RSt G w S H) (r : RO G.K w H v d) {f : Str} {x : D} (e : fldF S f d = some x) : ∃ a C dx fv u, v = .ref a ∧ H a = some (.ins C dx fv) ∧ Cls G.K C ∧ NoAttr G.K C f ∧ fv.lookup f = some u ∧ RV G.K w H u x := by
  cases d <;> simp only [fldF] at e <;> try cases e
  case ref n =>
    split at e
    · rename_i c fs h
      obtain ⟨a, e1, rfl⟩ := r.refn
      obtain ⟨a', e2, C, dx, fv, h1, h2, h3, h4, h5⟩ := hS.ob n _ h
      rw [e1] at e2
      cases e2
      rw [look_zip] at e
      obtain ⟨u, k1, k2, k3⟩ := fld_zip h3.ks h3.vs e
      exact ⟨a, C, dx, fv, u, rfl, h2, h4, h5 f k3, k1, k2⟩
    · cases e
  case obj fs ds =>
    obtain ⟨a, C, dx, fv, rfl, h1, h2, h3, h4, h5⟩ := r.obj
    obtain ⟨u, k1, k2, k3⟩ := fld_zip h4 h5 e
    exact ⟨a, C, dx, fv, u, rfl, h1, h2, h3 f k3, k1, k2⟩
end
/-! texts -/
theorem strsOf_rvs {K : PySem.W.Frag} {w : Wd} {H : Hp} : ∀ {l : List D} {vs : List V} {xs : List Str}, RVs K w H vs l → strsOf l = some xs → vs = xs.map V.str
  | [], vs, xs, h, e => by simp only [RVs] at h; simp only [strsOf] at e; cases e; exact h
  | d :: l, vs, xs, h, e => by
    simp only [RVs] at h
    obtain ⟨v, r, rfl, h1, h2⟩ := h
    cases d <;> simp only [strsOf] at e <;> try cases e
    rename_i x
    cases q : strsOf l with
    | none => rw [q] at e; cases e
    | some ys =>
      rw [q] at e
      cases e
      simp only [RV] at h1
      subst h1
      simp [strsOf_rvs h2 q]
theorem strs_rvs {K : PySem.W.Frag} {w : Wd} {H : Hp} : ∀ (xs : List Str), RVs K w H (xs.map V.str) (xs.map D.str)
  | [] => by simp [RVs]
  | x :: xs => by simp only [List.map_cons, RVs]; exact ⟨_, _, rfl, by simp [RV], strs_rvs xs⟩
theorem leS_tot (x y : Str) : (leS x y || leS y x) = true := by
  unfold leS
  have := List.le_total x.cps.toList y.cps.toList
  simpa using this
theorem leS_tr (x y z : Str) (h1 : leS x y = true) (h2 : leS y z = true) : leS x z = true := by
  unfold leS at *
  simp only [decide_eq_true_eq] at *
  exact List.le_trans h1 h2
theorem leS_anti {x y : Str} (h1 : leS x y = true) (h2 : leS y x = true) : x = y := by
  unfold leS at *
  simp only [decide_eq_true_eq] at *
  have := List.le_antisymm h1 h2
  cases x; cases y
  simp only [Str.mk.injEq]
  exact Array.toList_inj.mp this
theorem sortS_perm (xs : List Str) : (sortS xs).Perm xs := List.mergeSort_perm ..
theorem sortS_le (xs : List Str) : (sortS xs).Pairwise (fun a b => leS a b = true) := List.pairwise_mergeSort leS_tr leS_tot xs
theorem sortS_eq {xs ys : List Str} (hp : ys.Perm xs) (hs : ys.Pairwise (fun a b => leS a b = true)) : ys = sortS xs :=
  List.Perm.eq_of_pairwise (le := fun a b => leS a b = true) (fun a b _ _ h1 h2 => leS_anti h1 h2) hs (sortS_le xs) (hp.trans (sortS_perm xs).symm)
theorem ltCps_iff : ∀ a b : List Nat, Spec.ltCps a b = decide (a < b)
  | [], [] => by simp [Spec.ltCps]
  | [], _ :: _ => by simp [Spec.ltCps]
  | _ :: _, [] => by simp [Spec.ltCps]
  | a :: r, b :: t => by
    simp only [Spec.ltCps, ltCps_iff r t, List.cons_lt_cons_iff]
    by_cases h1 : a < b
    · simp [h1]
    · by_cases h2 : a = b
      · simp [h2]
      · simp [h1, h2]
theorem rising_le : ∀ (ys : List Str) (p : Str), risingS p ys = true → (∀ y ∈ ys, leS p y = true) ∧ ys.Pairwise (fun a b => leS a b = true)
  | [], p, _ => ⟨(fun y hy => by cases hy), List.Pairwise.nil⟩
  | x :: r, p, h => by
    simp only [risingS, Bool.and_eq_true, Bool.not_eq_true'] at h
    obtain ⟨h1, h2⟩ := rising_le r x h.2
    have hpx : leS p x = true := by
      unfold leS
      have h3 := h.1
      rw [ltCps_iff, decide_eq_false_iff_not] at h3
      exact decide_eq_true (List.not_lt.mp h3)
    refine ⟨fun y hy => ?_, List.pairwise_cons.mpr ⟨h1, h2⟩⟩
    rcases List.mem_cons.mp hy with rfl | hy
    · exact hpx
    · exact leS_tr _ _ _ hpx (h1 y hy)
theorem sorted_le {ys : List Str} (h : sortedS ys = true) : ys.Pairwise (fun a b => leS a b = true) := by
  cases ys with
  | nil => exact .nil
  | cons x r =>
    obtain ⟨h1, h2⟩ := rising_le r x h
    exact List.pairwise_cons.mpr ⟨h1, h2⟩
end BX
set_option Elab.async false
set_option linter.all false
set_option maxRecDepth 100000
set_option maxHeartbeats 2000000
/-! BX3e: a list against the empty list. -/
namespace BX
open PySem L2
open PyProof.Rows hiding St Binds

section
variable {X : Cx}
theorem op_eq0 (hu : X.A.units < cLine) : OpR X (compareOp .Eq) (fun x y H Q => ∃ a b vs, x = .ref a ∧ y = .ref b ∧ Rd H a (.lst vs) ∧ Rd H b (.lst []) ∧ Q (.bl vs.isEmpty) H) := by
  intro pins s σ H x y v u Q I rx ry h
  obtain ⟨a, b, vs, rfl, rfl, h1, h2, q⟩ := h
  obtain rfl : v = Value.ref a := rx
  obtain rfl : u = Value.ref b := ry
  obtain ⟨its, r1, p1, _⟩ := I.list (.inl h1)
  obtain ⟨its2, r2, p2, _⟩ := I.list (.inl h2)
  have l1 := r1.length
  have l2 := r2.length
  simp only [List.length_nil] at l2
  cases vs with
  | nil =>
    simp only [List.length_nil] at l1
    refine SeqAt.eq_listAt (e := fun _ => true) p1.isList p2.isList (by simp [← l1, ← l2]) hu (fun j h1 => ?_) (fin_bl I q ?_)
    · simp [← l1] at h1
    · simp
  | cons w ws =>
    refine SeqAt.eq_list_lengthsAt p1.isList p2.isList ?_ hu (fin_bl I q rfl)
    simp only [List.length_cons] at l1
    simp [← l1, ← l2]
theorem op_ne0 (hu : X.A.units < cLine) : OpR X (compareOp .NotEq) (fun x y H Q => ∃ a b vs, x = .ref a ∧ y = .ref b ∧ Rd H a (.lst vs) ∧ Rd H b (.lst []) ∧ Q (.bl (!vs.isEmpty)) H) := by
  intro pins s σ H x y v u Q I rx ry h
  obtain ⟨a, b, vs, rfl, rfl, h1, h2, q⟩ := h
  obtain rfl : v = Value.ref a := rx
  obtain rfl : u = Value.ref b := ry
  obtain ⟨its, r1, p1, _⟩ := I.list (.inl h1)
  obtain ⟨its2, r2, p2, _⟩ := I.list (.inl h2)
  have l1 := r1.length
  have l2 := r2.length
  simp only [List.length_nil] at l2
  cases vs with
  | nil =>
    simp only [List.length_nil] at l1
    refine SeqAt.RcNeAt.lists (e := fun _ => true) p1.isList p2.isList (by simp [← l1, ← l2]) hu (fun j h1 => ?_) X.prog X.w _ _ (fin_bl I q ?_)
    · simp [← l1] at h1
    · simp
  | cons w ws =>
    refine SeqAt.RcNeAt.lists_lengths p1.isList p2.isList ?_ hu X.prog X.w _ _ (fin_bl I q rfl)
    simp only [List.length_cons] at l1
    simp [← l1, ← l2]
end
end BX
set_option Elab.async false
set_option linter.all false
set_option maxRecDepth 100000
set_option maxHeartbeats 2000000
/-! BX3f: sorted(xs, key=f), f a function that may lay things in the heap. -/
namespace BX
open PySem L2
open PyProof.Rows hiding St Binds
open PySem.W (dataLe AllAlike Sortable alike)

theorem each_vals {vs : List V} {us : List Value} {kz : List PyData} (r : Vals vs us) (hl : kz.length = vs.length) : PySem.W.EachIs (fun (u : Value) (p : V × PyData) => RelV p.1 u) us (vs.zip kz) := by
  induction r generalizing kz with
  | nil => exact .nil
  | cons r rs ih =>
    cases kz with
    | nil => simp at hl
    | cons k kz => exact .cons r (ih (by simpa using hl))
theorem vals_each : ∀ {us : List Value} {ps : List (V × PyData)}, PySem.W.EachIs (fun (u : Value) (p : V × PyData) => RelV p.1 u) us ps → Vals (ps.map (·.1)) us
  | _, _, .nil => .nil
  | _, _, .cons r rs => .cons r (vals_each rs)
theorem each_dp {X : Cx} {pins : List (Addr × Obj)} {σ : St} {H : Hp} {s : Shared} (I : Inv X pins σ H s) : ∀ {kz : List PyData} {ks : List V} {us : List Value}, DpAll X.K H ks kz → Vals ks us → PySem.W.EachIs (fun v k => ∃ as, Reads s.heap v k as) us kz
  | [], ks, us, h, r => by cases h; cases r; exact .nil
  | d :: kz, ks, us, h, r => by
    cases h with
    | cons h1 h2 =>
      cases r with
      | cons r1 r2 => exact .cons (Dp.reads I d _ _ h1 r1) (each_dp I h2 r2)
section
variable {X : Cx} {pins : List (Addr × Obj)} {σ : St} {H : Hp} {s : Shared}
theorem fpOk_of {b : Addr} {H1 H2 : Hp} (h : FpOk X pins H1 b) (n : H2 b = none) : FpOk X pins H2 b := ⟨n, h.2⟩
theorem sorted_keyV {l q : Addr} {vs : List V} {Q : VK} (I : Inv X pins σ H s) (hl : SqL X.K H l vs) (P : List V → Hp → Prop) (h0 : P [] H)
    (turn : ∀ (ks : List V) (v : V) (u : Value) (pins1 : List (Addr × Obj)) (s1 : Shared) (H1 : Hp), (∀ p ∈ pins, p ∈ pins1) → vs[ks.length]? = some v → RelV v u → Inv X pins1 σ H1 s1 → P ks H1 →
      wpAny (model X.prog X.w) X.A.in1.in1 (call (.ref q) [u]) (EP X pins1 σ fun k H2 => P (ks ++ [k]) H2) (fun _ _ => False) s1)
    (fin : ∀ ks H1, P ks H1 → ks.length = vs.length → ∃ kz : List PyData, DpAll X.K H1 ks kz ∧ AllAlike kz ∧ Sortable kz ∧ (∀ d ∈ kz, X.A.units + 2 + d.depth < cLine) ∧ ∀ p, H1 p = none → Q (.ref p) (upd H1 p (.lst (sortV vs kz)))) :
    wpAny (model X.prog X.w) X.A (call (.builtin "sorted") [.ref l] [(Str.ofString "key", .ref q)]) (EP X pins σ Q) X.xe s := by
  obtain ⟨its, rv, pl, hz⟩ := I.list hl
  have hlen := rv.length
  have hZ : its.length ≤ sizeLine := by rw [← hlen]; exact hz
  refine PySem.W.sorted_of_sort pl.isList hZ (ksk_s1 _ _) (fun _ => ksk_l1 _ _) fun E' => ?_
  rw [ksk_t1]
  generalize ha : s.heap.objs.size + 1 = a
  have ho : (PySem.W.copyHeap s.heap its).get? a = some (seqObj "list" its.toArray 0) := by rw [← ha]; exact PySem.W.copyHeap_at s.heap its
  have hga : s.heap.objs.size ≤ a := by rw [← ha]; exact Nat.le_succ _
  have ha' : a < (PySem.W.copyHeap s.heap its).objs.size := Heap.lt_size ho
  obtain ⟨e1, ho1⟩ : ∃ e1, ((PySem.W.copyHeap s.heap its).update a (Obj.mapSeq fun _ => (#[] : Array Value))).get? a = some (seqObj "list" #[] e1) := ⟨_, get?_update_seq ho fun _ => #[]⟩
  have hkS : (((PySem.W.copyHeap s.heap its).update a (Obj.mapSeq fun _ => (#[] : Array Value))).push (seqObj "tuple" its.toArray 0)).objs.size = (PySem.W.copyHeap s.heap its).objs.size + 1 := by rw [size_push', Heap.size_update]
  unfold ksk_tree
  refine wpAny_bind (listItems_at ho rfl ?_)
  refine wpAny_bind (listUpdate_at ho rfl ?_ (by rw [List.size_toArray]; exact hZ) (Nat.zero_le _))
  refine wpAny_bind (seqEpoch_at ho1 rfl ?_)
  refine wpAny_bind (wpAny_newTuple ?_ (by show its.length ≤ _; exact hZ))
  refine wpAny_bind (wpAny_newList ?_ (Nat.zero_le _))
  refine wpAny_holding ?_
  generalize hkSe : (((PySem.W.copyHeap s.heap its).update a (Obj.mapSeq fun _ => (#[] : Array Value))).push (seqObj "tuple" its.toArray 0)).objs.size = kS at *
  have up : ∀ b o, s.heap.get? b = some o → (PySem.W.sortingHeap (PySem.W.copyHeap s.heap its) a its).get? b = some o := fun b o e => PySem.W.sortingHeap_old (Nat.ne_of_lt (Nat.lt_of_lt_of_le (Heap.lt_size e) hga)) (PySem.W.copyHeap_old e)
  have hgk : s.heap.objs.size ≤ kS := by
    rw [hkS]
    exact Nat.le_trans hga (Nat.le_of_lt (Nat.lt_of_lt_of_le ha' (Nat.le_succ _)))
  have hka : kS ≠ a := by rw [hkS]; exact Nat.ne_of_gt (Nat.lt_succ_of_lt ha')
  have fa : FpOk X pins H a := I.fpOk hga (I.hok.fresh hga)
  have fk : FpOk X pins H kS := I.fpOk hgk (I.hok.fresh hgk)
  unfold ksk_rest
  refine wpAny_bind (wpAny_rule ?_)
  first
    | rw [List.forIn_toArray]
    | (rw [← Array.forIn_toList]; simp only [List.toList_toArray])
    | rw [← Array.forIn_toList]
  refine wpAny_bind (ksk_fold (fun i s' => ∃ H1 kA ks e, Inv X pins σ H1 s' ∧ Vals ks kA.toList ∧ ks.length = i ∧ P ks H1 ∧ H1 kS = none ∧ H1 a = none ∧ s'.heap.get? kS = some (seqObj "list" kA e) ∧ s'.heap.get? a = some (seqObj "list" #[] e1)) its 0 _
    ⟨H, #[], [], 0, I.kept (t' := s.toks) up, .nil, rfl, h0, I.hok.fresh hgk, I.hok.fresh hga, ?_, ?_⟩ ?step ?done)
  · show (Heap.push _ (seqObj "list" #[] 0)).get? kS = _
    rw [← hkSe]
    exact Heap.get?_push_size _ rfl
  · exact Heap.get?_push_of_some _ (Heap.get?_push_of_some _ ho1)
  case step =>
    rintro j x s' hx ⟨H1, kA, ks, e, I1, rk, hkl, hP, nk, na, gk, ga⟩
    simp only [Nat.zero_add] at hkl ⊢
    obtain ⟨v, hv, rx⟩ : ∃ v, vs[j]? = some v ∧ RelV v x := by
      clear turn fin hP
      have : ∀ {vs : List V} {us : List Value}, Vals vs us → ∀ {j : Nat} {x : Value}, us[j]? = some x → ∃ v, vs[j]? = some v ∧ RelV v x := by
        intro vs us r
        induction r with
        | nil => intro j x h; simp at h
        | cons r rs ih =>
          intro j x h
          cases j with
          | zero => simp at h; subst h; exact ⟨_, by simp, r⟩
          | succ j => obtain ⟨v, h1, h2⟩ := ih (by simpa using h); exact ⟨v, by simpa using h1, h2⟩
      exact this rv hx
    have hj : j < its.length := (List.getElem?_eq_some_iff.mp hx).1
    have Ip : Inv X ((kS, seqObj "list" kA e) :: (a, seqObj "list" #[] e1) :: pins) σ H1 s' := I1.pins_of fun p hp => by
      rcases List.mem_cons.mp hp with rfl | hp
      · exact ⟨gk, nk, fk.2.1, fk.2.2.1, fun v z => nomatch z⟩
      · rcases List.mem_cons.mp hp with rfl | hp
        · exact ⟨ga, na, fa.2.1, fa.2.2.1, fun v z => nomatch z⟩
        · exact I1.pin p (List.mem_append_right _ hp)
    refine wpAny_bind (wpAny_attempt (wpAny_mono (turn ks v x _ s' H1 (fun p hp => List.mem_cons_of_mem _ (List.mem_cons_of_mem _ hp)) (by rw [hkl]; exact hv) rx Ip hP) (fun k s2 hq => ?_) fun _ _ hF => hF.elim))
    obtain ⟨kv, H2, I2, rkv, hP2⟩ := hq
    obtain ⟨gk2, nk2, _⟩ := I2.pin (kS, seqObj "list" kA e) (List.mem_append_right _ (List.mem_cons_self ..))
    obtain ⟨ga2, na2, _⟩ := I2.pin (a, seqObj "list" #[] e1) (List.mem_append_right _ (List.mem_cons_of_mem _ (List.mem_cons_self ..)))
    have hkz : kA.size ≤ its.length := by
      have h1 : ks.length = kA.size := by have := rk.length; simpa using this
      omega
    try dsimp only
    have s1 := Heap.SameBut.update s2.heap kS (Obj.mapSeq (·.push k))
    obtain ⟨c2, hc2⟩ : ∃ c2, (s2.heap.update kS (Obj.mapSeq (·.push k))).get? kS = some (seqObj "list" (kA.push k) c2) := ⟨_, get?_update_seq gk2 (·.push k)⟩
    refine wpAny_bind (listUpdate_at gk2 rfl ?_ (Nat.le_trans hkz hZ) (Nat.le_trans (Nat.le_of_eq (Array.size_push ..)) (Nat.succ_le_succ (Nat.le_trans hkz hZ))))
    have I3 : Inv X pins σ H2 s2 := I2.pins_of fun p hp => I2.pin p (List.mem_append_right _ (List.mem_cons_of_mem _ (List.mem_cons_of_mem _ hp)))
    refine wpAny_pure ⟨rfl, H2, kA.push k, ks ++ [kv], c2, ?_, by rw [Array.toList_push]; exact rk.append (.cons rkv .nil), by simp [hkl], hP2, nk2, na2, hc2, (s1.2 a hka.symm).trans ga2⟩
    exact I3.turnedL (t' := s2.toks) (ch := [kS]) (fun b o hb e => (s1.2 b (by simpa using hb)).trans e) fun b hb => by
      obtain rfl := List.mem_singleton.mp hb
      exact fpOk_of fk nk2
  case done =>
    rintro s' ⟨H1, kA, ks, e, I1, rk, hkl, hP, nk, na, gk, ga⟩
    simp only [Nat.zero_add] at hkl
    obtain ⟨kz, hd, hal, hso, hu, hq⟩ := fin ks H1 hP (by rw [hkl, hlen])
    have hk' := each_dp I1 hd rk
    have hzl : kz.length = its.length := by rw [← hk'.length, ← rk.length, hkl]
    have hsz : kA.size = its.length := by
      have h1 : ks.length = kA.size := by have := rk.length; simpa using this
      omega
    try dsimp only
    refine wpAny_bind (listItems_at gk rfl ?_)
    have ghost : (hidT s'.heap fun b => if b = kS then some (.tup []) else none).get? kS = none := by
      cases q : (hidT s'.heap fun b => if b = kS then some (HO.tup []) else none).get? kS with
      | none => rfl
      | some o =>
        have := (of_hidT q).2
        simp at this
    have back : ∀ b o, b ≠ kS → s'.heap.get? b = some o → (hidT s'.heap fun b => if b = kS then some (.tup []) else none).get? b = some o := fun b o hb e => hidT_get e (by simp [hb])
    refine PySem.W.keyH_end (κ := PySem.W.dataKind s'.heap kz) (h₁ := hidT s'.heap fun b => if b = kS then some (.tup []) else none) (fun b o _ e => (of_hidT e).1) ghost gk ga hka (PySem.W.SortsAt.data hk' hal hso (fun d hd => hu d hd)) hsz hZ fun h' tk c kp gf => ⟨rfl, ?_⟩
    have ko : PySem.W.KeyedOut false kz its (PySem.W.sortVals (PySem.W.dataKind s'.heap kz) false kA.toList its) := ⟨s'.heap, kA.toList, hal, rfl, hk'⟩
    have hbs : (vs.zip kz).map (·.2) = kz := by
      rw [← List.unzip_snd, List.unzip_zip (by rw [hzl, hlen])]
    have out := PySem.W.keyedOut_each (bs := vs.zip kz) (k := (·.2)) (by rw [hbs]; exact ko) (each_vals rv (by rw [hzl, hlen]))
    have vout := vals_each out
    have hol : (sortV vs kz).length ≤ sizeLine := by
      unfold sortV
      rw [List.length_map, List.length_mergeSort, List.length_zip]
      have := Nat.min_le_left vs.length kz.length
      omega
    refine ⟨.ref a, upd H1 a (.lst (sortV vs kz)), ?_, rfl, hq a na⟩
    have nC : ∀ b o, b ∉ [kS, a] → s'.heap.get? b = some o → h'.get? b = some o := fun b o hb e => by
      simp only [List.mem_cons, List.not_mem_nil, or_false, not_or] at hb
      exact kp b o hb.2 (back b o hb.1 e)
    have fk1 := fpOk_of fk nk
    have fa1 := fpOk_of fa na
    have ch2 : ∀ b ∈ [kS, a], FpOk X pins H1 b := fun b hb => by
      simp only [List.mem_cons, List.not_mem_nil, or_false] at hb
      rcases hb with rfl | rfl
      · exact fk1
      · exact fa1
    refine I1.step (g' := s'.gens) (d' := s'.drawn) (t' := tk) (ch := [kS, a]) (fun b hb => ⟨(ch2 b hb).2.2.2.1, (ch2 b hb).2.1, (ch2 b hb).2.2.2.2.1, (ch2 b hb).2.2.2.2.2⟩) (fun b o _ _ hc e _ => nC b o hc e) (fun b o _ _ hc e _ => ⟨o.slots, nC b o hc e⟩)
      (fun b o hc e n => by rw [upd_ne (fun z => hc (by simp [z]))]; exact n) (fun b o hc e => ⟨o, nC b o hc e⟩) (fun b xs e => by rw [upd_ne (ne_of_none e na)]; exact e) (fun b o u e => by rw [upd_ne (ne_of_none e na)]; exact e) (fun b ps e => ⟨#[], by rw [upd_ne (ne_of_none e na)]; simpa using e⟩)
      (fun m hm => ?_) (fun b u e => ?_) I1.bare
    · obtain ⟨o, es, ep, ho, r⟩ := hm
      exact ⟨o, es, ep, nC _ o (by simp only [List.mem_cons, List.not_mem_nil, or_false, not_or]; exact ⟨Ne.symm fk.2.1, Ne.symm fa.2.1⟩) ho, r⟩
    · by_cases hb : b = a
      · rw [hb, upd_same] at e
        cases e
        rw [hb]
        exact ⟨hol, _, c, vout, gf⟩
      · rw [upd_ne hb] at e
        refine (I1.hok b u e).stay (fun c v hc q => nC c v ?_ q) (fun d q => by rw [upd_ne (ne_of_none q na)]; exact q) fun d xs q => by rw [upd_ne (ne_of_none q na)]; exact q
        have hbk : b ≠ kS := ne_of_none e nk
        simp only [List.mem_cons, List.not_mem_nil, or_false, not_or]
        rcases hc with z | z
        · rw [z]; exact ⟨hbk, hb⟩
        · exact ⟨ne_of_none z nk, ne_of_none z na⟩
end
end BX
set_option Elab.async false
set_option linter.all false
set_option maxRecDepth 100000
set_option maxHeartbeats 2000000
/-! BX3g: min(xs, key=f), f a function that may lay things in the heap. -/
namespace BX
open PySem L2
open PyProof.Rows hiding St Binds
open PySem.W (dataLt AllAlike alike)

section
variable {X : Cx} {pins : List (Addr × Obj)} {σ : St} {H : Hp} {s : Shared}
structure MinK (X : Cx) (pins : List (Addr × Obj)) (σ : St) (A : Around) (l q : Addr) (vs : List V) (kz : List PyData) (P : List V → Hp → Prop) : Prop where
  len : kz.length = vs.length
  lst : ∀ ks H1, P ks H1 → SqL X.K H1 l vs
  dat : ∀ ks H1, P ks H1 → DpAll X.K H1 ks (kz.take ks.length)
  alk : AllAlike kz
  nn : ∀ d ∈ kz, d ≠ .none
  room : ∀ d ∈ kz, A.in1.units + d.depth < cLine
  hd : A.in1.handled = none
  turn : ∀ (ks : List V) (v : V) (u : Value) (pins1 : List (Addr × Obj)) (s1 : Shared) (H1 : Hp) (E : Value → Shared → Prop), (∀ p ∈ pins, p ∈ pins1) → vs[ks.length]? = some v → RelV v u → Inv X pins1 σ H1 s1 → P ks H1 →
      wpAny (model X.prog X.w) A.in1 (call (.ref q) [u]) (EP X pins1 σ fun k H2 => P (ks ++ [k]) H2) E s1
theorem dp_get {K : PySem.W.Frag} {H1 : Hp} : ∀ {ks : List V} {kz : List PyData} {i : Nat} {k : V}, DpAll K H1 ks kz → ks[i]? = some k → ∃ d, kz[i]? = some d ∧ Dp K H1 k d
  | _, _, _, _, .nil, e => by simp at e
  | _, _, 0, _, .cons h _, e => by simp at e; subst e; exact ⟨_, by simp, h⟩
  | _, _, i + 1, _, .cons _ t, e => by
    obtain ⟨d, h1, h2⟩ := dp_get t (by simpa using e)
    exact ⟨d, by simpa using h1, h2⟩
theorem vals_at : ∀ {vs : List V} {us : List Value}, Vals vs us → ∀ {j : Nat}, j < vs.length → ∃ v u, vs[j]? = some v ∧ us[j]? = some u ∧ RelV v u
  | _, _, .nil, j, h => by simp at h
  | _, _, .cons r _, 0, _ => ⟨_, _, by simp, by simp, r⟩
  | _, _, .cons _ t, j + 1, h => by
    obtain ⟨v, u, h1, h2, h3⟩ := vals_at t (by simpa using h)
    exact ⟨v, u, by simpa using h1, by simpa using h2, h3⟩
theorem min_loopV {A : Around} {l q it S : Addr} {vs : List V} {kz : List PyData} {P : List V → Hp → Prop} {R : Result → Shared → Prop} {H0 : Hp} (M : MinK X pins σ A l q vs kz P) (fi : FpOk X pins H0 it) (fS : FpOk X pins H0 S) (hne : it ≠ S)
    (hR : ∀ v u s' ks H1, vs[argBest (btK kz) (vs.length - 1)]? = some v → RelV v u → Inv X pins σ H1 s' → P ks H1 → ks.length = vs.length → R (.ok (.ret u)) s') :
    ∀ (k j : Nat) (s : Shared) (vb kb : Value) (c : Nat) (ks : List V) (H1 : Hp) (v0 k0 : V), vs.length - (j + 1) = k → j + 1 ≤ vs.length → Inv X pins σ H1 s → P ks H1 → ks.length = j + 1 → H1 it = none → H1 S = none → s.heap.IsListIter it l (j + 1) →
    vs[argBest (btK kz) j]? = some v0 → RelV v0 vb → ks[argBest (btK kz) j]? = some k0 → RelV k0 kb → s.heap.get? S = some { cls := .type "list", dict := none, data := .seq #[vb, kb] c, slots := #[] } →
    codeAny (model X.prog X.w) A (.builtin "min.loop" ⟨[.ref it, .ref q, .ref S], []⟩) R s := by
  have hname : (toString "min" ++ toString ".loop" : String) = "min.loop" := by decide
  intro k
  induction k with
  | zero =>
    intro j s vb kb c ks H1 v0 k0 hk hj I hP hkl ni nS hit hv0 rv0 hk0 rk0 hS
    have hin : j + 1 = vs.length := by omega
    obtain ⟨its, rv, pl, hz⟩ := I.list (M.lst ks H1 hP)
    refine codeAny_builtin F.entry_min_loop ?_
    rw [Around.under_plainId F.plain_min_loop _]
    show wpAny _ A.in1 (seqItems? (.ref S) >>= _) _ _ s
    refine wpAny_bind (wpAny_seqItems hS rfl ?_)
    show wpAny _ A.in1 (tryCatch (pyNext (.ref it)) _ >>= _) _ _ s
    have hl := rv.length
    refine wpAny_bind (wpAny_tryCatch (wpAny_pyNext_list_end M.hd hit pl.isList (by simp; omega) fun h' eb => ?_))
    have I1 : Inv X pins σ H1 { s with heap := h' } := I.turned (t' := s.toks) (fun b o hb e => eb b o hb e) ni fi.2.1 fi.2.2.2.1 fi.2.2.2.2.1 fi.2.2.2.2.2
    have hS' : h'.get? S = _ := eb S _ (Ne.symm hne) hS
    show wpAny _ A.in1 (updateSeq S (fun _ => #[]) >>= _) _ _ _
    refine wpAny_bind ?_
    refine wpAny_updateSeq hS' rfl (wpAny_bind (wpAny_letGo (wpAny_pure ?_)))
    have s1 := Heap.SameBut.update h' S (Obj.mapSeq fun _ => (#[] : Array Value))
    refine hR v0 vb _ ks H1 (by rw [← hin]; exact hv0) rv0 ?_ hP (by rw [hkl, hin])
    exact I1.turnedL (t' := s.toks) (ch := [S]) (fun b o hb e => (s1.2 b (by simpa using hb)).trans e) fun b hb => by
      obtain rfl := List.mem_singleton.mp hb
      exact fpOk_of fS nS
  | succ k ih =>
    intro j s vb kb c ks H1 v0 k0 hk hj I hP hkl ni nS hit hv0 rv0 hk0 rk0 hS
    have hlt : j + 1 < vs.length := by omega
    obtain ⟨its, rv, pl, hz⟩ := I.list (M.lst ks H1 hP)
    obtain ⟨v, u, hv, hu, ru⟩ := vals_at rv hlt
    refine codeAny_builtin F.entry_min_loop ?_
    rw [Around.under_plainId F.plain_min_loop _]
    show wpAny _ A.in1 (seqItems? (.ref S) >>= _) _ _ s
    refine wpAny_bind (wpAny_seqItems hS rfl ?_)
    show wpAny _ A.in1 (tryCatch (pyNext (.ref it)) _ >>= _) _ _ s
    refine wpAny_bind (wpAny_tryCatch (wpAny_pyNext_list_item hit pl.isList (x := u) (by simpa using hu) fun h' st' sb => ?_))
    have I1 : Inv X pins σ H1 { s with heap := h' } := I.turned (t' := s.toks) (fun b o hb e => (sb.2 b hb).trans e) ni fi.2.1 fi.2.2.2.1 fi.2.2.2.2.1 fi.2.2.2.2.2
    have hS' : h'.get? S = _ := (sb.2 S (Ne.symm hne)).trans hS
    obtain ⟨oi, ei, ci, di⟩ := id st'
    have Ip : Inv X ((it, oi) :: (S, { cls := .type "list", dict := none, data := .seq #[vb, kb] c, slots := #[] }) :: pins) σ H1 { s with heap := h' } := I1.pins_of fun p hp => by
      rcases List.mem_cons.mp hp with rfl | hp
      · exact ⟨ei, ni, fi.2.1, fi.2.2.1, fun v z => by rw [di] at z; cases z⟩
      · rcases List.mem_cons.mp hp with rfl | hp
        · exact ⟨hS', nS, fS.2.1, fS.2.2.1, fun v z => nomatch z⟩
        · exact I1.pin p (List.mem_append_right _ hp)
    show wpAny _ A.in1 (tryCatch (holding [u] (call (.ref q) [u])) _ >>= _) _ _ _
    refine wpAny_bind (wpAny_tryCatch (wpAny_holding (wpAny_mono (M.turn ks v u _ _ H1 _ (fun p hp => List.mem_cons_of_mem _ (List.mem_cons_of_mem _ hp)) (by rw [hkl]; exact hv) ru Ip hP) (fun kx s2 hq => ?_) fun _ _ e => e)))
    obtain ⟨kv, H2, I2, rkv, hP2⟩ := hq
    obtain ⟨gi2, ni2, _⟩ := I2.pin (it, oi) (List.mem_append_right _ (List.mem_cons_self ..))
    obtain ⟨gS2, nS2, _⟩ := I2.pin (S, _) (List.mem_append_right _ (List.mem_cons_of_mem _ (List.mem_cons_self ..)))
    have I3 : Inv X pins σ H2 s2 := I2.pins_of fun p hp => I2.pin p (List.mem_append_right _ (List.mem_cons_of_mem _ (List.mem_cons_of_mem _ hp)))
    have hit2 : s2.heap.IsListIter it l (j + 1 + 1) := ⟨oi, gi2, ci, di⟩
    -- the two keys as data
    have hd := M.dat _ H2 hP2
    have hkl2 : (ks ++ [kv]).length = j + 1 + 1 := by simp [hkl]
    have hbl : argBest (btK kz) j < ks.length := (List.getElem?_eq_some_iff.mp hk0).1
    obtain ⟨d1, g1, r1⟩ := dp_get hd (i := j + 1) (k := kv) (by rw [List.getElem?_append_right (by omega), hkl]; simp)
    obtain ⟨d0, g0, r0⟩ := dp_get hd (i := argBest (btK kz) j) (k := k0) (by rw [List.getElem?_append_left hbl]; exact hk0)
    rw [hkl2] at g1 g0
    have k1 : kz[j + 1]? = some d1 := by rw [List.getElem?_take] at g1; split at g1 <;> first | exact g1 | cases g1
    have k2 : kz[argBest (btK kz) j]? = some d0 := by rw [List.getElem?_take] at g0; split at g0 <;> first | exact g0 | cases g0
    have hb : btK kz (j + 1) (argBest (btK kz) j) = dataLt d1 d0 := by simp [btK, k1, k2]
    obtain ⟨as1, q1⟩ := Dp.reads I3 d1 _ _ r1 rkv
    obtain ⟨as0, q0⟩ := Dp.reads I3 d0 _ _ r0 rk0
    have m1 := List.mem_of_getElem? k1
    have m0 := List.mem_of_getElem? k2
    have hrm : A.in1.units + min d1.depth d0.depth < cLine := Nat.lt_of_le_of_lt (Nat.add_le_add_left (Nat.min_le_left _ _) _) (M.room d1 m1)
    show wpAny _ A.in1 (tryCatch (holding [u, kx] (richCompare .Lt kx kb >>= _)) _ >>= _) _ _ _
    refine wpAny_bind (wpAny_tryCatch (wpAny_holding (wpAny_bind (PySem.W.rcLt_alike d1 d0 A.in1 s2 kx kb as1 as0 q1 q0 (M.alk d1 m1 d0 m0) (M.nn d1 m1) hrm _ _ _ _ ?_))))
    refine wpAny_bind (wpAny_holding (wpAny_truthy_bool ?_))
    refine wpAny_bind (wpAny_letGo (wpAny_pure ?_))
    cases hbb : dataLt d1 d0 with
    | true =>
      simp only [if_true]
      refine wpAny_bind ?_
      refine wpAny_updateSeq gS2 rfl (wpAny_bind (wpAny_letGo ?_))
      rw [hname]
      have s1 := Heap.SameBut.update s2.heap S (Obj.mapSeq fun _ => #[u, kx])
      have ha : argBest (btK kz) (j + 1) = j + 1 := by simp only [argBest, hb, hbb, if_true]
      refine wpAny_pure ⟨plainId_quiet F.plain_min_loop _, ih (j + 1) _ u kx _ (ks ++ [kv]) H2 v kv (by omega) hlt ?_ hP2 hkl2 ni2 nS2 ⟨oi, (s1.2 it hne).trans gi2, ci, di⟩ (by rw [ha]; exact hv) ru (by rw [ha, List.getElem?_append_right (by omega), hkl]; simp) rkv (Heap.get?_update_self _ gS2 rfl)⟩
      exact I3.turnedL (t' := s2.toks) (ch := [S]) (fun b o hb e => (s1.2 b (by simpa using hb)).trans e) fun b hb => by
        obtain rfl := List.mem_singleton.mp hb
        exact fpOk_of fS nS2
    | false =>
      simp only [Bool.false_eq_true, if_false]
      refine wpAny_bind (wpAny_letGo ?_)
      rw [hname]
      have ha : argBest (btK kz) (j + 1) = argBest (btK kz) j := by simp only [argBest, hb, hbb, Bool.false_eq_true, if_false]
      exact wpAny_pure ⟨plainId_quiet F.plain_min_loop _, ih (j + 1) _ vb kb c (ks ++ [kv]) H2 v0 k0 (by omega) hlt I3 hP2 hkl2 ni2 nS2 hit2 (by rw [ha]; exact hv0) rv0 (by rw [ha, List.getElem?_append_left hbl]; exact hk0) rk0 gS2⟩
theorem min_keyV {l q : Addr} {vs : List V} {kz : List PyData} {P : List V → Hp → Prop} {Q : VK} (I : Inv X pins σ H s) (M : MinK X pins σ X.A l q vs kz P) (h0 : P [] H) (hne : vs ≠ [])
    (fin : ∀ v ks H1, vs[argBest (btK kz) (vs.length - 1)]? = some v → P ks H1 → ks.length = vs.length → Q v H1) :
    wpAny (model X.prog X.w) X.A (call (.builtin "min") [.ref l] [(Str.ofString "key", .ref q)]) (EP X pins σ Q) X.xe s := by
  have hname : (toString "min" ++ toString ".loop" : String) = "min.loop" := by decide
  have hpos : 0 < vs.length := by cases vs <;> simp at hne ⊢
  obtain ⟨its, rv, pl, hz⟩ := I.list (M.lst [] H h0)
  refine PyProof.Rows.kmk_tree F.kind_min F.plain_min F.entry_min (PyProof.Rows.kmk_min_key _ _) ?_
  show wpAny _ X.A.in1 (Builtin.Builtins.bindParams "min" ["key", "default"] 0 ⟨[], [(Str.ofString "key", .ref q)]⟩ >>= _) _ _ s
  refine wpAny_bind (wpAny_of_eq (show Builtin.Builtins.bindParams "min" ["key", "default"] 0 ⟨[], [(Str.ofString "key", .ref q)]⟩ = pure [some (.ref q), none] from rfl) ?_)
  refine wpAny_bind (wpAny_pure ?_)
  refine wpAny_bind (wpAny_pyIter_list pl.isList ?_)
  refine wpAny_bind (wpAny_newObj_type ?_)
  rw [hname]
  generalize hit0 : s.heap.objs.size = it
  have e1 : (s.heap.push { cls := .type "list_iterator", data := .fields #[.ref l, .int 0 0] }).objs.size = s.heap.objs.size + 1 := size_push' _ _
  have up : ∀ b o, s.heap.get? b = some o → ((s.heap.push { cls := .type "list_iterator", data := .fields #[.ref l, .int 0 0] }).push { cls := .type "list", data := .seq #[] 0 }).get? b = some o := fun b o e => Heap.get?_push_of_some _ (Heap.get?_push_of_some _ e)
  have gi : ((s.heap.push { cls := .type "list_iterator", data := .fields #[.ref l, .int 0 0] }).push { cls := .type "list", data := .seq #[] 0 }).get? it = some { cls := .type "list_iterator", data := .fields #[.ref l, .int 0 0] } := by
    rw [← hit0]; exact Heap.get?_push_of_some _ (Heap.get?_push_size _ rfl)
  generalize hS0 : (s.heap.push { cls := .type "list_iterator", data := .fields #[.ref l, .int 0 0] }).objs.size = S
  have gS : ((s.heap.push { cls := .type "list_iterator", data := .fields #[.ref l, .int 0 0] }).push { cls := .type "list", data := .seq #[] 0 }).get? S = some { cls := .type "list", dict := none, data := .seq #[] 0, slots := #[] } := by
    rw [← hS0]; exact Heap.get?_push_size _ rfl
  have hne2 : it ≠ S := by rw [← hit0, ← hS0, e1]; omega
  have fi : FpOk X pins H it := I.fpOk (by rw [← hit0]; exact Nat.le_refl _) (I.hok.fresh (by rw [← hit0]; exact Nat.le_refl _))
  have fS : FpOk X pins H S := I.fpOk (by rw [← hS0, e1]; exact Nat.le_succ _) (I.hok.fresh (by rw [← hS0, e1]; exact Nat.le_succ _))
  have I0 : Inv X pins σ H { s with heap := (s.heap.push { cls := .type "list_iterator", data := .fields #[.ref l, .int 0 0] }).push { cls := .type "list", data := .seq #[] 0 } } := I.kept (t' := s.toks) up
  generalize ((s.heap.push { cls := .type "list_iterator", data := .fields #[.ref l, .int 0 0] }).push { cls := .type "list", data := .seq #[] 0 }) = hp at *
  obtain ⟨v, u, hv, hu, ru⟩ := vals_at rv hpos
  refine wpAny_pure ⟨plainId_quiet F.plain_min_loop _, ?_⟩
  refine codeAny_builtin F.entry_min_loop ?_
  rw [Around.under_plainId F.plain_min_loop _]
  show wpAny _ X.A.in1 (seqItems? (.ref S) >>= _) _ _ _
  refine wpAny_bind (wpAny_seqItems gS rfl ?_)
  show wpAny _ X.A.in1 (tryCatch (pyNext (.ref it)) _ >>= _) _ _ _
  obtain ⟨its2, rv2, pl2, _⟩ := I0.list (M.lst [] H h0)
  obtain ⟨v, u, hv, hu, ru⟩ := vals_at rv2 hpos
  refine wpAny_bind (wpAny_tryCatch (wpAny_pyNext_list_item (i := 0) ⟨_, gi, rfl, rfl⟩ pl2.isList (x := u) (by simpa using hu) fun h' st' sb => ?_))
  have I1 : Inv X pins σ H { s with heap := h' } := I0.turned (t' := s.toks) (fun b o hb e => (sb.2 b hb).trans e) fi.1 fi.2.1 fi.2.2.2.1 fi.2.2.2.2.1 fi.2.2.2.2.2
  have hS' : h'.get? S = _ := (sb.2 S (Ne.symm hne2)).trans gS
  obtain ⟨oi, ei, ci, di⟩ := id st'
  have Ip : Inv X ((it, oi) :: (S, { cls := .type "list", dict := none, data := .seq #[] 0, slots := #[] }) :: pins) σ H { s with heap := h' } := I1.pins_of fun p hp => by
    rcases List.mem_cons.mp hp with rfl | hp
    · exact ⟨ei, fi.1, fi.2.1, fi.2.2.1, fun v z => by rw [di] at z; cases z⟩
    · rcases List.mem_cons.mp hp with rfl | hp
      · exact ⟨hS', fS.1, fS.2.1, fS.2.2.1, fun v z => nomatch z⟩
      · exact I1.pin p (List.mem_append_right _ hp)
  show wpAny _ X.A.in1 (tryCatch (holding [u] (call (.ref q) [u])) _ >>= _) _ _ _
  refine wpAny_bind (wpAny_tryCatch (wpAny_holding (wpAny_mono (M.turn [] v u _ _ H _ (fun p hp => List.mem_cons_of_mem _ (List.mem_cons_of_mem _ hp)) hv ru Ip h0) (fun kx s2 hq => ?_) fun _ _ e => e)))
  obtain ⟨kv, H2, I2, rkv, hP2⟩ := hq
  obtain ⟨gi2, ni2, _⟩ := I2.pin (it, oi) (List.mem_append_right _ (List.mem_cons_self ..))
  obtain ⟨gS2, nS2, _⟩ := I2.pin (S, _) (List.mem_append_right _ (List.mem_cons_of_mem _ (List.mem_cons_self ..)))
  have I3 : Inv X pins σ H2 s2 := I2.pins_of fun p hp => I2.pin p (List.mem_append_right _ (List.mem_cons_of_mem _ (List.mem_cons_of_mem _ hp)))
  show wpAny _ X.A.in1 (updateSeq S (fun _ => #[u, kx]) >>= _) _ _ _
  refine wpAny_bind ?_
  refine wpAny_updateSeq gS2 rfl ?_
  rw [hname]
  have s1 := Heap.SameBut.update s2.heap S (Obj.mapSeq fun _ => #[u, kx])
  refine wpAny_pure ⟨plainId_quiet F.plain_min_loop _, min_loopV M fi fS hne2 (R := _) (fun v u s' ks H1 hv ru I hP hk => ?_) _ 0 _ u kx _ [kv] H2 v kv rfl hpos ?_ hP2 rfl ni2 nS2 ⟨oi, (s1.2 it hne2).trans gi2, ci, di⟩ hv ru rfl rkv (Heap.get?_update_self _ gS2 rfl)⟩
  · exact ⟨v, H1, I, ru, fin v ks H1 hv hP hk⟩
  · exact I3.turnedL (t' := s2.toks) (ch := [S]) (fun b o hb e => (s1.2 b (by simpa using hb)).trans e) fun b hb => by
      obtain rfl := List.mem_singleton.mp hb
      exact fpOk_of fS nS2
end
end BX
set_option Elab.async false
set_option linter.all false
set_option maxRecDepth 100000
set_option maxHeartbeats 2000000
/-! BX3h: a lambda of one parameter, called. -/
namespace BX
open PySem L2
open PyProof.Rows hiding St Binds
open LamX (lamEnv lamCx CodeO)

/-- one parameter, no other name of its own: captured ones and globals -/
structure Lam1 (sc scope : Scope) (x : Str) : Prop where
  kind : scope.kind = .function
  co : scope.isCoroutine = false
  gen : scope.isGenerator = false
  own : ∀ y ∈ scope.names, (y.2 = .local → y.1 = x) ∧ y.2 ≠ .cell
  par : scope.names.lookup x = some .local
  free : ∀ y ∈ scope.names, y.2 = .free → sc.names.lookup y.1 = some .cell ∨ sc.names.lookup y.1 = some .free
def lam1B (sc scope : Scope) (x : Str) : Bool :=
  decide (scope.kind = .function) && !scope.isCoroutine && !scope.isGenerator && decide (scope.names.lookup x = some .local) && scope.names.all fun y => (!decide (y.2 = .local) || decide (y.1 = x)) && !decide (y.2 = .cell) && (!decide (y.2 = .free) || decide (sc.names.lookup y.1 = some .cell) || decide (sc.names.lookup y.1 = some .free))
theorem lam1_by {sc scope : Scope} {x : Str} (h : lam1B sc scope x = true) : Lam1 sc scope x := by
  unfold lam1B at h
  simp only [Bool.and_eq_true, Bool.or_eq_true, Bool.not_eq_true', decide_eq_true_eq, decide_eq_false_iff_not, List.all_eq_true] at h
  obtain ⟨⟨⟨⟨h1, h2⟩, h3⟩, h5⟩, h4⟩ := h
  refine ⟨h1, h2, h3, fun y hy => ⟨fun e => ?_, (h4 y hy).1.2⟩, h5, fun y hy e => ?_⟩
  · rcases (h4 y hy).1.1 with z | z
    · exact absurd e z
    · exact z
  · rcases (h4 y hy).2 with (z | z) | z
    · exact absurd e z
    · exact .inl z
    · exact .inr z
theorem Lam1.has {X : Cx} {scope : Scope} {x : Str} (L : Lam1 X.env.scope scope x) (ok : X.Ok) : ∀ y ∈ scope.names, y.2 = .free → ∃ c, X.env.cells.lookup y.1 = some c := fun y hy e => by
  rcases L.free y hy e with k | k
  · exact ok.has _ (.inl k)
  · exact ok.has _ (.inr k)
section
variable {X : Cx} {pins : List (Addr × Obj)} {σ : L2.St} {H : Hp} {s s1 : Shared}
theorem Env0.around {A B : Around} {P : Program} {w : World} {K : PySem.W.Frag} {mg : Str → Option Value} {base : Heap} {outer : List PySem.Env} (e : Env0 P w K mg base A outer s H) (h : B.frames = A.frames) : Env0 P w K mg base B outer s H :=
  ⟨h.trans e.frames, e.mod, e.bs, e.bsz, e.funs, e.frf, e.hok, e.bare⟩
theorem lam_start1 {A : Around} {outer : List PySem.Env} {E : XK} {scope : Scope} {f c' : Addr} {h₁ : Heap} {tk i : Nat} {x : Str} {v : V} {u : Value} (I : Inv X pins σ H s1) (L : Lam1 X.env.scope scope x) (e0 : Env0 X.prog X.w X.K X.mg X.base A outer s1 H) (hd : A.handled = none)
    (hN : X.N.Nodup) (hi : X.N[i]? = some x) (rv : RelV v u) (hns : h₁.Ns s1.heap.objs.size fun y => ([(x, u)] : List (Str × Value)).reverse.lookup y) (kp : ∀ b o, s1.heap.get? b = some o → h₁.get? b = some o) :
    Inv (lamCx X A outer s1 H E scope f c') [] (σ.set i (some v)) H { s1 with heap := h₁, toks := tk } := by
  have hfree := L.has I.ok
  have cm : ∀ {y c}, (cloFrom X.env.cells scope.names []).lookup y = some c → X.env.cells.lookup y = some c := fun {y c} e => by
    rcases cloFrom_mem (PySem.mem_of_lookup e) with hm | ⟨h1, h2⟩
    · cases hm
    · obtain ⟨c1, hc⟩ := hfree _ h1 rfl
      have hc : X.env.cells.lookup y = some c1 := hc
      have e2 : c = c1 := by
        rw [h2, hc] <;> rfl
      rw [e2]
      exact hc
  have look : ∀ {y}, scope.names.lookup y = some .free → ∃ c, (cloFrom X.env.cells scope.names []).lookup y = some c := fun {y} hl => by
    have hy : (y, NameKind.free) ∈ scope.names := PySem.mem_of_lookup hl
    exact mem_lookup (cloFrom_has (cells := X.env.cells) (acc := []) hy)
  have cellK : ∀ {c : Addr} {v : Option Value}, s1.heap.IsCell c v → h₁.IsCell c v := fun {c v} ⟨o, ho, hd⟩ => ⟨o, kp _ _ ho, hd⟩
  have noA : ∀ b : Addr, b ∉ (lamCx X A outer s1 H E scope f c').ex := fun b z => absurd (show b ∈ ([] : List Addr) from z) (by simp)
  refine ⟨⟨e0.mod, L.kind, rfl, rfl, Nat.le_refl _, fun y z c e1 e2 => I.ok.inj y z c (cm e1) (cm e2), fun y hy => ?_, fun y c z _ => ?_, fun _ => hd, Around.frames_deeper e0.frames, .inr ⟨rfl, rfl⟩, fun b z => absurd z (noA b), e0.bs, e0.bsz, fun b _ _ => noA b,
      fun b z => absurd z (noA b), e0.funs, e0.frf⟩,
    rfl, e0.bare, Un.kept kp, ⟨_, hns, fun j y v' e1 e2 e3 => ?_⟩, fun y c e => ?_, e0.hok.fresh (Nat.le_refl _), fun y c e => ?_, fun q hq => absurd (show q ∈ ([] : List (Addr × Obj)) ++ [] from hq) (by simp), e0.hok.kept kp, by rw [List.length_set]; exact I.len⟩
  · have hy : scope.names.lookup y = some .cell ∨ scope.names.lookup y = some .free := hy
    rcases hy with hy | hy
    · exact absurd rfl (L.own _ (PySem.mem_of_lookup hy)).2
    · exact look hy
  · have z : false = true := z
    cases z
  · have e3 : Vis scope y := e3
    have e1 : X.N[j]? = some y := e1
    rcases e3 with k | k | k
    · have hyx : y = x := (L.own _ (PySem.mem_of_lookup k)).1 rfl
      subst hyx
      have hj : j = i := nodup_ix hN e1 hi
      subst hj
      have hlt : j < σ.length := by rw [I.len]; exact (List.getElem?_eq_some_iff.mp hi).1
      rw [List.getElem?_set_self hlt] at e2
      cases e2
      exact ⟨u, rv, .inl ⟨k, by simp⟩⟩
    · exact absurd rfl (L.own _ (PySem.mem_of_lookup k)).2
    · have hne : i ≠ j := fun z => by
        subst z
        rw [hi] at e1
        cases e1
        rw [L.par] at k
        cases k
      rw [List.getElem?_set_ne hne] at e2
      obtain ⟨m, hn, hl⟩ := I.loc
      have hvis : Vis X.env.scope y := (L.free _ (PySem.mem_of_lookup k) rfl).elim (fun k => .inr (.inl k)) (fun k => .inr (.inr k))
      obtain ⟨w', r, q⟩ := hl j y v' e1 e2 hvis
      obtain ⟨c2, h2⟩ := look k
      refine ⟨w', r, .inr ⟨.inr k, c2, h2, ?_⟩⟩
      have c1 := cm h2
      rcases q with ⟨k', _⟩ | ⟨_, c3, e', z⟩
      · have k' : X.env.scope.names.lookup y = some .local := k'
        rcases L.free _ (PySem.mem_of_lookup k) rfl with k2 | k2 <;> rw [show X.env.scope.names.lookup y = _ from k2] at k' <;> cases k'
      · rw [c1] at e'
        cases e'
        exact cellK z
  · obtain ⟨w', z⟩ := I.cell y c (cm e)
    exact ⟨w', cellK z⟩
  · obtain ⟨v, o, ho, hd⟩ := I.cell y c (cm e)
    exact I.freeC y c (cm e)
/-- f(u), f the lambda -/
theorem lam_call1 {k i : Nat} {A : Around} {f c' : Addr} {pm ctv : Value} {params : Arguments} {body : Expr} {scope : Scope} {x : Str} {v : V} {u : Value} {Q : VK} {tb : TE} {E : Value → Shared → Prop} (I : Inv X pins σ H s) (L : Lam1 X.env.scope scope x) (hfr : A.frames = X.A.frames)
    (hf : s.heap.get? f = some (PySem.W.kla_obj "<lambda>" (X.env.qual ++ "<lambda>") params body scope (cloFrom X.env.cells scope.names []) pm c' ctv)) (hc : H c' = some (CodeO c' (X.env.qual ++ "<lambda>")))
    (hbind : ∀ u, bindArgs (PySem.W.kla_fn "<lambda>" (X.env.qual ++ "<lambda>") params body scope (cloFrom X.env.cells scope.names []) pm (.ref c') ctv) ⟨[u], []⟩ = pure [(x, u)])
    (hN : X.N.Nodup) (hi : X.N[i]? = some x) (hr : Room (k + 1) A) (rv : RelV v u)
    (hbody : ∀ (s : Shared) (H : Hp), Room k (A.deeper (lamEnv X scope s.heap.objs.size f c')) → PE (lamCx X A X.stack s H (fun _ _ _ => False) scope f c') body tb) (h : tb (σ.set i (some v)) H Q) :
    wpAny (model X.prog X.w) A (call (.ref f) [u]) (EP X pins σ Q) E s := by
  have e0 : Env0 X.prog X.w X.K X.mg X.base A X.stack s H := Env0.around I.env0 hfr
  obtain ⟨⟨oc, vs, t, hoc, hdc, hvc⟩, _, _⟩ := I.hok c' _ hc
  have rc : codeAny (model X.prog X.w) A (.call (.ref f) ⟨[u], []⟩) (CR (L2.CX X.prog X.w) X.stack X.prog X.w H s Q (fun _ _ _ => False)) s := by
    refine PySem.W.kla_callFunE hr.depth hf rfl L.co L.gen rfl ⟨c', oc, vs, t, rfl, hoc, hdc, hvc⟩ ?_
    rw [hbind]
    refine wpAny_pure (wpAny_newFunctionEnv (fun y hy => (L.own y hy).2) (fun y hy => by obtain rfl := List.mem_singleton.mp hy; exact L.par) (fun h₁ hns hsb => ⟨I.nolimit.fresh _ hsb, ?_⟩) L.kind)
    show codeAny _ _ (.expr body (lamEnv X scope s.heap.objs.size f c')) _ _
    have kp : ∀ b o, s.heap.get? b = some o → h₁.get? b = some o := fun b o e => hsb.extBut b o (Nat.ne_of_lt (Heap.lt_size e)) (Heap.get?_push_of_some _ e)
    have J : Inv (lamCx X A X.stack s H (fun _ _ _ => False) scope f c') [] (σ.set i (some v)) H { s with heap := h₁, toks := s.toks + ([(x, u)] : List (Str × Value)).length } := lam_start1 I L e0 hr.hd hN hi rv hns kp
    refine PySem.W.kla_codeExpr (wpAny_mono ((hbody s H (hr.deeper _)).run [] _ _ H Q J h) (fun v s' hq => ?_) fun e s' hq => hq)
    obtain ⟨w', H', J', rv, q⟩ := hq
    exact ⟨w', H', J'.os, J'.bare, J'.base, J'.hok, rv, q⟩
  refine wpAny_call (codeAny_mono rc fun r s' hq => ?_)
  cases r with
  | error e =>
    obtain ⟨_, _, _, _, _, _, _, _, _, _, _, _, z⟩ := hq
    exact z.elim
  | ok fl =>
    cases fl with
    | ret u => exact I.after hq
    | next => exact False.elim hq
    | brk => exact False.elim hq
    | cont => exact False.elim hq
end
end BX
set_option Elab.async false
set_option linter.all false
set_option maxRecDepth 100000
set_option maxHeartbeats 2000000
/-! BX3i: lambdas made, handed to sorted and min. -/
namespace BX
open PySem L2
open PyProof.Rows hiding St Binds
open LamX hiding lam_make2

section
variable {X : Cx} {pins : List (Addr × Obj)} {σ : L2.St} {H : Hp} {s : Shared}
/-- a lambda made (HandS.Lambda lam_make2, told besides: nothing tracked is forgotten) -/
theorem lam_makeX {T : List (Addr × Str)} {c P : Addr} {params : Arguments} {body : Expr} {scope : Scope} {pos : Pos} {E : Value → Shared → Prop} {Q : Value → Shared → Prop} (I : Inv X pins σ H s) (TB : TabB X.base X.mg c P) (hcode : X.env.code = .ref c)
    (hm : (P, X.env.qual ++ "<lambda>") ∈ T) (hu : ∀ p ∈ T, p.1 = P → p.2 = X.env.qual ++ "<lambda>") (hT : Tabs T H) (hdef : defaultsOf params X.env = ([], [])) (hfree : ∀ y ∈ scope.names, y.2 = .free → ∃ c, X.env.cells.lookup y.1 = some c)
    (h : ∀ (f c' : Addr) (pm ctv : Value) (H1 : Hp) (s' : Shared), Inv X pins σ H1 s' → ExtN H H1 → Tabs T H1 → (∀ b, H b ≠ none → H1 b ≠ none) →
      s'.heap.get? f = some (PySem.W.kla_obj "<lambda>" (X.env.qual ++ "<lambda>") params body scope (cloFrom X.env.cells scope.names []) pm c' ctv) → H1 f = none → f ∉ frs X.stack → s.heap.objs.size ≤ f → H1 c' = some (CodeO c' (X.env.qual ++ "<lambda>")) → Q (.ref f) s') :
    wpAny (model X.prog X.w) X.A (eval (.Lambda params body scope pos) X.env) Q E s := by
  obtain ⟨ps, hP, ht, ha⟩ := hT _ hm
  refine PySem.W.kla_eval hdef ?_
  have bP : s.heap.BuiltinsAt X.mg P := TB.bm.keeps I.bk
  have hP' : s.heap.get? P = some { cls := .none, data := .fields ps } := I.hok P _ hP
  have nofr : ∀ f, s.heap.objs.size ≤ f → f ∉ frs X.stack := fun f hf z => by
    rcases List.mem_cons.mp (I.stkSub _ z) with e | e
    · have h1 := I.lt
      rw [← e] at h1
      exact Nat.lt_irrefl _ (Nat.lt_of_lt_of_le h1 hf)
    · exact I.nofs hf e
  cases hc : codeAmong pos ps.toList with
  | none =>
    refine PySem.W.kla_makeFunction (mg := X.mg) (c := c) (P := P) (ps := ps) (closure_ok hfree) I.ok.glob (I.mod.glob.keeps I.bk) hcode (TB.code.keeps I.bk) hP' ht hc TB.gP bP fun c' ctv h' tk hx hge hlt hrec htb => ?_
    obtain ⟨c2, oc, vs, t, e2, hoc, hd, hv⟩ := hrec
    cases e2
    have hsz : s.heap.objs.size ≤ h'.objs.size := Nat.le_trans hge (Nat.le_of_lt hlt)
    have nC : H c' = none := I.hok.fresh hge
    have I1 := inv_table (t' := tk) (more := #[rawInt pos.line, rawInt pos.col, .ref c']) (h' := h'.push (PySem.W.kla_obj "<lambda>" (X.env.qual ++ "<lambda>") params body scope (cloFrom X.env.cells scope.names []) ((X.mg "__name__").getD .none) c' ctv)) I hP
      (fun b o hb e => Heap.get?_push_of_some _ (hx b o hb e)) (Heap.get?_push_of_some _ htb) hge ⟨oc, vs, t, Heap.get?_push_of_some _ hoc, hd, hv⟩
    have hE : ExtN H (upd (upd H P (.tbl (ps ++ #[rawInt pos.line, rawInt pos.col, .ref c']))) c' (CodeO c' (X.env.qual ++ "<lambda>"))) := fun b o e n => by
      rw [upd_ne (ne_of_none e nC), upd_ne (fun z => n ps (Option.some.inj (e.symm.trans (by rw [z]; exact hP))))]
      exact e
    have eL : (ps ++ #[rawInt pos.line, rawInt pos.col, .ref c']).toList = ps.toList ++ [rawInt pos.line, rawInt pos.col, .ref c'] := by simp
    refine h h'.objs.size c' ((X.mg "__name__").getD .none) ctv _ _ I1 hE (fun p hp => ?_) (fun b hb => dom_upd b (dom_upd b hb)) (Heap.get?_push_size _ rfl) ?_ (nofr _ hsz) hsz upd_same
    · by_cases hb : p.1 = P
      · rw [hu p hp hb, hb]
        refine ⟨_, by rw [upd_ne (ne_of_none hP nC), upd_same], by rw [eL]; exact PySem.TriplesOk_snoc _ _ _ _ ht, fun p' cv hcv => ?_⟩
        rw [eL] at hcv
        rcases among_app _ ht hcv with z | z
        · obtain ⟨c0, e1, e2⟩ := ha p' cv z
          exact ⟨c0, e1, hE _ _ e2 codeO_ne⟩
        · exact ⟨c', z, upd_same⟩
      · obtain ⟨ps', a1, a2, a3⟩ := hT p hp
        refine ⟨ps', by rw [upd_ne (ne_of_none a1 nC), upd_ne hb]; exact a1, a2, fun p' cv hcv => ?_⟩
        obtain ⟨c0, e1, e2⟩ := a3 p' cv hcv
        exact ⟨c0, e1, hE _ _ e2 codeO_ne⟩
    · have n1 : h'.objs.size ≠ c' := Nat.ne_of_gt hlt
      have n2 : h'.objs.size ≠ P := Nat.ne_of_gt (Nat.lt_of_lt_of_le (Heap.lt_size hP') hsz)
      rw [upd_ne n1, upd_ne n2]
      exact I.hok.fresh hsz
  | some cv =>
    obtain ⟨c', e, hco⟩ := ha pos cv hc
    subst e
    refine PySem.W.kla_makeFunctionHit (mg := X.mg) (c := c) (P := P) (ps := ps) (closure_ok hfree) I.ok.glob (I.mod.glob.keeps I.bk) hcode (TB.code.keeps I.bk) hP' ht hc bP fun ctv h' tk hx hsz => ?_
    have I1 : Inv X pins σ H { s with heap := h'.push (PySem.W.kla_obj "<lambda>" (X.env.qual ++ "<lambda>") params body scope (cloFrom X.env.cells scope.names []) ((X.mg "__name__").getD .none) c' ctv), toks := tk } := I.kept fun b o e => Heap.get?_push_of_some _ (hx b o e)
    exact h h'.objs.size c' ((X.mg "__name__").getD .none) ctv H _ I1 (ExtN.refl H) hT (fun _ hb => hb) (Heap.get?_push_size _ rfl) (I.hok.fresh hsz) (nofr _ hsz) hsz hco
/-- what a text that makes lambdas asks of its surroundings -/
structure LamC (X : Cx) (T : List (Addr × Str)) : Prop where
  ex : ∃ c P, X.env.code = .ref c ∧ TabB X.base X.mg c P ∧ (P, X.env.qual ++ "<lambda>") ∈ T ∧ ∀ p ∈ T, p.1 = P → p.2 = X.env.qual ++ "<lambda>"
/-- f(e, key=lambda x: body), f sorted or min: the lambda's object is pinned -/
theorem pe_lamKey {T : List (Addr × Str)} {id : String} {nm : Str} {e : Expr} {te : TE} {params : Arguments} {body : Expr} {scope : Scope} {x : Str} {p kp lpos pos : Pos} {tt : V → St → Hp → VK → Prop} (hg : Gl X nm) (hm : X.mg nm = none) (hv : bootBuiltins nm = some (.builtin id)) (he : PE X e te) (LC : LamC X T)
    (L : Lam1 X.env.scope scope x) (hdef : defaultsOf params X.env = ([], [])) (hT : ∀ (σ : St) (H : Hp) (v : V) (Q : VK), tt v σ H Q → Tabs T H)
    (run : ∀ (pins : List (Addr × Obj)) (s : Shared) (σ : St) (H0 H : Hp) (v : V) (u : Value) (Q : VK) (f c' : Addr) (pm ctv : Value), Inv X ((f, PySem.W.kla_obj "<lambda>" (X.env.qual ++ "<lambda>") params body scope (cloFrom X.env.cells scope.names []) pm c' ctv) :: pins) σ H s → RelV v u → tt v σ H0 Q → ExtN H0 H → Tabs T H → (∀ b, H0 b ≠ none → H b ≠ none) →
      H c' = some (CodeO c' (X.env.qual ++ "<lambda>")) → wpAny (model X.prog X.w) X.A (call (.builtin id) [u] [(Str.ofString "key", .ref f)]) (EP X ((f, PySem.W.kla_obj "<lambda>" (X.env.qual ++ "<lambda>") params body scope (cloFrom X.env.cells scope.names []) pm c' ctv) :: pins) σ Q) X.xe s)
    (hn : nm ≠ "__name__" := by decide) (hdb : (nm == ("__debug__" : Str)) = false := by decide) (hs : starEach [e] X.env = [(false, eval e X.env)] := by rfl) :
    PE X (.Call (.Name nm p) [e] [⟨some "key", .Lambda params body scope lpos, kp⟩] pos) (fun σ H Q => te σ H fun v H1 => tt v σ H1 Q) := by
  refine ⟨fun pins s σ H Q I h => ?_⟩
  obtain ⟨c, P, hcode, TB, hmT, hu⟩ := LC.ex
  refine wpAny_Call_Name_kw (ld_blt I hg hm hv ?_ hn hdb)
  have ha := (pa_cons he pa_nil hs : PA X [e] _)
  refine PyProof.Rows.callWith_kw (thn (ha.run pos pins s σ H (fun vs H1 => match vs with | [v] => tt v σ H1 Q | _ => False) I h) fun us s1 ⟨vs, H1, I1, r1, q1⟩ => ?_) (by rw [hs]; rfl) (by rw [hs]; rfl) rfl rfl
  · cases r1 with
    | nil => exact q1.elim
    | cons ru r1 =>
    cases r1 with
    | cons _ _ => exact q1.elim
    | nil =>
    rename_i v u _
    show wpAny _ _ (evalAll [do let v ← eval (.Lambda params body scope lpos) X.env; standAt pos; pure v]) _ _ s1
    refine wpAny_evalAll_cons (wpAny_bind (lam_makeX I1 TB hcode hmT hu (hT _ _ _ _ q1) hdef (L.has I1.ok) fun f c' pm' ctv H2 s' I2 eN T1 dm hf hfn hfr hfz hco => wpAny_bind (wpAny_standAt (wpAny_pure ?_))))
    refine wpAny_evalAll_nil ?_
    have Ip : Inv X ((f, PySem.W.kla_obj "<lambda>" (X.env.qual ++ "<lambda>") params body scope (cloFrom X.env.cells scope.names []) pm' c' ctv) :: pins) σ H2 s' := I2.pins_of fun p hp => by
      rcases List.mem_cons.mp hp with rfl | hp
      · exact ⟨hf, hfn, Nat.ne_of_gt (Nat.lt_of_lt_of_le I1.lt hfz), I1.nofs hfz, fun v z => nomatch z⟩
      · exact I2.pin p (List.mem_append_right _ hp)
    exact thn (run pins s' σ H1 H2 v u Q f c' pm' ctv Ip ru q1 eN T1 dm hco) fun v3 s3 ⟨x3, H3, I3, r3, q3⟩ => ⟨x3, H3, I3.pins_of fun p hp => I3.pin p (List.mem_append_right _ (List.mem_cons_of_mem _ hp)), r3, q3⟩
end
end BX
set_option Elab.async false
set_option linter.all false
set_option maxRecDepth 100000
set_option maxHeartbeats 2000000
/-! BX3j: sorted of data of any length; a part of a list stored anew. -/
namespace BX
open PySem L2
open PyProof.Rows hiding St Binds
open PySem.W (AllAlike Sortable)
def rSrtD (K : PySem.W.Frag) : List V → Hp → VK → Prop := fun vs H Q => ∃ (a : Addr) (xs : List V) (kz : List PyData), vs = [V.ref a] ∧ SqL K H a xs ∧ DpAll K H xs kz ∧ kz.length = xs.length ∧ AllAlike kz ∧ Sortable kz ∧ (∀ d ∈ kz, d.depth ≤ 60) ∧
  ∀ p, H p = none → Q (.ref p) (upd H p (.lst (sortV xs kz)))
theorem cr_srtD {X : Cx} (hu : X.A.units + 64 < cLine) : CallR X (.builtin "sorted") (rSrtD X.K) := by
  intro pins s σ H vs us Q I r h
  obtain ⟨a, xs, kz, rfl, hs, hd, hlen, hal, hso, hdep, q⟩ := h
  obtain ⟨its, rv, pl, hz⟩ := I.list hs
  obtain ⟨u, rfl, ru⟩ := vals1 r
  obtain rfl : u = Value.ref a := ru
  have hl2 : its.length = xs.length := rv.length.symm
  have e1 := each_vals rv hlen
  have hsnd : (xs.zip kz).map (·.2) = kz := by rw [← List.unzip_snd, List.unzip_zip hlen.symm]
  have er : PySem.W.EachIs (fun (v : Value) (b : V × PyData) => ∃ as, Reads s.heap v b.2 as) its (xs.zip kz) := by
    have e2 := each_dp I hd rv
    have : ∀ {us : List Value} {ks : List PyData} {xs : List V}, ks.length = xs.length → PySem.W.EachIs (fun v k => ∃ as, Reads s.heap v k as) us ks → PySem.W.EachIs (fun (v : Value) (b : V × PyData) => ∃ as, Reads s.heap v b.2 as) us (xs.zip ks) := by
      intro us ks xs hl e
      induction e generalizing xs with
      | nil =>
        cases xs with
        | nil => exact .nil
        | cons _ _ => simp at hl
      | cons r rs ih =>
        cases xs with
        | nil => simp at hl
        | cons x xs => exact .cons r (ih (by simpa using hl))
    exact this hlen e2
  have hL : (xs.zip kz).length ≤ sizeLine := by rw [List.length_zip, hlen]; omega
  refine PySem.W.sorted_data (bs := xs.zip kz) (enc := (·.2)) pl.isList e1 er (by rw [hsnd]; exact hal) (by rw [hsnd]; exact hso) hL (fun b hb => ?_) fun out ho hr => ?_
  · have : b.2 ∈ kz := by rw [← hsnd]; exact List.mem_map.mpr ⟨b, hb, rfl⟩
    have := hdep _ this
    omega
  · have vout := vals_each hr
    have hol : (sortV xs kz).length ≤ sizeLine := by
      unfold sortV
      rw [List.length_map, List.length_mergeSort]
      exact hL
    have hn := I.hok.fresh (Nat.le_succ s.heap.objs.size)
    refine ⟨.ref _, upd H (s.heap.objs.size + 1) (.lst (sortV xs kz)), I.laid (t' := s.toks) (fun b o e => PyProof.Rows.sortedAll_old e) (Nat.le_succ _) ?_, rfl, q _ hn⟩
    obtain ⟨n, hn2⟩ := PyProof.Rows.sortedAll_at s.heap its out.toArray
    exact ⟨hol, out, n, vout, hn2⟩
/-- a new thing that nobody will change -/
def tIce (t : TE) : TE := fun σ H Q => t σ H fun v H1 => ∃ p u, v = .ref p ∧ H1 p = some u ∧ Mut (some u) ∧ ∀ ob, Q v (upd H1 p (.frz ob u))
theorem pe_ice {X : Cx} {e : Expr} {t : TE} (h : PE X e t) : PE X e (tIce t) := by
  refine ⟨fun pins s σ H Q I q => thn (h.run pins s σ H _ I q) fun u s1 ⟨v, H1, I1, r1, p, o, ev, hp, hm, q1⟩ => ?_⟩
  obtain ⟨ob, I2⟩ := I1.lock hp hm
  exact ⟨v, _, I2, r1, q1 ob⟩
/-- ahead of a statement: a thing of the frame that nobody will change -/
def tIceS (t : TS) : TS := fun D σ H => (∃ p u, H p = some u ∧ Mut (some u) ∧ ∀ ob, t D σ (upd H p (.frz ob u))) ∨ t D σ H
theorem ps_ice {X : Cx} {st : Stmt} {t : TS} (h : PS X st t) : PS X st (tIceS t) := by
  refine ⟨fun pins s σ H D I q => ?_⟩
  rcases q with ⟨p, u, hp, hm, q⟩ | q
  · obtain ⟨ob, I2⟩ := I.lock hp hm
    exact h.run pins s σ _ D I2 (q ob)
  · exact h.run pins s σ H D I q
/-- a part stored anew, what is stored only read -/
theorem set_slR {X : Cx} {pins : List (Addr × Obj)} {s : Shared} {σ : St} {H : Hp} {p b sl : Addr} {xs ys : List V} {a c : Nat} {vl vu : Value} {Q : Unit → Shared → Prop} (I : Inv X pins σ H s)
    (hp : H p = some (.lst xs)) (hb : Rd H b (.lst ys)) (hne : p ≠ b) (hs : s.heap.IsSliceOf sl vl vu .none) (ra : RelV (.int a) vl) (rc : RelV (.int c) vu) (hac : a ≤ c) (hc : c ≤ xs.length)
    (hz : xs.length + ys.length ≤ sizeLine) (h : ∀ s', Inv X pins σ (upd H p (.lst (xs.take a ++ ys ++ xs.drop c))) s' → Q () s') : wpAny (model X.prog X.w) X.A (setItem (.ref p) (.ref sl) (.ref b)) Q X.xe s := by
  obtain ⟨_, ua, n, ra2, _, ga⟩ := I.lstM hp
  have ob : ObjOk X.prog X.w H s.heap b (.lst ys) := hb.ok I.hok
  obtain ⟨_, ub, m, rb2, gb⟩ := ob
  obtain ⟨t1, rfl⟩ := ra
  obtain ⟨t2, rfl⟩ := rc
  have la := ra2.length
  have lb := rb2.length
  have s1 : ua.toArray.size = xs.length := by simp [la]
  have s2 : ub.toArray.size = ys.length := by simp [lb]
  refine setItem_slice ga gb hne hs (.int _ _) (.int _ _) hac (by omega) (by omega) (h _ ?_)
  refine I.lset (t' := s.toks) (its' := ua.take a ++ ub ++ ua.drop c) hp ga ?_ (((ra2.take a).append rb2).append (ra2.drop c)) ?_
  · exact splice_eq ua ub a c
  · simp only [List.length_append, List.length_take, List.length_drop]
    omega
/-- o[a:c] = .. -/
def gSubSl (to tl th : TE) : TG := fun v σ H Q => to σ H fun o H1 => tl σ H1 fun l H2 => th σ H2 fun u H3 => ∃ (p b : Addr) (xs ys : List V) (a c : Nat), o = .ref p ∧ v = .ref b ∧ l = .int a ∧ u = .int c ∧
  H3 p = some (.lst xs) ∧ Rd H3 b (.lst ys) ∧ p ≠ b ∧ a ≤ c ∧ c ≤ xs.length ∧ xs.length + ys.length ≤ sizeLine ∧ Q σ (upd H3 p (.lst (xs.take a ++ ys ++ xs.drop c)))
theorem pg_subSl {X : Cx} {o lo hi : Expr} {to tl th : TE} {p2 pos : Pos} (ho : PE X o to) (hl : PE X lo tl) (hh : PE X hi th) : PG X (.Subscript o (.Slice (some lo) (some hi) none p2) pos) (gSubSl to tl th) := by
  refine ⟨fun pins s σ H v u Q I r h => ?_⟩
  have ha : assign (.Subscript o (.Slice (some lo) (some hi) none p2) pos) X.env u = (do
      let ov ← holding [u] (eval o X.env)
      let iv ← holding [u, ov] (eval (.Slice (some lo) (some hi) none p2) X.env)
      standAt pos
      holding [u, ov, iv] (setItem ov iv u)
      release [iv, u, ov] []) := rfl
  rw [ha]
  refine wpAny_bind (wpAny_holding (thn (ho.run pins s σ H _ I h) fun ov s1 ⟨x, H1, I1, r1, q1⟩ => ?_))
  refine wpAny_bind (wpAny_holding (wpAny_Slice ?_))
  have el : evalPart (some lo) X.env = eval lo X.env := rfl
  have eh : evalPart (some hi) X.env = eval hi X.env := rfl
  rw [el, eh]
  refine thn (hl.run pins s1 σ H1 _ I1 q1) fun vl s2 ⟨l, H2, I2, pl, q2⟩ => thn (hh.run pins s2 σ H2 _ I2 q2) fun vu s3 ⟨w, H3, I3, pu, q3⟩ => ?_
  rw [evalPart_none]
  refine wpAny_pure ?_
  obtain ⟨p, b, xs, ys, a, c, rfl, rfl, rfl, rfl, hp, hb, hne, hac, hc, hz, q⟩ := q3
  obtain rfl : ov = Value.ref p := r1
  obtain rfl : u = Value.ref b := r
  have I4 : Inv X pins σ H3 { s3 with heap := s3.heap.push { cls := .type "slice", data := .fields #[vl, vu, .none] } } := I3.kept (t' := s3.toks) fun b ob q => Heap.get?_push_of_some _ q
  refine wpAny_bind (wpAny_standAt ?_)
  refine wpAny_bind (wpAny_holding (set_slR I4 hp hb hne (Heap.IsSliceOf.new ..) pl pu hac hc hz fun s' I5 => ?_))
  exact wpAny_release ⟨σ, _, I5, q⟩
end BX
set_option Elab.async false
set_option linter.all false
set_option maxRecDepth 100000
set_option maxHeartbeats 2000000
/-! BX4: which text a term of the syntax is; readings by data; the cases of soundness for expressions. -/
namespace BX
open PySem L2
open PyProof.Rows hiding St Binds

/-! ### the check: this text is that term -/
structure Tb where
  isF : Nat → Bool
  nm : Nat → Str
  dvB : Nat → Nat → List D → Bool
  conB : Str → D → Bool
  kwB : Nat → Nat → List Str → List (Nat ⊕ D) → Bool
  mthB : Nat → Str → Str → Bool := fun _ _ _ => false
  mkB : Nat → Str → Bool := fun _ _ => false
  fldB : Str → Str → Bool := fun _ _ => false
  lam : List Str → Ex → Scope → Expr → Bool := fun _ _ _ _ => false

def visB (sc : Scope) (x : Str) : Bool := (match sc.names.lookup x with | some .local => true | some .cell => true | some .free => true | _ => false) && !(x == ("__debug__" : Str)) && !(x == ("__classdict__" : Str))
def glB (sc : Scope) (x : Str) : Bool := (match sc.names.lookup x with | some .globalImplicit => true | _ => false) && !(x == ("__debug__" : Str))
def notStar : Expr → Bool
  | .Starred .. => false
  | _ => true
def notSlice : Expr → Bool
  | .Slice .. => false
  | _ => true
def notSet : Expr → Bool
  | .Set .. => false
  | _ => true
def isTup : Expr → Bool
  | .Tuple .. => true
  | _ => false
def opB : BOp → Operator → Bool
  | .add, .Add => true | .sub, .Sub => true | .mul, .Mult => true | .fdiv, .FloorDiv => true | .mod, .Mod => true | .pow, .Pow => true | .shl, .LShift => true | .shr, .RShift => true
  | _, _ => false
def cpB : COp → CmpOp → Bool
  | .eq, .Eq => true | .ne, .NotEq => true | .lt, .Lt => true | .le, .LtE => true | .gt, .Gt => true | .ge, .GtE => true | .is, .Is => true | .isnot, .IsNot => true | .inn, .In => true | .nin, .NotIn => true
  | _, _ => false
def litB : D → Const → Bool
  | .non, .none => true
  | .bl b, .bool c => b == c
  | .int i, .int j => i == j
  | .str x, .str y => x == y
  | _, _ => false
def notCall0 : Expr → Bool
  | .Call (.Name _ _) [] [] _ => false
  | _ => true
/-- f(z), f a built-in -/
def blX (n : Str) (sc : Scope) : Expr → Option (List Expr)
  | .Call (.Name x _) [z] [] _ => if (x == n && glB sc x && notStar z) = true then some [z] else none
  | _ => none
/-- o.m(k) -/
def atX (n : Str) : Expr → Option (List Expr)
  | .Call (.Attribute o m ap) [k] [] cp => if (m == n && notStar k && (ap.endLine == cp.line) && notCall0 o) = true then some [o, k] else none
  | _ => none
def atX2 (n : Str) : Expr → Option (List Expr)
  | .Call (.Attribute o m ap) [k, z] [] cp => if (m == n && notStar k && notStar z && (ap.endLine == cp.line) && notCall0 o) = true then some [o, k, z] else none
  | _ => none
def cmX (o : CmpOp) : Expr → Option (List Expr)
  | .Compare x [p] [y] _ => if (decide (p = o) && !behindInMarks p y) = true then some [x, y] else none
  | _ => none
/-- x == [], x != [] -/
def emX (o : CmpOp) : Expr → Option (List Expr)
  | .Compare x [p] [.List [] _] _ => if decide (p = o) = true then some [x] else none
  | _ => none
/-- a lambda's parameters: one name -/
def lamPar : Arguments → Option Str
  | ⟨[], [a], none, [], [], none, []⟩ => some a.arg
  | _ => none
def lamPB (N : List Str) (i : Nat) (sc : Scope) (params : Arguments) (scope : Scope) : Bool := match lamPar params with
  | some x => decide (N[i]? = some x) && lam1B sc scope x
  | none => false
/-- the parts of a primitive's text -/
def prX : Pr → Scope → Expr → Option (List Expr)
  | .dnew, _, e => match e with | .Dict [] [] _ => some [] | _ => none
  | .ndnew, _, e => match e with | .Dict [] [] _ => some [] | _ => none
  | .dget, _, e => match e with | .Subscript o i _ => if notSlice i = true then some [o, i] else none | _ => none
  | .din, _, e => cmX .In e
  | .dnin, _, e => cmX .NotIn e
  | .dget1, _, e => atX "get" e
  | .dget2, _, e => atX2 "get" e
  | .dlen, sc, e => blX "len" sc e
  | .llen, sc, e => blX "len" sc e
  | .dcopy, sc, e => blX "dict" sc e
  | .ndcopy, sc, e => blX "dict" sc e
  | .dlist, sc, e => blX "list" sc e
  | .lcopy, sc, e => blX "list" sc e
  | .nlcopy, sc, e => blX "list" sc e
  | .dsort, sc, e => blX "sorted" sc e
  | .ssort, sc, e => blX "sorted" sc e
  | .join y, _, e => match e with | .Call (.Attribute (.Constant (.str y') j p) m ap) [k] [] cp => if (y' == y && m == ("join" : Str) && notStar k && (ap.endLine == cp.line)) = true then some [k] else none | _ => none
  | .deq, _, e => cmX .Eq e
  | .dne, _, e => cmX .NotEq e
  | .lemp, _, e => emX .Eq e
  | .lnemp, _, e => emX .NotEq e
  | .fld f, _, e => match e with | .Attribute o g _ => if (g == f && notCall0 o) = true then some [o] else none | _ => none
  | _, _, _ => none
/-- what raises nothing -/
def simpE : Ex → Bool
  | .var _ => true
  | .cst _ => true
  | .tup es => es.all fun e => match e with | .cst _ => true | _ => false
  | _ => false
def prOk : Pr → List Ex → Bool
  | .dget1, es => es.tail.all simpE
  | .dget2, es => es.tail.all simpE && match es with | [_, _, .var _] => false | _ => true
  | _, _ => true
mutual
def chT (N : List Str) (fnc : Str → Bool) : Tg → Expr → Bool
  | .nm i, e => match e with | .Name x _ => decide (N[i]? = some x) && fnc x | _ => false
  | .tp l, e => match e with | .Tuple es _ _ => chTs N fnc l es | _ => false
def chTs (N : List Str) (fnc : Str → Bool) : List Tg → List Expr → Bool
  | [], es => match es with | [] => true | _ => false
  | t :: ts, es => match es with | e :: es => notStar e && chT N fnc t e && chTs N fnc ts es | _ => false
end
mutual
def tgIn (own : List Nat) : Tg → Bool
  | .nm i => own.contains i
  | .tp l => tgsIn own l
def tgsIn (own : List Nat) : List Tg → Bool
  | [] => true
  | t :: ts => tgIn own t && tgsIn own ts
end
def ownN (N : List Str) (own : List Nat) : List (Str × Nat) := own.map fun i => (N.getD i "", i)
def blkF (scope : Scope) : Str → Bool := fun x => match scope.names.lookup x with | some .local => true | some .cell => true | _ => false
section
variable (T : Tb) (N : List Str)
mutual
def chE : Ex → Scope → (Str → Bool) → Expr → Bool
  | .cst d, _, _, e => match e with | .Constant c _ _ => litB d c | _ => false
  | .var i, sc, _, e => match e with | .Name x _ => decide (N[i]? = some x) && visB sc x | _ => false
  | .glb y d, sc, _, e => match e with | .Name x _ => x == y && glB sc x && T.conB x d | _ => false
  | .bin o a b, sc, fn, e => match e with | .BinOp x p y _ => opB o p && chE a sc fn x && chE b sc fn y | _ => false
  | .neg a, sc, fn, e => match e with | .UnaryOp .USub x _ => chE a sc fn x | _ => false
  | .cmp o a b, sc, fn, e => match e with | .Compare x [p] [y] _ => cpB o p && !behindInMarks p y && chE a sc fn x && chE b sc fn y | _ => false
  | .chn o o' a b c, sc, fn, e => match e with | .Compare x [p, p'] [y, z] _ => cpB o p && cpB o' p' && !lastMarks [p, p'] [y, z] && chE a sc fn x && chE b sc fn y && chE c sc fn z | _ => false
  | .and a b, sc, fn, e => match e with
    | .BoolOp .And [x, y] _ => chE a sc fn x && chE b sc fn y
    | .BoolOp .And (x :: y :: z :: r) p => chE a sc fn x && chE b sc fn (.BoolOp .And (y :: z :: r) p)
    | _ => false
  | .or a b, sc, fn, e => match e with
    | .BoolOp .Or [x, y] _ => chE a sc fn x && chE b sc fn y
    | .BoolOp .Or (x :: y :: z :: r) p => chE a sc fn x && chE b sc fn (.BoolOp .Or (y :: z :: r) p)
    | _ => false
  | .not a, sc, fn, e => match e with | .UnaryOp .Not x _ => chE a sc fn x | _ => false
  | .ite c a b, sc, fn, e => match e with | .IfExp z x y _ => chE c sc fn z && chE a sc fn x && chE b sc fn y | _ => false
  | .tup es, sc, fn, e => match e with | .Tuple xs _ _ => chEs es sc fn xs | _ => false
  | .lst es, sc, fn, e => match e with | .List xs _ => chEs es sc fn xs | _ => false
  | .nlst es, sc, fn, e => match e with | .List xs _ => chEs es sc fn xs | _ => false
  | .ix a b, sc, fn, e => match e with | .Subscript x y _ => notSlice y && chE a sc fn x && chE b sc fn y | _ => false
  | .sl a lo hi, sc, fn, e => match e with | .Subscript x (.Slice l h none _) _ => chE a sc fn x && chP lo sc fn l && chP hi sc fn h | _ => false
  | .call f es dv, sc, fn, e => match e with | .Call (.Name x _) xs [] _ => x == T.nm f && glB sc x && T.isF f && T.dvB f xs.length dv && chEs es sc fn xs | _ => false
  | .callK f es ks kes pm, sc, fn, e => match e with | .Call (.Name x _) (y :: xs) kws _ => x == T.nm f && glB sc x && T.isF f && T.kwB f (xs.length + 1) ks pm && chEs es sc fn (y :: xs) && chKs kes sc fn kws ks | _ => false
  | .op1 o a, sc, fn, e => match o with
    | .lrev => match e with | .Call (.Name x _) [.Call (.Name y _) [z] [] _] [] _ => x == ("list" : Str) && glB sc x && y == ("reversed" : Str) && glB sc y && notStar z && chE a sc fn z | _ => false
    | .srt => match e with | .Call (.Name x _) [z] [] _ => x == ("sorted" : Str) && glB sc x && notStar z && chE a sc fn z | _ => false
    | .srtD => match e with | .Call (.Name x _) [z] [] _ => x == ("sorted" : Str) && glB sc x && notStar z && chE a sc fn z | _ => false
    | .lrg => match e with | .Call (.Name x _) [.Call (.Name y _) [z] [] _] [] _ => x == ("list" : Str) && glB sc x && y == ("range" : Str) && glB sc y && notStar z && chE a sc fn z | _ => false
  | .op2 o a b, sc, fn, e => match o with
    | .lrg2 => match e with | .Call (.Name x _) [.Call (.Name y _) [z, v] [] _] [] _ => x == ("list" : Str) && glB sc x && y == ("range" : Str) && glB sc y && notStar z && notStar v && chE a sc fn z && chE b sc fn v | _ => false
  | .chn3 o o' o2 a b c d, sc, fn, e => match e with | .Compare x [p, p', p2] [y, z, v] _ => cpB o p && cpB o' p' && cpB o2 p2 && !lastMarks [p, p', p2] [y, z, v] && chE a sc fn x && chE b sc fn y && chE c sc fn z && chE d sc fn v | _ => false
  | .blt b es, sc, fn, e => match e with | .Call (.Name x _) (y :: xs) [] _ => x == bltN b && glB sc x && chEs es sc fn (y :: xs) | _ => false
  | .isi a t, sc, fn, e => match e with
    | .Call (.Name x _) [y, .Name z _] [] _ => x == ("isinstance" : Str) && glB sc x && notStar y && chE a sc fn y && z == Str.ofString (tyN t) && glB sc z
    | _ => false
  | .lc el tg it cond own, sc, fn, e => match e with
    | .ListComp x [⟨tx, ix, ifs, 0⟩] scope _ => notSet ix && blkC N sc scope (ownN N own) && tgIn own tg && chI it sc fn tx ix && chT N (blkF scope) tg tx && chC cond (relS scope sc) (blkF scope) ifs && chE el (relS scope sc) (blkF scope) x
    | _ => false
  | .lc2 el tg it cond tg1 it1 own own1, sc, fn, e => match e with
    | .ListComp x [⟨tx, ix, ifs, 0⟩, ⟨tx1, ix1, [], 0⟩] scope _ => notSet ix && notSet ix1 && blkC N sc scope (ownN N own) && tgIn own tg && tgIn own1 tg1 && own1.all own.contains && chI it sc fn tx ix && chT N (blkF scope) tg tx && chC cond (relS scope sc) (blkF scope) ifs && chI it1 (relS scope sc) (blkF scope) tx1 ix1 && chT N (blkF scope) tg1 tx1 && chE el (relS scope sc) (blkF scope) x
    | _ => false
  | .prim p es, sc, fn, e => match prX p sc e with
    | some xs => prOk p es && chEs es sc fn xs
    | none => false
  | .srtK l i key, sc, fn, e => match e with | .Call (.Name n _) [z] [⟨some kn, .Lambda params body scope _, _⟩] _ => n == ("sorted" : Str) && kn == ("key" : Str) && glB sc n && notStar z && lamPB N i sc params scope && T.lam N key scope body && chE l sc fn z | _ => false
  | .minK l i key, sc, fn, e => match e with | .Call (.Name n _) [z] [⟨some kn, .Lambda params body scope _, _⟩] _ => n == ("min" : Str) && kn == ("key" : Str) && glB sc n && notStar z && lamPB N i sc params scope && T.lam N key scope body && chE l sc fn z | _ => false
  | .mth f c m o es dv, sc, fn, e => match e with | .Call (.Attribute x y ap) xs [] cp => y == m && T.mthB f c m && T.dvB f (xs.length + 1) dv && notCall0 x && (ap.endLine == cp.line) && decide (xs.length < 29) && chE o sc fn x && chEs es sc fn xs | _ => false
  | .mthK f c m o es ks kes pm, sc, fn, e => match e with | .Call (.Attribute x y ap) xs kws cp => y == m && T.mthB f c m && T.kwB f (xs.length + 1) ks pm && notCall0 x && (ap.endLine == cp.line) && decide (xs.length + kws.length < 29) && chE o sc fn x && chEs es sc fn xs && chKs kes sc fn kws ks | _ => false
  | .mkK f c es ks kes pm, sc, fn, e => match e with | .Call (.Name x _) (y :: xs) kws _ => x == c && glB sc x && T.mkB f c && T.kwB f (xs.length + 2) ks pm && chEs es sc fn (y :: xs) && chKs kes sc fn kws ks | _ => false
  | .lidx a b, sc, fn, e => match e with | .Call (.Attribute z m ap) [v] [] cp => m == ("index" : Str) && notStar v && (ap.endLine == cp.line) && notCall0 z && chE a sc fn z && chE b sc fn v | _ => false
  | .orV a b, sc, fn, e => match e with | .BoolOp .Or [x, y] _ => chE a sc fn x && chE b sc fn y | _ => false
  | .mkV f c fs es, sc, fn, e => match e with | .Call (.Name x _) xs [] _ => x == c && glB sc x && T.mkB f c && T.dvB f (xs.length + 1) [] && chEs es sc fn xs | _ => false
  | .dsp es, sc, fn, e => match e with | .Dict keys vals _ => !keys.isEmpty && decide (keys.length ≤ 15) && decide (keys.length = vals.length) && chKv es sc fn keys vals | _ => false
  | .dc kx vx tg it cond own, sc, fn, e => match e with
    | .DictComp x y [⟨tx, ix, ifs, 0⟩] scope _ => notSet ix && blkC N sc scope (ownN N own) && tgIn own tg && chI it sc fn tx ix && chT N (blkF scope) tg tx && chC cond (relS scope sc) (blkF scope) ifs && chE kx (relS scope sc) (blkF scope) x && chE vx (relS scope sc) (blkF scope) y
    | _ => false
  | .mk f c es dv, sc, fn, e => match e with | .Call (.Name x _) xs [] _ => x == c && glB sc x && T.mkB f c && T.dvB f (xs.length + 1) dv && chEs es sc fn xs | _ => false
def chEs : List Ex → Scope → (Str → Bool) → List Expr → Bool
  | [], _, _, xs => match xs with | [] => true | _ => false
  | a :: es, sc, fn, xs => match xs with | x :: xs => notStar x && chE a sc fn x && chEs es sc fn xs | _ => false
def chKv : List Ex → Scope → (Str → Bool) → List (Option Expr) → List Expr → Bool
  | [], _, _, ks, vs => match ks, vs with | [], [] => true | _, _ => false
  | [_], _, _, _, _ => false
  | a :: b :: es, sc, fn, ks, vs => match ks, vs with | some x :: ks, y :: vs => chE a sc fn x && chE b sc fn y && chKv es sc fn ks vs | _, _ => false
def chKs : List Ex → Scope → (Str → Bool) → List Keyword → List Str → Bool
  | [], _, _, kws, ks => match kws, ks with | [], [] => true | _, _ => false
  | a :: es, sc, fn, kws, ks => match kws, ks with | ⟨some n, x, _⟩ :: kws, k :: ks => n == k && chE a sc fn x && chKs es sc fn kws ks | _, _ => false
def chP : Option Ex → Scope → (Str → Bool) → Option Expr → Bool
  | none, _, _, e => match e with | none => true | _ => false
  | some a, sc, fn, e => match e with | some x => chE a sc fn x | _ => false
def chC : Option Ex → Scope → (Str → Bool) → List Expr → Bool
  | none, _, _, es => match es with | [] => true | _ => false
  | some a, sc, fn, es => match es with | [x] => chE a sc fn x | _ => false
def chI : Itx → Scope → (Str → Bool) → Expr → Expr → Bool
  | .seq a, sc, fn, _, e => chE a sc fn e
  | .rng a, sc, fn, _, e => match e with | .Call (.Name x _) [y] [] _ => x == ("range" : Str) && glB sc x && notStar y && chE a sc fn y | _ => false
  | .rng2 a b, sc, fn, _, e => match e with | .Call (.Name x _) [y, z] [] _ => x == ("range" : Str) && glB sc x && notStar y && notStar z && chE a sc fn y && chE b sc fn z | _ => false
  | .zip a b, sc, fn, t, e => match e with | .Call (.Name x _) [y, z] [] _ => isTup t && x == ("zip" : Str) && glB sc x && notStar y && notStar z && chE a sc fn y && chE b sc fn z | _ => false
  | .rrng a, sc, fn, _, e => match e with | .Call (.Name x _) [.Call (.Name z _) [y] [] _] [] _ => x == ("reversed" : Str) && glB sc x && z == ("range" : Str) && glB sc z && notStar y && chE a sc fn y | _ => false
  | .rev a, sc, fn, _, e => match e with | .Call (.Name x _) [y] [] _ => x == ("reversed" : Str) && glB sc x && notStar y && chE a sc fn y | _ => false
  | .dk a, sc, fn, _, e => chE a sc fn e
  | .dit a, sc, fn, t, e => match e with | .Call (.Attribute x m ap) [] [] cp => isTup t && m == ("items" : Str) && (ap.endLine == cp.line) && notCall0 x && chE a sc fn x | _ => false
  | .dvl a, sc, fn, _, e => match e with | .Call (.Attribute x m ap) [] [] cp => m == ("values" : Str) && (ap.endLine == cp.line) && notCall0 x && chE a sc fn x | _ => false
  | .enu a, sc, fn, t, e => match e with | .Call (.Name x _) [y] [] _ => isTup t && x == ("enumerate" : Str) && glB sc x && notStar y && chE a sc fn y | _ => false
end
end

/-! ### results -/
def Pst {α : Type} (r : R α) (P : α → Sto → Prop) (PX : Exc → Sto → Prop) : Prop := match r with
  | .ok a S => P a S
  | .exc x S => PX x S
  | .stuck => False
theorem Pst.bd {α β : Type} {r : R α} {f : α → Sto → R β} {P : β → Sto → Prop} {PX : Exc → Sto → Prop} (h : Pst (r.bd f) P PX) : Pst r (fun a S => Pst (f a S) P PX) PX := by
  cases r <;> exact h
theorem Pst.imp {α : Type} {r : R α} {P P' : α → Sto → Prop} {PX PX' : Exc → Sto → Prop} (h : Pst r P PX) (hp : ∀ a S, P a S → P' a S) (hx : ∀ x S, PX x S → PX' x S) : Pst r P' PX' := by
  cases r
  · exact hp _ _ h
  · exact hx _ _ h
  · exact h
theorem Pst.of {α : Type} {o : Option α} {S : Sto} {P : α → Sto → Prop} {PX : Exc → Sto → Prop} (h : Pst (R.of S o) P PX) : ∃ a, o = some a ∧ P a S := by
  cases o with
  | none => exact h.elim
  | some a => exact ⟨a, rfl, h⟩
abbrev Po (α : Type) := Wd → Hp → α → Sto → Prop
structure Mon {α : Type} (P : Po α) : Prop where
  m : ∀ {w H w' H' a S}, Ext w H w' H' → P w H a S → P w' H' a S
/-- what is wanted of an exception -/
def PXe (G : Gx) (E : XK) (w : Wd) (H : Hp) : Exc → Sto → Prop := fun x S' => ∀ w' H' c dx, Ext w H w' H' → RSt G w' S' H' → G.rx w' H' x c dx → E c dx H'
abbrev PX (G : Gx) (W : WX) (σ : St) (w : Wd) (H : Hp) : Exc → Sto → Prop := PXe G (fun c d H' => W c d σ H') w H
theorem PXe.ext {G : Gx} {E : XK} {w w' : Wd} {H H' : Hp} {x : Exc} {S : Sto} (e : Ext w H w' H') (h : PXe G E w H x S) : PXe G E w' H' x S := fun w2 H2 c dx e2 => h w2 H2 c dx (e.trans e2)
/-- the wanted end -/
def finP (G : Gx) {α β : Type} (rel : Wd → Hp → β → α → Prop) (Q : β → Hp → Prop) : Po α := fun w H a S' => ∀ w' H' b, Ext w H w' H' → RSt G w' S' H' → rel w' H' b a → Q b H'
theorem monF {G : Gx} {α β : Type} {rel : Wd → Hp → β → α → Prop} {Q : β → Hp → Prop} : Mon (finP G rel Q) := ⟨fun e h w2 H2 b e2 => h w2 H2 b (e.trans e2)⟩
/-- a reading by data -/
def rd (G : Gx) (W : WX) {α β : Type} (rel : Wd → Hp → β → α → Prop) (ev : Env → Sto → R α) : St → Hp → (β → Hp → Prop) → Prop := fun σ H Q =>
  ∃ w H0 ε S, RSt G w S H ∧ REn G.K w H0 σ H ε ∧ Pst (ev ε S) (finP G rel Q w H) (PX G W σ w H)
def eqR {α : Type} : Wd → Hp → α → α → Prop := fun _ _ a b => a = b
theorem rd_step {G : Gx} {W : WX} {α β γ : Type} {rel : Wd → Hp → β → α → Prop} {ev : Env → Sto → R α} {f : α → Sto → R γ} {P : Po γ} {w : Wd} {H H0 : Hp} {σ : St} {ε : Env} {S : Sto} {Q : β → Hp → Prop}
    (mP : Mon P) (hS : RSt G w S H) (hE : REn G.K w H0 σ H ε) (h : Pst ((ev ε S).bd f) (P w H) (PX G W σ w H))
    (k : ∀ a S' w' H' b, Ext w H w' H' → RSt G w' S' H' → REn G.K w' H0 σ H' ε → rel w' H' b a → Pst (f a S') (P w' H') (PX G W σ w' H') → Q b H') : rd G W rel ev σ H Q :=
  ⟨w, H0, ε, S, hS, hE, h.bd.imp (fun a S' q w' H' b e hS' r => k a S' w' H' b e hS' (hE.ext e) r (q.imp (fun _ _ => mP.m e) fun _ _ => PXe.ext e)) fun _ _ q => q⟩
/-- the last step -/
theorem rd_last {G : Gx} {W : WX} {α β : Type} {rel : Wd → Hp → β → α → Prop} {ev : Env → Sto → R α} {w : Wd} {H H0 : Hp} {σ : St} {ε : Env} {S : Sto} {Q Q' : β → Hp → Prop}
    (hS : RSt G w S H) (hE : REn G.K w H0 σ H ε) (h : Pst (ev ε S) (finP G rel Q w H) (PX G W σ w H)) (hq : ∀ b H', Q b H' → Q' b H') : rd G W rel ev σ H Q' :=
  ⟨w, H0, ε, S, hS, hE, h.imp (fun a S' q w' H' b e hS' r => hq _ _ (q w' H' b e hS' r)) fun _ _ q => q⟩

/-! ### the context -/
/-- arguments with keywords, as values of the layer -/
def pmV (vs : List V) : List (Nat ⊕ D) → List V
  | [] => []
  | .inl j :: r => vs.getD j .non :: pmV vs r
  | .inr d :: r => vOf d :: pmV vs r
def pmFlat : List (Nat ⊕ D) → Bool
  | [] => true
  | .inl _ :: r => pmFlat r
  | .inr d :: r => flatD d && pmFlat r
theorem flat_rv {K : PySem.W.Frag} {w : Wd} {H : Hp} {d : D} (h : flatD d = true) : RV K w H (vOf d) d := by
  cases d <;> simp [flatD] at h <;> simp [vOf, RV]
theorem RVs.getD {K : PySem.W.Frag} {w : Wd} {H : Hp} : ∀ {ds : List D} {vs : List V} (j : Nat), RVs K w H vs ds → RV K w H (vs.getD j .non) (ds.getD j .non)
  | [], vs, j, h => by
    simp only [RVs] at h
    subst h
    simp [RV]
  | d :: ds, vs, j, h => by
    simp only [RVs] at h
    obtain ⟨v, r, rfl, h1, h2⟩ := h
    cases j with
    | zero => simpa using h1
    | succ j => simpa using RVs.getD j h2
theorem pm_rvs {K : PySem.W.Frag} {w : Wd} {H : Hp} {ds : List D} {vs : List V} (h : RVs K w H vs ds) : ∀ {pm : List (Nat ⊕ D)}, pmFlat pm = true → RVs K w H (pmV vs pm) (pmF ds pm)
  | [], _ => by simp [pmV, pmF, RVs]
  | .inl j :: r, f => by
    simp only [pmFlat] at f
    simp only [pmV, pmF, RVs]
    exact ⟨_, _, rfl, h.getD j, pm_rvs h f⟩
  | .inr d :: r, f => by
    simp only [pmFlat, Bool.and_eq_true] at f
    simp only [pmV, pmF, RVs]
    exact ⟨_, _, rfl, flat_rv f.1, pm_rvs h f.2⟩
def spOf (G : Gx) (c : List D → Sto → R D) : Sp := fun vs H Q E => ∃ w S ds, RSt G w S H ∧ RVs G.K w H vs ds ∧ Pst (c ds S) (finP G (RV G.K) Q w H) (PXe G E w H)
structure Lw (T : Tb) (G : Gx) (call : Call) (P : Program) (wo : World) (K : PySem.W.Frag) (mg : Str → Option Value) (base : Heap) (k : Nat) : Prop where
  hK : G.K = K
  fns : ∀ f, T.isF f = true → ∃ a fd ps, mg (T.nm f) = some (.ref a) ∧ PySem.W.keepIn K (.ref a) = true ∧ FnOk P wo K mg base (L2.CX P wo) (4 * k) a fd ps (spOf G (call f)) ∧
    (∀ n dv, T.dvB f n dv = true → dv.all flatD = true ∧ ∃ ds, Vals (dv.map vOf) ds ∧ Binds K fd ps ds) ∧
    ∀ n ks pm, T.kwB f n ks pm = true → pmFlat pm = true ∧ ∃ g, KBn K fd ps n ks g fun vs zs => pmV (vs ++ zs) pm
  rev : mg "reversed" = none
  srt : mg "sorted" = none
  blt : ∀ b, mg (bltN b) = none
  rng : mg "range" = none
  zip : mg "zip" = none
  enu : mg "enumerate" = none
  isi : mg "isinstance" = none
  tys : ∀ t, mg (Str.ofString (tyN t)) = none
  con : ∀ x d, T.conB x d = true → flatD d = true ∧ ∃ u, mg x = some u ∧ RelV (vOf d) u
  mth : ∀ f c m, T.mthB f c m = true → ∃ C a fd ps, G.cls c = some C ∧ Cls K C ∧ Meth K C m a ∧ FnOk P wo K mg base (L2.CX P wo) (4 * k) a fd ps (spOf G (call f)) ∧
    (∀ n dv, T.dvB f n dv = true → dv.all flatD = true ∧ ∃ ds, Vals (dv.map vOf) ds ∧ Binds K fd ps ds) ∧
    ∀ n ks pm, T.kwB f n ks pm = true → pmFlat pm = true ∧ ∃ g, KBn K fd ps n ks g fun vs zs => pmV (vs ++ zs) pm
  mkd : ∀ f c, T.mkB f c = true → ∃ C a fd ps, mg c = some (.ref C) ∧ G.cls c = some C ∧ Cls K C ∧ Mk K C a ∧ FnOk P wo K mg base (L2.CX P wo) (4 * k) a fd ps (spOf G (call f)) ∧
    (∀ n dv, T.dvB f n dv = true → dv.all flatD = true ∧ ∃ ds, Vals (dv.map vOf) ds ∧ Binds K fd ps ds) ∧
    ∀ n ks pm, T.kwB f n ks pm = true → pmFlat pm = true ∧ ∃ g, KBn K fd ps n ks g fun vs zs => pmV (vs ++ zs) pm
  fld : ∀ c f C, T.fldB c f = true → G.cls c = some C → NoAttr K C f
  dct : mg "dict" = none
/-- where a lambda's body runs -/
structure LamAt (P : Program) (wo : World) (K : PySem.W.Frag) (mg : Str → Option Value) (base : Heap) (N : List Str) (sc : Scope) (k : Nat) (X : Cx) : Prop where
  calm : X.calm = true
  hN : X.N = N
  hsc : X.env.scope = sc
  rm : Room (4 * k + 1) X.A
  hP : X.prog = P
  hw : X.w = wo
  hK : X.K = K
  hmg : X.mg = mg
  hb : X.base = base
structure Good (T : Tb) (G : Gx) (call : Call) (N : List Str) (sc : Scope) (fn : Str → Bool) (W : WX) (k : Nat) (X : Cx) : Prop where
  calm : X.calm = true
  hN : X.N = N
  nd : N.Nodup
  hsc : X.env.scope = sc
  hfn : ∀ x, fn x = true → Loc sc x ∧ (X.fn x = true ∨ sc.names.lookup x = some .local)
  rm : Room (4 * k + 1) X.A
  tk : Takes X W
  lw : Lw T G call X.prog X.w X.K X.mg X.base k
  lamS : ∀ key sc' body, T.lam N key sc' body = true → ∀ Y : Cx, LamAt X.prog X.w X.K X.mg X.base N sc' k Y → PE Y body (rd G (fun _ _ _ _ => False) (RV G.K) (evE call key))
  lamC : (∃ key sc' body, T.lam N key sc' body = true) → Room (4 * k + 3) X.A ∧ LamC X G.tabs

theorem Good.room {T : Tb} {G : Gx} {call : Call} {N : List Str} {sc : Scope} {fn : Str → Bool} {W : WX} {k : Nat} {X : Cx} (g : Good T G call N sc fn W k X) : Room (4 * k) X.A := g.rm.mono (Nat.le_succ _)
theorem _root_.L2.PE.imp {X : Cx} {e : Expr} {t t' : TE} (h : PE X e t) (k : ∀ σ H Q, t' σ H Q → t σ H Q) : PE X e t' := ⟨fun pins s σ H Q I q => h.run pins s σ H Q I (k _ _ _ q)⟩
theorem _root_.L2.PT.imp {X : Cx} {e : Expr} {t t' : TT} (h : PT X e t) (k : ∀ σ H Q, t' σ H Q → t σ H Q) : PT X e t' := ⟨fun pins s σ H Q I q => h.run pins s σ H Q I (k _ _ _ q)⟩
theorem _root_.L2.PW.imp {X : Cx} {e : Expr} {t t' : TT} (h : PW X e t) (k : ∀ σ H Q, t' σ H Q → t σ H Q) : PW X e t' := ⟨fun wh pins s σ H Q I q => h.run wh pins s σ H Q I (k _ _ _ q)⟩
theorem _root_.L2.PA.imp {X : Cx} {e : List Expr} {t t' : TA} (h : PA X e t) (k : ∀ σ H Q, t' σ H Q → t σ H Q) : PA X e t' := ⟨fun pos pins s σ H Q I q => h.run pos pins s σ H Q I (k _ _ _ q)⟩

theorem starEach_cons {x : Expr} {xs : List Expr} {env : PySem.Env} (h : notStar x = true) : starEach (x :: xs) env = (false, eval x env) :: starEach xs env := by
  cases x <;> first | rfl | (simp [notStar] at h)
theorem starAll {env : PySem.Env} {pos : Pos} : ∀ {xs : List Expr}, xs.all notStar = true → (backTo pos (starEach xs env)).any (·.1) = false
  | [], _ => rfl
  | x :: xs, h => by
    simp only [List.all_cons, Bool.and_eq_true] at h
    rw [starEach_cons h.1]
    show (false || (backTo pos (starEach xs env)).any (·.1)) = false
    rw [starAll h.2]; rfl
theorem chEs_star {T : Tb} {N : List Str} {sc : Scope} {fn : Str → Bool} : ∀ {es : List Ex} {xs : List Expr}, chEs T N es sc fn xs = true → xs.all notStar = true
  | [], xs, h => by
    simp only [chEs] at h
    split at h
    · rfl
    · cases h
  | e :: es, xs, h => by
    simp only [chEs] at h
    split at h
    · simp only [Bool.and_eq_true] at h
      simp only [List.all_cons, Bool.and_eq_true]
      exact ⟨h.1.1, chEs_star h.2⟩
    · cases h
theorem plainIx_of {y : Expr} (h : notSlice y = true) : PlainIx y := by
  intro o i
  cases y <;> first | rfl | (simp [notSlice] at h)
theorem setIter_of {y : Expr} {env : PySem.Env} (h : notSet y = true) : ∀ x, foldedSetIterable y env x = pure x := by
  intro x
  cases y <;> first | rfl | (simp [notSet] at h)
theorem vis_of {sc : Scope} {x : Str} (h : visB sc x = true) : Vis sc x ∧ (x == ("__debug__" : Str)) = false ∧ (x == ("__classdict__" : Str)) = false := by
  unfold visB at h
  simp only [Bool.and_eq_true, Bool.not_eq_true'] at h
  obtain ⟨⟨h1, h2⟩, h3⟩ := h
  refine ⟨?_, h2, h3⟩
  split at h1
  · exact .inl (by assumption)
  · exact .inr (.inl (by assumption))
  · exact .inr (.inr (by assumption))
  · cases h1
theorem gl_of {sc : Scope} {x : Str} (h : glB sc x = true) : sc.names.lookup x = some .globalImplicit ∧ (x == ("__debug__" : Str)) = false := by
  unfold glB at h
  simp only [Bool.and_eq_true, Bool.not_eq_true'] at h
  obtain ⟨h1, h2⟩ := h
  refine ⟨?_, h2⟩
  split at h1
  · assumption
  · cases h1
theorem opB_eq {o : BOp} {p : Operator} (h : opB o p = true) : p = bopN o := by
  cases o <;> cases p <;> first | rfl | (simp [opB] at h)
theorem cpB_eq {o : COp} {p : CmpOp} (h : cpB o p = true) : p = copN o := by
  cases o <;> cases p <;> first | rfl | (simp [cpB] at h)

/-! ### expressions -/
section
variable {T : Tb} {G : Gx} {call : Call} {N : List Str} {sc : Scope} {fn : Str → Bool} {W : WX} {k : Nat} {X : Cx} {pos p1 p2 : Pos}
abbrev JE (G : Gx) (W : WX) (X : Cx) (x : Expr) (ev : Env → Sto → R D) : Prop := PE X x (rd G W (RV G.K) ev)
abbrev JO (G : Gx) (W : WX) (X : Cx) (x : Expr) (ev : Env → Sto → R D) : Prop := PE X x (rd G W (RO G.K) ev)
abbrev JT (G : Gx) (W : WX) (X : Cx) (x : Expr) (ev : Env → Sto → R Bool) : Prop := PT X x (rd G W eqR ev)

theorem Good.gl (g : Good T G call N sc fn W k X) {x : Str} (h : glB sc x = true) : Gl X x := by
  show X.env.scope.names.lookup x = _
  rw [g.hsc]; exact (gl_of h).1
theorem s_cst {d : D} {c : Const} {j : Nat} (h : litB d c = true) : JE G W X (.Constant c j pos) (evE call (.cst d)) := by
  have fin : ∀ {v : V} {σ : St} {H : Hp} {Q : VK}, rd G W (RV G.K) (evE call (.cst d)) σ H Q → (∀ w : Wd, RV G.K w H v d) → Q v H := by
    rintro v σ H Q ⟨w, H0, ε, S, hS, hE, q⟩ hv
    simp only [evE] at q
    exact q w H v Ext.refl hS (hv w)
  cases d <;> cases c <;> simp [litB] at h
  · exact pe_non.imp fun σ H Q q => fin q fun w => RV_non
  · subst h; exact pe_bl.imp fun σ H Q q => fin q fun w => RV_bl
  · subst h; exact pe_int.imp fun σ H Q q => fin q fun w => RV_int
  · subst h; exact pe_str.imp fun σ H Q q => fin q fun w => RV_str
theorem s_var (g : Good T G call N sc fn W k X) {i : Nat} {x : Str} (h1 : N[i]? = some x) (h2 : visB sc x = true) : JE G W X (.Name x pos) (evE call (.var i)) := by
  obtain ⟨hv, hd, hc⟩ := vis_of h2
  refine (pe_var (by rw [g.hN]; exact h1) (by rw [g.hsc]; exact hv) hd hc).imp fun σ H Q q => ?_
  obtain ⟨w, H0, ε, S, hS, hE, q⟩ := q
  simp only [evE, getV] at q
  cases e : ε[i]? with
  | none => rw [e] at q; exact q.elim
  | some s =>
    rw [e] at q
    cases s with
    | un => exact q.elim
    | own d => exact q.elim
    | val d =>
      obtain ⟨v, e1, r⟩ := hE.sl i _ e
      exact ⟨v, e1, q w H v Ext.refl hS r⟩
/-- a value looked at -/
theorem s_opd (g : Good T G call N sc fn W k X) {a : Ex} {x : Expr} (h : JE G W X x (evE call a)) (hc : chE T N a sc fn x = true) : JO G W X x (fun ε S => opd ε a S (evE call a ε S)) := by
  by_cases hv : ∃ i, a = .var i
  · obtain ⟨i, rfl⟩ := hv
    simp only [chE] at hc
    split at hc
    · rename_i y pos
      simp only [Bool.and_eq_true, decide_eq_true_eq] at hc
      obtain ⟨h1, h2⟩ := hc
      obtain ⟨hv, hd, hcd⟩ := vis_of h2
      refine (pe_var (by rw [g.hN]; exact h1) (by rw [g.hsc]; exact hv) hd hcd).imp fun σ H Q q => ?_
      obtain ⟨w, H0, ε, S, hS, hE, q⟩ := q
      simp only [opd, evE, getV] at q
      cases e : ε[i]? with
      | none => rw [e] at q; exact q.elim
      | some s =>
        rw [e] at q
        cases s with
        | un => exact q.elim
        | own d =>
          obtain ⟨a, e1, e2, e3, _⟩ := hE.sl i _ e
          exact ⟨.ref a, e1, q w H _ Ext.refl hS (.inr ⟨a, rfl, e3, e2⟩)⟩
        | val d =>
          obtain ⟨v, e1, r⟩ := hE.sl i _ e
          exact ⟨v, e1, q w H v Ext.refl hS (.inl r)⟩
    · cases hc
  · refine h.imp fun σ H Q q => ?_
    obtain ⟨w, H0, ε, S, hS, hE, q⟩ := q
    refine ⟨w, H0, ε, S, hS, hE, ?_⟩
    have e : opd ε a S (evE call a ε S) = evE call a ε S := by
      unfold opd
      cases a <;> first | rfl | exact absurd ⟨_, rfl⟩ hv
    simp only [e] at q
    exact q.imp (fun d S' q w' H' v e hS' r => q w' H' v e hS' (.inl r)) fun _ _ q => q
theorem s_glb (g : Good T G call N sc fn W k X) {x : Str} {d : D} (h1 : glB sc x = true) (h2 : T.conB x d = true) : JE G W X (.Name x pos) (evE call (.glb x d)) := by
  obtain ⟨hf, u, hm, r⟩ := g.lw.con x d h2
  refine (pe_glob (g.gl h1) hm r (gl_of h1).2).imp fun σ H Q q => ?_
  obtain ⟨w, H0, ε, S, hS, hE, q⟩ := q
  simp only [evE] at q
  refine q w H _ Ext.refl hS ?_
  cases d <;> simp [flatD] at hf <;> simp [vOf, RV]
theorem s_bin (g : Good T G call N sc fn W k X) {o : BOp} {a b : Ex} {x y : Expr} (ha : JO G W X x (fun ε S => opd ε a S (evE call a ε S))) (hb : JO G W X y (fun ε S => opd ε b S (evE call b ε S))) :
    JE G W X (.BinOp x (bopN o) y pos) (evE call (.bin o a b)) := by
  refine (pe_op (bin_ok g.lw.hK o) ha hb).imp fun σ H Q q => ?_
  obtain ⟨w, H0, ε, S, hS, hE, q⟩ := q
  simp only [evE] at q
  refine rd_step (ev := fun ε S => opd ε a S (evE call a ε S)) monF hS hE q fun d1 S1 w1 H1 v e1 hS1 hE1 r1 q1 => ?_
  refine rd_step (ev := fun ε S => opd ε b S (evE call b ε S)) monF hS1 hE1 q1 fun d2 S2 w2 H2 u e2 hS2 hE2 r2 q2 => ?_
  obtain ⟨d, hd, q3⟩ := q2.of
  exact ⟨w2, S2, _, _, d, hS2, RO.ext e2 r1, r2, hd, q3⟩
theorem s_neg (g : Good T G call N sc fn W k X) {a : Ex} {x : Expr} (ha : JE G W X x (evE call a)) : JE G W X (.UnaryOp .USub x pos) (evE call (.neg a)) := by
  refine (pe_un (neg_ok (G := G)) ha).imp fun σ H Q q => ?_
  obtain ⟨w, H0, ε, S, hS, hE, q⟩ := q
  simp only [evE] at q
  refine rd_step (ev := evE call a) monF hS hE q fun d1 S1 w1 H1 v e1 hS1 hE1 r1 q1 => ?_
  cases d1 <;> try exact q1.elim
  exact ⟨w1, S1, _, hS1, .inl r1, q1⟩
theorem s_cmp (g : Good T G call N sc fn W k X) {o : COp} {a b : Ex} {x y : Expr} (ha : JO G W X x (fun ε S => opd ε a S (evE call a ε S))) (hb : JO G W X y (fun ε S => opd ε b S (evE call b ε S))) (hm : behindInMarks (copN o) y = false) :
    JE G W X (.Compare x [copN o] [y] pos) (evE call (.cmp o a b)) := by
  refine (pe_cmpR (cmp_ok g.lw.hK g.room.units o) ha hb hm).imp fun σ H Q q => ?_
  obtain ⟨w, H0, ε, S, hS, hE, q⟩ := q
  simp only [evE] at q
  refine rd_step (ev := fun ε S => opd ε a S (evE call a ε S)) monF hS hE q fun d1 S1 w1 H1 v e1 hS1 hE1 r1 q1 => ?_
  refine rd_step (ev := fun ε S => opd ε b S (evE call b ε S)) monF hS1 hE1 q1 fun d2 S2 w2 H2 u e2 hS2 hE2 r2 q2 => ?_
  obtain ⟨d, hd, q3⟩ := q2.of
  exact ⟨w2, S2, _, _, d, hS2, RO.ext e2 r1, r2, hd, q3⟩
theorem map_bl {o : Option Bool} {d : D} (h : o.map D.bl = some d) : ∃ k, o = some k ∧ d = .bl k := by
  cases o with
  | none => cases h
  | some k => cases h; exact ⟨k, rfl, rfl⟩
theorem t_cmp (g : Good T G call N sc fn W k X) {o : COp} {a b : Ex} {x y : Expr} (ha : JO G W X x (fun ε S => opd ε a S (evE call a ε S))) (hb : JO G W X y (fun ε S => opd ε b S (evE call b ε S))) (hm : behindInMarks (copN o) y = false) :
    JT G W X (.Compare x [copN o] [y] pos) (evT call (.cmp o a b)) := by
  refine (pt_cmpR (cmp_ok g.lw.hK g.room.units o) ha hb hm).imp fun σ H Q q => ?_
  obtain ⟨w, H0, ε, S, hS, hE, q⟩ := q
  simp only [evT] at q
  refine rd_step (ev := fun ε S => opd ε a S (evE call a ε S)) monF hS hE q fun d1 S1 w1 H1 v e1 hS1 hE1 r1 q1 => ?_
  refine rd_step (ev := fun ε S => opd ε b S (evE call b ε S)) monF hS1 hE1 q1 fun d2 S2 w2 H2 u e2 hS2 hE2 r2 q2 => ?_
  obtain ⟨d, hd, q3⟩ := q2.of
  refine ⟨w2, S2, _, _, .bl d, hS2, RO.ext e2 r1, r2, by simp [hd], fun w' H' v e hS' r => ?_⟩
  simp only [RV] at r
  exact ⟨d, r, q3 w' H' d e hS' rfl⟩
theorem s_chn (g : Good T G call N sc fn W k X) {o o' : COp} {a b c : Ex} {x y z : Expr} (ha : JO G W X x (fun ε S => opd ε a S (evE call a ε S))) (hb : JO G W X y (fun ε S => opd ε b S (evE call b ε S)))
    (hc : JO G W X z (fun ε S => opd ε c S (evE call c ε S))) (hm : lastMarks [copN o, copN o'] [y, z] = false) : JE G W X (.Compare x [copN o, copN o'] [y, z] pos) (evE call (.chn o o' a b c)) := by
  refine (pe_chain (cmp_ok g.lw.hK g.room.units o) (cmp_ok g.lw.hK g.room.units o') ha hb hc hm).imp fun σ H Q q => ?_
  obtain ⟨w, H0, ε, S, hS, hE, q⟩ := q
  simp only [evE] at q
  refine rd_step (ev := fun ε S => opd ε a S (evE call a ε S)) monF hS hE q fun d1 S1 w1 H1 v e1 hS1 hE1 r1 q1 => ?_
  refine rd_step (ev := fun ε S => opd ε b S (evE call b ε S)) monF hS1 hE1 q1 fun d2 S2 w2 H2 u e2 hS2 hE2 r2 q2 => ?_
  obtain ⟨kk, hk, q3⟩ := q2.bd.of
  refine ⟨w2, S2, _, _, .bl kk, hS2, RO.ext e2 r1, r2, by simp [hk], fun w3 H3 v' e3 hS3 r3 => ?_⟩
  simp only [RV] at r3
  have hE3 := hE2.ext e3
  refine ⟨kk, r3, ?_⟩
  cases kk with
  | true =>
    simp only [if_true] at q3 ⊢
    have q4 := q3.imp (P' := finP G (RV G.K) Q w3 H3) (PX' := PX G W σ w3 H3) (fun _ _ => monF.m e3) (fun _ _ => PXe.ext e3)
    refine rd_step (ev := fun ε S => opd ε c S (evE call c ε S)) monF hS3 hE3 q4 fun d4 S4 w4 H4 t e4 hS4 hE4 r4 q5 => ?_
    obtain ⟨d, hd, q6⟩ := q5.of
    exact ⟨w4, S4, _, _, d, hS4, RO.ext e4 (RO.ext e3 r2), r4, hd, q6⟩
  | false =>
    simp only [Bool.false_eq_true, if_false] at q3 ⊢
    exact q3 w3 H3 _ e3 hS3 RV_bl
theorem t_chn (g : Good T G call N sc fn W k X) {o o' : COp} {a b c : Ex} {x y z : Expr} (ha : JO G W X x (fun ε S => opd ε a S (evE call a ε S))) (hb : JO G W X y (fun ε S => opd ε b S (evE call b ε S)))
    (hc : JO G W X z (fun ε S => opd ε c S (evE call c ε S))) (hm : lastMarks [copN o, copN o'] [y, z] = false) : JT G W X (.Compare x [copN o, copN o'] [y, z] pos) (evT call (.chn o o' a b c)) := by
  refine (pt_chain (cmp_ok g.lw.hK g.room.units o) (cmp_ok g.lw.hK g.room.units o') ha hb hc hm).imp fun σ H Q q => ?_
  obtain ⟨w, H0, ε, S, hS, hE, q⟩ := q
  simp only [evT] at q
  refine rd_step (ev := fun ε S => opd ε a S (evE call a ε S)) monF hS hE q fun d1 S1 w1 H1 v e1 hS1 hE1 r1 q1 => ?_
  refine rd_step (ev := fun ε S => opd ε b S (evE call b ε S)) monF hS1 hE1 q1 fun d2 S2 w2 H2 u e2 hS2 hE2 r2 q2 => ?_
  obtain ⟨kk, hk, q3⟩ := q2.bd.of
  refine ⟨w2, S2, _, _, .bl kk, hS2, RO.ext e2 r1, r2, by simp [hk], fun w3 H3 v' e3 hS3 r3 => ?_⟩
  simp only [RV] at r3
  have hE3 := hE2.ext e3
  refine ⟨kk, r3, ?_⟩
  cases kk with
  | true =>
    simp only [if_true] at q3 ⊢
    have q4 := q3.imp (P' := finP G eqR Q w3 H3) (PX' := PX G W σ w3 H3) (fun _ _ => monF.m e3) (fun _ _ => PXe.ext e3)
    refine rd_step (ev := fun ε S => opd ε c S (evE call c ε S)) monF hS3 hE3 q4 fun d4 S4 w4 H4 t e4 hS4 hE4 r4 q5 => ?_
    obtain ⟨d, hd, q6⟩ := q5.of
    refine ⟨w4, S4, _, _, .bl d, hS4, RO.ext e4 (RO.ext e3 r2), r4, by simp [hd], fun w' H' v e hS' r => ?_⟩
    simp only [RV] at r
    exact ⟨d, r, q6 w' H' d e hS' rfl⟩
  | false =>
    simp only [Bool.false_eq_true, if_false] at q3 ⊢
    exact ⟨false, rfl, q3 w3 H3 _ e3 hS3 rfl⟩
theorem s_and {a b : Ex} {x y : Expr} {r : List Expr} (ha : JE G W X x (evE call a)) (hb : JE G W X (.BoolOp .And (y :: r) pos) (evE call b)) : JE G W X (.BoolOp .And (x :: y :: r) pos) (evE call (.and a b)) := by
  refine (pe_and ha hb).imp fun σ H Q q => ?_
  obtain ⟨w, H0, ε, S, hS, hE, q⟩ := q
  simp only [evE] at q
  refine rd_step (ev := evE call a) monF hS hE q fun d1 S1 w1 H1 v e1 hS1 hE1 r1 q1 => ?_
  cases d1 <;> try exact q1.elim
  rename_i c
  simp only [RV] at r1
  refine ⟨c, r1, ?_⟩
  cases c with
  | true =>
    simp only [if_true]
    exact ⟨w1, H0, ε, S1, hS1, hE1, q1⟩
  | false =>
    simp only [Bool.false_eq_true, if_false]
    exact q1 w1 H1 _ Ext.refl hS1 RV_bl
theorem s_or {a b : Ex} {x y : Expr} {r : List Expr} (ha : JE G W X x (evE call a)) (hb : JE G W X (.BoolOp .Or (y :: r) pos) (evE call b)) : JE G W X (.BoolOp .Or (x :: y :: r) pos) (evE call (.or a b)) := by
  refine (pe_or ha hb).imp fun σ H Q q => ?_
  obtain ⟨w, H0, ε, S, hS, hE, q⟩ := q
  simp only [evE] at q
  refine rd_step (ev := evE call a) monF hS hE q fun d1 S1 w1 H1 v e1 hS1 hE1 r1 q1 => ?_
  cases d1 <;> try exact q1.elim
  rename_i c
  simp only [RV] at r1
  refine ⟨c, r1, ?_⟩
  cases c with
  | false =>
    simp only [Bool.false_eq_true, if_false]
    exact ⟨w1, H0, ε, S1, hS1, hE1, q1⟩
  | true =>
    simp only [if_true]
    exact q1 w1 H1 _ Ext.refl hS1 RV_bl
theorem t_and {a b : Ex} {x y : Expr} {r : List Expr} (ha : JT G W X x (evT call a)) (hb : PW X (.BoolOp .And (y :: r) pos) (rd G W eqR (evT call b))) : PW X (.BoolOp .And (x :: y :: r) pos) (rd G W eqR (evT call (.and a b))) := by
  refine (pw_and ha hb).imp fun σ H Q q => ?_
  obtain ⟨w, H0, ε, S, hS, hE, q⟩ := q
  simp only [evT] at q
  refine rd_step (ev := evT call a) monF hS hE q fun c S1 w1 H1 v e1 hS1 hE1 r1 q1 => ?_
  obtain rfl : v = c := r1
  cases v with
  | true =>
    simp only [if_true] at q1 ⊢
    exact ⟨w1, H0, ε, S1, hS1, hE1, q1⟩
  | false =>
    simp only [Bool.false_eq_true, if_false] at q1 ⊢
    exact q1 w1 H1 _ Ext.refl hS1 rfl
theorem t_or {a b : Ex} {x y : Expr} {r : List Expr} (ha : JT G W X x (evT call a)) (hb : PW X (.BoolOp .Or (y :: r) pos) (rd G W eqR (evT call b))) : PW X (.BoolOp .Or (x :: y :: r) pos) (rd G W eqR (evT call (.or a b))) := by
  refine (pw_or ha hb).imp fun σ H Q q => ?_
  obtain ⟨w, H0, ε, S, hS, hE, q⟩ := q
  simp only [evT] at q
  refine rd_step (ev := evT call a) monF hS hE q fun c S1 w1 H1 v e1 hS1 hE1 r1 q1 => ?_
  obtain rfl : v = c := r1
  cases v with
  | true =>
    simp only [if_true] at q1 ⊢
    exact q1 w1 H1 _ Ext.refl hS1 rfl
  | false =>
    simp only [Bool.false_eq_true, if_false] at q1 ⊢
    exact ⟨w1, H0, ε, S1, hS1, hE1, q1⟩
theorem t_not {a : Ex} {x : Expr} (ha : JT G W X x (evT call a)) : JT G W X (.UnaryOp .Not x pos) (evT call (.not a)) := by
  refine (pt_not ha).imp fun σ H Q q => ?_
  obtain ⟨w, H0, ε, S, hS, hE, q⟩ := q
  simp only [evT] at q
  refine rd_step (ev := evT call a) monF hS hE q fun c S1 w1 H1 v e1 hS1 hE1 r1 q1 => ?_
  obtain rfl : v = c := r1
  exact q1 w1 H1 _ Ext.refl hS1 rfl
/-- not x, by x's truth -/
theorem s_not (g : Good T G call N sc fn W k X) {a : Ex} {x : Expr} (ha : JO G W X x (fun ε S => opd ε a S (evE call a ε S))) : JE G W X (.UnaryOp .Not x pos) (evE call (.not a)) := by
  refine ⟨fun pins s σ H Q I q => ?_⟩
  obtain ⟨w, H0, ε, S, hS, hE, q⟩ := q
  simp only [evE] at q
  refine UnaryOp_ (thn (ha.run pins s σ H (fun v H' => ∃ kk, TruV X.K v H' kk ∧ Q (.bl (!kk)) H') I ?_) fun v s1 ⟨y, H1, I1, r1, kk, t1, q1⟩ => ?_)
  · refine rd_step (ev := fun ε S => opd ε a S (evE call a ε S)) monF hS hE q fun d1 S1 w1 H1 v e1 hS1 hE1 r1 q1 => ?_
    obtain ⟨d, hd, q2⟩ := q1.of
    cases hk : truF d1 with
    | none => rw [hk] at hd; cases hd
    | some kk =>
      rw [hk] at hd
      cases hd
      exact ⟨kk, tru_of g.lw.hK r1 hk, q2 w1 H1 _ Ext.refl hS1 RV_bl⟩
  · refine not_of (thn (tru_ok pins s1 σ H1 y v (fun kk H' => Q (.bl (!kk)) H') I1 r1 ⟨kk, t1, q1⟩) fun b s2 ⟨H2, I2, q2⟩ => ?_)
    exact ⟨.bl (!b), H2, I2, rfl, q2⟩
theorem s_ite {c a b : Ex} {z x y : Expr} (hc : JT G W X z (evT call c)) (ha : JE G W X x (evE call a)) (hb : JE G W X y (evE call b)) : JE G W X (.IfExp z x y pos) (evE call (.ite c a b)) := by
  refine (pe_ifExp hc ha hb).imp fun σ H Q q => ?_
  obtain ⟨w, H0, ε, S, hS, hE, q⟩ := q
  simp only [evE] at q
  refine rd_step (ev := evT call c) monF hS hE q fun c' S1 w1 H1 v e1 hS1 hE1 r1 q1 => ?_
  obtain rfl : v = c' := r1
  cases v with
  | true =>
    simp only [if_true] at q1 ⊢
    exact ⟨w1, H0, ε, S1, hS1, hE1, q1⟩
  | false =>
    simp only [Bool.false_eq_true, if_false] at q1 ⊢
    exact ⟨w1, H0, ε, S1, hS1, hE1, q1⟩
/-- a test by the value's truth -/
theorem t_val (g : Good T G call N sc fn W k X) {ev : Env → Sto → R D} {x : Expr} (ha : PE X x (rd G W (RO G.K) ev)) (he : ∀ whole, isTrue x X.env whole = (do let v ← whole; standAt x.pos; holding [v] (truthy v))) :
    JT G W X x (fun ε S => (ev ε S).bd fun d S1 => R.of S1 (truF d)) := by
  refine (pt_truth ha he).imp fun σ H Q q => ?_
  obtain ⟨w, H0, ε, S, hS, hE, q⟩ := q
  refine rd_step (ev := ev) monF hS hE q fun d1 S1 w1 H1 v e1 hS1 hE1 r1 q1 => ?_
  obtain ⟨d, hd, q2⟩ := q1.of
  exact ⟨d, tru_of g.lw.hK r1 hd, q2 w1 H1 _ Ext.refl hS1 rfl⟩
theorem je_toO {ev : Env → Sto → R D} {x : Expr} (h : JE G W X x ev) : JO G W X x ev := h.imp fun σ H Q ⟨w, H0, ε, S, hS, hE, q⟩ => ⟨w, H0, ε, S, hS, hE, q.imp (fun d S' q w' H' v e hS' r => q w' H' v e hS' (.inl r)) fun _ _ q => q⟩
/-! argument lists -/
abbrev JA (G : Gx) (W : WX) (X : Cx) (xs : List Expr) (ev : Env → Sto → R (List D)) : Prop := PA X xs (rd G W (RVs G.K) ev)
abbrev JAo (G : Gx) (W : WX) (X : Cx) (xs : List Expr) (ev : Env → Sto → R (List D)) : Prop := PA X xs (rd G W (ROs G.K) ev)
theorem a_nil : JA G W X [] (evEs call []) := by
  refine pa_nil.imp fun σ H Q q => ?_
  obtain ⟨w, H0, ε, S, hS, hE, q⟩ := q
  simp only [evEs] at q
  exact q w H [] Ext.refl hS (by simp [RVs])
theorem a_cons {e : Ex} {es : List Ex} {x : Expr} {xs : List Expr} (h1 : JE G W X x (evE call e)) (h2 : JA G W X xs (evEs call es)) (hn : notStar x = true) : JA G W X (x :: xs) (evEs call (e :: es)) := by
  refine (pa_cons h1 h2 (starEach_cons hn)).imp fun σ H Q q => ?_
  obtain ⟨w, H0, ε, S, hS, hE, q⟩ := q
  simp only [evEs] at q
  refine rd_step (ev := evE call e) monF hS hE q fun d1 S1 w1 H1 v e1 hS1 hE1 r1 q1 => ?_
  refine rd_step (ev := evEs call es) monF hS1 hE1 q1 fun d2 S2 w2 H2 u e2 hS2 hE2 r2 q2 => ?_
  refine q2 w2 H2 _ Ext.refl hS2 ?_
  simp only [RVs]
  exact ⟨v, u, rfl, RV.ext e2 _ _ r1, r2⟩
theorem o_nil : JAo G W X [] (evOs call []) := by
  refine pa_nil.imp fun σ H Q q => ?_
  obtain ⟨w, H0, ε, S, hS, hE, q⟩ := q
  simp only [evOs] at q
  exact q w H [] Ext.refl hS rfl
theorem o_cons {e : Ex} {es : List Ex} {x : Expr} {xs : List Expr} (h1 : JO G W X x (fun ε S => opd ε e S (evE call e ε S))) (h2 : JAo G W X xs (evOs call es)) (hn : notStar x = true) : JAo G W X (x :: xs) (evOs call (e :: es)) := by
  refine (pa_cons h1 h2 (starEach_cons hn)).imp fun σ H Q q => ?_
  obtain ⟨w, H0, ε, S, hS, hE, q⟩ := q
  simp only [evOs] at q
  refine rd_step (ev := fun ε S => opd ε e S (evE call e ε S)) monF hS hE q fun d1 S1 w1 H1 v e1 hS1 hE1 r1 q1 => ?_
  refine rd_step (ev := evOs call es) monF hS1 hE1 q1 fun d2 S2 w2 H2 u e2 hS2 hE2 r2 q2 => ?_
  exact q2 w2 H2 _ Ext.refl hS2 ⟨v, u, rfl, RO.ext e2 r1, r2⟩
theorem s_tup {es : List Ex} {xs : List Expr} {j : Nat} (h : JA G W X xs (evEs call es)) : JE G W X (.Tuple xs j pos) (evE call (.tup es)) := by
  refine (pe_tup h).imp fun σ H Q q => ?_
  obtain ⟨w, H0, ε, S, hS, hE, q⟩ := q
  simp only [evE] at q
  refine rd_step (ev := evEs call es) monF hS hE q fun ds S1 w1 H1 vs e1 hS1 hE1 r1 q1 => ?_
  split at q1
  · rename_i hz
    exact ⟨by rw [r1.length]; exact hz, fun p hp => An.tup q1 hS1 hp r1⟩
  · exact q1.elim
theorem s_lst {es : List Ex} {xs : List Expr} (h : JA G W X xs (evEs call es)) : JE G W X (.List xs pos) (evE call (.lst es)) := by
  refine (pe_lst h).imp fun σ H Q q => ?_
  obtain ⟨w, H0, ε, S, hS, hE, q⟩ := q
  simp only [evE] at q
  refine rd_step (ev := evEs call es) monF hS hE q fun ds S1 w1 H1 vs e1 hS1 hE1 r1 q1 => ?_
  split at q1
  · rename_i hz
    exact ⟨by rw [r1.length]; exact hz, fun p hp => An.lst q1 hS1 hp r1⟩
  · exact q1.elim
theorem s_nlst {es : List Ex} {xs : List Expr} (h : JA G W X xs (evEs call es)) : JE G W X (.List xs pos) (evE call (.nlst es)) := by
  refine (pe_lst h).imp fun σ H Q q => ?_
  obtain ⟨w, H0, ε, S, hS, hE, q⟩ := q
  simp only [evE] at q
  refine rd_step (ev := evEs call es) monF hS hE q fun ds S1 w1 H1 vs e1 hS1 hE1 r1 q1 => ?_
  split at q1
  · rename_i hz
    exact ⟨by rw [r1.length]; exact hz, fun p hp => q1 _ _ _ (ext_obj hS1 hp) (rst_obj hS1 hp r1) (rv_obj hS1 hp)⟩
  · exact q1.elim
theorem s_ix (g : Good T G call N sc fn W k X) {a b : Ex} {x y : Expr} (ha : JO G W X x (fun ε S => opd ε a S (evE call a ε S))) (hb : JE G W X y (evE call b)) (hn : notSlice y = true) : JE G W X (.Subscript x y pos) (evE call (.ix a b)) := by
  refine (pe_ix (ix_ok g.lw.hK) ha hb (plainIx_of hn)).imp fun σ H Q q => ?_
  obtain ⟨w, H0, ε, S, hS, hE, q⟩ := q
  simp only [evE] at q
  refine rd_step (ev := fun ε S => opd ε a S (evE call a ε S)) monF hS hE q fun d1 S1 w1 H1 v e1 hS1 hE1 r1 q1 => ?_
  refine rd_step (ev := evE call b) monF hS1 hE1 q1 fun d2 S2 w2 H2 u e2 hS2 hE2 r2 q2 => ?_
  have : ∃ d, ixS S2 d1 d2 = some d ∧ An G w2 S2 H2 d Q := by
    cases d1 <;> try (obtain ⟨d, hd, q3⟩ := q2.of; exact ⟨d, hd, q3⟩)
    rename_i n
    dsimp only at q2
    split at q2
    · rename_i l e
      obtain ⟨d, hd, q3⟩ := q2.of
      exact ⟨d, by simp only [ixS, e]; exact hd, q3⟩
    · exact q2.elim
  obtain ⟨d, hd, q3⟩ := this
  exact ⟨w2, S2, _, _, d, hS2, RO.ext e2 r1, .inl r2, hd, q3⟩
abbrev JP (G : Gx) (W : WX) (X : Cx) (o : Option Expr) (ev : Env → Sto → R (Option Int)) : Prop := PO X o (rd G W eqR ev)
theorem p_none : JP G W X none (evP call none) := by
  refine ⟨fun pins s σ H Q I q => po_none.run pins s σ H Q I ?_⟩
  obtain ⟨w, H0, ε, S, hS, hE, q⟩ := q
  simp only [evP] at q
  exact q w H none Ext.refl hS rfl
theorem p_some {a : Ex} {x : Expr} (ha : JE G W X x (evE call a)) : JP G W X (some x) (evP call (some a)) := by
  refine ⟨fun pins s σ H Q I q => (po_some ha).run pins s σ H Q I ?_⟩
  obtain ⟨w, H0, ε, S, hS, hE, q⟩ := q
  simp only [evP] at q
  refine rd_step (ev := evE call a) monF hS hE q fun d1 S1 w1 H1 v e1 hS1 hE1 r1 q1 => ?_
  cases d1 <;> try exact q1.elim
  simp only [RV] at r1
  exact ⟨_, r1, q1 w1 H1 _ Ext.refl hS1 rfl⟩
theorem s_sl (g : Good T G call N sc fn W k X) {a : Ex} {lo hi : Option Ex} {x : Expr} {l h : Option Expr} (ha : JO G W X x (fun ε S => opd ε a S (evE call a ε S))) (hl : JP G W X l (evP call lo)) (hh : JP G W X h (evP call hi)) :
    JE G W X (.Subscript x (.Slice l h none p2) pos) (evE call (.sl a lo hi)) := by
  refine (pe_slice (sl_ok (G := G) g.lw.hK) ha hl hh).imp fun σ H Q q => ?_
  obtain ⟨w, H0, ε, S, hS, hE, q⟩ := q
  simp only [evE] at q
  refine rd_step (ev := fun ε S => opd ε a S (evE call a ε S)) monF hS hE q fun d1 S1 w1 H1 v e1 hS1 hE1 r1 q1 => ?_
  refine rd_step (ev := evP call lo) monF hS1 hE1 q1 fun d2 S2 w2 H2 u e2 hS2 hE2 r2 q2 => ?_
  refine rd_step (ev := evP call hi) monF hS2 hE2 q2 fun d3 S3 w3 H3 u3 e3 hS3 hE3 r3 q3 => ?_
  obtain rfl : u = d2 := r2
  obtain rfl : u3 = d3 := r3
  obtain ⟨d, hd, q4⟩ := q3.of
  exact ⟨w3, S3, _, d, hS3, RO.ext e3 (RO.ext e2 r1), hd, q4⟩
theorem s_blt (g : Good T G call N sc fn W k X) {b : Blt} {es : List Ex} {y : Expr} {xs : List Expr} (hg : glB sc (bltN b) = true) (h : JAo G W X (y :: xs) (evOs call es)) (hn : (y :: xs).all notStar = true) :
    JE G W X (.Call (.Name (bltN b) p1) (y :: xs) [] pos) (evE call (.blt b es)) := by
  simp only [List.all_cons, Bool.and_eq_true] at hn
  have hnn : bltN b ≠ "__name__" := by cases b <;> decide +kernel
  have key : PE X (.Call (.Name (bltN b) p1) (y :: xs) [] pos) (tCB (rDL G (bltF b)) (rd G W (ROs G.K) (evOs call es))) := by
    have ok := blt_ok g.lw.hK g.calm b
    have bo := blt_boot b
    cases b <;> first
      | exact pe_callB ok (g.gl hg) (g.lw.blt _) bo h hnn (gl_of hg).2 (starEach_cons hn.1) (starAll hn.2)
      | exact pe_callTy ok (g.gl hg) (g.lw.blt _) bo h hnn (gl_of hg).2 (starEach_cons hn.1) (starAll hn.2)
  refine key.imp fun σ H Q q => ?_
  obtain ⟨w, H0, ε, S, hS, hE, q⟩ := q
  simp only [evE] at q
  refine rd_step (ev := evOs call es) monF hS hE q fun ds S1 w1 H1 vs e1 hS1 hE1 r1 q1 => ?_
  obtain ⟨d, hd, q2⟩ := q1.of
  exact ⟨w1, S1, ds, d, hS1, r1, hd, q2⟩
theorem tyV_bltn (g : Good T G call N sc fn W k X) {t : Ty} (hg : glB sc (Str.ofString (tyN t)) = true) : PE X (.Name (Str.ofString (tyN t)) pos) (tC (.ty (tyN t))) :=
  pe_bltn (g.gl hg) (g.lw.tys t) (ty_boot t) rfl (by cases t <;> decide +kernel) (gl_of hg).2
theorem s_isi (g : Good T G call N sc fn W k X) {a : Ex} {t : Ty} {y : Expr} (hg : glB sc "isinstance" = true) (ha : JO G W X y (fun ε S => opd ε a S (evE call a ε S))) (hn : notStar y = true) (ht : glB sc (Str.ofString (tyN t)) = true) :
    JE G W X (.Call (.Name "isinstance" p1) [y, .Name (Str.ofString (tyN t)) p2] [] pos) (evE call (.isi a t)) := by
  have h2 : PA X [y, .Name (Str.ofString (tyN t)) p2] _ := pa_cons ha (pa_cons (tyV_bltn g ht) pa_nil rfl) (starEach_cons hn)
  refine (pe_callB (isi_ok (G := G) g.lw.hK t) (g.gl hg) g.lw.isi PyProof.Rows.boot_isinstance h2 (by decide) (gl_of hg).2 (starEach_cons hn) rfl).imp fun σ H Q q => ?_
  obtain ⟨w, H0, ε, S, hS, hE, q⟩ := q
  simp only [evE] at q
  refine rd_step (ev := fun ε S => opd ε a S (evE call a ε S)) monF hS hE q fun d1 S1 w1 H1 v e1 hS1 hE1 r1 q1 => ?_
  obtain ⟨d, hd, q2⟩ := q1.of
  obtain ⟨kk, hk, rfl⟩ := map_bl hd
  exact ⟨w1, S1, v, d1, kk, rfl, hS1, r1, hk, q2 w1 H1 _ Ext.refl hS1 RV_bl⟩
theorem t_isi (g : Good T G call N sc fn W k X) {a : Ex} {t : Ty} {y : Expr} (hg : glB sc "isinstance" = true) (ha : JO G W X y (fun ε S => opd ε a S (evE call a ε S))) (hn : notStar y = true) (ht : glB sc (Str.ofString (tyN t)) = true) :
    JT G W X (.Call (.Name "isinstance" p1) [y, .Name (Str.ofString (tyN t)) p2] [] pos) (evT call (.isi a t)) := by
  refine (t_val g (je_toO (s_isi (p1 := p1) (p2 := p2) (pos := pos) g hg ha hn ht)) fun _ => rfl).imp fun σ H Q q => ?_
  obtain ⟨w, H0, ε, S, hS, hE, q⟩ := q
  refine ⟨w, H0, ε, S, hS, hE, ?_⟩
  simp only [evT, evE] at q ⊢
  cases e : opd ε a S (evE call a ε S) with
  | ok d S1 =>
    rw [e] at q
    simp only [R.bd_ok] at q ⊢
    cases e2 : kindIs d t with
    | none => rw [e2] at q; exact q.elim
    | some kk => rw [e2] at q; exact q
  | exc x S1 => rw [e] at q; exact q
  | stuck => rw [e] at q; exact q
theorem s_call (g : Good T G call N sc fn W k X) {f : Nat} {es : List Ex} {dv : List D} {xs : List Expr} (hg : glB sc (T.nm f) = true) (hf : T.isF f = true) (hd : T.dvB f xs.length dv = true) (hl : es.length = xs.length) (h : JA G W X xs (evEs call es)) (hn : xs.all notStar = true) :
    JE G W X (.Call (.Name (T.nm f) p1) xs [] pos) (evE call (.call f es dv)) := by
  obtain ⟨a, fd, ps, hm, hk, F, hb⟩ := g.lw.fns f hf
  obtain ⟨hfl, ds, hv, hB⟩ := hb.1 _ dv hd
  have fin : ∀ {σ : St} {H : Hp} {Q : VK}, rd G W (RV G.K) (evE call (.call f es dv)) σ H Q → rd G W (RVs G.K) (evEs call es) σ H (fun vs H1 => spOf G (call f) (vs ++ dv.map vOf) H1 Q (WE W σ)) := by
    rintro σ H Q ⟨w, H0, ε, S, hS, hE, q⟩
    simp only [evE] at q
    refine rd_step (ev := evEs call es) monF hS hE q fun ds1 S1 w1 H1 vs e1 hS1 hE1 r1 q1 => ?_
    refine ⟨w1, S1, ds1 ++ dv, hS1, r1.append ?_, q1⟩
    clear hd q1 r1 q hv hB hb
    induction dv with
    | nil => simp [RVs]
    | cons d dv ih =>
      simp only [List.all_cons, Bool.and_eq_true] at hfl
      simp only [List.map_cons, RVs]
      refine ⟨_, _, rfl, ?_, ih hfl.2⟩
      have := hfl.1
      cases d <;> simp [flatD] at this <;> simp [vOf, RV]
  cases xs with
  | nil => 
    refine (⟨fun pins s σ H Q I h => ?_⟩ : PE X (.Call (.Name (T.nm f) p1) [] [] pos) (fun σ H Q => spOf G (call f) (dv.map vOf) H Q (WE W σ))).imp fun σ H Q q => ?_
    · refine wpAny_Call_Name_kw (ld_glob I (g.gl hg) hm ?_ (gl_of hg).2)
      exact PySem.W.callWith_K0 I.kIn hk (run_fnSD (E := WE W) (us := []) (vs := []) F g.room hB hv (passAt g.tk σ) I .nil h)
    · obtain ⟨w, H0, ε, S, hS, hE, q⟩ := fin q
      cases es with
      | nil =>
        simp only [evEs] at q
        exact q w H [] Ext.refl hS (by simp [RVs])
      | cons e es => simp at hl
  | cons y xs =>
    simp only [List.all_cons, Bool.and_eq_true] at hn
    exact (pe_callSD (E := WE W) F g.room (g.gl hg) hm hk hB hv (fun σ => passAt g.tk σ) h (gl_of hg).2 (starEach_cons hn.1) (starAll hn.2)).imp fun σ H Q q => fin q
/-! keywords -/
abbrev JK (G : Gx) (W : WX) (X : Cx) (kws : List Keyword) (ev : Env → Sto → R (List D)) : Prop := PK X kws (rd G W (RVs G.K) ev)
theorem _root_.L2.PK.imp {X : Cx} {e : List Keyword} {t t' : TA} (h : PK X e t) (k : ∀ σ H Q, t' σ H Q → t σ H Q) : PK X e t' := ⟨fun pos pins s σ H Q I q => h.run pos pins s σ H Q I (k _ _ _ q)⟩
theorem k_nil : JK G W X [] (evEs call []) := by
  refine pk_nil.imp fun σ H Q q => ?_
  obtain ⟨w, H0, ε, S, hS, hE, q⟩ := q
  simp only [evEs] at q
  exact q w H [] Ext.refl hS (by simp [RVs])
theorem k_cons {e : Ex} {es : List Ex} {x : Expr} {kws : List Keyword} {nm : Option Str} {kp : Pos} (h1 : JE G W X x (evE call e)) (h2 : JK G W X kws (evEs call es)) : JK G W X (⟨nm, x, kp⟩ :: kws) (evEs call (e :: es)) := by
  refine (pk_cons h1 h2).imp fun σ H Q q => ?_
  obtain ⟨w, H0, ε, S, hS, hE, q⟩ := q
  simp only [evEs] at q
  refine rd_step (ev := evE call e) monF hS hE q fun d1 S1 w1 H1 v e1 hS1 hE1 r1 q1 => ?_
  refine rd_step (ev := evEs call es) monF hS1 hE1 q1 fun d2 S2 w2 H2 u e2 hS2 hE2 r2 q2 => ?_
  refine q2 w2 H2 _ Ext.refl hS2 ?_
  simp only [RVs]
  exact ⟨v, u, rfl, RV.ext e2 _ _ r1, r2⟩
theorem chKs_all : ∀ {es : List Ex} {kws : List Keyword} {ks : List Str} {env : PySem.Env}, chKs T N es sc fn kws ks = true →
    (backToKw pos (keywordEach kws env)).all (·.1.isSome) = true ∧ (backToKw pos (keywordEach kws env)).filterMap (·.1) = ks ∧ (backToKw pos (keywordEach kws env)).any (·.1.isNone) = false ∧ es.length = ks.length
  | [], kws, ks, env, h => by
    simp only [chKs] at h
    split at h
    · exact ⟨rfl, rfl, rfl, rfl⟩
    · cases h
  | e :: es, kws, ks, env, h => by
    simp only [chKs] at h
    split at h
    · rename_i n x kp kws k2 ks
      simp only [Bool.and_eq_true, beq_iff_eq] at h
      obtain ⟨⟨rfl, h2⟩, h3⟩ := h
      obtain ⟨a1, a2, a3, a4⟩ := chKs_all (env := env) h3
      refine ⟨?_, ?_, ?_, by simp [a4]⟩
      · show (true && (backToKw pos (keywordEach kws env)).all (·.1.isSome)) = true
        rw [a1]; rfl
      · show n :: (backToKw pos (keywordEach kws env)).filterMap (·.1) = _
        rw [a2]
      · show (false || (backToKw pos (keywordEach kws env)).any (·.1.isNone)) = false
        rw [a3]; rfl
    · cases h
theorem s_callK (g : Good T G call N sc fn W k X) {f : Nat} {es kes : List Ex} {ks : List Str} {pm : List (Nat ⊕ D)} {y : Expr} {xs : List Expr} {kws : List Keyword} (hg : glB sc (T.nm f) = true) (hf : T.isF f = true) (hd : T.kwB f (xs.length + 1) ks pm = true)
    (hl : es.length = xs.length + 1) (h : JA G W X (y :: xs) (evEs call es)) (hn : (y :: xs).all notStar = true) (hk : JK G W X kws (evEs call kes)) (hc : chKs T N kes sc fn kws ks = true) :
    JE G W X (.Call (.Name (T.nm f) p1) (y :: xs) kws pos) (evE call (.callK f es ks kes pm)) := by
  obtain ⟨a, fd, ps, hm, hkp, F, _, hb⟩ := g.lw.fns f hf
  obtain ⟨hfl, gg, hB⟩ := hb _ ks pm hd
  obtain ⟨c1, c2, c3, c4⟩ := chKs_all (pos := pos) (env := X.env) hc
  simp only [List.all_cons, Bool.and_eq_true] at hn
  have key : PE X (.Call (.Name (T.nm f) p1) (y :: xs) kws pos) (fun σ H Q => rd G W (RVs G.K) (evEs call es) σ H fun vs H1 => rd G W (RVs G.K) (evEs call kes) σ H1 fun zs H2 => vs.length = xs.length + 1 ∧ zs.length = ks.length ∧ spOf G (call f) (pmV (vs ++ zs) pm) H2 Q (WE W σ)) := by
    refine ⟨fun pins s σ H Q I q => ?_⟩
    refine wpAny_Call_Name_kw (ld_glob I (g.gl hg) hm ?_ (gl_of hg).2)
    refine PySem.W.callWith_KW (h₀ := X.base) I.ok.mod.kin hkp c1 (thn (h.run pos pins s σ H _ I q) fun us s1 ⟨vs, H1, I1, r, q1⟩ => ?_) (by rw [starEach_cons hn.1]; show (false || (backTo pos (starEach xs X.env)).any (·.1) || _) = false; rw [starAll hn.2, c3]; rfl) (starEach_cons hn.1)
    refine thn (hk.run pos pins s1 σ H1 _ I1 q1) fun ws s2 ⟨zs, H2, I2, rz, l1, l2, q2⟩ => ⟨I2.kIn, ?_⟩
    rw [c2]
    have r2 := hB.rel r rz
    refine wpAny_call (codeAny_mono (F.run X.A X.stack s2 H2 ⟨us, ks.zip ws⟩ (gg us ws) _ Q (WE W σ) g.room I2.env0 (hB.to s2 us ws I2.kIn (r.length.symm.trans l1) (rz.length.symm.trans l2)) r2 q2) fun res s3 hq => ?_)
    cases res with
    | error e => exact passAt g.tk σ pins H2 s2 e s3 I2 hq
    | ok fl =>
      cases fl with
      | ret u => exact I2.after hq
      | next => exact False.elim hq
      | brk => exact False.elim hq
      | cont => exact False.elim hq
  refine key.imp fun σ H Q q => ?_
  obtain ⟨w, H0, ε, S, hS, hE, q⟩ := q
  simp only [evE] at q
  have len : ∀ {es : List Ex} {ε : Env} {S S' : Sto} {ds : List D}, evEs call es ε S = .ok ds S' → ds.length = es.length := by
    intro es
    induction es with
    | nil => intro ε S S' ds h; simp only [evEs] at h; cases h; rfl
    | cons e es ih =>
      intro ε S S' ds h
      simp only [evEs] at h
      cases e1 : evE call e ε S with
      | ok d S1 =>
        rw [e1] at h
        simp only [R.bd_ok] at h
        cases e2 : evEs call es ε S1 with
        | ok d2 S2 => rw [e2] at h; simp only [R.bd_ok] at h; cases h; simp [ih e2]
        | exc _ _ => rw [e2] at h; cases h
        | stuck => rw [e2] at h; cases h
      | exc _ _ => rw [e1] at h; cases h
      | stuck => rw [e1] at h; cases h
  cases e1 : evEs call es ε S with
  | stuck => rw [e1] at q; exact q.elim
  | exc x S1 =>
    refine ⟨w, H0, ε, S, hS, hE, ?_⟩
    rw [e1] at q ⊢
    exact q
  | ok ds S1 =>
    refine ⟨w, H0, ε, S, hS, hE, ?_⟩
    rw [e1] at q ⊢
    simp only [R.bd_ok] at q
    intro w1 H1 vs x1 hS1 r1
    have hE1 := hE.ext x1
    cases e2 : evEs call kes ε S1 with
    | stuck => rw [e2] at q; exact q.elim
    | exc x S2 =>
      refine ⟨w1, H0, ε, S1, hS1, hE1, ?_⟩
      rw [e2] at q ⊢
      exact PXe.ext x1 q
    | ok zs S2 =>
      refine ⟨w1, H0, ε, S1, hS1, hE1, ?_⟩
      rw [e2] at q ⊢
      simp only [R.bd_ok] at q
      intro w2 H2 us x2 hS2 r2
      refine ⟨by rw [r1.length, len e1, hl], by rw [r2.length, len e2, c4], w2, S2, pmF (ds ++ zs) pm, hS2, pm_rvs ((RVs.ext x2 _ _ r1).append r2) hfl, ?_⟩
      exact q.imp (fun _ _ => monF.m (x1.trans x2)) fun _ _ => PXe.ext (x1.trans x2)
/-! further functions of values -/
theorem RVs.rev {K : PySem.W.Frag} {w : Wd} {H : Hp} : ∀ {ds : List D} {vs : List V}, RVs K w H vs ds → RVs K w H vs.reverse ds.reverse
  | [], vs, h => by simp only [RVs] at h; subst h; simp [RVs]
  | d :: ds, vs, h => by
    simp only [RVs] at h
    obtain ⟨v, r, rfl, h1, h2⟩ := h
    rw [List.reverse_cons, List.reverse_cons]
    exact h2.rev.append (by simp only [RVs]; exact ⟨v, [], rfl, h1, rfl⟩)
theorem s_lrev (g : Good T G call N sc fn W k X) {a : Ex} {z : Expr} {pos2 : Pos} (h1 : glB sc "list" = true) (h2 : glB sc "reversed" = true) (hn : notStar z = true) (ha : JE G W X z (evE call a)) :
    JE G W X (.Call (.Name "list" p1) [.Call (.Name "reversed" p2) [z] [] pos2] [] pos) (evE call (.op1 .lrev a)) := by
  refine (pe_lstRev g.calm (g.gl h1) (g.lw.blt .list) (g.gl h2) g.lw.rev ha (starEach_cons hn)).imp fun σ H Q q => ?_
  obtain ⟨w, H0, ε, S, hS, hE, q⟩ := q
  simp only [evE] at q
  refine rd_step (ev := evE call a) monF hS hE q fun d1 S1 w1 H1 v e1 hS1 hE1 r1 q1 => ?_
  obtain ⟨d, hd, q2⟩ := q1.of
  cases d1 <;> simp only [op1F] at hd <;> try cases hd
  simp only [RV] at r1
  obtain ⟨a, vs, rfl, r2, r3⟩ := r1
  exact ⟨a, vs, rfl, .inl r2.2, fun p hp => An.lst q2 hS1 hp r3.rev⟩
theorem rvs_rg {K : PySem.W.Frag} {w : Wd} {H : Hp} {i j : Int} : RVs K w H (rgV i j) (rngL0 i j) := by
  unfold rgV rngL0
  generalize List.range (j - i).toNat = l
  induction l with
  | nil => simp [RVs]
  | cons x l ih => simp only [List.map_cons, RVs]; exact ⟨_, _, rfl, RV_int, ih⟩
theorem rvs_ints {K : PySem.W.Frag} {w : Wd} {H : Hp} : ∀ (ns : List Int), RVs K w H (ns.map V.int) (ns.map D.int)
  | [] => by simp [RVs]
  | n :: ns => by simp only [List.map_cons, RVs]; exact ⟨_, _, rfl, RV_int, rvs_ints ns⟩
theorem s_srt (g : Good T G call N sc fn W k X) {a : Ex} {z : Expr} (h1 : glB sc "sorted" = true) (hn : notStar z = true) (ha : JE G W X z (evE call a)) : JE G W X (.Call (.Name "sorted" p1) [z] [] pos) (evE call (.op1 .srt a)) := by
  refine (pe_callB cr_sortedI (g.gl h1) g.lw.srt PyProof.Rows.boot_sorted (pa_cons ha pa_nil (starEach_cons hn)) (by decide) (gl_of h1).2 (starEach_cons hn) rfl).imp fun σ H Q q => ?_
  obtain ⟨w, H0, ε, S, hS, hE, q⟩ := q
  simp only [evE] at q
  refine rd_step (ev := evE call a) monF hS hE q fun d1 S1 w1 H1 v e1 hS1 hE1 r1 q1 => ?_
  obtain ⟨d, hd, q2⟩ := q1.of
  cases d1 <;> simp only [op1F] at hd <;> try cases hd
  rename_i l
  cases hi : intsOf l with
  | none => rw [hi] at hd; cases hd
  | some ns =>
    rw [hi] at hd
    cases hd
    simp only [RV] at r1
    obtain ⟨a, vs, rfl, r2, r3⟩ := r1
    obtain rfl := r3.ints hi
    exact ⟨a, ns, rfl, .inl r2.2, fun ns' p hp hs hpn => by rw [sortI_eq hp hs]; exact An.lst q2 hS1 hpn (rvs_ints _)⟩
theorem s_lrg (g : Good T G call N sc fn W k X) {a : Ex} {z : Expr} {pos2 : Pos} (h1 : glB sc "list" = true) (h2 : glB sc "range" = true) (hn : notStar z = true) (ha : JE G W X z (evE call a)) :
    JE G W X (.Call (.Name "list" p1) [.Call (.Name "range" p2) [z] [] pos2] [] pos) (evE call (.op1 .lrg a)) := by
  refine (pe_listRg g.calm (g.gl h1) (g.lw.blt .list) (prg_1 (g.gl h2) g.lw.rng ha (starEach_cons hn))).imp fun σ H Q q => ?_
  obtain ⟨w, H0, ε, S, hS, hE, q⟩ := q
  simp only [evE] at q
  refine rd_step (ev := evE call a) monF hS hE q fun d1 S1 w1 H1 v e1 hS1 hE1 r1 q1 => ?_
  obtain ⟨d, hd, q2⟩ := q1.of
  cases d1 <;> simp only [op1F] at hd <;> try cases hd
  split at hd
  · rename_i hc
    cases hd
    simp only [RV] at r1
    subst r1
    exact ⟨_, rfl, .of_le (by omega) (by omega) (by omega) (by omega), fun p hp => An.lst q2 hS1 hp rvs_rg⟩
  · cases hd
theorem s_lrg2 (g : Good T G call N sc fn W k X) {a b : Ex} {z v : Expr} {pos2 : Pos} (h1 : glB sc "list" = true) (h2 : glB sc "range" = true) (hn : notStar z = true) (hn2 : notStar v = true) (ha : JE G W X z (evE call a)) (hb : JE G W X v (evE call b)) :
    JE G W X (.Call (.Name "list" p1) [.Call (.Name "range" p2) [z, v] [] pos2] [] pos) (evE call (.op2 .lrg2 a b)) := by
  refine (pe_listRg g.calm (g.gl h1) (g.lw.blt .list) (prg_2 (g.gl h2) g.lw.rng ha hb (starEach_cons hn) (starEach_cons hn2) (by rw [starEach_cons hn2]; rfl))).imp fun σ H Q q => ?_
  obtain ⟨w, H0, ε, S, hS, hE, q⟩ := q
  simp only [evE] at q
  refine rd_step (ev := evE call a) monF hS hE q fun d1 S1 w1 H1 v e1 hS1 hE1 r1 q1 => ?_
  refine rd_step (ev := evE call b) monF hS1 hE1 q1 fun d2 S2 w2 H2 u e2 hS2 hE2 r2 q2 => ?_
  obtain ⟨d, hd, q3⟩ := q2.of
  cases d1 <;> cases d2 <;> simp only [op2F] at hd <;> try cases hd
  split at hd
  · rename_i hc
    cases hd
    simp only [RV] at r1 r2
    subst r1 r2
    exact ⟨_, _, rfl, rfl, .of_le (by omega) (by omega) (by omega) (by omega), fun p hp => An.lst q3 hS2 hp rvs_rg⟩
  · cases hd
theorem t_chn3 (g : Good T G call N sc fn W k X) {o o' o2 : COp} {a b c d : Ex} {x y z v : Expr} (ha : JO G W X x (fun ε S => opd ε a S (evE call a ε S))) (hb : JO G W X y (fun ε S => opd ε b S (evE call b ε S)))
    (hc : JO G W X z (fun ε S => opd ε c S (evE call c ε S))) (hd : JO G W X v (fun ε S => opd ε d S (evE call d ε S))) (hm : lastMarks [copN o, copN o', copN o2] [y, z, v] = false) : JT G W X (.Compare x [copN o, copN o', copN o2] [y, z, v] pos) (evT call (.chn3 o o' o2 a b c d)) := by
  refine (pt_chain3 (cmp_ok g.lw.hK g.room.units o) (cmp_ok g.lw.hK g.room.units o') (cmp_ok g.lw.hK g.room.units o2) ha hb hc hd hm).imp fun σ H Q q => ?_
  obtain ⟨w, H0, ε, S, hS, hE, q⟩ := q
  simp only [evT] at q
  refine rd_step (ev := fun ε S => opd ε a S (evE call a ε S)) monF hS hE q fun d1 S1 w1 H1 v e1 hS1 hE1 r1 q1 => ?_
  refine rd_step (ev := fun ε S => opd ε b S (evE call b ε S)) monF hS1 hE1 q1 fun d2 S2 w2 H2 u e2 hS2 hE2 r2 q2 => ?_
  obtain ⟨kk, hk, q3⟩ := q2.bd.of
  refine ⟨w2, S2, _, _, .bl kk, hS2, RO.ext e2 r1, r2, by simp [hk], fun w3 H3 v' e3 hS3 r3 => ?_⟩
  simp only [RV] at r3
  have hE3 := hE2.ext e3
  refine ⟨kk, r3, ?_⟩
  cases kk with
  | true =>
    simp only [if_true] at q3 ⊢
    have q4 := q3.imp (P' := finP G eqR Q w3 H3) (PX' := PX G W σ w3 H3) (fun _ _ => monF.m e3) (fun _ _ => PXe.ext e3)
    refine rd_step (ev := fun ε S => opd ε c S (evE call c ε S)) monF hS3 hE3 q4 fun d4 S4 w4 H4 t e4 hS4 hE4 r4 q5 => ?_
    obtain ⟨k2, hk2, q6⟩ := q5.bd.of
    refine ⟨w4, S4, _, _, .bl k2, hS4, RO.ext e4 (RO.ext e3 r2), r4, by simp [hk2], fun w5 H5 v5 e5 hS5 r5 => ?_⟩
    simp only [RV] at r5
    have hE5 := hE4.ext e5
    refine ⟨k2, r5, ?_⟩
    cases k2 with
    | true =>
      simp only [if_true] at q6 ⊢
      have q7 := q6.imp (P' := finP G eqR Q w5 H5) (PX' := PX G W σ w5 H5) (fun _ _ => monF.m e5) (fun _ _ => PXe.ext e5)
      refine rd_step (ev := fun ε S => opd ε d S (evE call d ε S)) monF hS5 hE5 q7 fun d6 S6 w6 H6 t6 e6 hS6 hE6 r6 q8 => ?_
      obtain ⟨d, hd, q9⟩ := q8.of
      refine ⟨w6, S6, _, _, .bl d, hS6, RO.ext e6 (RO.ext e5 r4), r6, by simp [hd], fun w' H' v e hS' r => ?_⟩
      simp only [RV] at r
      exact ⟨d, r, q9 w' H' d e hS' rfl⟩
    | false =>
      simp only [Bool.false_eq_true, if_false] at q6 ⊢
      exact q6 w5 H5 _ e5 hS5 rfl
  | false =>
    simp only [Bool.false_eq_true, if_false] at q3 ⊢
    exact q3 w3 H3 _ e3 hS3 rfl
end
end BX
set_option Elab.async false
set_option linter.all false
set_option maxRecDepth 100000
set_option maxHeartbeats 2000000
/-! BX4b: primitives, methods, new instances. -/
namespace BX
open PySem L2
open PyProof.Rows hiding St Binds

section
variable {T : Tb} {G : Gx} {call : Call} {N : List Str} {sc : Scope} {fn : Str → Bool} {W : WX} {k : Nat} {X : Cx} {pos p1 p2 : Pos}
/-- the parts, each looked at -/
inductive JOs (G : Gx) (W : WX) (X : Cx) (call : Call) : List Expr → List Ex → Prop
  | nil : JOs G W X call [] []
  | cons {x : Expr} {e : Ex} {xs : List Expr} {es : List Ex} : JO G W X x (fun ε S => opd ε e S (evE call e ε S)) → JE G W X x (evE call e) → JOs G W X call xs es → JOs G W X call (x :: xs) (e :: es)
theorem os1 {a : Ex} {ε : Env} {S : Sto} {α : Type} {f : List D → Sto → R α} : (evOs call [a] ε S).bd f = (opd ε a S (evE call a ε S)).bd fun d S1 => f [d] S1 := by
  simp only [evOs]
  cases opd ε a S (evE call a ε S) <;> rfl
theorem os2 {a b : Ex} {ε : Env} {S : Sto} {α : Type} {f : List D → Sto → R α} : (evOs call [a, b] ε S).bd f = (opd ε a S (evE call a ε S)).bd fun d S1 => (opd ε b S1 (evE call b ε S1)).bd fun e S2 => f [d, e] S2 := by
  simp only [evOs]
  cases opd ε a S (evE call a ε S) with
  | ok d S1 => simp only [R.bd_ok]; cases opd ε b S1 (evE call b ε S1) <;> rfl
  | exc _ _ => rfl
  | stuck => rfl
theorem os3 {a b c : Ex} {ε : Env} {S : Sto} {α : Type} {f : List D → Sto → R α} : (evOs call [a, b, c] ε S).bd f = (opd ε a S (evE call a ε S)).bd fun d S1 => (opd ε b S1 (evE call b ε S1)).bd fun e S2 => (opd ε c S2 (evE call c ε S2)).bd fun g S3 => f [d, e, g] S3 := by
  simp only [evOs]
  cases opd ε a S (evE call a ε S) with
  | ok d S1 =>
    simp only [R.bd_ok]
    cases opd ε b S1 (evE call b ε S1) with
    | ok e S2 => simp only [R.bd_ok]; cases opd ε c S2 (evE call c ε S2) <;> rfl
    | exc _ _ => rfl
    | stuck => rfl
  | exc _ _ => rfl
  | stuck => rfl
theorem base_of {o : Expr} {m : Str} {env : PySem.Env} (h : notCall0 o = true) : attributeBase o m env (eval o env) = eval o env := by
  cases o <;> try rfl
  rename_i f as ks p
  cases f <;> try rfl
  cases as <;> try rfl
  cases ks <;> try rfl
  simp [notCall0] at h
theorem m1_of {o e : Expr} {m : Str} {ap cp : Pos} (h1 : notCall0 o = true) (h2 : notStar e = true) (h3 : (ap.endLine == cp.line) = true) : M1 X o m ap e cp := by
  refine ⟨base_of h1, ?_, h3, ?_⟩
  · rw [starEach_cons h2]; rfl
  · rw [starEach_cons h2]; rfl
theorem m2_of {o e f : Expr} {m : Str} {ap cp : Pos} (h1 : notCall0 o = true) (h2 : notStar e = true) (h4 : notStar f = true) (h3 : (ap.endLine == cp.line) = true) : M2 X o m ap e f cp := by
  refine ⟨base_of h1, ?_, h3, ?_⟩
  · rw [starEach_cons h2, starEach_cons h4]; rfl
  · rw [starEach_cons h2, starEach_cons h4]; rfl
/-- what is left of the first operand -/
theorem pst_ok {d : D} {S : Sto} {P : D → Sto → Prop} {PX : Exc → Sto → Prop} (h : Pst (.ok d S) P PX) : P d S := h
section
variable {w : Wd} {S : Sto} {H : Hp} {d : D} {Q : VK}
theorem An.of {P : Exc → Sto → Prop} (h : Pst (R.ok d S) (finP G (RV G.K) Q w H) P) : An G w S H d Q := fun w' H' v e hS' r => h w' H' v e hS' r
theorem An.dct {p : Addr} {kvs : List (Key × V)} {ks : List Key} {ds : List D} (q : An G w S H (.dct ks ds) Q) (hS : RSt G w S H) (hp : H p = none) (hk : kvs.map (·.1) = ks) (h : RVs G.K w H (kvs.map (·.2)) ds) {ob : Obj} : Q (.ref p) (upd H p (.frz ob (.dK kvs))) :=
  q _ _ _ (ext_imm hS hp) (rst_imm hS hp) (rv_dct hS hp hk h)
/-- .. as the ice asks it -/
theorem An.dctI {p : Addr} {kvs : List (Key × V)} {ks : List Key} {ds : List D} (q : An G w S H (.dct ks ds) Q) (hS : RSt G w S H) (hp : H p = none) (hk : kvs.map (·.1) = ks) (h : RVs G.K w H (kvs.map (·.2)) ds) :
    ∃ p' u, V.ref p = .ref p' ∧ upd H p (.dK kvs) p' = some u ∧ Mut (some u) ∧ ∀ ob, Q (.ref p) (upd (upd H p (.dK kvs)) p' (.frz ob u)) :=
  ⟨p, _, rfl, upd_same, trivial, fun ob => by rw [upd_upd]; exact q.dct hS hp hk h⟩
/-- a new object of the store -/
theorem new_obj {P : Exc → Sto → Prop} {p : Addr} {o : HO} {ob : Ob} (h : Pst (R.ok (.ref S.length) (S ++ [ob])) (finP G (RV G.K) Q w H) P) (hS : RSt G w S H) (hp : H p = none) (hn : NewO G w H o ob) : Q (.ref p) (upd H p o) :=
  h _ _ _ (ext_obj hS hp) (rst_objO hS hp hn) (rv_obj hS hp)
end
theorem blX_some {n : Str} {e : Expr} {xs : List Expr} (h : blX n sc e = some xs) : ∃ p z pos, e = .Call (.Name n p) [z] [] pos ∧ glB sc n = true ∧ notStar z = true ∧ xs = [z] := by
  unfold blX at h
  split at h
  · split at h
    · rename_i hc
      simp only [Bool.and_eq_true, beq_iff_eq] at hc
      obtain ⟨⟨rfl, h2⟩, h3⟩ := hc
      cases h
      exact ⟨_, _, _, rfl, h2, h3, rfl⟩
    · cases h
  · cases h
theorem atX_some {n : Str} {e : Expr} {xs : List Expr} (h : atX n e = some xs) : ∃ o ap z cp, e = .Call (.Attribute o n ap) [z] [] cp ∧ notStar z = true ∧ (ap.endLine == cp.line) = true ∧ notCall0 o = true ∧ xs = [o, z] := by
  unfold atX at h
  split at h
  · split at h
    · rename_i hc
      simp only [Bool.and_eq_true] at hc
      obtain ⟨⟨⟨h1, h2⟩, h3⟩, h4⟩ := hc
      obtain rfl := beq_iff_eq.mp h1
      cases h
      exact ⟨_, _, _, _, rfl, h2, h3, h4, rfl⟩
    · cases h
  · cases h
theorem atX2_some {n : Str} {e : Expr} {xs : List Expr} (h : atX2 n e = some xs) : ∃ o ap z y cp, e = .Call (.Attribute o n ap) [z, y] [] cp ∧ notStar z = true ∧ notStar y = true ∧ (ap.endLine == cp.line) = true ∧ notCall0 o = true ∧ xs = [o, z, y] := by
  unfold atX2 at h
  split at h
  · split at h
    · rename_i hc
      simp only [Bool.and_eq_true] at hc
      obtain ⟨⟨⟨⟨h1, h2⟩, h3⟩, h4⟩, h5⟩ := hc
      obtain rfl := beq_iff_eq.mp h1
      cases h
      exact ⟨_, _, _, _, _, rfl, h2, h3, h4, h5, rfl⟩
    · cases h
  · cases h
theorem cmX_some {o : CmpOp} {e : Expr} {xs : List Expr} (h : cmX o e = some xs) : ∃ x y pos, e = .Compare x [o] [y] pos ∧ behindInMarks o y = false ∧ xs = [x, y] := by
  unfold cmX at h
  split at h
  · split at h
    · rename_i hc
      simp only [Bool.and_eq_true, decide_eq_true_eq, Bool.not_eq_true'] at hc
      obtain ⟨rfl, h2⟩ := hc
      cases h
      exact ⟨_, _, _, rfl, h2, rfl⟩
    · cases h
  · cases h
/-- one looked-at operand -/
theorem rd_os1 {a : Ex} {p : Pr} {σ : St} {H : Hp} {Q P : VK} (q : rd G W (RV G.K) (evE call (.prim p [a])) σ H Q)
    (k : ∀ w S H d v, RSt G w S H → RO G.K w H v d → Pst (prF p [d] S) (finP G (RV G.K) Q w H) (PX G W σ w H) → P v H) : rd G W (RO G.K) (fun ε S => opd ε a S (evE call a ε S)) σ H P := by
  obtain ⟨w, H0, ε, S, hS, hE, q⟩ := q
  simp only [evE, os1] at q
  exact rd_step (ev := fun ε S => opd ε _ S (evE call _ ε S)) monF hS hE q fun d1 S1 w1 H1 v e1 hS1 hE1 r1 q1 => k w1 S1 H1 d1 v hS1 r1 q1
theorem emX_some {o : CmpOp} {e : Expr} {xs : List Expr} (h : emX o e = some xs) : ∃ x p pos, e = .Compare x [o] [.List [] p] pos ∧ xs = [x] := by
  unfold emX at h
  split at h
  · split at h
    · rename_i hc
      cases h
      rw [decide_eq_true_eq] at hc
      subst hc
      exact ⟨_, _, _, rfl, rfl⟩
    · cases h
  · cases h
theorem rd_os2 {a b : Ex} {p : Pr} {σ : St} {H : Hp} {Q : VK} {P : V → V → Hp → Prop} (q : rd G W (RV G.K) (evE call (.prim p [a, b])) σ H Q)
    (k : ∀ w S H d v d2 v2, RSt G w S H → RO G.K w H v d → RO G.K w H v2 d2 → Pst (prF p [d, d2] S) (finP G (RV G.K) Q w H) (PX G W σ w H) → P v v2 H) :
    rd G W (RO G.K) (fun ε S => opd ε a S (evE call a ε S)) σ H fun v H1 => rd G W (RO G.K) (fun ε S => opd ε b S (evE call b ε S)) σ H1 fun v2 H2 => P v v2 H2 := by
  obtain ⟨w, H0, ε, S, hS, hE, q⟩ := q
  simp only [evE, os2] at q
  refine rd_step (ev := fun ε S => opd ε _ S (evE call _ ε S)) monF hS hE q fun d1 S1 w1 H1 v e1 hS1 hE1 r1 q1 => ?_
  exact rd_step (ev := fun ε S => opd ε _ S (evE call _ ε S)) monF hS1 hE1 q1 fun d2 S2 w2 H2 u e2 hS2 hE2 r2 q2 => k w2 S2 H2 d1 v d2 u hS2 (RO.ext e2 r1) r2 q2
theorem call_lenDr : CallR X (.builtin "len") (fun xs H Q => ∃ a kvs, xs = [V.ref a] ∧ Rd H a (.dK kvs) ∧ Q (.int kvs.length) H) := by
  intro pins s σ H xs us Q I r h
  obtain ⟨a, kvs, rfl, ha, q⟩ := h
  obtain ⟨u, rfl, ru⟩ := vals1 r
  cases ru
  exact d_len I ha fun t s' I' => ⟨.int kvs.length, H, I', ⟨t, rfl⟩, q⟩
theorem seqL_of {K : PySem.W.Frag} {H : Hp} {a : Addr} {vs : List V} (h : Rd H a (.lst vs)) : SqL K H a vs := .inl h
/-- == of dicts of plain values -/
theorem hits_D {P : Program} {wo : World} {w : Wd} {H : Hp} {s : Shared} {σ : St} {pins : List (Addr × Obj)} (I : Inv X pins σ H s) {A : Around} (hA : A.units + 60 < cLine) {ls : List (Key × V)} {js : List Key} {us : List D} (hj : ls.map (·.1) = js) (hu : RVs X.K w H (ls.map (·.2)) us) {vb : List (Key × Value)} (rb : KV ls vb) :
    ∀ {kvs : List (Key × V)} {ks : List Key} {ds : List D} {va : List (Key × Value)} {b : Bool}, kvs.map (·.1) = ks → RVs X.K w H (kvs.map (·.2)) ds → KV kvs va →
      (ks.zip ds).foldr (fun p r => match getK js us p.1 with
        | some u => match eqF2 p.2 u, r with
          | some e, some b => some (e && b)
          | _, _ => none
        | none => match r with
          | some _ => some false
          | none => none) (some true) = some b → PySem.W.KeqHits A s vb va b := by
  intro kvs
  induction kvs with
  | nil =>
    intro ks ds va b hk hr ra e
    subst hk
    simp only [List.map_nil, List.zip_nil_left, List.foldr_nil] at e
    cases e
    unfold KV at ra
    cases ra
    exact .nil
  | cons p kvs ih =>
    intro ks ds va b hk hr ra e
    subst hk
    cases ds with
    | nil => simp only [List.map_cons, RVs] at hr; obtain ⟨_, _, h, _⟩ := hr
    | cons y ds =>
      simp only [List.map_cons, RVs, List.zip_cons_cons, List.foldr_cons] at hr e
      obtain ⟨v, r, e1, h1, h2⟩ := hr
      cases e1
      unfold KV at ra
      cases ra with
      | @cons _ q _ va' hq t =>
        obtain ⟨k', u'⟩ := q
        obtain ⟨hq1, hq2⟩ := hq
        simp only at hq1
        subst hq1
        rcases getK_rel hj hu p.1 with ⟨g1, g2⟩ | ⟨x, ux, g1, g2, gr⟩
        · have rr := rb.val p.1
          rw [g2] at rr
          have hn : valueAt vb p.1 = none := by
            cases hv : valueAt vb p.1 with
            | none => rfl
            | some z => rw [hv] at rr; exact rr.elim
          rw [g1] at e
          simp only at e
          split at e
          · cases e; exact .miss hn
          · cases e
        · have rr := rb.val p.1
          rw [g2] at rr
          obtain ⟨yv, hyv, ry⟩ := rr.some_of
          rw [g1] at e
          simp only at e
          split at e
          · rename_i e2 b2 he2 hb2
            cases e
            unfold eqF2 at he2
            split at he2
            · rename_i pp qq hp hqq
              split at he2
              · rename_i hc
                cases he2
                obtain ⟨as, ra1⟩ := Dp.reads I pp _ _ (RV.dp _ _ _ h1 hp) hq2
                obtain ⟨bs, rb1⟩ := Dp.reads I qq _ _ (RV.dp _ _ _ gr hqq) ry
                refine .hit hyv (SeqAt.eqAt_reads pp qq A s _ _ as bs ra1 rb1 (SeqAt.canLay_of_shaped hc.1) (SeqAt.canLay_of_shaped hc.2.1) (by omega)) (ih rfl h2 t hb2)
              · cases he2
            · cases he2
          · cases e
theorem deq_ok (hK : G.K = X.K) (hu : X.A.units + 64 < cLine) : OpR X (compareOp .Eq) (fun x y H Q => ∃ w S a b ks vs js us k, RSt G w S H ∧ RO G.K w H x a ∧ RO G.K w H y b ∧ dr S a = .dct ks vs ∧ dr S b = .dct js us ∧ eqDct ks vs js us = some k ∧ Q (.bl k) H) := by
  intro pins s σ H x y v u Q I rx ry h
  obtain ⟨w, S, a, b, ks, vs, js, us, k, hS, ra, rb, da, db, e, q⟩ := h
  obtain ⟨a1, kvs, rfl, h1, h2, h3⟩ := dr_dct hS ra da
  obtain ⟨b1, ls, rfl, g1, g2, g3⟩ := dr_dct hS rb db
  obtain rfl : v = Value.ref a1 := rx
  obtain rfl : u = Value.ref b1 := ry
  obtain ⟨_, ya, va, ka, oa⟩ := h1.ok I.hok
  obtain ⟨_, yb, vb, kb, ob⟩ := g1.ok I.hok
  have la : va.length = ks.length := by rw [← ka.length, kvs_len h2]
  have lb : vb.length = js.length := by rw [← kb.length, kvs_len g2]
  unfold eqDct at e
  split at e
  · rename_i hl
    refine PySem.W.keq_eq (knd := mixKind X.prog X.w) (r := k) ya yb oa ob (by omega) (fun _ => hits_D I (P := X.prog) (wo := X.w) (by show X.A.units + 1 + 60 < cLine; omega) g2 (hK ▸ g3) kb h2 (hK ▸ h3) ka e) (fin_bl I q (by simp [la, lb, hl]))
  · rename_i hl
    cases e
    refine PySem.W.keq_eq (knd := mixKind X.prog X.w) (r := false) ya yb oa ob (by omega) (fun z => absurd (by rw [← la, ← lb]; exact z) hl) (fin_bl I q (by simp))
theorem dne_ok (hK : G.K = X.K) (hu : X.A.units + 64 < cLine) : OpR X (compareOp .NotEq) (fun x y H Q => ∃ w S a b ks vs js us k, RSt G w S H ∧ RO G.K w H x a ∧ RO G.K w H y b ∧ dr S a = .dct ks vs ∧ dr S b = .dct js us ∧ eqDct ks vs js us = some k ∧ Q (.bl (!k)) H) := by
  intro pins s σ H x y v u Q I rx ry h
  obtain ⟨w, S, a, b, ks, vs, js, us, k, hS, ra, rb, da, db, e, q⟩ := h
  obtain ⟨a1, kvs, rfl, h1, h2, h3⟩ := dr_dct hS ra da
  obtain ⟨b1, ls, rfl, g1, g2, g3⟩ := dr_dct hS rb db
  obtain rfl : v = Value.ref a1 := rx
  obtain rfl : u = Value.ref b1 := ry
  obtain ⟨_, ya, va, ka, oa⟩ := h1.ok I.hok
  obtain ⟨_, yb, vb, kb, ob⟩ := g1.ok I.hok
  have la : va.length = ks.length := by rw [← ka.length, kvs_len h2]
  have lb : vb.length = js.length := by rw [← kb.length, kvs_len g2]
  unfold eqDct at e
  split at e
  · rename_i hl
    refine PySem.W.keq_ne (knd := mixKind X.prog X.w) (r := k) ya yb oa ob (by omega) (fun _ => hits_D I (P := X.prog) (wo := X.w) (by show X.A.units + 1 + 60 < cLine; omega) g2 (hK ▸ g3) kb h2 (hK ▸ h3) ka e) (fin_bl I q (by simp [la, lb, hl]))
  · rename_i hl
    cases e
    refine PySem.W.keq_ne (knd := mixKind X.prog X.w) (r := false) ya yb oa ob (by omega) (fun z => absurd (by rw [← la, ← lb]; exact z) hl) (fin_bl I q (by simp))
theorem evEs_cst {ε : Env} {S : Sto} : ∀ {es : List Ex}, (es.all fun e => match e with | .cst _ => true | _ => false) = true → ∃ ds, evEs call es ε S = .ok ds S
  | [], _ => ⟨[], by simp only [evEs]⟩
  | e :: es, h => by
    simp only [List.all_cons, Bool.and_eq_true] at h
    obtain ⟨ds, e2⟩ := evEs_cst (ε := ε) (S := S) h.2
    cases e <;> simp only [Bool.false_eq_true, false_and] at h
    rename_i d
    exact ⟨d :: ds, by simp only [evEs, evE, R.bd_ok, e2]⟩
theorem simp_nox {a : Ex} {ε : Env} {S : Sto} {x : Exc} {S' : Sto} (h : simpE a = true) : opd ε a S (evE call a ε S) ≠ .exc x S' := by
  intro z
  cases a <;> simp only [simpE, Bool.false_eq_true] at h
  case cst => simp [opd, evE] at z
  case var i =>
    simp only [opd, evE, getV] at z
    split at z
    · cases z
    · split at z <;> cases z
  case tup es =>
    obtain ⟨ds, e⟩ := evEs_cst (call := call) (ε := ε) (S := S) h
    simp only [opd, evE, e, R.bd_ok] at z
    split at z <;> cases z
theorem simp_sto {a : Ex} {ε : Env} {S : Sto} {d : D} {S' : Sto} (h : simpE a = true) (z : opd ε a S (evE call a ε S) = .ok d S') : S' = S := by
  cases a <;> simp only [simpE, Bool.false_eq_true] at h
  case cst => simp only [opd, evE] at z; cases z; rfl
  case var i =>
    simp only [opd, evE, getV] at z
    split at z
    · cases z; rfl
    · split at z <;> cases z; rfl
  case tup es =>
    obtain ⟨ds, e⟩ := evEs_cst (call := call) (ε := ε) (S := S) h
    simp only [opd, evE, e, R.bd_ok] at z
    split at z <;> cases z; rfl
theorem s_prim (g : Good T G call N sc fn W k X) {p : Pr} {es : List Ex} {e : Expr} {xs : List Expr} (h : prX p sc e = some xs) (hok : prOk p es = true) (js : JOs G W X call xs es) : JE G W X e (evE call (.prim p es)) := by
  have hu : X.A.units + 1 < cLine := by have := g.room.units; omega
  cases p with
  | dnew =>
    simp only [prX] at h
    split at h
    · cases h; cases js
      refine (pe_ice pe_dnewK).imp fun σ H Q q => ?_
      obtain ⟨w, H0, ε, S, hS, hE, q⟩ := q
      simp only [evE, evOs, R.bd_ok, prF] at q
      exact fun p hp => (An.of q).dctI hS hp rfl (by simp [RVs])
    · cases h
  | ndnew =>
    simp only [prX] at h
    split at h
    · cases h; cases js
      refine pe_dnewK.imp fun σ H Q q => ?_
      obtain ⟨w, H0, ε, S, hS, hE, q⟩ := q
      simp only [evE, evOs, R.bd_ok, prF] at q
      exact fun p hp => new_obj q hS hp ⟨rfl, by simp [RVs]⟩
    · cases h
  | dget =>
    simp only [prX] at h
    split at h
    · split at h
      · rename_i o i pp hsl
        cases h
        cases js with | cons j1 je1 js => cases js with | cons j2 je2 js => cases js with | nil =>
        refine (pe_dget hu j1 j2 (fun ov iv => by cases i <;> first | rfl | (simp [notSlice] at hsl))).imp fun σ H Q q => ?_
        refine rd_os2 q fun w S2 H2 d v d2 u hS2 r1 r2 q2 => ?_
        simp only [prF] at q2
        split at q2
        · rename_i ks vs kk hd hk
          obtain ⟨d, hd2, q3⟩ := q2.of
          obtain ⟨a, kvs, rfl, h1, h2, h3⟩ := dr_dct hS2 r1 hd
          rcases getK_rel h2 h3 kk with ⟨e1, _⟩ | ⟨x, u', e1, e2', r⟩
          · rw [e1] at hd2; cases hd2
          · rw [e1] at hd2; cases hd2
            exact ⟨a, u', rfl, .inl ⟨kvs, kk, h1, key_of r2 hk, e2'.symm⟩, q3 _ _ _ Ext.refl hS2 r⟩
        · exact q2.elim
      · cases h
    · cases h
  | din =>
    obtain ⟨x, y, pos, rfl, hb, rfl⟩ := cmX_some h
    cases js with | cons j1 je1 js => cases js with | cons j2 je2 js => cases js with | nil =>
    refine (pe_cmp (pc_din hu j1 j2) hb).imp fun σ H Q q => ?_
    refine rd_os2 q fun w S2 H2 d v d2 u hS2 r1 r2 q2 => ?_
    simp only [prF] at q2
    split at q2
    · rename_i ks vs kk hd hk
      obtain ⟨a, kvs, rfl, h1, h2, h3⟩ := dr_dct hS2 r2 hd
      refine ⟨a, _, rfl, .inl ⟨kvs, kk, h1, key_of r1 hk, rfl⟩, ?_⟩
      rw [← getK_isSome h2 h3]
      exact q2 _ _ _ Ext.refl hS2 RV_bl
    · exact q2.elim
  | dnin =>
    obtain ⟨x, y, pos, rfl, hb, rfl⟩ := cmX_some h
    cases js with | cons j1 je1 js => cases js with | cons j2 je2 js => cases js with | nil =>
    refine (pe_cmp (pc_dnotin hu j1 j2) hb).imp fun σ H Q q => ?_
    refine rd_os2 q fun w S2 H2 d v d2 u hS2 r1 r2 q2 => ?_
    simp only [prF] at q2
    split at q2
    · rename_i ks vs kk hd hk
      obtain ⟨a, kvs, rfl, h1, h2, h3⟩ := dr_dct hS2 r2 hd
      refine ⟨a, _, rfl, .inl ⟨kvs, kk, h1, key_of r1 hk, rfl⟩, ?_⟩
      rw [← getK_isSome h2 h3]
      exact q2 _ _ _ Ext.refl hS2 RV_bl
    · exact q2.elim
  | deq =>
    obtain ⟨x, y, pos, rfl, hb, rfl⟩ := cmX_some h
    cases js with | cons j1 je1 js => cases js with | cons j2 je2 js => cases js with | nil =>
    refine (pe_cmpR (deq_ok g.lw.hK g.room.units) j1 j2 hb).imp fun σ H Q q => ?_
    refine rd_os2 q fun w S2 H2 d v d2 u hS2 r1 r2 q2 => ?_
    simp only [prF] at q2
    split at q2
    · rename_i ks vs js us h1 h2
      obtain ⟨x, hx, q3⟩ := q2.of
      cases he : eqDct ks vs js us with
      | none => rw [he] at hx; cases hx
      | some k =>
        rw [he] at hx
        cases hx
        exact ⟨w, S2, d, d2, ks, vs, js, us, k, hS2, r1, r2, h1, h2, he, q3 _ _ _ Ext.refl hS2 RV_bl⟩
    · exact q2.elim
  | dne =>
    obtain ⟨x, y, pos, rfl, hb, rfl⟩ := cmX_some h
    cases js with | cons j1 je1 js => cases js with | cons j2 je2 js => cases js with | nil =>
    refine (pe_cmpR (dne_ok g.lw.hK g.room.units) j1 j2 hb).imp fun σ H Q q => ?_
    refine rd_os2 q fun w S2 H2 d v d2 u hS2 r1 r2 q2 => ?_
    simp only [prF] at q2
    split at q2
    · rename_i ks vs js us h1 h2
      obtain ⟨x, hx, q3⟩ := q2.of
      cases he : eqDct ks vs js us with
      | none => rw [he] at hx; cases hx
      | some k =>
        rw [he] at hx
        cases hx
        exact ⟨w, S2, d, d2, ks, vs, js, us, k, hS2, r1, r2, h1, h2, he, q3 _ _ _ Ext.refl hS2 RV_bl⟩
    · exact q2.elim
  | lemp =>
    obtain ⟨x, p, pos, rfl, rfl⟩ := emX_some h
    cases js with | cons j1 je1 js => cases js with | nil =>
    refine (pe_cmpR (op_eq0 (by omega)) j1 (pe_lst pa_nil) rfl).imp fun σ H Q q => ?_
    refine rd_os1 q fun w S2 H2 d v hS2 r1 q2 => ?_
    simp only [prF] at q2
    split at q2
    · rename_i l hd
      obtain ⟨a, vs, rfl, h1, h2⟩ := dr_lst hS2 r1 hd
      refine ⟨by show 0 ≤ _; omega, fun p hp => ⟨a, p, vs, rfl, rfl, Rd.keep h1 (fun _ z => nomatch z) fun o e _ => by rw [upd_ne (fun z => by subst z; rw [hp] at e; cases e)]; exact e, .inl upd_same, ?_⟩⟩
      have e : vs.isEmpty = l.isEmpty := by have := h2.length; cases vs <;> cases l <;> simp at this ⊢
      rw [e]
      exact q2 _ _ _ (ext_tmp hp) (rst_tmp hS2 hp) RV_bl
    · exact q2.elim
  | lnemp =>
    obtain ⟨x, p, pos, rfl, rfl⟩ := emX_some h
    cases js with | cons j1 je1 js => cases js with | nil =>
    refine (pe_cmpR (op_ne0 (by omega)) j1 (pe_lst pa_nil) rfl).imp fun σ H Q q => ?_
    refine rd_os1 q fun w S2 H2 d v hS2 r1 q2 => ?_
    simp only [prF] at q2
    split at q2
    · rename_i l hd
      obtain ⟨a, vs, rfl, h1, h2⟩ := dr_lst hS2 r1 hd
      refine ⟨by show 0 ≤ _; omega, fun p hp => ⟨a, p, vs, rfl, rfl, Rd.keep h1 (fun _ z => nomatch z) fun o e _ => by rw [upd_ne (fun z => by subst z; rw [hp] at e; cases e)]; exact e, .inl upd_same, ?_⟩⟩
      have e : vs.isEmpty = l.isEmpty := by have := h2.length; cases vs <;> cases l <;> simp at this ⊢
      rw [e]
      exact q2 _ _ _ (ext_tmp hp) (rst_tmp hS2 hp) RV_bl
    · exact q2.elim
  | dlen =>
    obtain ⟨p, z, pos, rfl, hg, hn, rfl⟩ := blX_some h
    cases js with | cons j1 je1 js => cases js with | nil =>
    refine (pe_callB call_lenDr (g.gl hg) (g.lw.blt .len) PySem.boot_len (pa_cons j1 pa_nil (starEach_cons hn)) (by decide) (gl_of hg).2 (starEach_cons hn) rfl).imp fun σ H Q q => ?_
    refine rd_os1 q fun w S2 H2 d v hS2 r1 q2 => ?_
    simp only [prF] at q2
    split at q2
    · rename_i ks vs hd
      obtain ⟨a, kvs, rfl, h1, h2, h3⟩ := dr_dct hS2 r1 hd
      refine ⟨a, kvs, rfl, h1, ?_⟩
      rw [kvs_len h2]
      exact q2 _ _ _ Ext.refl hS2 RV_int
    · exact q2.elim
  | llen =>
    obtain ⟨p, z, pos, rfl, hg, hn, rfl⟩ := blX_some h
    cases js with | cons j1 je1 js => cases js with | nil =>
    refine (pe_callB call_len_seq (g.gl hg) (g.lw.blt .len) PySem.boot_len (pa_cons j1 pa_nil (starEach_cons hn)) (by decide) (gl_of hg).2 (starEach_cons hn) rfl).imp fun σ H Q q => ?_
    refine rd_os1 q fun w S2 H2 d v hS2 r1 q2 => ?_
    simp only [prF] at q2
    split at q2
    · rename_i l hd
      obtain ⟨a, vs, rfl, h1, h2⟩ := dr_lst hS2 r1 hd
      refine ⟨a, vs, rfl, .inl (.inl h1), ?_⟩
      rw [h2.length]
      exact q2 _ _ _ Ext.refl hS2 RV_int
    · exact q2.elim
  | lcopy =>
    obtain ⟨p, z, pos, rfl, hg, hn, rfl⟩ := blX_some h
    cases js with | cons j1 je1 js => cases js with | nil =>
    refine (pe_callTy call_list_of (g.gl hg) (g.lw.blt .list) boot_list (pa_cons j1 pa_nil (starEach_cons hn)) (by decide) (gl_of hg).2 (starEach_cons hn) rfl).imp fun σ H Q q => ?_
    refine rd_os1 q fun w S2 H2 d v hS2 r1 q2 => ?_
    simp only [prF] at q2
    split at q2
    · rename_i l hd
      obtain ⟨a, vs, rfl, h1, h2⟩ := dr_lst hS2 r1 hd
      exact ⟨a, vs, rfl, .inl (.inl h1), fun p hp => (An.of q2).lst hS2 hp h2⟩
    · exact q2.elim
  | nlcopy =>
    obtain ⟨p, z, pos, rfl, hg, hn, rfl⟩ := blX_some h
    cases js with | cons j1 je1 js => cases js with | nil =>
    refine (pe_callTy call_list_of (g.gl hg) (g.lw.blt .list) boot_list (pa_cons j1 pa_nil (starEach_cons hn)) (by decide) (gl_of hg).2 (starEach_cons hn) rfl).imp fun σ H Q q => ?_
    refine rd_os1 q fun w S2 H2 d v hS2 r1 q2 => ?_
    simp only [prF] at q2
    split at q2
    · rename_i l hd
      obtain ⟨a, vs, rfl, h1, h2⟩ := dr_lst hS2 r1 hd
      exact ⟨a, vs, rfl, .inl (.inl h1), fun p hp => new_obj q2 hS2 hp h2⟩
    · exact q2.elim
  | dcopy =>
    obtain ⟨p, z, pos, rfl, hg, hn, rfl⟩ := blX_some h
    cases js with | cons j1 je1 js => cases js with | nil =>
    refine (pe_ice (pe_callTy call_dictD (g.gl hg) g.lw.dct (by decide +kernel) (pa_cons j1 pa_nil (starEach_cons hn)) (by decide) (gl_of hg).2 (starEach_cons hn) rfl)).imp fun σ H Q q => ?_
    refine rd_os1 q fun w S2 H2 d v hS2 r1 q2 => ?_
    simp only [prF] at q2
    split at q2
    · rename_i ks vs hd
      obtain ⟨a, kvs, rfl, h1, h2, h3⟩ := dr_dct hS2 r1 hd
      exact ⟨a, kvs, rfl, h1, fun p hp => (An.of q2).dctI hS2 hp h2 h3⟩
    · exact q2.elim
  | ndcopy =>
    obtain ⟨p, z, pos, rfl, hg, hn, rfl⟩ := blX_some h
    cases js with | cons j1 je1 js => cases js with | nil =>
    refine (pe_callTy call_dictD (g.gl hg) g.lw.dct (by decide +kernel) (pa_cons j1 pa_nil (starEach_cons hn)) (by decide) (gl_of hg).2 (starEach_cons hn) rfl).imp fun σ H Q q => ?_
    refine rd_os1 q fun w S2 H2 d v hS2 r1 q2 => ?_
    simp only [prF] at q2
    split at q2
    · rename_i ks vs hd
      obtain ⟨a, kvs, rfl, h1, h2, h3⟩ := dr_dct hS2 r1 hd
      exact ⟨a, kvs, rfl, h1, fun p hp => new_obj q2 hS2 hp ⟨h2, h3⟩⟩
    · exact q2.elim
  | dlist =>
    obtain ⟨p, z, pos, rfl, hg, hn, rfl⟩ := blX_some h
    cases js with | cons j1 je1 js => cases js with | nil =>
    refine (pe_callTy (call_listD g.calm) (g.gl hg) (g.lw.blt .list) boot_list (pa_cons j1 pa_nil (starEach_cons hn)) (by decide) (gl_of hg).2 (starEach_cons hn) rfl).imp fun σ H Q q => ?_
    refine rd_os1 q fun w S2 H2 d v hS2 r1 q2 => ?_
    simp only [prF] at q2
    split at q2
    · rename_i ks vs hd
      obtain ⟨a, kvs, rfl, h1, h2, h3⟩ := dr_dct hS2 r1 hd
      refine ⟨a, kvs, rfl, h1, fun p hp => (An.of q2).lst hS2 hp ?_⟩
      have := keys_rvs (K := G.K) (w := w) (H := H2) ks
      rw [← h2, List.map_map] at this
      rw [← h2]
      exact this
    · exact q2.elim
  | dsort =>
    obtain ⟨p, z, pos, rfl, hg, hn, rfl⟩ := blX_some h
    cases js with | cons j1 je1 js => cases js with | nil =>
    refine (pe_callB (call_sortedD g.calm) (g.gl hg) g.lw.srt PyProof.Rows.boot_sorted (pa_cons j1 pa_nil (starEach_cons hn)) (by decide) (gl_of hg).2 (starEach_cons hn) rfl).imp fun σ H Q q => ?_
    refine rd_os1 q fun w S2 H2 d v hS2 r1 q2 => ?_
    simp only [prF] at q2
    split at q2
    · rename_i ks vs hd
      obtain ⟨x, hx, q3⟩ := q2.of
      obtain ⟨a, kvs, rfl, h1, h2, h3⟩ := dr_dct hS2 r1 hd
      cases hs : strsOf (keysL ks) with
      | none => rw [hs] at hx; cases hx
      | some xs =>
        rw [hs] at hx
        simp only [Option.bind_some] at hx
        split at hx
        · rename_i hlt
          cases hx
          refine ⟨a, kvs, xs, rfl, h1, ?_, hlt, fun ys p hp hso hpn => ?_⟩
          · rw [h2]
            clear hd h2 q3 hlt q2
            induction ks generalizing xs with
            | nil => simp only [keysL, List.map_nil, strsOf] at hs; cases hs; rfl
            | cons k ks ih =>
              cases k with
              | inl i => simp only [keysL, List.map_cons, dOfKey, strsOf] at hs; cases hs
              | inr y =>
                simp only [keysL, List.map_cons, dOfKey, strsOf] at hs
                cases ht : strsOf (ks.map dOfKey) with
                | none => rw [ht] at hs; cases hs
                | some zs =>
                  rw [ht] at hs
                  cases hs
                  rw [ih zs ht]
                  rfl
          · rw [sortS_eq hp (sorted_le hso)]
            have q4 : An G w S2 H2 (.lst ((sortS xs).map .str)) Q := fun w' H' v e hS' r => q3 w' H' v e hS' r
            exact q4.lst hS2 hpn (strs_rvs _)
        · cases hx
    · exact q2.elim
  | ssort =>
    obtain ⟨p, z, pos, rfl, hg, hn, rfl⟩ := blX_some h
    cases js with | cons j1 je1 js => cases js with | nil =>
    refine (pe_callB cr_sortedS (g.gl hg) g.lw.srt PyProof.Rows.boot_sorted (pa_cons j1 pa_nil (starEach_cons hn)) (by decide) (gl_of hg).2 (starEach_cons hn) rfl).imp fun σ H Q q => ?_
    refine rd_os1 q fun w S2 H2 d v hS2 r1 q2 => ?_
    simp only [prF] at q2
    split at q2
    · rename_i l hd
      obtain ⟨x, hx, q3⟩ := q2.of
      obtain ⟨a, vs, rfl, h1, h2⟩ := dr_lst hS2 r1 hd
      cases hs : strsOf l with
      | none => rw [hs] at hx; cases hx
      | some xs =>
        rw [hs] at hx
        simp only [Option.bind_some] at hx
        split at hx
        · rename_i hlt
          cases hx
          obtain rfl := strsOf_rvs h2 hs
          refine ⟨a, xs, rfl, .inl h1, hlt, fun ys p hp hso hpn => ?_⟩
          rw [sortS_eq hp (sorted_le hso)]
          have q4 : An G w S2 H2 (.lst ((sortS xs).map .str)) Q := fun w' H' v e hS' r => q3 w' H' v e hS' r
          exact q4.lst hS2 hpn (strs_rvs _)
        · cases hx
    · exact q2.elim
  | join y =>
    simp only [prX] at h
    split at h
    · split at h
      · rename_i hc
        simp only [Bool.and_eq_true] at hc
        obtain ⟨⟨⟨h1, h2⟩, hn⟩, hl⟩ := hc
        obtain rfl := beq_iff_eq.mp h1
        obtain rfl := beq_iff_eq.mp h2
        cases h
        cases js with | cons j1 je1 js => cases js with | nil =>
        refine (pe_join pe_str j1 (by rw [starEach_cons hn]; rfl) rfl hl).imp fun σ H Q q => ?_
        refine ⟨⟨_, rfl⟩, ?_⟩
        refine rd_os1 q fun w S2 H2 d v hS2 r1 q2 => ?_
        simp only [prF] at q2
        split at q2
        · rename_i l hd
          obtain ⟨x, hx, q3⟩ := q2.of
          obtain ⟨a, vs, rfl, h1, h2⟩ := dr_lst hS2 r1 hd
          cases hs : strsOf l with
          | none => rw [hs] at hx; cases hx
          | some xs =>
            rw [hs] at hx
            simp only [Option.bind_some] at hx
            split at hx
            · rename_i hlt
              cases hx
              obtain rfl := strsOf_rvs h2 hs
              exact ⟨_, a, xs, rfl, rfl, .inl (.inl h1), hlt, q3 _ _ _ Ext.refl hS2 RV_str⟩
            · cases hx
        · exact q2.elim
      · cases h
    · cases h
  | fld f =>
    simp only [prX] at h
    split at h
    · split at h
      · rename_i o gg pp hc
        simp only [Bool.and_eq_true, beq_iff_eq] at hc
        obtain ⟨rfl, hc2⟩ := hc
        cases h
        cases js with | cons j1 je1 js => cases js with | nil =>
        refine (pe_fld j1 (base_of hc2)).imp fun σ H Q q => ?_
        refine rd_os1 q fun w S2 H2 d v hS2 r1 q2 => ?_
        simp only [prF] at q2
        obtain ⟨x, hx, q3⟩ := q2.of
        obtain ⟨a, C, dx, fv, u, rfl, h1, h2, h3, h4, h5⟩ := fld_rel hS2 r1 hx
        exact ⟨a, C, dx, fv, u, rfl, h1, g.lw.hK ▸ h2, g.lw.hK ▸ h3, h4, q3 _ _ _ Ext.refl hS2 h5⟩
      · cases h
    · cases h
  | dget1 =>
    obtain ⟨o, ap, z, cp, rfl, hn, hl, hc, rfl⟩ := atX_some h
    cases js with | cons j1 je1 js => cases js with | cons j2 je2 js => cases js with | nil =>
    rename_i ea eb
    have hsm : simpE eb = true := by simpa [prOk] using hok
    refine (pe_dget1 hu j1 j2 (m1_of hc hn hl)).imp fun σ H Q q => ?_
    obtain ⟨w, H0, ε, S, hS, hE, q⟩ := q
    simp only [evE, os2] at q
    refine rd_step (ev := fun ε S => opd ε _ S (evE call _ ε S)) monF hS hE q fun d1 S1 w1 H1 v e1 hS1 hE1 r1 q1 => ?_
    obtain ⟨d2, S2', hok2⟩ : ∃ d2 S2, opd ε eb S1 (evE call eb ε S1) = .ok d2 S2 := by
      cases ho : opd ε eb S1 (evE call eb ε S1) with
      | ok a b => exact ⟨a, b, rfl⟩
      | exc x S2 => exact absurd ho (simp_nox hsm)
      | stuck => rw [ho] at q1; exact q1.elim
    have hS2' := simp_sto hsm hok2
    subst hS2'
    have q1' := q1
    rw [hok2] at q1'
    simp only [R.bd_ok, prF] at q1'
    split at q1'
    · rename_i ks vs kk hd hk
      obtain ⟨a, kvs, rfl, h1, h2, h3⟩ := dr_dct hS1 r1 hd
      refine ⟨a, rfl, .inl ⟨kvs, h1⟩, ?_⟩
      refine rd_step (ev := fun ε S => opd ε _ S (evE call _ ε S)) monF hS1 hE1 q1 fun d2 S2 w2 H2 u e2 hS2 hE2 r2 q2 => ?_
      simp only [prF] at q2
      split at q2
      · rename_i ks vs kk hd hk
        obtain ⟨a', kvs, ea, h1, h2, h3⟩ := dr_dct hS2 (RO.ext e2 r1) hd
        cases ea
        refine ⟨valV kvs kk, .inl ⟨kvs, kk, h1, key_of r2 hk, rfl⟩, ?_⟩
        rcases getK_rel h2 h3 kk with ⟨e1, e2'⟩ | ⟨x, u', e1, e2', r⟩
        · rw [e2']
          exact q2 _ _ _ Ext.refl hS2 (by rw [e1]; simp [RV])
        · rw [e2']
          exact q2 _ _ _ Ext.refl hS2 (by rw [e1]; exact r)
      · exact q2.elim
    · exact q1'.elim
  | dget2 =>
    obtain ⟨o, ap, z, y, cp, rfl, hn, hn2, hl, hc, rfl⟩ := atX2_some h
    cases js with | cons j1 je1 js => cases js with | cons j2 je2 js => cases js with | cons j3 je3 js => cases js with | nil =>
    rename_i ea eb ec
    have hsm : (simpE eb = true ∧ simpE ec = true) ∧ ∀ i, ec ≠ .var i := by
      simp only [prOk, List.tail_cons, List.all_cons, List.all_nil, Bool.and_true, Bool.and_eq_true] at hok
      refine ⟨hok.1, fun i z => ?_⟩
      subst z
      exact Bool.noConfusion hok.2
    obtain ⟨hsm, hnv⟩ := hsm
    have hopd : ∀ ε S, opd ε ec S (evE call ec ε S) = evE call ec ε S := fun ε S => by
      unfold opd
      cases ec <;> first | rfl | exact absurd rfl (hnv _)
    refine (pe_dget2 hu j1 j2 je3 (m2_of hc hn hn2 hl)).imp fun σ H Q q => ?_
    obtain ⟨w, H0, ε, S, hS, hE, q⟩ := q
    simp only [evE, os3] at q
    refine rd_step (ev := fun ε S => opd ε _ S (evE call _ ε S)) monF hS hE q fun d1 S1 w1 H1 v e1 hS1 hE1 r1 q1 => ?_
    obtain ⟨d2, S2', hok2⟩ : ∃ d2 S2, opd ε eb S1 (evE call eb ε S1) = .ok d2 S2 := by
      cases ho : opd ε eb S1 (evE call eb ε S1) with
      | ok a b => exact ⟨a, b, rfl⟩
      | exc x S2 => exact absurd ho (simp_nox hsm.1)
      | stuck => rw [ho] at q1; exact q1.elim
    have hS2' := simp_sto hsm.1 hok2
    subst hS2'
    have q1' := q1
    rw [hok2] at q1'
    simp only [R.bd_ok] at q1'
    obtain ⟨d3, S3', hok3⟩ : ∃ d2 S2, opd ε ec S2' (evE call ec ε S2') = .ok d2 S2 := by
      cases ho : opd ε ec S2' (evE call ec ε S2') with
      | ok a b => exact ⟨a, b, rfl⟩
      | exc x S2 => exact absurd ho (simp_nox hsm.2)
      | stuck => rw [ho] at q1'; exact q1'.elim
    have hS3' := simp_sto hsm.2 hok3
    subst hS3'
    rw [hok3] at q1'
    simp only [R.bd_ok, prF] at q1'
    split at q1'
    · rename_i ks vs kk hd hk
      obtain ⟨a, kvs, rfl, h1, h2, h3⟩ := dr_dct hS1 r1 hd
      refine ⟨a, rfl, .inl ⟨kvs, h1⟩, ?_⟩
      refine rd_step (ev := fun ε S => opd ε _ S (evE call _ ε S)) monF hS1 hE1 q1 fun d2 S2 w2 H2 u e2 hS2 hE2 r2 q2 => ?_
      simp only [hopd] at q2
      refine rd_step (ev := evE call ec) monF hS2 hE2 q2 fun d3 S3 w3 H3 u3 e3 hS3 hE3 r3 q3 => ?_
      simp only [prF] at q3
      split at q3
      · rename_i ks vs kk hd hk
        obtain ⟨a', kvs, ea, h1, h2, h3⟩ := dr_dct hS3 (RO.ext e3 (RO.ext e2 r1)) hd
        cases ea
        refine ⟨valV kvs kk, .inl ⟨kvs, kk, h1, key_of (RO.ext e3 r2) hk, rfl⟩, ?_⟩
        rcases getK_rel h2 h3 kk with ⟨e1, e2'⟩ | ⟨x, u', e1, e2', r⟩
        · rw [e2']
          refine q3 _ _ _ Ext.refl hS3 ?_
          rw [e1]
          exact r3
        · rw [e2']
          exact q3 _ _ _ Ext.refl hS3 (by rw [e1]; exact r)
      · exact q3.elim
    · exact q1'.elim
  | tlt => simp only [prX] at h; cases h
end
end BX
set_option Elab.async false
set_option linter.all false
set_option maxRecDepth 100000
set_option maxHeartbeats 2000000
/-! BX4c: methods, new instances. -/
namespace BX
open PySem L2
open PyProof.Rows hiding St Binds

theorem he_of {o : Expr} {m : Str} {apos pos : Pos} {args : List Expr} {kws : List Keyword} {env : PySem.Env} (h1 : attributeBase o m env (eval o env) = eval o env)
    (h2 : methodCallForm (args.length + kws.length) (backTo pos (starEach args env)) (backToKw pos (keywordEach kws env)) = true) (h3 : (apos.endLine == pos.line) = true) :
    eval (.Call (.Attribute o m apos) args kws pos) env = (do
      let ov ← eval o env
      standAt apos.atName
      let (f, first) ← holding [ov] (getMethod ov m (do return (← importBound o env).getD true))
      callWith pos f first (backTo pos (starEach args env)) (backToKw pos (keywordEach kws env))) := by
  have e : eval (.Call (.Attribute o m apos) args kws pos) env = (do
      let ov ← attributeBase o m env (eval o env)
      standAt apos.atName
      methodCall o m apos pos env ov (args.length + kws.length) (backTo pos (starEach args env)) (backToKw pos (keywordEach kws env))) := by rfl
  rw [e, h1]
  unfold methodCall calleeOf methodCallPos
  rw [h2, h3]
  rfl
section
variable {X : Cx} {CX : CXT} {k : Nat} {f C : Addr} {fd : FuncData} {ps ks : List Str} {sp : Sp} {E : St → XK} {x m : Str} {p pos apos : Pos} {o : Expr} {es : List Expr} {kws : List Keyword} {ta : TE} {t tk : TA} {ds : List Value} {dvs : List V} {g : List Value → List Value → List Value} {gV : List V → List V → List V} {n : Nat}
theorem form_of {args : List Expr} {kws : List Keyword} {env : PySem.Env} (hn : args.all notStar = true) (hk : (backToKw pos (keywordEach kws env)).all (·.1.isSome) = true) (hl : args.length + kws.length < 29) :
    methodCallForm (args.length + kws.length) (backTo pos (starEach args env)) (backToKw pos (keywordEach kws env)) = true := by
  unfold methodCallForm
  have h1 : (backTo pos (starEach args env)).all (fun x => !x.1) = true := by
    have := starAll (pos := pos) (env := env) hn
    rw [List.any_eq_false] at this
    rw [List.all_eq_true]
    intro x hx
    have := this x hx
    simpa using this
  rw [h1, hk]
  simp only [Bool.true_and, decide_eq_true_eq]
  split <;> omega
/-- o.m(..), what is raised wished for at the caller's slots -/
theorem pe_methSD (he : PE X o ta) (c : Cls X.K C) (hm : Meth X.K C m f) (F : FnOk X.prog X.w X.K X.mg X.base CX k f fd ps sp) (hr : Room k X.A) (hb : L2.Binds X.K fd ps ds) (hd : Vals dvs ds) (hx : ∀ σ, PassesAt CX X σ (E σ)) (ha : PA X es t)
    (hne : es ≠ []) (hn : es.all notStar = true) (hz : es.length < 29) (h1 : attributeBase o m X.env (eval o X.env) = eval o X.env) (h3 : (apos.endLine == pos.line) = true) :
    PE X (.Call (.Attribute o m apos) es [] pos) (fun σ H Q => ta σ H fun x H1 => ∃ a dx fs, x = .ref a ∧ H1 a = some (.ins C dx fs) ∧ fs.lookup m = none ∧ t σ H1 fun vs H2 => sp (x :: (vs ++ dvs)) H2 Q (E σ)) := by
  refine ⟨fun pins s σ H Q I h => ?_⟩
  have hf := form_of (pos := pos) (kws := []) (env := X.env) hn rfl (by simpa using hz)
  refine PySem.W.methodCall_KW (thn (he.run pins s σ H _ I h) fun u s1 ⟨x, H1, I1, rx, a, dx, fs, ex, ea, l, q⟩ => ?_) (he_of h1 hf h3)
  subst ex
  obtain rfl : u = Value.ref a := rx
  refine getmeth_ok I1 ea c hm l ?_
  cases es with
  | nil => simp at hne
  | cons e es =>
    simp only [List.all_cons, Bool.and_eq_true] at hn
    refine PySem.W.callWith_K (first := [.ref a]) (h₀ := X.base) I.ok.mod.kin hm.kp (thn (ha.run pos pins s1 σ H1 _ I1 q) fun us s2 ⟨vs, H2, I2, r, q2⟩ => ⟨I2.kIn, ?_⟩) (starEach_cons hn.1) (starAll hn.2)
    exact run_fnSD (us := .ref a :: us) (vs := .ref a :: vs) F hr hb hd (hx σ) I2 (.cons rfl r) q2
theorem pe_methSD0 (he : PE X o ta) (c : Cls X.K C) (hm : Meth X.K C m f) (F : FnOk X.prog X.w X.K X.mg X.base CX k f fd ps sp) (hr : Room k X.A) (hb : L2.Binds X.K fd ps ds) (hd : Vals dvs ds) (hx : ∀ σ, PassesAt CX X σ (E σ))
    (h1 : attributeBase o m X.env (eval o X.env) = eval o X.env) (h3 : (apos.endLine == pos.line) = true) :
    PE X (.Call (.Attribute o m apos) [] [] pos) (fun σ H Q => ta σ H fun x H1 => ∃ a dx fs, x = .ref a ∧ H1 a = some (.ins C dx fs) ∧ fs.lookup m = none ∧ sp (x :: dvs) H1 Q (E σ)) := by
  refine ⟨fun pins s σ H Q I h => ?_⟩
  refine PySem.W.methodCall_KW (thn (he.run pins s σ H _ I h) fun u s1 ⟨x, H1, I1, rx, a, dx, fs, ex, ea, l, q⟩ => ?_) (he_of h1 (form_of rfl rfl (by decide)) h3)
  subst ex
  obtain rfl : u = Value.ref a := rx
  refine getmeth_ok I1 ea c hm l ?_
  exact PySem.W.callWith_K0 (first := [.ref a]) I1.kIn hm.kp (run_fnSD (us := [.ref a]) (vs := [.ref a]) F hr hb hd (hx σ) I1 (.cons rfl .nil) q)
theorem run_fnKW {pins : List (Addr × Obj)} {σ : St} {H : Hp} {s : Shared} {Q : VK} {us ws : List Value} {vs zs : List V} (F : FnOk X.prog X.w X.K X.mg X.base CX k f fd ps sp) (hr : Room k X.A) (hb : KBn X.K fd ps n ks g gV) (hx : PassesAt CX X σ (E σ))
    (I : Inv X pins σ H s) (r : Vals vs us) (rz : Vals zs ws) (l1 : vs.length = n) (l2 : zs.length = ks.length) (h : sp (gV vs zs) H Q (E σ)) : wpAny (model X.prog X.w) X.A (call (.ref f) us (ks.zip ws)) (EP X pins σ Q) X.xe s := by
  refine wpAny_call (codeAny_mono (F.run X.A X.stack s H ⟨us, ks.zip ws⟩ (g us ws) _ Q (E σ) hr I.env0 (hb.to s us ws I.kIn (r.length.symm.trans l1) (rz.length.symm.trans l2)) (hb.rel r rz) h) fun res s3 hq => ?_)
  cases res with
  | error e => exact hx pins H s e s3 I hq
  | ok fl =>
    cases fl with
    | ret u => exact I.after hq
    | next => exact False.elim hq
    | brk => exact False.elim hq
    | cont => exact False.elim hq
theorem pe_methKW (he : PE X o ta) (c : Cls X.K C) (hm : Meth X.K C m f) (F : FnOk X.prog X.w X.K X.mg X.base CX k f fd ps sp) (hr : Room k X.A) (hb : KBn X.K fd ps (n + 1) ks g gV) (hx : ∀ σ, PassesAt CX X σ (E σ)) (ha : PA X es t) (hk : PK X kws tk)
    (hne : es ≠ []) (hn : es.all notStar = true) (hz : es.length + kws.length < 29) (c1 : (backToKw pos (keywordEach kws X.env)).all (·.1.isSome) = true) (c2 : (backToKw pos (keywordEach kws X.env)).filterMap (·.1) = ks) (c3 : (backToKw pos (keywordEach kws X.env)).any (·.1.isNone) = false)
    (h1 : attributeBase o m X.env (eval o X.env) = eval o X.env) (h3 : (apos.endLine == pos.line) = true) :
    PE X (.Call (.Attribute o m apos) es kws pos) (fun σ H Q => ta σ H fun x H1 => ∃ a dx fs, x = .ref a ∧ H1 a = some (.ins C dx fs) ∧ fs.lookup m = none ∧ t σ H1 fun vs H2 => tk σ H2 fun zs H3 => vs.length = n ∧ zs.length = ks.length ∧ sp (gV (x :: vs) zs) H3 Q (E σ)) := by
  refine ⟨fun pins s σ H Q I h => ?_⟩
  refine PySem.W.methodCall_KW (thn (he.run pins s σ H _ I h) fun u s1 ⟨x, H1, I1, rx, a, dx, fs, ex, ea, l, q⟩ => ?_) (he_of h1 (form_of hn c1 hz) h3)
  subst ex
  obtain rfl : u = Value.ref a := rx
  refine getmeth_ok I1 ea c hm l ?_
  cases es with
  | nil => simp at hne
  | cons e es =>
    simp only [List.all_cons, Bool.and_eq_true] at hn
    refine PySem.W.callWith_KW (first := [.ref a]) (h₀ := X.base) I.ok.mod.kin hm.kp c1 (thn (ha.run pos pins s1 σ H1 _ I1 q) fun us s2 ⟨vs, H2, I2, r, q1⟩ => ?_) (by rw [starEach_cons hn.1]; show (false || (backTo pos (starEach es X.env)).any (·.1) || _) = false; rw [starAll hn.2, c3]; rfl) (starEach_cons hn.1)
    refine thn (hk.run pos pins s2 σ H2 _ I2 q1) fun ws s3 ⟨zs, H3, I3, rz, l1, l2, q2⟩ => ⟨I3.kIn, ?_⟩
    rw [c2]
    exact run_fnKW (us := .ref a :: us) (vs := .ref a :: vs) F hr hb (hx σ) I3 (.cons rfl r) rz (by simp [l1]) l2 q2
theorem pe_methKW0 (he : PE X o ta) (c : Cls X.K C) (hm : Meth X.K C m f) (F : FnOk X.prog X.w X.K X.mg X.base CX k f fd ps sp) (hr : Room k X.A) (hb : KBn X.K fd ps 1 ks g gV) (hx : ∀ σ, PassesAt CX X σ (E σ)) (hk : PK X kws tk)
    (hz : kws.length < 29) (c1 : (backToKw pos (keywordEach kws X.env)).all (·.1.isSome) = true) (c2 : (backToKw pos (keywordEach kws X.env)).filterMap (·.1) = ks) (c3 : (backToKw pos (keywordEach kws X.env)).any (·.1.isNone) = false)
    (h1 : attributeBase o m X.env (eval o X.env) = eval o X.env) (h3 : (apos.endLine == pos.line) = true) :
    PE X (.Call (.Attribute o m apos) [] kws pos) (fun σ H Q => ta σ H fun x H1 => ∃ a dx fs, x = .ref a ∧ H1 a = some (.ins C dx fs) ∧ fs.lookup m = none ∧ tk σ H1 fun zs H3 => zs.length = ks.length ∧ sp (gV [x] zs) H3 Q (E σ)) := by
  refine ⟨fun pins s σ H Q I h => ?_⟩
  refine PySem.W.methodCall_KW (thn (he.run pins s σ H _ I h) fun u s1 ⟨x, H1, I1, rx, a, dx, fs, ex, ea, l, q⟩ => ?_) (he_of h1 (form_of rfl c1 (by simpa using hz)) h3)
  subst ex
  obtain rfl : u = Value.ref a := rx
  refine getmeth_ok I1 ea c hm l ?_
  refine PySem.W.callWith_KW0 (first := [.ref a]) (h₀ := X.base) I.ok.mod.kin hm.kp c1 (thn (hk.run pos pins s1 σ H1 _ I1 q) fun ws s3 ⟨zs, H3, I3, rz, l2, q2⟩ => ⟨I3.kIn, ?_⟩) (by show (false || _) = false; rw [c3]; rfl)
  rw [c2]
  exact run_fnKW (us := [.ref a]) (vs := [.ref a]) F hr hb (hx σ) I3 (.cons rfl .nil) rz rfl l2 q2
/-- C(..) -/
theorem run_makeSD {pins : List (Addr × Obj)} {σ : St} {H : Hp} {s : Shared} {Q : VK} {us : List Value} {vs : List V} (M : Mk X.K C f) (F : FnOk X.prog X.w X.K X.mg X.base CX k f fd ps sp) (hr : Room (k + 1) X.A) (hb : L2.Binds X.K fd ps ds) (hd : Vals dvs ds)
    (hx : PassesAt CX X σ (E σ)) (I : Inv X pins σ H s) (r : Vals vs us)
    (h : ∀ x dx, H x = none → H dx = none → dx ≠ x → sp (.ref x :: (vs ++ dvs)) (upd (upd H dx (.own x)) x (.ins C dx [])) (fun v H2 => v = .non ∧ Q (.ref x) H2) (E σ)) :
    wpAny (model X.prog X.w) X.A (call (.ref C) us) (EP X pins σ Q) X.xe s := by
  have hq := h (s.heap.objs.size + 1) s.heap.objs.size (I.hok.fresh (Nat.le_succ _)) (I.hok.fresh (Nat.le_refl _)) (Nat.ne_of_lt (Nat.lt_succ_self _))
  have I2 := Inv.made (C := C) I
  have r2 : Vals (V.ref (s.heap.objs.size + 1) :: (vs ++ dvs)) (Value.ref (s.heap.objs.size + 1) :: (us ++ ds)) := .cons rfl (r.append hd)
  have hl : (Value.ref (s.heap.objs.size + 1) :: us ++ ds).length = ps.length := by
    have e := r2.length
    rw [F.len _ _ _ _ hq] at e
    exact e.symm
  refine wpAny_call (make_map (f := f) I.kIn M.makes M.init (beq_iff_eq.mp M.fn) (codeAny_mono (F.run _ X.stack _ _ ⟨Value.ref (s.heap.objs.size + 1) :: us, []⟩ (Value.ref (s.heap.objs.size + 1) :: (us ++ ds)) _ _ (E σ) (hr.make C us [])
    (I2.env0.make C us []) (hb _ (Value.ref (s.heap.objs.size + 1) :: us) I2.kIn hl) r2 hq) fun r s' hq' => ?_))
  cases r with
  | error e => exact hx pins _ _ e s' I2 hq'
  | ok fl =>
    cases fl with
    | ret u =>
      obtain ⟨v, H', I3, rv, ev, q3⟩ := I2.after hq'
      subst ev
      exact ⟨rv, ⟨V.ref (s.heap.objs.size + 1), H', I3, rfl, q3⟩⟩
    | next => exact False.elim hq'
    | brk => exact False.elim hq'
    | cont => exact False.elim hq'
theorem run_makeKW {pins : List (Addr × Obj)} {σ : St} {H : Hp} {s : Shared} {Q : VK} {us ws : List Value} {vs zs : List V} (M : Mk X.K C f) (F : FnOk X.prog X.w X.K X.mg X.base CX k f fd ps sp) (hr : Room (k + 1) X.A) (hb : KBn X.K fd ps (n + 1) ks g gV)
    (hx : PassesAt CX X σ (E σ)) (I : Inv X pins σ H s) (r : Vals vs us) (rz : Vals zs ws) (l1 : vs.length = n) (l2 : zs.length = ks.length)
    (h : ∀ x dx, H x = none → H dx = none → dx ≠ x → sp (gV (.ref x :: vs) zs) (upd (upd H dx (.own x)) x (.ins C dx [])) (fun v H2 => v = .non ∧ Q (.ref x) H2) (E σ)) :
    wpAny (model X.prog X.w) X.A (call (.ref C) us (ks.zip ws)) (EP X pins σ Q) X.xe s := by
  have hq := h (s.heap.objs.size + 1) s.heap.objs.size (I.hok.fresh (Nat.le_succ _)) (I.hok.fresh (Nat.le_refl _)) (Nat.ne_of_lt (Nat.lt_succ_self _))
  have I2 := Inv.made (C := C) I
  have r1 : Vals (V.ref (s.heap.objs.size + 1) :: vs) (Value.ref (s.heap.objs.size + 1) :: us) := .cons rfl r
  have r2 := hb.rel r1 rz
  have e1 : (Value.ref (s.heap.objs.size + 1) :: us).length = n + 1 := r1.length.symm.trans (congrArg Nat.succ l1)
  have e2 : ws.length = ks.length := rz.length.symm.trans l2
  refine wpAny_call (make_map (f := f) I.kIn M.makes M.init (beq_iff_eq.mp M.fn) (codeAny_mono (F.run _ X.stack _ _ ⟨Value.ref (s.heap.objs.size + 1) :: us, ks.zip ws⟩ (g (Value.ref (s.heap.objs.size + 1) :: us) ws) _ _ (E σ) (hr.make C us (ks.zip ws))
    (I2.env0.make C us (ks.zip ws)) (hb.to _ (Value.ref (s.heap.objs.size + 1) :: us) ws I2.kIn e1 e2) r2 hq) fun r s' hq' => ?_))
  cases r with
  | error e => exact hx pins _ _ e s' I2 hq'
  | ok fl =>
    cases fl with
    | ret u =>
      obtain ⟨v, H', I3, rv, ev, q3⟩ := I2.after hq'
      subst ev
      exact ⟨rv, ⟨V.ref (s.heap.objs.size + 1), H', I3, rfl, q3⟩⟩
    | next => exact False.elim hq'
    | brk => exact False.elim hq'
    | cont => exact False.elim hq'
end
/-! the world with a new instance -/
section
variable {G : Gx} {w : Wd} {S : Sto} {H : Hp} {c : Str} {C x dx : Addr}
/-- a new instance's two addresses -/
def insH (H : Hp) (x dx C : Addr) : Hp := upd (upd H dx (.own x)) x (.ins C dx [])
theorem ext_ins (r : RSt G w S H) (hx : H x = none) (hd : H dx = none) : Ext w H (w.obj x (r.fresh hx).1 (r.fresh hx).2) (insH H x dx C) :=
  ⟨⟨[x], rfl, fun a z => (List.mem_singleton.mp z) ▸ hx⟩, fun a q => q, fun a q => .inl q, fun a u q _ _ => by
    unfold insH
    rw [upd_ne (fun e => by subst e; rw [hx] at q; cases q), upd_ne (fun e => by subst e; rw [hd] at q; cases q)]
    exact q, fun a h => dom_upd a (dom_upd a h), fun a ob u q => by
    unfold insH
    rw [upd_ne (fun e => by subst e; rw [hx] at q; cases q), upd_ne (fun e => by subst e; rw [hd] at q; cases q)]
    exact q⟩
theorem rst_ins (r : RSt G w S H) (hx : H x = none) (hd : H dx = none) (hc : G.cls c = some C) (hk : Cls G.K C) : RSt G (w.obj x (r.fresh hx).1 (r.fresh hx).2) (S ++ [.ins c []]) (insH H x dx C) :=
  ⟨by simp [Wd.obj, r.len], fun n u q => by
    by_cases hn : n < S.length
    · rw [List.getElem?_append_left hn] at q
      obtain ⟨a, e, k⟩ := r.ob n u q
      have k0 := k.ne
      refine ⟨a, (ext_ins (C := C) r hx hd).at e, k.ext (ext_ins r hx hd) ?_⟩
      unfold insH
      rw [upd_ne (fun z => by subst z; exact k0 hx), upd_ne (fun z => by subst z; exact k0 hd)]
    · have hn' : n = S.length := by
        have := (List.getElem?_eq_some_iff.mp q).1
        simp at this
        omega
      subst hn'
      simp at q
      subst q
      refine ⟨x, ?_, C, dx, [], hc, upd_same, ⟨rfl, by simp [RVs]⟩, hk, fun f hf => by simp at hf⟩
      show (w.ρ ++ [x])[S.length]? = some x
      rw [← r.len]
      simp, fun a q => by
    unfold insH
    by_cases e : a = x
    · subst e; exact absurd q (r.fresh hx).2
    · rw [upd_ne e]
      by_cases e2 : a = dx
      · subst e2; exact absurd q (r.fresh hd).2
      · rw [upd_ne e2]; exact r.phi a q, by
    unfold insH
    refine tabs_upd (tabs_upd r.tab (by rw [hd]; exact nt_none)) ?_
    by_cases e2 : x = dx
    · subst e2; rw [upd_same]; exact nt_own
    · rw [upd_ne e2, hx]; exact nt_none⟩
theorem rv_ins (r : RSt G w S H) (hx : H x = none) : RV G.K (w.obj x (r.fresh hx).1 (r.fresh hx).2) (insH H x dx C) (.ref x) (.ref S.length) := by
  simp only [RV]
  refine ⟨x, ?_, rfl⟩
  show (w.ρ ++ [x])[S.length]? = some x
  rw [← r.len]
  simp
end
theorem lookup_none {α β : Type} {m : Str} : ∀ {fv : List (Str × α)} {fs : List (Str × β)}, fv.map (·.1) = fs.map (·.1) → fs.lookup m = none → fv.lookup m = none
  | [], [], _, _ => rfl
  | [], _ :: _, h, _ => by simp at h
  | _ :: _, [], h, _ => by simp at h
  | (a, x) :: fv, (b, y) :: fs, h, l => by
    simp only [List.map_cons, List.cons.injEq] at h
    obtain ⟨rfl, h⟩ := h
    simp only [List.lookup_cons] at l ⊢
    split at l
    · cases l
    · exact lookup_none h l
theorem rvs_flat {K : PySem.W.Frag} {w : Wd} {H : Hp} : ∀ {dv : List D}, dv.all flatD = true → RVs K w H (dv.map vOf) dv
  | [], _ => by simp [RVs]
  | d :: dv, h => by
    simp only [List.all_cons, Bool.and_eq_true] at h
    simp only [List.map_cons, RVs]
    exact ⟨_, _, rfl, flat_rv h.1, rvs_flat h.2⟩
theorem rd_stepE {G : Gx} {W : WX} {α β γ : Type} {rel : Wd → Hp → β → α → Prop} {ev : Env → Sto → R α} {f : α → Sto → R γ} {P : Po γ} {w : Wd} {H H0 : Hp} {σ : St} {ε : Env} {S : Sto} {Q : β → Hp → Prop}
    (mP : Mon P) (hS : RSt G w S H) (hE : REn G.K w H0 σ H ε) (h : Pst ((ev ε S).bd f) (P w H) (PX G W σ w H))
    (k : ∀ a S' w' H' b, ev ε S = .ok a S' → Ext w H w' H' → RSt G w' S' H' → REn G.K w' H0 σ H' ε → rel w' H' b a → Pst (f a S') (P w' H') (PX G W σ w' H') → Q b H') : rd G W rel ev σ H Q := by
  refine ⟨w, H0, ε, S, hS, hE, ?_⟩
  cases e : ev ε S with
  | ok a S' =>
    rw [e] at h
    simp only [R.bd_ok] at h
    exact fun w' H' b x hS' r => k a S' w' H' b e x hS' (hE.ext x) r (h.imp (fun _ _ => mP.m x) fun _ _ => PXe.ext x)
  | exc x S' => rw [e] at h; exact h
  | stuck => rw [e] at h; exact h.elim
theorem evEs_len {call : Call} : ∀ {es : List Ex} {ε : Env} {S S' : Sto} {ds : List D}, evEs call es ε S = .ok ds S' → ds.length = es.length
  | [], ε, S, S', ds, h => by simp only [evEs] at h; cases h; rfl
  | e :: es, ε, S, S', ds, h => by
    simp only [evEs] at h
    cases e1 : evE call e ε S with
    | ok d S1 =>
      rw [e1] at h
      simp only [R.bd_ok] at h
      cases e2 : evEs call es ε S1 with
      | ok d2 S2 => rw [e2] at h; simp only [R.bd_ok] at h; cases h; simp [evEs_len e2]
      | exc _ _ => rw [e2] at h; cases h
      | stuck => rw [e2] at h; cases h
    | exc _ _ => rw [e1] at h; cases h
    | stuck => rw [e1] at h; cases h
section
variable {T : Tb} {G : Gx} {call : Call} {N : List Str} {sc : Scope} {fn : Str → Bool} {W : WX} {k : Nat} {X : Cx} {pos p1 ap : Pos} {f : Nat} {c m : Str} {o : Ex} {es kes : List Ex} {dv : List D} {x : Expr} {xs : List Expr} {ks : List Str} {pm : List (Nat ⊕ D)} {kws : List Keyword}
/-- the object of a method call -/
theorem mth_obj {C : Addr} {w : Wd} {H : Hp} {S : Sto} {n : Nat} {v : V} {fs : List (Str × D)} (hS : RSt G w S H) (hc : G.cls c = some C) (r : RV G.K w H v (.ref n)) (e : S[n]? = some (.ins c fs)) (l : fs.lookup m = none) : ∃ a dx fv, v = .ref a ∧ H a = some (.ins C dx fv) ∧ fv.lookup m = none := by
  simp only [RV] at r
  obtain ⟨a, h1, rfl⟩ := r
  obtain ⟨b, h2, C', dx, fv, h3, h4, h5, _⟩ := hS.ob n _ e
  obtain rfl : a = b := Option.some.inj (h1.symm.trans h2)
  obtain rfl : C' = C := Option.some.inj (h3.symm.trans hc)
  exact ⟨a, dx, fv, rfl, h4, lookup_none h5.ks l⟩
theorem s_mth (g : Good T G call N sc fn W k X) (hm : T.mthB f c m = true) (hd : T.dvB f (xs.length + 1) dv = true) (h0 : notCall0 x = true) (h3 : (ap.endLine == pos.line) = true) (hz : xs.length < 29) (hl : es.length = xs.length)
    (ho : JE G W X x (evE call o)) (h : JA G W X xs (evEs call es)) (hn : xs.all notStar = true) : JE G W X (.Call (.Attribute x m ap) xs [] pos) (evE call (.mth f c m o es dv)) := by
  obtain ⟨C, a, fd, ps, hc, hcl, hme, F, hb⟩ := g.lw.mth f c m hm
  obtain ⟨hfl, ds, hv, hB⟩ := hb.1 _ dv hd
  have fin : ∀ {σ : St} {H : Hp} {Q : VK}, rd G W (RV G.K) (evE call (.mth f c m o es dv)) σ H Q → rd G W (RV G.K) (evE call o) σ H fun x H1 => ∃ a dx fs, x = .ref a ∧ H1 a = some (.ins C dx fs) ∧ fs.lookup m = none ∧ rd G W (RVs G.K) (evEs call es) σ H1 fun vs H2 => spOf G (call f) (x :: (vs ++ dv.map vOf)) H2 Q (WE W σ) := by
    rintro σ H Q ⟨w, H0, ε, S, hS, hE, q⟩
    simp only [evE] at q
    refine rd_step (ev := evE call o) monF hS hE q fun d1 S1 w1 H1 v e1 hS1 hE1 r1 q1 => ?_
    cases d1 <;> try exact q1.elim
    rename_i n
    dsimp only at q1
    split at q1
    · rename_i c' fs e
      split at q1
      · rename_i hh
        obtain ⟨rfl, l⟩ := hh
        obtain ⟨a, dx, fv, ev, hH, hl⟩ := mth_obj hS1 hc r1 e l
        refine ⟨a, dx, fv, ev, hH, hl, ?_⟩
        refine rd_step (ev := evEs call es) monF hS1 hE1 q1 fun ds S2 w2 H2 vs e2 hS2 hE2 r2 q2 => ?_
        exact ⟨w2, S2, .ref n :: (ds ++ dv), hS2, by simp only [RVs]; exact ⟨v, _, rfl, RV.ext e2 _ _ r1, r2.append (rvs_flat hfl)⟩, q2⟩
      · exact q1.elim
    · exact q1.elim
  cases xs with
  | nil =>
    refine (pe_methSD0 (E := WE W) (pos := pos) ho hcl hme F g.room hB hv (fun σ => passAt g.tk σ) (base_of h0) h3).imp fun σ H Q q => ?_
    obtain ⟨w, H0, ε, S, hS, hE, q⟩ := fin q
    refine ⟨w, H0, ε, S, hS, hE, q.imp (fun d S' q w' H' v e hS' r => ?_) fun _ _ q => q⟩
    obtain ⟨a, dx, fs, h1, h2, h3, q2⟩ := q w' H' v e hS' r
    refine ⟨a, dx, fs, h1, h2, h3, ?_⟩
    obtain ⟨w2, H02, ε2, S2, hS2, hE2, q3⟩ := q2
    cases es with
    | nil =>
      simp only [evEs] at q3
      exact q3 w2 H' [] Ext.refl hS2 (by simp [RVs])
    | cons e es => simp at hl
  | cons y xs => exact (pe_methSD (E := WE W) (pos := pos) ho hcl hme F g.room hB hv (fun σ => passAt g.tk σ) h (by simp) hn hz (base_of h0) h3).imp fun σ H Q q => fin q
theorem s_mthK (g : Good T G call N sc fn W k X) (hm : T.mthB f c m = true) (hd : T.kwB f (xs.length + 1) ks pm = true) (h0 : notCall0 x = true) (h3 : (ap.endLine == pos.line) = true) (hz : xs.length + kws.length < 29) (hl : es.length = xs.length)
    (ho : JE G W X x (evE call o)) (h : JA G W X xs (evEs call es)) (hn : xs.all notStar = true) (hk : JK G W X kws (evEs call kes)) (hcs : chKs T N kes sc fn kws ks = true) : JE G W X (.Call (.Attribute x m ap) xs kws pos) (evE call (.mthK f c m o es ks kes pm)) := by
  obtain ⟨C, a, fd, ps, hc, hcl, hme, F, _, hb⟩ := g.lw.mth f c m hm
  obtain ⟨hfl, gg, hB⟩ := hb _ ks pm hd
  obtain ⟨c1, c2, c3, c4⟩ := chKs_all (pos := pos) (env := X.env) hcs
  have fin : ∀ {σ : St} {H : Hp} {Q : VK}, rd G W (RV G.K) (evE call (.mthK f c m o es ks kes pm)) σ H Q → rd G W (RV G.K) (evE call o) σ H fun x H1 => ∃ a dx fs, x = .ref a ∧ H1 a = some (.ins C dx fs) ∧ fs.lookup m = none ∧ rd G W (RVs G.K) (evEs call es) σ H1 fun vs H2 => rd G W (RVs G.K) (evEs call kes) σ H2 fun zs H3 => vs.length = xs.length ∧ zs.length = ks.length ∧ spOf G (call f) (pmV ((x :: vs) ++ zs) pm) H3 Q (WE W σ) := by
    rintro σ H Q ⟨w, H0, ε, S, hS, hE, q⟩
    simp only [evE] at q
    refine rd_step (ev := evE call o) monF hS hE q fun d1 S1 w1 H1 v e1 hS1 hE1 r1 q1 => ?_
    cases d1 <;> try exact q1.elim
    rename_i n
    dsimp only at q1
    split at q1
    · rename_i c' fs e
      split at q1
      · rename_i hh
        obtain ⟨rfl, l⟩ := hh
        obtain ⟨a, dx, fv, ev, hH, hll⟩ := mth_obj hS1 hc r1 e l
        refine ⟨a, dx, fv, ev, hH, hll, ?_⟩
        refine rd_stepE (ev := evEs call es) monF hS1 hE1 q1 fun ds S2 w2 H2 vs y2 e2 hS2 hE2 r2 q2 => ?_
        refine rd_stepE (ev := evEs call kes) monF hS2 hE2 q2 fun zs S3 w3 H3 us y3 e3 hS3 hE3 r3 q3 => ?_
        refine ⟨by rw [r2.length, evEs_len y2, hl], by rw [r3.length, evEs_len y3, c4], w3, S3, pmF (.ref n :: (ds ++ zs)) pm, hS3, pm_rvs (vs := (v :: vs) ++ us) (by simp only [List.cons_append, RVs]; exact ⟨v, _, rfl, RV.ext e3 _ _ (RV.ext e2 _ _ r1), (RVs.ext e3 _ _ r2).append r3⟩) hfl, q3⟩
      · exact q1.elim
    · exact q1.elim
  cases xs with
  | nil =>
    refine (pe_methKW0 (E := WE W) (pos := pos) ho hcl hme F g.room hB (fun σ => passAt g.tk σ) hk (by simpa using hz) c1 c2 c3 (base_of h0) h3).imp fun σ H Q q => ?_
    obtain ⟨w, H0, ε, S, hS, hE, q⟩ := fin q
    refine ⟨w, H0, ε, S, hS, hE, q.imp (fun d S' q w' H' v e hS' r => ?_) fun _ _ q => q⟩
    obtain ⟨a, dx, fs, h1, h2, h3, q2⟩ := q w' H' v e hS' r
    refine ⟨a, dx, fs, h1, h2, h3, ?_⟩
    obtain ⟨w2, H02, ε2, S2, hS2, hE2, q3⟩ := q2
    cases es with
    | nil =>
      simp only [evEs] at q3
      obtain ⟨w4, H04, ε4, S4, hS4, hE4, q4⟩ := q3 w2 H' [] Ext.refl hS2 (by simp [RVs])
      exact ⟨w4, H04, ε4, S4, hS4, hE4, q4.imp (fun d S' q w' H' v e hS' r => (q w' H' v e hS' r).2) fun _ _ q => q⟩
    | cons e es => simp at hl
  | cons y xs => exact (pe_methKW (E := WE W) (pos := pos) ho hcl hme F g.room hB (fun σ => passAt g.tk σ) h hk (by simp) hn hz c1 c2 c3 (base_of h0) h3).imp fun σ H Q q => fin q
/-- what a new instance's maker answers -/
theorem mk_fin {C : Addr} {w : Wd} {H : Hp} {S : Sto} {σ : St} {Q : VK} {ds : List D} {vs : List V} {a dx : Addr} (hS : RSt G w S H) (hc : G.cls c = some C) (hcl : Cls G.K C) (ha : H a = none) (hd : H dx = none) {gs : List V → List V} {gd : List D → List D}
    (hr : ∀ w H v d, RVs G.K w H vs ds → RV G.K w H v d → RVs G.K w H (gs (v :: vs)) (gd (d :: ds))) (r1 : RVs G.K w H vs ds)
    (q : Pst ((call f (gd (.ref S.length :: ds)) (S ++ [.ins c []])).bd fun x S2 => match x with
      | .non => .ok (.ref S.length) S2
      | _ => .stuck) (finP G (RV G.K) Q w H) (PX G W σ w H)) :
    spOf G (call f) (gs (.ref a :: vs)) (insH H a dx C) (fun v H2 => v = .non ∧ Q (.ref a) H2) (WE W σ) := by
  have x1 := ext_ins (C := C) hS ha hd
  refine ⟨_, S ++ [.ins c []], gd (.ref S.length :: ds), rst_ins hS ha hd hc hcl, hr _ _ _ _ (RVs.ext x1 _ _ r1) (rv_ins hS ha), ?_⟩
  refine q.bd.imp (fun d S' q w' H' v e hS' r => ?_) fun _ _ q => PXe.ext x1 q
  cases d <;> try exact q.elim
  simp only [RV] at r
  exact ⟨r, q w' H' (.ref a) (x1.trans e) hS' (RV.ext e _ _ (rv_ins hS ha))⟩
theorem s_mk (g : Good T G call N sc fn W k X) (hg : glB sc c = true) (hm : T.mkB f c = true) (hd : T.dvB f (xs.length + 1) dv = true) (hl : es.length = xs.length) (h : JA G W X xs (evEs call es)) (hn : xs.all notStar = true) :
    JE G W X (.Call (.Name c p1) xs [] pos) (evE call (.mk f c es dv)) := by
  obtain ⟨C, a, fd, ps, hmg, hc, hcl, hmk, F, hb⟩ := g.lw.mkd f c hm
  obtain ⟨hfl, ds, hv, hB⟩ := hb.1 _ dv hd
  have hcl' : Cls G.K C := by rw [g.lw.hK]; exact hcl
  have fin : ∀ {σ : St} {H : Hp} {Q : VK}, rd G W (RV G.K) (evE call (.mk f c es dv)) σ H Q → rd G W (RVs G.K) (evEs call es) σ H (fun vs H1 => ∀ x dx, H1 x = none → H1 dx = none → dx ≠ x → spOf G (call f) (.ref x :: (vs ++ dv.map vOf)) (insH H1 x dx C) (fun v H2 => v = .non ∧ Q (.ref x) H2) (WE W σ)) := by
    rintro σ H Q ⟨w, H0, ε, S, hS, hE, q⟩
    simp only [evE] at q
    refine rd_step (ev := evEs call es) monF hS hE q fun ds1 S1 w1 H1 vs e1 hS1 hE1 r1 q1 => ?_
    intro x dx hx hdx _
    exact mk_fin hS1 hc hcl' hx hdx (gs := fun vs => vs ++ dv.map vOf) (gd := fun ds => ds ++ dv) (fun w H v d rr rv => by simp only [List.cons_append, RVs]; exact ⟨v, _, rfl, rv, rr.append (rvs_flat hfl)⟩) r1 q1
  cases xs with
  | nil =>
    refine (⟨fun pins s σ H Q I h => ?_⟩ : PE X (.Call (.Name c p1) [] [] pos) (fun σ H Q => ∀ x dx, H x = none → H dx = none → dx ≠ x → spOf G (call f) (.ref x :: dv.map vOf) (insH H x dx C) (fun v H2 => v = .non ∧ Q (.ref x) H2) (WE W σ))).imp fun σ H Q q => ?_
    · refine wpAny_Call_Name_kw (ld_glob I (g.gl hg) hmg ?_ (gl_of hg).2)
      exact PySem.W.callWith_K0 I.kIn hmk.kp (run_makeSD (E := WE W) (us := []) (vs := []) hmk F g.rm hB hv (passAt g.tk σ) I .nil h)
    · obtain ⟨w, H0, ε, S, hS, hE, q⟩ := fin q
      cases es with
      | nil =>
        simp only [evEs] at q
        exact q w H [] Ext.refl hS (by simp [RVs])
      | cons e es => simp at hl
  | cons y xs =>
    simp only [List.all_cons, Bool.and_eq_true] at hn
    refine (⟨fun pins s σ H Q I q => ?_⟩ : PE X (.Call (.Name c p1) (y :: xs) [] pos) (fun σ H Q => rd G W (RVs G.K) (evEs call es) σ H (fun vs H1 => ∀ x dx, H1 x = none → H1 dx = none → dx ≠ x → spOf G (call f) (.ref x :: (vs ++ dv.map vOf)) (insH H1 x dx C) (fun v H2 => v = .non ∧ Q (.ref x) H2) (WE W σ)))).imp fun σ H Q q => fin q
    refine wpAny_Call_Name_kw (ld_glob I (g.gl hg) hmg ?_ (gl_of hg).2)
    refine PySem.W.callWith_K (h₀ := X.base) I.ok.mod.kin hmk.kp (thn (h.run pos pins s σ H _ I q) fun us s1 ⟨vs, H1, I1, r, q1⟩ => ⟨I1.kIn, ?_⟩) (starEach_cons hn.1) (starAll hn.2)
    exact run_makeSD (E := WE W) hmk F g.rm hB hv (passAt g.tk σ) I1 r q1
theorem s_mkK (g : Good T G call N sc fn W k X) {y : Expr} (hg : glB sc c = true) (hm : T.mkB f c = true) (hd : T.kwB f (xs.length + 2) ks pm = true) (hl : es.length = xs.length + 1) (h : JA G W X (y :: xs) (evEs call es)) (hn : (y :: xs).all notStar = true) (hk : JK G W X kws (evEs call kes)) (hcs : chKs T N kes sc fn kws ks = true) :
    JE G W X (.Call (.Name c p1) (y :: xs) kws pos) (evE call (.mkK f c es ks kes pm)) := by
  obtain ⟨C, a, fd, ps, hmg, hc, hcl, hmk, F, _, hb⟩ := g.lw.mkd f c hm
  obtain ⟨hfl, gg, hB⟩ := hb _ ks pm hd
  have hcl' : Cls G.K C := by rw [g.lw.hK]; exact hcl
  obtain ⟨c1, c2, c3, c4⟩ := chKs_all (pos := pos) (env := X.env) hcs
  simp only [List.all_cons, Bool.and_eq_true] at hn
  have key : PE X (.Call (.Name c p1) (y :: xs) kws pos) (fun σ H Q => rd G W (RVs G.K) (evEs call es) σ H fun vs H1 => rd G W (RVs G.K) (evEs call kes) σ H1 fun zs H2 => vs.length = xs.length + 1 ∧ zs.length = ks.length ∧ ∀ x dx, H2 x = none → H2 dx = none → dx ≠ x → spOf G (call f) (pmV ((.ref x :: vs) ++ zs) pm) (insH H2 x dx C) (fun v H2 => v = .non ∧ Q (.ref x) H2) (WE W σ)) := by
    refine ⟨fun pins s σ H Q I q => ?_⟩
    refine wpAny_Call_Name_kw (ld_glob I (g.gl hg) hmg ?_ (gl_of hg).2)
    refine PySem.W.callWith_KW (h₀ := X.base) I.ok.mod.kin hmk.kp c1 (thn (h.run pos pins s σ H _ I q) fun us s1 ⟨vs, H1, I1, r, q1⟩ => ?_) (by rw [starEach_cons hn.1]; show (false || (backTo pos (starEach xs X.env)).any (·.1) || _) = false; rw [starAll hn.2, c3]; rfl) (starEach_cons hn.1)
    refine thn (hk.run pos pins s1 σ H1 _ I1 q1) fun ws s2 ⟨zs, H2, I2, rz, l1, l2, q2⟩ => ⟨I2.kIn, ?_⟩
    rw [c2]
    exact run_makeKW (E := WE W) hmk F g.rm hB (passAt g.tk σ) I2 r rz l1 l2 q2
  refine key.imp fun σ H Q q => ?_
  obtain ⟨w, H0, ε, S, hS, hE, q⟩ := q
  simp only [evE] at q
  refine rd_stepE (ev := evEs call es) monF hS hE q fun ds S2 w2 H2 vs y2 e2 hS2 hE2 r2 q2 => ?_
  refine rd_stepE (ev := evEs call kes) monF hS2 hE2 q2 fun zs S3 w3 H3 us y3 e3 hS3 hE3 r3 q3 => ?_
  refine ⟨by rw [r2.length, evEs_len y2, hl], by rw [r3.length, evEs_len y3, c4], fun x dx hx hdx _ => ?_⟩
  exact mk_fin hS3 hc hcl' hx hdx (vs := vs ++ us) (ds := ds ++ zs) (gs := fun vs => pmV vs pm) (gd := fun ds => pmF ds pm) (fun w H v d rr rv => pm_rvs (by simp only [RVs]; exact ⟨v, _, rfl, rv, rr⟩) hfl) ((RVs.ext e3 _ _ r2).append r3) q3
end
end BX
set_option Elab.async false
set_option linter.all false
set_option maxRecDepth 100000
set_option maxHeartbeats 2000000
/-! BX4d: primitives as tests. -/
namespace BX
open PySem L2
open PyProof.Rows hiding St Binds

section
variable {T : Tb} {G : Gx} {call : Call} {N : List Str} {sc : Scope} {fn : Str → Bool} {W : WX} {k : Nat} {X : Cx} {pos p1 ap : Pos}
def cmpPr : Pr → Bool
  | .din | .dnin | .deq | .dne | .lemp | .lnemp => true
  | _ => false
theorem prF_bl {p : Pr} (h : cmpPr p = true) {ds : List D} {S S' : Sto} {d : D} (e : prF p ds S = .ok d S') : ∃ k, d = .bl k := by
  cases p <;> simp only [cmpPr, Bool.false_eq_true] at h
  all_goals
    rcases ds with _ | ⟨a, _ | ⟨b, _ | ⟨c, ds⟩⟩⟩ <;> simp only [prF] at e <;> try cases e
    split at e <;> try cases e
  all_goals first | exact ⟨_, rfl⟩ | skip
  · rename_i ks vs js us _ _
    cases q : eqDct ks vs js us with
    | none => rw [q] at e; cases e
    | some k => rw [q] at e; cases e; exact ⟨_, rfl⟩
  · rename_i ks vs js us _ _
    cases q : eqDct ks vs js us with
    | none => rw [q] at e; cases e
    | some k => rw [q] at e; cases e; exact ⟨_, rfl⟩
theorem prim_test {p : Pr} {es : List Ex} {σ : St} {H : Hp} {Q : Bool → Hp → Prop} (h : cmpPr p = true) (q : rd G W eqR (evT call (.prim p es)) σ H Q) :
    rd G W (RV G.K) (evE call (.prim p es)) σ H (fun v H => ∃ d, v = .bl d ∧ Q d H) := by
  obtain ⟨w, H0, ε, S, hS, hE, q⟩ := q
  refine ⟨w, H0, ε, S, hS, hE, ?_⟩
  simp only [evT] at q
  simp only [evE]
  cases e : evOs call es ε S with
  | stuck => rw [e] at q; exact q.elim
  | exc x S1 => rw [e] at q; exact q
  | ok ds S1 =>
    rw [e] at q
    simp only [R.bd_ok] at q ⊢
    cases e2 : prF p ds S1 with
    | stuck => rw [e2] at q; exact q.elim
    | exc x S1 => rw [e2] at q; exact q
    | ok d S2 =>
      rw [e2] at q
      obtain ⟨kk, rfl⟩ := prF_bl h e2
      simp only [R.bd_ok, truF, R.of_some] at q
      intro w' H' v x hS' r
      simp only [RV] at r
      exact ⟨kk, r, q w' H' kk x hS' rfl⟩
theorem prX_tru {p : Pr} {e : Expr} {xs : List Expr} (hc : cmpPr p = false) (h : prX p sc e = some xs) (env : PySem.Env) : ∀ whole, isTrue e env whole = (do let v ← whole; standAt e.pos; holding [v] (truthy v)) := by
  cases p <;> simp only [cmpPr] at hc
  case dnew => simp only [prX] at h; split at h <;> first | (intro _; rfl) | cases h
  case ndnew => simp only [prX] at h; split at h <;> first | (intro _; rfl) | cases h
  case dget => simp only [prX] at h; split at h <;> first | (intro _; rfl) | cases h
  case dget1 => obtain ⟨_, _, _, _, rfl, _⟩ := atX_some h; intro _; rfl
  case dget2 => obtain ⟨_, _, _, _, _, rfl, _⟩ := atX2_some h; intro _; rfl
  case join y => simp only [prX] at h; split at h <;> first | (intro _; rfl) | cases h
  case fld f => simp only [prX] at h; split at h <;> first | (intro _; rfl) | cases h
  case tlt => simp [prX] at h
  all_goals first | exact Bool.noConfusion hc | (obtain ⟨_, _, _, rfl, _⟩ := blX_some h; intro _; rfl)
theorem t_prim (g : Good T G call N sc fn W k X) {p : Pr} {es : List Ex} {e : Expr} {xs : List Expr} (h : prX p sc e = some xs) (hok : prOk p es = true) (js : JOs G W X call xs es) : JT G W X e (evT call (.prim p es)) := by
  have hu : X.A.units + 1 < cLine := by have := g.room.units; omega
  by_cases hc : cmpPr p = true
  · cases p <;> simp only [cmpPr, Bool.false_eq_true] at hc
    case din =>
      obtain ⟨x, y, pos, rfl, hb, rfl⟩ := cmX_some h
      cases js with | cons j1 je1 js => cases js with | cons j2 je2 js => cases js with | nil =>
      refine (pt_cmp (pc_din hu j1 j2) hb).imp fun σ H Q q0 => ?_
      have q := prim_test rfl q0
      refine rd_os2 q fun w S2 H2 d v d2 u hS2 r1 r2 q2 => ?_
      simp only [prF] at q2
      split at q2
      · rename_i ks vs kk hd hk
        obtain ⟨a, kvs, rfl, h1, h2, h3⟩ := dr_dct hS2 r2 hd
        refine ⟨a, _, rfl, .inl ⟨kvs, kk, h1, key_of r1 hk, rfl⟩, ?_⟩
        rw [← getK_isSome h2 h3]
        exact q2 _ _ _ Ext.refl hS2 RV_bl
      · exact q2.elim
    case dnin =>
      obtain ⟨x, y, pos, rfl, hb, rfl⟩ := cmX_some h
      cases js with | cons j1 je1 js => cases js with | cons j2 je2 js => cases js with | nil =>
      refine (pt_cmp (pc_dnotin hu j1 j2) hb).imp fun σ H Q q0 => ?_
      have q := prim_test rfl q0
      refine rd_os2 q fun w S2 H2 d v d2 u hS2 r1 r2 q2 => ?_
      simp only [prF] at q2
      split at q2
      · rename_i ks vs kk hd hk
        obtain ⟨a, kvs, rfl, h1, h2, h3⟩ := dr_dct hS2 r2 hd
        refine ⟨a, _, rfl, .inl ⟨kvs, kk, h1, key_of r1 hk, rfl⟩, ?_⟩
        rw [← getK_isSome h2 h3]
        exact q2 _ _ _ Ext.refl hS2 RV_bl
      · exact q2.elim
    case deq =>
      obtain ⟨x, y, pos, rfl, hb, rfl⟩ := cmX_some h
      cases js with | cons j1 je1 js => cases js with | cons j2 je2 js => cases js with | nil =>
      refine (pt_cmpR (deq_ok g.lw.hK g.room.units) j1 j2 hb).imp fun σ H Q q0 => ?_
      have q := prim_test rfl q0
      refine rd_os2 q fun w S2 H2 d v d2 u hS2 r1 r2 q2 => ?_
      simp only [prF] at q2
      split at q2
      · rename_i ks vs js us h1 h2
        obtain ⟨x, hx, q3⟩ := q2.of
        cases he : eqDct ks vs js us with
        | none => rw [he] at hx; cases hx
        | some k =>
          rw [he] at hx
          cases hx
          exact ⟨w, S2, d, d2, ks, vs, js, us, k, hS2, r1, r2, h1, h2, he, q3 _ _ _ Ext.refl hS2 RV_bl⟩
      · exact q2.elim
    case dne =>
      obtain ⟨x, y, pos, rfl, hb, rfl⟩ := cmX_some h
      cases js with | cons j1 je1 js => cases js with | cons j2 je2 js => cases js with | nil =>
      refine (pt_cmpR (dne_ok g.lw.hK g.room.units) j1 j2 hb).imp fun σ H Q q0 => ?_
      have q := prim_test rfl q0
      refine rd_os2 q fun w S2 H2 d v d2 u hS2 r1 r2 q2 => ?_
      simp only [prF] at q2
      split at q2
      · rename_i ks vs js us h1 h2
        obtain ⟨x, hx, q3⟩ := q2.of
        cases he : eqDct ks vs js us with
        | none => rw [he] at hx; cases hx
        | some k =>
          rw [he] at hx
          cases hx
          exact ⟨w, S2, d, d2, ks, vs, js, us, k, hS2, r1, r2, h1, h2, he, q3 _ _ _ Ext.refl hS2 RV_bl⟩
      · exact q2.elim
    case lemp =>
      obtain ⟨x, p, pos, rfl, rfl⟩ := emX_some h
      cases js with | cons j1 je1 js => cases js with | nil =>
      refine (pt_cmpR (op_eq0 (by omega)) j1 (pe_lst pa_nil) rfl).imp fun σ H Q q0 => ?_
      have q := prim_test rfl q0
      refine rd_os1 q fun w S2 H2 d v hS2 r1 q2 => ?_
      simp only [prF] at q2
      split at q2
      · rename_i l hd
        obtain ⟨a, vs, rfl, h1, h2⟩ := dr_lst hS2 r1 hd
        refine ⟨by show 0 ≤ _; omega, fun p hp => ⟨a, p, vs, rfl, rfl, Rd.keep h1 (fun _ z => nomatch z) fun o e _ => by rw [upd_ne (fun z => by subst z; rw [hp] at e; cases e)]; exact e, .inl upd_same, ?_⟩⟩
        have e : vs.isEmpty = l.isEmpty := by have := h2.length; cases vs <;> cases l <;> simp at this ⊢
        rw [e]
        exact q2 _ _ _ (ext_tmp hp) (rst_tmp hS2 hp) RV_bl
      · exact q2.elim
    case lnemp =>
      obtain ⟨x, p, pos, rfl, rfl⟩ := emX_some h
      cases js with | cons j1 je1 js => cases js with | nil =>
      refine (pt_cmpR (op_ne0 (by omega)) j1 (pe_lst pa_nil) rfl).imp fun σ H Q q0 => ?_
      have q := prim_test rfl q0
      refine rd_os1 q fun w S2 H2 d v hS2 r1 q2 => ?_
      simp only [prF] at q2
      split at q2
      · rename_i l hd
        obtain ⟨a, vs, rfl, h1, h2⟩ := dr_lst hS2 r1 hd
        refine ⟨by show 0 ≤ _; omega, fun p hp => ⟨a, p, vs, rfl, rfl, Rd.keep h1 (fun _ z => nomatch z) fun o e _ => by rw [upd_ne (fun z => by subst z; rw [hp] at e; cases e)]; exact e, .inl upd_same, ?_⟩⟩
        have e : vs.isEmpty = l.isEmpty := by have := h2.length; cases vs <;> cases l <;> simp at this ⊢
        rw [e]
        exact q2 _ _ _ (ext_tmp hp) (rst_tmp hS2 hp) RV_bl
      · exact q2.elim
  · refine (t_val g (je_toO (s_prim g h hok js)) (prX_tru (by simpa using hc) h X.env)).imp fun σ H Q q => ?_
    obtain ⟨w, H0, ε, S, hS, hE, q⟩ := q
    exact ⟨w, H0, ε, S, hS, hE, by simpa only [evT, evE] using q⟩
theorem prX_bool {p : Pr} {o : BoolOp} {es : List Expr} {q : Pos} : prX p sc (.BoolOp o es q) = none := by
  cases p <;> rfl
end
end BX
set_option Elab.async false
set_option linter.all false
set_option maxRecDepth 100000
set_option maxHeartbeats 2000000
/-! BX4e: sorted and min by a lambda. -/
namespace BX
open PySem L2
open PyProof.Rows hiding St Binds
open _root_.LamX (lamEnv lamCx CodeO ExtN Tabs)
open PySem.W (AllAlike Sortable alike dataLe EachIs)

section
variable {K : PySem.W.Frag} {w : Wd} {H0 H : Hp} {σ : St} {ε : Env}
theorem REn.set (h : REn K w H0 σ H ε) {v : V} {d : D} (r : RV K w H v d) (i : Nat) : REn K w H0 (σ.set i (some v)) H (ε.set i (.val d)) := by
  refine ⟨by simp [h.len], fun j s e => ?_, fun j l d1 d2 a hne e1 e2 e3 => ?_⟩
  · by_cases hij : i = j
    · subst hij
      have hl : i < ε.length := by
        have := (List.getElem?_eq_some_iff.mp e).1
        simpa using this
      rw [List.getElem?_set_self hl] at e
      cases e
      refine ⟨v, ?_, r⟩
      rw [List.getElem?_set_self (by rw [h.len]; exact hl)]
    · rw [List.getElem?_set_ne hij] at e ⊢
      exact h.sl j s e
  · have hj : i ≠ j := fun z => by
      subst z
      have hl : i < ε.length := by
        have := (List.getElem?_eq_some_iff.mp e1).1
        simpa using this
      rw [List.getElem?_set_self hl] at e1
      cases e1
    have hl : i ≠ l := fun z => by
      subst z
      have hl : i < ε.length := by
        have := (List.getElem?_eq_some_iff.mp e2).1
        simpa using this
      rw [List.getElem?_set_self hl] at e2
      cases e2
    rw [List.getElem?_set_ne hj] at e1 e3
    rw [List.getElem?_set_ne hl] at e2 ⊢
    exact h.ap j l d1 d2 a hne e1 e2 e3
end
theorem keyPy_some {ks : List D} {kz : List PyData} (h : keyPy ks = some kz) : toPys ks = some kz ∧ AllAlike kz ∧ Sortable kz ∧ (∀ d ∈ kz, d.depth ≤ 60) ∧ ∀ d ∈ kz, d ≠ .none := by
  unfold keyPy at h
  split at h
  · rename_i kz' e
    split at h
    · rename_i hc
      cases h
      obtain ⟨h1, h2, h3, h4⟩ := hc
      refine ⟨e, fun d hd d' hd' => ?_, ?_, h3, fun d hd z => ?_⟩
      · rw [List.all_eq_true] at h1
        have := h1 d hd
        rw [List.all_eq_true] at this
        exact this d' hd'
      · rcases h2 with h2 | h2
        · rw [List.all_eq_true] at h2
          refine .inl fun d hd => ?_
          have := h2 d hd
          cases d <;> simp only [tup1, Bool.false_eq_true] at this
          rename_i l
          cases l with
          | nil => simp [tup1] at this
          | cons x r => exact ⟨x, r, rfl⟩
        · rw [List.all_eq_true] at h2
          refine .inr fun d hd => ?_
          have := h2 d hd
          exact ⟨fun z => by subst z; simp [noTN] at this, fun xs z => by subst z; simp [noTN] at this⟩
      · rw [List.all_eq_true] at h4
        have := h4 d hd
        subst z
        simp [notN] at this
    · cases h
  · cases h
theorem rvs_each {K : PySem.W.Frag} {w : Wd} {H : Hp} : ∀ {ds : List D} {vs : List V} {kz : List PyData}, RVs K w H vs ds → EachIs (fun (a : V × PyData) (b : D × PyData) => RV K w H a.1 b.1 ∧ a.2 = b.2) (vs.zip kz) (ds.zip kz)
  | [], vs, kz, h => by simp only [RVs] at h; subst h; simp; exact .nil
  | d :: ds, vs, kz, h => by
    simp only [RVs] at h
    obtain ⟨v, r, rfl, h1, h2⟩ := h
    cases kz with
    | nil => exact .nil
    | cons k kz => exact .cons ⟨h1, rfl⟩ (rvs_each h2)
theorem each_rvs {K : PySem.W.Frag} {w : Wd} {H : Hp} : ∀ {as : List (V × PyData)} {bs : List (D × PyData)}, EachIs (fun (a : V × PyData) (b : D × PyData) => RV K w H a.1 b.1 ∧ a.2 = b.2) as bs → RVs K w H (as.map (·.1)) (bs.map (·.1))
  | _, _, .nil => by simp [RVs]
  | _, _, .cons r rs => by simp only [List.map_cons, RVs]; exact ⟨_, _, rfl, r.1, each_rvs rs⟩
theorem each_mem {α β : Type} {R : α → β → Prop} : ∀ {as : List α} {bs : List β}, EachIs R as bs → ∀ p ∈ as.zip bs, R p.1 p.2
  | _, _, .nil, p, h => by simp at h
  | _, _, .cons r rs, p, h => by
    rcases List.mem_cons.mp (by simpa using h) with rfl | h
    · exact r
    · exact each_mem rs p h
theorem sortV_rel {K : PySem.W.Frag} {w : Wd} {H : Hp} {ds : List D} {vs : List V} {kz : List PyData} (h : RVs K w H vs ds) : RVs K w H (sortV vs kz) (sortV ds kz) := by
  have e := rvs_each (kz := kz) h
  unfold sortV
  refine each_rvs (PySem.W.sort_each e fun p hp q hq => ?_)
  have h1 := (each_mem e p hp).2
  have h2 := (each_mem e q hq).2
  rw [PySem.W.dataLe_eq, PySem.W.dataLe_eq]
  simp only [h1, h2]
theorem lamPar_some {params : Arguments} {x : Str} (h : lamPar params = some x) : ∃ a, params = ⟨[], [a], none, [], [], none, []⟩ ∧ x = a.arg := by
  unfold lamPar at h
  split at h
  · cases h; exact ⟨_, rfl, rfl⟩
  · cases h
theorem lam_binds {a : Arg} {q : Str} {body : Expr} {scope : Scope} {cl : List (Str × Addr)} {pm cv ctv u : Value} : bindArgs (PySem.W.kla_fn "<lambda>" q ⟨[], [a], none, [], [], none, []⟩ body scope cl pm cv ctv) ⟨[u], []⟩ = pure [(a.arg, u)] := by
  unfold bindArgs PySem.W.kla_fn
  simp [seqItems?, List.lookup]
  rfl
theorem rst_lam {G : Gx} {w : Wd} {S : Sto} {H H1 : Hp} (hS : RSt G w S H) (eN : ExtN H H1) (T1 : Tabs G.tabs H1) (dm : ∀ b, H b ≠ none → H1 b ≠ none) : Ext w H w H1 ∧ RSt G w S H1 := by
  have e : Ext w H w H1 := ⟨⟨[], by simp, fun _ z => by simp at z⟩, fun _ h => h, fun _ h => .inl h, fun a o h _ n => eN a o h n, dm, fun a o u h => eN a _ h fun _ z => nomatch z⟩
  have same : ∀ a, H a ≠ none → NT (H a) → H1 a = H a := fun a h n => by
    cases q : H a with
    | none => exact absurd q h
    | some o => exact eN a o q fun ps z => n.1 ps (by rw [q, z])
  refine ⟨e, hS.len, fun n o q => ?_, fun a h => ?_, T1⟩
  · obtain ⟨a, e1, k⟩ := hS.ob n o q
    exact ⟨a, e1, k.ext e (same a k.ne k.nt)⟩
  · obtain ⟨h1, h2⟩ := hS.phi a h
    rw [same a h1 h2]
    exact ⟨h1, h2⟩
theorem RSt.rhoNT {G : Gx} {w : Wd} {S : Sto} {H : Hp} (r : RSt G w S H) : ∀ a ∈ w.ρ, NT (H a) := fun a h => by
  obtain ⟨n, hn, e⟩ := List.mem_iff_getElem.mp h
  have hs : n < S.length := by rw [← r.len]; exact hn
  obtain ⟨b, e1, h1⟩ := r.ob n S[n] (by simp [hs])
  have : a = b := by rw [List.getElem?_eq_getElem hn] at e1; rw [← e]; exact Option.some.inj e1
  subst this
  exact h1.nt
theorem room_in1 {k : Nat} {A : Around} (r : Room (k + 1) A) : Room k A.in1 := r.in1
theorem room_in2 {k : Nat} {A : Around} (r : Room (k + 1) A) : Room k A.in1.in1 :=
  ⟨r.hd, by have := r.dp; show A.depth + 3 * k + 5 < _; omega, by have := r.un; show A.units + 1 + 1 + 16 * k + 200 < _; omega⟩
section
variable {T : Tb} {G : Gx} {call : Call} {N : List Str} {sc : Scope} {fn : Str → Bool} {W : WX} {k i : Nat} {X : Cx} {pos p1 lp kp : Pos} {l key : Ex} {z body : Expr} {params : Arguments} {scope : Scope}
/-- an item's key -/
noncomputable def keyF (call : Call) (key : Ex) (i : Nat) (ε : Env) : D → Sto → R (Option D) := fun d S => (evE call key (ε.set i (.val d)) S).bd fun k S' => .ok (some k) S'
/-- what holds between two keys: keys told, the rest to come -/
structure KP (G : Gx) (call : Call) (key : Ex) (i : Nat) (ε : Env) (ds kall : List D) (S2 : Sto) (w : Wd) (H : Hp) (c' : Addr) (q : Str) (ks : List V) (H1 : Hp) : Prop where
  ex : ∃ w1 S1 kds rest, Ext w H w1 H1 ∧ RSt G w1 S1 H1 ∧ RVs G.K w1 H1 ks kds ∧ lcL (keyF call key i ε) (ds.drop ks.length) S1 = .ok rest S2 ∧ kds ++ rest = kall ∧ H1 c' = some (CodeO c' q)
theorem key_turn (g : Good T G call N sc fn W k X) (hT : T.lam N key scope body = true) {x : Str} (hi : N[i]? = some x) {a : Arg} (ha : x = a.arg) (L : Lam1 X.env.scope scope x) {A : Around} (hA : Room (4 * k + 2) A) (hfr : A.frames = X.A.frames)
    {w : Wd} {H0 H : Hp} {σ : St} {ε : Env} {ds kall : List D} {vs : List V} {S2 : Sto} {f c' : Addr} {pm ctv : Value} (hE : REn G.K w H0 σ H ε) (hv : RVs G.K w H vs ds) {ks : List V} {v : V} {u : Value} {pins1 : List (Addr × Obj)} {s1 : Shared} {H1 : Hp} {E : Value → Shared → Prop}
    (hf : s1.heap.get? f = some (PySem.W.kla_obj "<lambda>" (X.env.qual ++ "<lambda>") ⟨[], [a], none, [], [], none, []⟩ body scope (cloFrom X.env.cells scope.names []) pm c' ctv)) (hvv : vs[ks.length]? = some v) (ru : RelV v u) (I : Inv X pins1 σ H1 s1)
    (hP : KP G call key i ε ds kall S2 w H c' (X.env.qual ++ "<lambda>") ks H1) :
    wpAny (model X.prog X.w) A (PySem.call (.ref f) [u]) (EP X pins1 σ fun kk H2 => KP G call key i ε ds kall S2 w H c' (X.env.qual ++ "<lambda>") (ks ++ [kk]) H2) E s1 := by
  obtain ⟨w1, S1, kds, rest, e1, hS1, rk, hl, hall, hc⟩ := hP.ex
  have hj : ks.length < ds.length := by
    have := (List.getElem?_eq_some_iff.mp hvv).1
    rw [hv.length] at this
    exact this
  obtain ⟨v', hv', rd'⟩ := hv.get (i := ks.length) (d := ds[ks.length]) (by simp [hj])
  rw [hvv] at hv'
  cases hv'
  rw [List.drop_eq_getElem_cons hj] at hl
  simp only [lcL] at hl
  have hkF : keyF call key i ε ds[ks.length] S1 = (evE call key (ε.set i (.val ds[ks.length])) S1).bd fun k S' => .ok (some k) S' := rfl
  rw [hkF] at hl
  cases hk : evE call key (ε.set i (.val ds[ks.length])) S1 with
  | stuck => rw [hk] at hl; cases hl
  | exc _ _ => rw [hk] at hl; cases hl
  | ok kd S3 =>
    rw [hk] at hl
    simp only [R.bd_ok] at hl
    cases hr : lcL (keyF call key i ε) (ds.drop (ks.length + 1)) S3 with
    | stuck => rw [hr] at hl; cases hl
    | exc _ _ => rw [hr] at hl; cases hl
    | ok rest' S4 =>
      rw [hr] at hl
      cases hl
      subst ha
      refine lam_call1 (k := 4 * k + 1) (i := i) (x := a.arg) (tb := rd G (fun _ _ _ _ => False) (RV G.K) (evE call key)) I L hfr hf hc (fun u => lam_binds) (by rw [g.hN]; exact g.nd) (by rw [g.hN]; exact hi) hA ru
        (fun s H hr => g.lamS key scope body hT _ ⟨rfl, g.hN, rfl, hr, rfl, rfl, rfl, rfl, rfl⟩) ?_
      refine ⟨w1, H0, ε.set i (.val ds[ks.length]), S1, hS1, (hE.ext e1).set (RV.ext e1 _ _ rd') i, ?_⟩
      rw [hk]
      intro w2 H2 kv e2 hS2 rk2
      refine ⟨w2, S3, kds ++ [kd], rest', e1.trans e2, hS2, (RVs.ext e2 _ _ rk).append (by simp only [RVs]; exact ⟨kv, [], rfl, rk2, rfl⟩), ?_, by rw [List.append_assoc]; exact hall, e2.keep c' _ hc (fun zz => (hS1.rhoNT c' zz).2 _ hc) (fun ps z => by unfold CodeO at z; cases z)⟩
      rw [List.length_append]
      exact hr
theorem lamPB_some {sc : Scope} {params : Arguments} {scope : Scope} (h : lamPB N i sc params scope = true) : ∃ a, params = ⟨[], [a], none, [], [], none, []⟩ ∧ N[i]? = some a.arg ∧ Lam1 sc scope a.arg := by
  unfold lamPB at h
  split at h
  · rename_i x e
    obtain ⟨a, h1, rfl⟩ := lamPar_some e
    simp only [Bool.and_eq_true, decide_eq_true_eq] at h
    exact ⟨a, h1, h.1, lam1_by h.2⟩
  · cases h
/-- what is asked ahead of the keys -/
def tK (G : Gx) (W : WX) (ev : Env → List D → Sto → R D) : V → St → Hp → VK → Prop := fun v σ H Q =>
  ∃ w H0 ε S ds, RSt G w S H ∧ REn G.K w H0 σ H ε ∧ RV G.K w H v (.lst ds) ∧ Pst (ev ε ds S) (finP G (RV G.K) Q w H) (PX G W σ w H)
theorem tK_of {l : Ex} {ev : Env → List D → Sto → R D} {e2 : Ex} (he : ∀ ε S, evE call e2 ε S = (evE call l ε S).bd fun x S1 => match x with | .lst ds => ev ε ds S1 | _ => .stuck) {σ : St} {H : Hp} {Q : VK} (q : rd G W (RV G.K) (evE call e2) σ H Q) :
    rd G W (RV G.K) (evE call l) σ H fun v H1 => tK G W ev v σ H1 Q := by
  obtain ⟨w, H0, ε, S, hS, hE, q⟩ := q
  rw [he] at q
  refine rd_step (ev := evE call l) monF hS hE q fun d1 S1 w1 H1 v e1 hS1 hE1 r1 q1 => ?_
  cases d1 <;> try exact q1.elim
  exact ⟨w1, H0, ε, S1, _, hS1, hE1, r1, q1⟩
noncomputable def srtR (call : Call) (key : Ex) (i : Nat) : Env → List D → Sto → R D := fun ε ds S1 => match lcL (keyF call key i ε) ds S1 with
  | .ok ks S2 => R.of S2 ((keyPy ks).map fun kz => .lst (sortV ds kz))
  | _ => .stuck
noncomputable def minR (call : Call) (key : Ex) (i : Nat) : Env → List D → Sto → R D := fun ε ds S1 => match lcL (keyF call key i ε) ds S1 with
  | .ok ks S2 => R.of S2 ((keyPy ks).bind fun kz => ds[argBest (btK kz) (ds.length - 1)]?)
  | _ => .stuck
theorem s_srtK (g : Good T G call N sc fn W k X) (hg : glB sc "sorted" = true) (hn : notStar z = true) (hp : lamPB N i sc params scope = true) (hT : T.lam N key scope body = true) (hl : JE G W X z (evE call l)) :
    JE G W X (.Call (.Name "sorted" p1) [z] [⟨some "key", .Lambda params body scope lp, kp⟩] pos) (evE call (.srtK l i key)) := by
  obtain ⟨hr, LC⟩ := g.lamC ⟨_, _, _, hT⟩
  obtain ⟨a, rfl, hi, L⟩ := lamPB_some hp
  have L' : Lam1 X.env.scope scope a.arg := by rw [g.hsc]; exact L
  refine (pe_lamKey (T := G.tabs) (tt := tK G W (srtR call key i)) (g.gl hg) g.lw.srt PyProof.Rows.boot_sorted hl LC L' rfl (fun σ H v Q ⟨w, H0, ε, S, ds, hS, _⟩ => hS.tab) (fun pins s σ H0h H v u Q f c' pm ctv I ru q eN T1 dm hco => ?_) (by decide) (gl_of hg).2 (starEach_cons hn)).imp
    fun σ H Q q => tK_of (fun ε S => by simp only [evE]; rfl) q
  obtain ⟨w, H0, ε, S, ds, hS, hE, rv, q⟩ := q
  obtain ⟨e, hS'⟩ := rst_lam hS eN T1 dm
  have rv' := RV.ext e _ _ rv
  simp only [RV] at rv'
  obtain ⟨p, vs, rfl, hIm, hvs⟩ := rv'
  obtain rfl : u = Value.ref p := ru
  unfold srtR at q
  cases hL : lcL (keyF call key i ε) ds S with
  | stuck => rw [hL] at q; exact q.elim
  | exc _ _ => rw [hL] at q; exact q.elim
  | ok kall S2 =>
    rw [hL] at q
    obtain ⟨dd, hd, q2⟩ := q.of
    cases hk : keyPy kall with
    | none => rw [hk] at hd; cases hd
    | some kz =>
      rw [hk] at hd
      cases hd
      obtain ⟨k1, k2, k3, k4, k5⟩ := keyPy_some hk
      refine sorted_keyV I (.inl hIm.2) (KP G call key i ε ds kall S2 w H c' (X.env.qual ++ "<lambda>")) ⟨w, S, [], kall, Ext.refl, hS', by simp [RVs], by simpa using hL, by simp, hco⟩ (fun ks v u pins1 s1 H1 hsub hvv ru I1 hP => ?_) (fun ks H1 hP hlen => ?_)
      · exact key_turn g hT hi rfl L' (room_in2 hr) rfl (hE.ext e) hvs (I1.pin _ (List.mem_append_right _ (hsub _ (List.mem_cons_self ..)))).1 hvv ru I1 hP
      · obtain ⟨w1, S1, kds, rest, e1, hS1, rk, hl2, hall, _⟩ := hP.ex
        rw [List.drop_of_length_le (by rw [hlen, hvs.length]; exact Nat.le_refl _)] at hl2
        simp only [lcL] at hl2
        cases hl2
        rw [List.append_nil] at hall
        subst hall
        refine ⟨kz, by rw [← g.lw.hK]; exact RVs.dp _ _ _ rk k1, k2, k3, fun d hd => by have := k4 d hd; have := hr.un; omega, fun p hp => ?_⟩
        refine An.lst (ds := sortV ds kz) ?_ hS1 hp (sortV_rel (RVs.ext e1 _ _ hvs))
        exact fun w' H' v e2 hS2 r2 => q2 w' H' v ((e.trans e1).trans e2) hS2 r2
theorem s_minK (g : Good T G call N sc fn W k X) (hg : glB sc "min" = true) (hn : notStar z = true) (hp : lamPB N i sc params scope = true) (hT : T.lam N key scope body = true) (hl : JE G W X z (evE call l)) :
    JE G W X (.Call (.Name "min" p1) [z] [⟨some "key", .Lambda params body scope lp, kp⟩] pos) (evE call (.minK l i key)) := by
  obtain ⟨hr, LC⟩ := g.lamC ⟨_, _, _, hT⟩
  obtain ⟨a, rfl, hi, L⟩ := lamPB_some hp
  have L' : Lam1 X.env.scope scope a.arg := by rw [g.hsc]; exact L
  refine (pe_lamKey (T := G.tabs) (tt := tK G W (minR call key i)) (g.gl hg) (g.lw.blt .min) (blt_boot .min) hl LC L' rfl (fun σ H v Q ⟨w, H0, ε, S, ds, hS, _⟩ => hS.tab) (fun pins s σ H0h H v u Q f c' pm ctv I ru q eN T1 dm hco => ?_) (by decide) (gl_of hg).2 (starEach_cons hn)).imp
    fun σ H Q q => tK_of (fun ε S => by simp only [evE]; rfl) q
  obtain ⟨w, H0, ε, S, ds, hS, hE, rv, q⟩ := q
  obtain ⟨e, hS'⟩ := rst_lam hS eN T1 dm
  have rv' := RV.ext e _ _ rv
  simp only [RV] at rv'
  obtain ⟨p, vs, rfl, hIm, hvs⟩ := rv'
  obtain rfl : u = Value.ref p := ru
  unfold minR at q
  cases hL : lcL (keyF call key i ε) ds S with
  | stuck => rw [hL] at q; exact q.elim
  | exc _ _ => rw [hL] at q; exact q.elim
  | ok kall S2 =>
    rw [hL] at q
    obtain ⟨dd, hd, q2⟩ := q.of
    cases hk : keyPy kall with
    | none => rw [hk] at hd; cases hd
    | some kz =>
      rw [hk] at hd
      simp only [Option.bind_some] at hd
      obtain ⟨k1, k2, k3, k4, k5⟩ := keyPy_some hk
      have hkl : kall.length = ds.length := by
        have : ∀ {ds : List D} {S : Sto} {ks : List D} {S2 : Sto}, lcL (keyF call key i ε) ds S = .ok ks S2 → ks.length = ds.length := by
          intro ds
          induction ds with
          | nil => intro S ks S2 h; simp only [lcL] at h; cases h; rfl
          | cons d ds ih =>
            intro S ks S2 h
            simp only [lcL] at h
            have hkF : keyF call key i ε d S = (evE call key (ε.set i (.val d)) S).bd fun k S' => .ok (some k) S' := rfl
            rw [hkF] at h
            cases hk : evE call key (ε.set i (.val d)) S with
            | stuck => rw [hk] at h; cases h
            | exc _ _ => rw [hk] at h; cases h
            | ok kd S3 =>
              rw [hk] at h
              simp only [R.bd_ok] at h
              cases hr : lcL (keyF call key i ε) ds S3 with
              | stuck => rw [hr] at h; cases h
              | exc _ _ => rw [hr] at h; cases h
              | ok r S4 => rw [hr] at h; cases h; simp [ih hr]
        exact this hL
      have hzl : kz.length = ds.length := by
        have : ∀ {ds : List D} {ps : List PyData}, toPys ds = some ps → ps.length = ds.length := by
          intro ds
          induction ds with
          | nil => intro ps h; simp only [toPys] at h; cases h; rfl
          | cons d ds ih =>
            intro ps h
            simp only [toPys] at h
            split at h
            · rename_i e1 e2; cases h; simp [ih e2]
            · cases h
        rw [this k1, hkl]
      have hne : vs ≠ [] := fun zz => by
        have := hvs.length
        rw [zz] at this
        have h0 : ds = [] := by cases ds <;> simp at this ⊢
        subst h0
        simp at hd
      have M : MinK X ((f, PySem.W.kla_obj "<lambda>" (X.env.qual ++ "<lambda>") ⟨[], [a], none, [], [], none, []⟩ body scope (cloFrom X.env.cells scope.names []) pm c' ctv) :: pins) σ X.A p f vs kz (KP G call key i ε ds kall S2 w H c' (X.env.qual ++ "<lambda>")) := by
        refine ⟨by rw [hzl, hvs.length], fun ks H1 hP => ?_, fun ks H1 hP => ?_, k2, k5, fun d hd => by have := k4 d hd; have := hr.un; show X.A.units + 1 + _ < _; omega, hr.hd, fun ks v u pins1 s1 H1 E hsub hvv ru I1 hP => ?_⟩
        · obtain ⟨w1, S1, kds, rest, e1, hS1, rk, hl2, hall, _⟩ := hP.ex
          exact .inl (e1.toS.imL hIm).2
        · obtain ⟨w1, S1, kds, rest, e1, hS1, rk, hl2, hall, _⟩ := hP.ex
          have : ∀ {a b : List D} {ps : List PyData}, toPys (a ++ b) = some ps → toPys a = some (ps.take a.length) := by
            intro a
            induction a with
            | nil => intro b ps h; simp [toPys]
            | cons x a ih =>
              intro b ps h
              simp only [List.cons_append, toPys] at h
              split at h
              · rename_i p1 p2 e1 e2
                cases h
                simp only [toPys, e1, ih e2, List.length_cons, List.take_succ_cons]
              · cases h
          have h3 := this (by rw [hall]; exact k1)
          rw [← rk.length] at h3
          rw [← g.lw.hK]
          exact RVs.dp _ _ _ rk h3
        · exact key_turn g hT hi rfl L' (room_in1 hr) rfl (hE.ext e) hvs (I1.pin _ (List.mem_append_right _ (hsub _ (List.mem_cons_self ..)))).1 hvv ru I1 hP
      refine min_keyV I M ⟨w, S, [], kall, Ext.refl, hS', by simp [RVs], by simpa using hL, by simp, hco⟩ hne fun v ks H1 hv hP hlen => ?_
      obtain ⟨w1, S1, kds, rest, e1, hS1, rk, hl2, hall, _⟩ := hP.ex
      rw [List.drop_of_length_le (by rw [hlen, hvs.length]; exact Nat.le_refl _)] at hl2
      simp only [lcL] at hl2
      cases hl2
      rw [hvs.length] at hv
      obtain ⟨v', hv', rdd⟩ := hvs.get hd
      rw [hv] at hv'
      cases hv'
      exact q2 w1 H1 v (e.trans e1) hS1 (RV.ext e1 _ _ rdd)
end
end BX
set_option Elab.async false
set_option linter.all false
set_option maxRecDepth 100000
set_option maxHeartbeats 2000000
/-! BX4f: sorted of data; index. -/
namespace BX
open PySem L2
open PyProof.Rows hiding St Binds
section
variable {T : Tb} {G : Gx} {call : Call} {N : List Str} {sc : Scope} {fn : Str → Bool} {W : WX} {k : Nat} {X : Cx} {pos p1 p2 : Pos}
theorem toPys_len : ∀ {ds : List D} {ps : List PyData}, toPys ds = some ps → ps.length = ds.length
  | [], ps, h => by simp only [toPys] at h; cases h; rfl
  | d :: ds, ps, h => by
    simp only [toPys] at h
    split at h
    · rename_i p qs e1 e2
      cases h
      simp [toPys_len e2]
    · cases h
theorem s_srtD (g : Good T G call N sc fn W k X) {a : Ex} {z : Expr} (h1 : glB sc "sorted" = true) (hn : notStar z = true) (ha : JE G W X z (evE call a)) : JE G W X (.Call (.Name "sorted" p1) [z] [] pos) (evE call (.op1 .srtD a)) := by
  have hu : X.A.units + 64 < cLine := by have := g.room.units; omega
  refine (pe_callB (cr_srtD hu) (g.gl h1) g.lw.srt PyProof.Rows.boot_sorted (pa_cons ha pa_nil (starEach_cons hn)) (by decide) (gl_of h1).2 (starEach_cons hn) rfl).imp fun σ H Q q => ?_
  obtain ⟨w, H0, ε, S, hS, hE, q⟩ := q
  simp only [evE] at q
  refine rd_step (ev := evE call a) monF hS hE q fun d1 S1 w1 H1 v e1 hS1 hE1 r1 q1 => ?_
  obtain ⟨d, hd, q2⟩ := q1.of
  cases d1 <;> simp only [op1F] at hd <;> try cases hd
  rename_i l
  cases hk : keyPy l with
  | none => rw [hk] at hd; cases hd
  | some kz =>
    rw [hk] at hd
    cases hd
    obtain ⟨k1, k2, k3, k4, k5⟩ := keyPy_some hk
    simp only [RV] at r1
    obtain ⟨a, vs, rfl, r2, r3⟩ := r1
    refine ⟨a, vs, kz, rfl, .inl r2.2, by rw [← g.lw.hK]; exact RVs.dp _ _ _ r3 k1, by rw [toPys_len k1, r3.length], k2, k3, k4, fun p hp => ?_⟩
    exact An.lst q2 hS1 hp (sortV_rel r3)
theorem dpAll_ints {K : PySem.W.Frag} {H : Hp} : ∀ ns : List Int, DpAll K H (ns.map V.int) (ns.map PyData.int)
  | [] => .nil
  | n :: ns => .cons (.int n) (dpAll_ints ns)
theorem shaped_ints (ns : List Int) : SeqAt.shaped (.list (ns.map PyData.int)) = true := by
  have h1 : ∀ ns : List Int, PyData.canLayAll0 (ns.map PyData.int) = true := fun ns => by
    induction ns with
    | nil => rfl
    | cons n ns ih => simp only [List.map_cons, PyData.canLayAll0, ih, Bool.and_true]; rfl
  have h2 : ∀ ns : List Int, PyData.depthAll (ns.map PyData.int) ≤ 1 := fun ns => by
    induction ns with
    | nil => simp only [List.map_nil, PyData.depthAll]; omega
    | cons n ns ih => simp only [List.map_cons, PyData.depthAll, PyData.depth]; omega
  unfold SeqAt.shaped
  simp only [PyData.canLay0, h1, Bool.true_and]
  refine decide_eq_true ?_
  have := h2 ns
  simp only [PyData.depth]
  omega
theorem s_lidx (g : Good T G call N sc fn W k X) {a b : Ex} {z v : Expr} {ap : Pos} (hn : notStar v = true) (hl : (ap.endLine == pos.line) = true) (h0 : notCall0 z = true) (ha : JE G W X z (evE call a)) (hb : JE G W X v (evE call b)) :
    JE G W X (.Call (.Attribute z "index" ap) [v] [] pos) (evE call (.lidx a b)) := by
  have hu : X.A.units + 65 < cLine := by have := g.rm.un; omega
  have hs := starEach_cons (xs := []) (env := X.env) hn
  refine (pe_bm PySem.F.plainAttrs_list PySem.F.slot_list_index PySem.F.type_list_index (mt_indexD hu) ha (pa_cons hb pa_nil hs) (base_of h0) (by rw [hs]; rfl) hl hs rfl).imp fun σ H Q q => ?_
  obtain ⟨w, H0, ε, S, hS, hE, q⟩ := q
  simp only [evE] at q
  refine rd_step (ev := evE call a) monF hS hE q fun d1 S1 w1 H1 v1 e1 hS1 hE1 r1 q1 => ?_
  cases d1 <;> try exact q1.elim
  rename_i l
  have r0 := r1
  simp only [RV] at r1
  obtain ⟨p, vs, rfl, r2, r3⟩ := r1
  refine ⟨.inl ⟨rfl, _, .inl r2.2⟩, ?_⟩
  refine rd_step (ev := evE call b) monF hS1 hE1 q1 fun d2 S2 w2 H2 v2 e2 hS2 hE2 r4 q2 => ?_
  obtain ⟨d, hd, q3⟩ := q2.of
  cases d2 <;> simp only [idxF] at hd <;> try cases hd
  rename_i i
  cases hi : intsOf l with
  | none => rw [hi] at hd; cases hd
  | some ns =>
    rw [hi] at hd
    simp only [Option.bind_some, Option.map_eq_some_iff] at hd
    obtain ⟨j, hj, rfl⟩ := hd
    obtain rfl := r3.ints hi
    simp only [RV] at r4
    subst r4
    rw [List.findIdx?_eq_some_iff_getElem] at hj
    obtain ⟨hlt, h1, h2⟩ := hj
    simp only [decide_eq_true_eq] at h1 h2
    have r2' := (e2.toS.imL r2).2
    refine ⟨p, .int i, .int i, ns.map .int, j, .int i, rfl, rfl, .lst (.inl r2') (dpAll_ints ns), .int i, shaped_ints ns, rfl, ?_, ?_, fun m z' hm hz => ?_, ?_⟩
    · rw [List.getElem?_map, List.getElem?_eq_getElem hlt, h1]; rfl
    · simp [PyData.eqv]
    · rw [List.getElem?_map, List.getElem?_eq_getElem (by omega)] at hz
      cases hz
      have := h2 m hm
      simp [PyData.eqv, this]
    · exact q3 w2 H2 _ Ext.refl hS2 RV_int
theorem s_orV (g : Good T G call N sc fn W k X) {a b : Ex} {x y : Expr} (ha : JE G W X x (evE call a)) (hb : JE G W X y (evE call b)) : JE G W X (.BoolOp .Or [x, y] pos) (evE call (.orV a b)) := by
  refine (pe_orT ha (pe_one hb)).imp fun σ H Q q => ?_
  obtain ⟨w, H0, ε, S, hS, hE, q⟩ := q
  simp only [evE] at q
  refine rd_step (ev := evE call a) monF hS hE q fun d1 S1 w1 H1 v1 e1 hS1 hE1 r1 q1 => ?_
  cases ht : truF d1 with
  | none => rw [ht] at q1; exact q1.elim
  | some kk =>
    rw [ht] at q1
    simp only [R.of_some, R.bd_ok] at q1
    refine ⟨kk, tru_of g.lw.hK (.inl r1) ht, ?_⟩
    cases kk with
    | true =>
      simp only [if_true] at q1 ⊢
      exact q1 w1 H1 _ Ext.refl hS1 r1
    | false =>
      simp only [Bool.false_eq_true, if_false] at q1 ⊢
      exact ⟨w1, H0, ε, S1, hS1, hE1, q1⟩
end
/-! ### a new instance that nobody will change -/
mutual
/-- all places of the store that are spoken of lie ahead of n -/
def refsLt (n : Nat) : BX.D → Prop
  | .ref m => m < n
  | .tup l => refsLts n l
  | .lst l => refsLts n l
  | .scr l => refsLts n l
  | .dct _ l => refsLts n l
  | .obj _ l => refsLts n l
  | _ => True
def refsLts (n : Nat) : List BX.D → Prop
  | [] => True
  | d :: ds => refsLt n d ∧ refsLts n ds
end
section
variable {K : PySem.W.Frag} {w w' : Wd} {H : Hp}
mutual
theorem RV.lt : ∀ (d : BX.D) (v : V), RV K w H v d → refsLt w.ρ.length d
  | .ref m, v, h => by
    simp only [RV] at h
    obtain ⟨a, h, _⟩ := h
    exact (List.getElem?_eq_some_iff.mp h).1
  | .tup l, v, h => by
    simp only [RV] at h
    obtain ⟨a, vs, _, _, h⟩ := h
    exact RVs.lt l vs h
  | .lst l, v, h => by
    simp only [RV] at h
    obtain ⟨a, vs, _, _, h⟩ := h
    exact RVs.lt l vs h
  | .scr l, v, h => by
    simp only [RV] at h
    obtain ⟨a, vs, _, _, h⟩ := h
    exact RVs.lt l vs h
  | .dct _ l, v, h => by
    simp only [RV] at h
    obtain ⟨a, o, vs, _, _, _, _, h⟩ := h
    exact RVs.lt l _ h
  | .obj _ l, v, h => by
    simp only [RV] at h
    obtain ⟨a, C, dx, vs, _, _, _, _, _, _, h⟩ := h
    exact RVs.lt l _ h
  | .non, _, _ => True.intro
  | .bl _, _, _ => True.intro
  | .int _, _, _ => True.intro
  | .str _, _, _ => True.intro
theorem RVs.lt : ∀ (ds : List BX.D) (vs : List V), RVs K w H vs ds → refsLts w.ρ.length ds
  | [], _, _ => True.intro
  | d :: ds, vs, h => by
    simp only [RVs] at h
    obtain ⟨v, r, _, h1, h2⟩ := h
    exact ⟨RV.lt d v h1, RVs.lt ds r h2⟩
end
/-- the world loses its last places -/
structure CutW (n : Nat) (w w' : Wd) : Prop where
  ρ : ∀ i, i < n → w'.ρ[i]? = w.ρ[i]?
  Φ : ∀ a, w.Φ a → w'.Φ a
theorem CutW.imT {n : Nat} (c : CutW n w w') {a : Addr} {vs : List V} (h : ImT K w H a vs) : ImT K w' H a vs := by
  rcases h with h | h
  · exact .inl ⟨c.Φ a h.1, h.2⟩
  · exact .inr h
mutual
theorem RV.cutW {n : Nat} (c : CutW n w w') : ∀ (d : BX.D) (v : V), refsLt n d → RV K w H v d → RV K w' H v d
  | .ref m, v, l, h => by
    simp only [RV] at h ⊢
    obtain ⟨a, h1, h2⟩ := h
    exact ⟨a, by rw [c.ρ m l]; exact h1, h2⟩
  | .tup l, v, z, h => by
    simp only [RV] at h ⊢
    obtain ⟨a, vs, h1, h2, h3⟩ := h
    exact ⟨a, vs, h1, c.imT h2, RVs.cutW c l vs z h3⟩
  | .lst l, v, z, h => by
    simp only [RV] at h ⊢
    obtain ⟨a, vs, h1, h2, h3⟩ := h
    exact ⟨a, vs, h1, ⟨c.Φ a h2.1, h2.2⟩, RVs.cutW c l vs z h3⟩
  | .scr l, v, z, h => by
    simp only [RV] at h ⊢
    obtain ⟨a, vs, h1, h2, h3⟩ := h
    refine ⟨a, vs, h1, ?_, RVs.cutW c l vs z h3⟩
    rcases h2 with h2 | h2
    · exact .inl ⟨c.Φ a h2.1, h2.2⟩
    · exact .inr h2
  | .dct _ l, v, z, h => by
    simp only [RV] at h ⊢
    obtain ⟨a, o, vs, h1, h2, h3, h4, h5⟩ := h
    exact ⟨a, o, vs, h1, c.Φ a h2, h3, h4, RVs.cutW c l _ z h5⟩
  | .obj _ l, v, z, h => by
    simp only [RV] at h ⊢
    obtain ⟨a, C, dx, vs, h1, h2, h3, h4, h5, h6, h7⟩ := h
    exact ⟨a, C, dx, vs, h1, c.Φ a h2, h3, h4, h5, h6, RVs.cutW c l _ z h7⟩
  | .non, _, _, h => by simp only [RV] at h ⊢; exact h
  | .bl _, _, _, h => by simp only [RV] at h ⊢; exact h
  | .int _, _, _, h => by simp only [RV] at h ⊢; exact h
  | .str _, _, _, h => by simp only [RV] at h ⊢; exact h
theorem RVs.cutW {n : Nat} (c : CutW n w w') : ∀ (ds : List BX.D) (vs : List V), refsLts n ds → RVs K w H vs ds → RVs K w' H vs ds
  | [], _, _, h => by simp only [RVs] at h ⊢; exact h
  | d :: ds, vs, z, h => by
    simp only [RVs] at h ⊢
    obtain ⟨v, r, h1, h2, h3⟩ := h
    exact ⟨v, r, h1, RV.cutW c d v z.1 h2, RVs.cutW c ds r z.2 h3⟩
end
end
def refsOb (n : Nat) : Ob → Prop
  | .lst l => refsLts n l
  | .dct _ l => refsLts n l
  | .fdct _ l => refsLts n l
  | .ins _ fs => refsLts n (fs.map (·.2))
theorem ROb.lt {G : Gx} {w : Wd} {H : Hp} {a : Addr} {o : Ob} (h : ROb G w H a o) : refsOb w.ρ.length o := by
  cases o with
  | lst l => obtain ⟨vs, _, h⟩ := h; exact RVs.lt _ _ h
  | dct ks l => obtain ⟨vs, _, _, h⟩ := h; exact RVs.lt _ _ h
  | fdct ks l => obtain ⟨o, vs, _, _, h⟩ := h; exact RVs.lt _ _ h
  | ins c fs => obtain ⟨C, dx, fv, _, _, h, _⟩ := h; exact RVs.lt _ _ h.vs
theorem ROb.cut {G : Gx} {w w' : Wd} {H : Hp} {a : Addr} {o : Ob} {n : Nat} (c : CutW n w w') (l : refsOb n o) (h : ROb G w H a o) : ROb G w' H a o := by
  cases o with
  | lst l => obtain ⟨vs, h1, h⟩ := h; exact ⟨vs, h1, RVs.cutW c _ _ ‹_› h⟩
  | dct ks l => obtain ⟨vs, h1, h2, h⟩ := h; exact ⟨vs, h1, h2, RVs.cutW c _ _ ‹_› h⟩
  | fdct ks l => obtain ⟨o, vs, h1, h2, h⟩ := h; exact ⟨o, vs, h1, h2, RVs.cutW c _ _ ‹_› h⟩
  | ins cc fs => obtain ⟨C, dx, fv, h0, h1, h, h2⟩ := h; exact ⟨C, dx, fv, h0, h1, ⟨h.ks, RVs.cutW c _ _ l h.vs⟩, h2⟩
/-- the newest object of the store becomes a value -/
theorem pop_obj {G : Gx} {w w' : Wd} {S : Sto} {H H' : Hp} {a : Addr} {c : Str} {fs : List Str} {ds : List BX.D} {us : List V} (hS : RSt G w S H) (e : Ext w H w' H') (hS' : RSt G w' (S ++ [.ins c (fs.zip ds)]) H') (ha : w'.ρ[S.length]? = some a) (hl : ds.length = fs.length) (hr : RVs G.K w H us ds) :
    ∃ w2, Ext w H w2 H' ∧ RSt G w2 S H' ∧ RV G.K w2 H' (.ref a) (.obj fs ds) := by
  obtain ⟨t, et, ht⟩ := e.ρ
  have hlen := hS'.len
  have hlw := hS.len
  have h1 : t.length = 1 := by
    rw [et, List.length_append, List.length_append] at hlen
    simp at hlen
    omega
  obtain ⟨b, rfl⟩ := List.length_eq_one_iff.mp h1
  have eb : b = a := by
    rw [et, List.getElem?_append_right (by omega), hlw] at ha
    simpa using ha
  subst eb
  have nb : b ∉ w.ρ := fun z => by
    have := w'.nd
    rw [et, List.nodup_append] at this
    exact this.2.2 b z b (by simp) rfl
  let w2 : Wd := ⟨w.ρ, fun q => w'.Φ q ∨ q = b, fun q hq z => by
    rcases z with z | z
    · exact w'.dis q (by rw [et]; exact List.mem_append_left _ hq) z
    · exact nb (z ▸ hq), w.nd⟩
  have c2 : CutW S.length w' w2 := ⟨fun i hi => by
    show w.ρ[i]? = w'.ρ[i]?
    rw [et, List.getElem?_append_left (by omega)], fun q hq => .inl hq⟩
  have hob := hS'.ob S.length (.ins c (fs.zip ds)) (by simp)
  obtain ⟨b', eb', C, dx, fv, k1, k2, k3, k4, k5⟩ := hob
  rw [ha] at eb'
  cases eb'
  have z1 : (fs.zip ds).map (·.1) = fs := by rw [← List.unzip_fst, List.unzip_zip hl.symm]
  have z2 : (fs.zip ds).map (·.2) = ds := by rw [← List.unzip_snd, List.unzip_zip hl.symm]
  have lt : refsLts S.length ds := by
    have := RVs.lt _ _ hr
    rwa [hlw] at this
  refine ⟨w2, ⟨⟨[], by simp [w2], fun _ z => by simp at z⟩, fun q hq => .inl (e.Φ q hq), fun q hq => ?_, e.keep, e.dom, e.fz⟩, ⟨hS.len, fun n o ho => ?_, fun q hq => ?_, hS'.tab⟩, ?_⟩
  · rcases hq with hq | rfl
    · exact e.new q hq
    · exact .inr (ht q (by simp))
  · have hn : n < S.length := (List.getElem?_eq_some_iff.mp ho).1
    obtain ⟨q, e1, r1⟩ := hS'.ob n o (by rw [List.getElem?_append_left hn]; exact ho)
    obtain ⟨q0, e0, r0⟩ := hS.ob n o ho
    refine ⟨q, by rw [c2.ρ n hn]; exact e1, r1.cut c2 ?_⟩
    have := r0.lt
    rwa [hlw] at this
  · rcases hq with hq | rfl
    · exact hS'.phi q hq
    · rw [k2]; exact ⟨(fun z => nomatch z), nt_ins⟩
  · simp only [RV]
    refine ⟨b, C, dx, fv, rfl, .inr rfl, k2, k4, fun f hf => k5 f (by rw [z1]; exact hf), by rw [k3.ks, z1], ?_⟩
    have := k3.vs
    rw [z2] at this
    exact RVs.cutW c2 _ _ lt this
section
variable {T : Tb} {G : Gx} {call : Call} {N : List Str} {sc : Scope} {fn : Str → Bool} {W : WX} {k : Nat} {X : Cx} {pos p1 p2 : Pos} {f : Nat} {c : Str} {fs : List Str} {es : List Ex} {xs : List Expr}
theorem s_mkV (g : Good T G call N sc fn W k X) (hg : glB sc c = true) (hm : T.mkB f c = true) (hd : T.dvB f (xs.length + 1) [] = true) (hl : es.length = xs.length) (h : JA G W X xs (evEs call es)) (hn : xs.all notStar = true) :
    JE G W X (.Call (.Name c p1) xs [] pos) (evE call (.mkV f c fs es)) := by
  obtain ⟨C, a, fd, ps, hmg, hc, hcl, hmk, F, hb⟩ := g.lw.mkd f c hm
  obtain ⟨hfl, dd, hv, hB⟩ := hb.1 _ [] hd
  have hcl' : Cls G.K C := by rw [g.lw.hK]; exact hcl
  have fin : ∀ {σ : St} {H : Hp} {Q : VK}, rd G W (RV G.K) (evE call (.mkV f c fs es)) σ H Q → rd G W (RVs G.K) (evEs call es) σ H (fun vs H1 => ∀ x dx, H1 x = none → H1 dx = none → dx ≠ x → spOf G (call f) (.ref x :: (vs ++ ([] : List BX.D).map vOf)) (insH H1 x dx C) (fun v H2 => v = .non ∧ Q (.ref x) H2) (WE W σ)) := by
    rintro σ H Q ⟨w, H0, ε, S, hS, hE, q⟩
    simp only [evE] at q
    refine rd_step (ev := evEs call es) monF hS hE q fun ds S1 w1 H1 vs e1 hS1 hE1 r1 q1 => ?_
    intro x dx hx hdx _
    unfold mkvR at q1
    split at q1
    · rename_i hcond
      obtain ⟨h1, h2, h3⟩ := hcond
      have x1 := ext_ins (C := C) hS1 hx hdx
      refine ⟨_, S1 ++ [.ins c []], .ref S1.length :: ds, rst_ins hS1 hx hdx hc hcl', ?_, ?_⟩
      · simp only [List.map_nil, List.append_nil, RVs]
        exact ⟨_, _, rfl, rv_ins hS1 hx, RVs.ext x1 _ _ r1⟩
      · rw [h1]
        intro w' H' v e hS' r
        simp only [RV] at r
        refine ⟨r, ?_⟩
        have ex := x1.trans e
        have hxa : w'.ρ[S1.length]? = some x := by
          refine e.at ?_
          show (w1.ρ ++ [x])[S1.length]? = some x
          rw [← hS1.len]
          simp
        obtain ⟨w2, e2, hS2, rv⟩ := pop_obj hS1 ex hS' hxa h2 r1
        exact q1 w2 H' _ e2 hS2 rv
    · exact q1.elim
  cases xs with
  | nil =>
    refine (⟨fun pins s σ H Q I h => ?_⟩ : PE X (.Call (.Name c p1) [] [] pos) (fun σ H Q => ∀ x dx, H x = none → H dx = none → dx ≠ x → spOf G (call f) (.ref x :: ([] : List BX.D).map vOf) (insH H x dx C) (fun v H2 => v = .non ∧ Q (.ref x) H2) (WE W σ))).imp fun σ H Q q => ?_
    · refine wpAny_Call_Name_kw (ld_glob I (g.gl hg) hmg ?_ (gl_of hg).2)
      exact PySem.W.callWith_K0 I.kIn hmk.kp (run_makeSD (E := WE W) (us := []) (vs := []) hmk F g.rm hB hv (passAt g.tk σ) I .nil h)
    · obtain ⟨w, H0, ε, S, hS, hE, q⟩ := fin q
      cases es with
      | nil =>
        simp only [evEs] at q
        exact q w H [] Ext.refl hS (by simp [RVs])
      | cons e es => simp at hl
  | cons y xs =>
    simp only [List.all_cons, Bool.and_eq_true] at hn
    refine (⟨fun pins s σ H Q I q => ?_⟩ : PE X (.Call (.Name c p1) (y :: xs) [] pos) (fun σ H Q => rd G W (RVs G.K) (evEs call es) σ H (fun vs H1 => ∀ x dx, H1 x = none → H1 dx = none → dx ≠ x → spOf G (call f) (.ref x :: (vs ++ ([] : List BX.D).map vOf)) (insH H1 x dx C) (fun v H2 => v = .non ∧ Q (.ref x) H2) (WE W σ)))).imp fun σ H Q q => fin q
    refine wpAny_Call_Name_kw (ld_glob I (g.gl hg) hmg ?_ (gl_of hg).2)
    refine PySem.W.callWith_K (h₀ := X.base) I.ok.mod.kin hmk.kp (thn (h.run pos pins s σ H _ I q) fun us s1 ⟨vs, H1, I1, r, q1⟩ => ⟨I1.kIn, ?_⟩) (starEach_cons hn.1) (starAll hn.2)
    exact run_makeSD (E := WE W) hmk F g.rm hB hv (passAt g.tk σ) I1 r q1
/-! ### a written dict -/
end
section
variable {G : Gx} {w w1 : Wd} {S : Sto} {H H1 : Hp}
/-- what was new at the start may be changed -/
theorem Ext.put {p : Addr} {o0 o : HO} (e : Ext w (upd H p o0) w1 H1) (hp : H p = none) : Ext w H w1 (upd H1 p o) :=
  ⟨let ⟨t, e1, e2⟩ := e.ρ; ⟨t, e1, fun a ha => by
    have := e2 a ha
    by_cases z : a = p
    · rw [z]; exact hp
    · rwa [upd_ne z] at this⟩, e.Φ, fun a ha => by
    rcases e.new a ha with h | h
    · exact .inl h
    · by_cases z : a = p
      · rw [z]; exact .inr hp
      · rw [upd_ne z] at h; exact .inr h, fun a u q n m => by
    have z : a ≠ p := fun z => by rw [z, hp] at q; cases q
    rw [upd_ne z]
    exact e.keep a u (by rw [upd_ne z]; exact q) n m, fun a q => by
    by_cases z : a = p
    · rw [z, upd_same]; exact fun z => nomatch z
    · rw [upd_ne z]; exact e.dom a (by rw [upd_ne z]; exact q), fun a ob u q => by
    have z : a ≠ p := fun z => by rw [z, hp] at q; cases q
    rw [upd_ne z]
    exact e.fz a ob u (by rw [upd_ne z]; exact q)⟩
theorem dsp_rel {K : PySem.W.Frag} : ∀ {ds : List BX.D} {ps : List (V × V)} {kvs : List (Key × V)} {ks : List Key} {vs : List BX.D} {r : List Key × List BX.D}, RVs K w H (ps.flatMap fun p => [p.1, p.2]) ds → kvs.map (·.1) = ks → RVs K w H (kvs.map (·.2)) vs → dspF ds ks vs = some r →
    ∃ more : List (Key × V), ps = more.map (fun kv => (kV kv.1, kv.2)) ∧ (mergeK kvs more).map (·.1) = r.1 ∧ RVs K w H ((mergeK kvs more).map (·.2)) r.2
  | [], ps, kvs, ks, vs, r, h, h1, h2, hd => by
    simp only [dspF] at hd
    cases hd
    cases ps with
    | nil => exact ⟨[], rfl, h1, h2⟩
    | cons p ps => simp [RVs] at h
  | [d], ps, kvs, ks, vs, r, h, h1, h2, hd => by simp [dspF] at hd
  | a :: b :: ds, ps, kvs, ks, vs, r, h, h1, h2, hd => by
    cases ps with
    | nil => simp [RVs] at h
    | cons p ps =>
      simp only [List.flatMap_cons, List.cons_append, List.nil_append, RVs] at h
      obtain ⟨v1, r1, e1, ra, v2, r2, e2, rb, h⟩ := h
      cases e1; cases e2
      simp only [dspF] at hd
      cases hk : keyD a with
      | none => rw [hk] at hd; cases hd
      | some q =>
        rw [hk] at hd
        have ek := key_of (.inl ra) hk
        obtain ⟨p1, p2⟩ := put_rel h1 h2 rb q
        obtain ⟨more, e3, e4, e5⟩ := dsp_rel h p1 p2 hd
        refine ⟨(q, p.2) :: more, ?_, e4, e5⟩
        rw [e3, List.map_cons, ← ek]
end
section
variable {T : Tb} {G : Gx} {call : Call} {N : List Str} {sc : Scope} {fn : Str → Bool} {W : WX} {k : Nat} {X : Cx} {pos p1 p2 : Pos}
/-- how a written dict's pairs are read -/
abbrev rKv (G : Gx) : Wd → Hp → List (V × V) → List BX.D → Prop := fun w H ps ds => RVs G.K w H (ps.flatMap fun p => [p.1, p.2]) ds
def JKv (G : Gx) (W : WX) (X : Cx) (pos : Pos) (call : Call) (es : List Ex) (keys : List (Option Expr)) (vals : List Expr) : Prop := ∃ trs, PPs X pos keys vals trs ∧ ∀ σ H Q, rd G W (rKv G) (evEs call es) σ H Q → tPairs trs σ H Q
theorem kv_nil : JKv G W X pos call [] [] [] := ⟨[], pps_nil, fun σ H Q ⟨w, H0, ε, S, hS, hE, q⟩ => by
  simp only [evEs] at q
  exact q w H [] Ext.refl hS (by simp [rKv, RVs])⟩
theorem kv_cons {a b : Ex} {es : List Ex} {x y : Expr} {keys : List (Option Expr)} {vals : List Expr} (ha : JE G W X x (evE call a)) (hb : JE G W X y (evE call b)) (h : JKv G W X pos call es keys vals) : JKv G W X pos call (a :: b :: es) (some x :: keys) (y :: vals) := by
  obtain ⟨trs, h1, h2⟩ := h
  refine ⟨_, pps_cons ha hb h1, fun σ H Q q => ?_⟩
  obtain ⟨w, H0, ε, S, hS, hE, q⟩ := q
  simp only [evEs, R.bd_assoc, R.bd_ok] at q
  refine rd_step (ev := evE call a) monF hS hE q fun d1 S1 w1 H1 v1 e1 hS1 hE1 r1 q1 => ?_
  refine rd_step (ev := evE call b) monF hS1 hE1 q1 fun d2 S2 w2 H2 v2 e2 hS2 hE2 r2 q2 => ?_
  refine h2 σ H2 _ (rd_step (ev := evEs call es) monF hS2 hE2 q2 fun ds S3 w3 H3 ps e3 hS3 hE3 r3 q3 => ?_)
  refine q3 w3 H3 _ Ext.refl hS3 ?_
  simp only [rKv, List.flatMap_cons, List.cons_append, List.nil_append, RVs]
  exact ⟨v1, _, rfl, RV.ext e3 _ _ (RV.ext e2 _ _ r1), v2, _, rfl, RV.ext e3 _ _ r2, r3⟩
end
end BX
set_option Elab.async false
set_option linter.all false
set_option maxRecDepth 100000
set_option maxHeartbeats 2000000
/-! BX5: targets, what is walked, comprehensions, the whole of expressions. -/
namespace BX
open PySem L2
open PyProof.Rows hiding St Binds

section
variable {K : PySem.W.Frag} {w : Wd} {H0 H : Hp} {σ : St} {ε : Env}
theorem REn.un (h : REn K w H0 σ H ε) (i : Nat) : REn K w H0 (σ.set i none) H (ε.set i .un) := by
  refine ⟨by simp [h.len], fun j s e => ?_, fun j l d1 d2 a hne e1 e2 e3 => ?_⟩
  · by_cases hij : i = j
    · subst hij
      have hl : i < ε.length := by
        have := (List.getElem?_eq_some_iff.mp e).1
        simpa using this
      rw [List.getElem?_set_self hl] at e
      cases e
      trivial
    · rw [List.getElem?_set_ne hij] at e ⊢
      exact h.sl j s e
  · have hj : i ≠ j := fun z => by
      subst z
      have hl : i < ε.length := by
        have := (List.getElem?_eq_some_iff.mp e1).1
        simpa using this
      rw [List.getElem?_set_self hl] at e1
      cases e1
    have hl : i ≠ l := fun z => by
      subst z
      have hl : i < ε.length := by
        have := (List.getElem?_eq_some_iff.mp e2).1
        simpa using this
      rw [List.getElem?_set_self hl] at e2
      cases e2
    rw [List.getElem?_set_ne hj] at e1 e3
    rw [List.getElem?_set_ne hl] at e2 ⊢
    exact h.ap j l d1 d2 a hne e1 e2 e3
theorem REn.wipe (h : REn K w H0 σ H ε) : ∀ own : List Nat, REn K w H0 (L2.wipe σ own) H (wipeE ε own)
  | [] => h
  | v :: vs => (REn.wipe h vs).un v
end
theorem wipe_set {v : Option V} : ∀ {own : List Nat} {σ : St} {i : Nat}, i ∈ own → wipe (σ.set i v) own = wipe σ own
  | [], _, _, h => by simp at h
  | j :: js, σ, i, h => by
    unfold wipe
    by_cases hi : i ∈ js
    · rw [wipe_set hi]
    · have e : j = i := by
        rcases List.mem_cons.mp h with h | h
        · exact h.symm
        · exact absurd h hi
      subst e
      have : ∀ (js : List Nat) (σ : St), j ∉ js → wipe (σ.set j v) js = (wipe σ js).set j v := by
        intro js
        induction js with
        | nil => intro σ _; rfl
        | cons l ls ih =>
          intro σ hn
          simp only [List.mem_cons, not_or] at hn
          unfold wipe
          rw [ih σ hn.2, List.set_comm _ _ hn.1]
      rw [this js σ hi, List.set_set]
theorem wipe_wipe {own : List Nat} : ∀ {js : List Nat} {σ : St}, (∀ j ∈ js, j ∈ own) → wipe (wipe σ js) own = wipe σ own
  | [], _, _ => rfl
  | j :: js, σ, h => by
    show wipe ((wipe σ js).set j none) own = _
    rw [wipe_set (h j (List.mem_cons_self ..)), wipe_wipe fun l hl => h l (List.mem_cons_of_mem _ hl)]

/-! ### targets -/
theorem _root_.L2.PG.imp {X : Cx} {e : Expr} {t t' : TG} (h : PG X e t) (k : ∀ v σ H Q, t' v σ H Q → t v σ H Q) : PG X e t' := ⟨fun pins s σ H v u Q I r q => h.run pins s σ H v u Q I r (k _ _ _ _ q)⟩
theorem _root_.L2.PGs.imp {X : Cx} {e : List Expr} {t t' : TGs} (h : PGs X e t) (k : ∀ v σ H Q, t' v σ H Q → t v σ H Q) : PGs X e t' := ⟨fun pins s σ H v u Q I r q => h.run pins s σ H v u Q I r (k _ _ _ _ q)⟩
def gRd (G : Gx) (t : Tg) : TG := fun v σ H Q => ∃ w H0 ε d ε', REn G.K w H0 σ H ε ∧ RV G.K w H v d ∧ setT t d ε = some ε' ∧
  ∀ σ', REn G.K w H0 σ' H ε' → (∀ own, tgIn own t = true → wipe σ' own = wipe σ own) → Q σ' H
def gRds (G : Gx) (t : List Tg) : TGs := fun v σ H Q => ∃ w H0 ε d ε', REn G.K w H0 σ H ε ∧ RVs G.K w H v d ∧ setTs t d ε = some ε' ∧
  ∀ σ', REn G.K w H0 σ' H ε' → (∀ own, tgsIn own t = true → wipe σ' own = wipe σ own) → Q σ' H
theorem notStarEach {x : Expr} {xs : List Expr} {env : PySem.Env} (h : notStar x = true) : assignEach (x :: xs) env = (false, assign x env) :: assignEach xs env := by
  cases x <;> first | rfl | (simp [notStar] at h)
theorem chTs_star {N : List Str} {fn : Str → Bool} : ∀ {ts : List Tg} {xs : List Expr}, chTs N fn ts xs = true → xs.all notStar = true ∧ xs.length = ts.length
  | [], xs, h => by
    simp only [chTs] at h
    split at h
    · exact ⟨rfl, rfl⟩
    · cases h
  | t :: ts, xs, h => by
    simp only [chTs] at h
    split at h
    · simp only [Bool.and_eq_true] at h
      obtain ⟨h1, h2⟩ := chTs_star h.2
      simp only [List.all_cons, Bool.and_eq_true, List.length_cons]
      exact ⟨⟨h.1.1, h1⟩, by rw [h2]⟩
    · cases h
theorem assignAll {env : PySem.Env} : ∀ {xs : List Expr}, xs.all notStar = true → (assignEach xs env).length = xs.length ∧ (assignEach xs env).findIdx? (·.1) = none
  | [], _ => ⟨rfl, rfl⟩
  | x :: xs, h => by
    simp only [List.all_cons, Bool.and_eq_true] at h
    obtain ⟨h1, h2⟩ := assignAll (env := env) h.2
    rw [notStarEach h.1]
    refine ⟨by simp [h1], ?_⟩
    rw [List.findIdx?_cons]
    simp [h2]
theorem setTs_len : ∀ {ts : List Tg} {ds : List D} {ε ε' : Env}, setTs ts ds ε = some ε' → ds.length = ts.length
  | [], [], _, _, _ => rfl
  | [], _ :: _, _, _, h => by simp [setTs] at h
  | _ :: _, [], _, _, h => by simp [setTs] at h
  | t :: ts, d :: ds, ε, ε', h => by
    simp only [setTs] at h
    split at h
    · have := setTs_len h
      simp [this]
    · cases h
section
variable {T : Tb} {G : Gx} {call : Call} {N : List Str} {sc : Scope} {fn : Str → Bool} {W : WX} {k : Nat} {X : Cx} {pos p1 p2 : Pos}
mutual
theorem s_tg (g : Good T G call N sc fn W k X) : ∀ (t : Tg) (e : Expr), chT N fn t e = true → PG X e (gRd G t)
  | .nm i, e, h => by
    simp only [chT] at h
    split at h
    · rename_i x pos
      simp only [Bool.and_eq_true, decide_eq_true_eq] at h
      obtain ⟨h1, h2⟩ := h
      obtain ⟨hl, hf⟩ := g.hfn x h2
      refine (pg_name (by rw [g.hN]; exact g.nd) (by rw [g.hN]; exact h1) (by rw [g.hsc]; exact hl) (by rw [g.hsc]; exact hf)).imp fun v σ H Q q => ?_
      obtain ⟨w, H0, ε, d, ε', hE, r, hs, q⟩ := q
      simp only [setT] at hs
      cases hs
      refine q _ (hE.set r i) fun own ho => wipe_set ?_
      simpa [tgIn] using ho
    · cases h
  | .tp l, e, h => by
    simp only [chT] at h
    split at h
    · rename_i es j pos
      obtain ⟨h1, h2⟩ := chTs_star h
      obtain ⟨h3, h4⟩ := assignAll (env := X.env) h1
      have P1 := pg_tup (pos := pos) (k := j) (n := l.length) g.calm (s_tgs g l es h) (by rw [h3, h2]) h4
      have P2 := pg_unl (pos := pos) (k := j) (n := l.length) g.calm (s_tgs g l es h) (by rw [h3, h2]) h4
      refine ⟨fun pins s σ H v u Q I rr q => ?_⟩
      obtain ⟨w, H0, ε, d, ε', hE, r, hs, q⟩ := q
      cases d <;> simp only [setT] at hs <;> try cases hs
      · rename_i ds
        simp only [RV] at r
        obtain ⟨a, vs, rfl, r1, r2⟩ := r
        exact P1.run pins s σ H _ u Q I rr ⟨a, vs, rfl, g.lw.hK ▸ r1.sq, by rw [r2.length, setTs_len hs], w, H0, ε, ds, ε', hE, r2, hs, fun σ' hE' hw => q σ' hE' fun own ho => hw own (by simpa only [tgIn] using ho)⟩
      · rename_i ds
        simp only [RV] at r
        obtain ⟨a, vs, rfl, r1, r2⟩ := r
        exact P2.run pins s σ H _ u Q I rr ⟨a, vs, rfl, .inl r1.2, by rw [r2.length, setTs_len hs], w, H0, ε, ds, ε', hE, r2, hs, fun σ' hE' hw => q σ' hE' fun own ho => hw own (by simpa only [tgIn] using ho)⟩
    · cases h
theorem s_tgs (g : Good T G call N sc fn W k X) : ∀ (ts : List Tg) (es : List Expr), chTs N fn ts es = true → PGs X es (gRds G ts)
  | [], es, h => by
    simp only [chTs] at h
    split at h
    · refine pgs_nil.imp fun vs σ H Q q => ?_
      obtain ⟨w, H0, ε, d, ε', hE, r, hs, q⟩ := q
      cases d with
      | nil =>
        simp only [setTs] at hs
        cases hs
        simp only [RVs] at r
        exact ⟨r, q σ hE fun _ _ => rfl⟩
      | cons _ _ => simp [setTs] at hs
    · cases h
  | t :: ts, es, h => by
    simp only [chTs] at h
    split at h
    · rename_i x xs
      simp only [Bool.and_eq_true] at h
      obtain ⟨⟨h1, h2⟩, h3⟩ := h
      refine (pgs_cons (s_tg g t x h2) (s_tgs g ts xs h3) (by rw [notStarEach h1]; rfl)).imp fun vs σ H Q q => ?_
      obtain ⟨w, H0, ε, d, ε', hE, r, hs, q⟩ := q
      cases d with
      | nil => simp [setTs] at hs
      | cons d ds =>
        simp only [setTs] at hs
        split at hs
        · rename_i ε1 e1
          simp only [RVs] at r
          obtain ⟨v, r', rfl, r1, r2⟩ := r
          exact ⟨v, r', rfl, w, H0, ε, d, ε1, hE, r1, e1, fun σ1 hE1 hw1 => ⟨w, H0, ε1, ds, ε', hE1, r2, hs, fun σ2 hE2 hw2 => q σ2 hE2 fun own ho => by
            simp only [tgsIn, Bool.and_eq_true] at ho
            rw [hw2 own ho.2, hw1 own ho.1]⟩⟩
        · cases hs
    · cases h
end

/-! ### what is walked -/
structure Wk (G : Gx) (w : Wd) (H : Hp) (J : It) (ds : List D) : Prop where
  go : ∀ w' H' S, ExtS w H w' H' → RSt G w' S H' → ∀ i d, ds[i]? = some d → J.go i H' ∧ ∀ x H'', J.yld i H' x H'' → ∃ w'', Ext w' H' w'' H'' ∧ RSt G w'' S H'' ∧ RV G.K w'' H'' x d
  stop : ∀ w' H', ExtS w H w' H' → J.stop ds.length H'
abbrev JI (G : Gx) (W : WX) (X : Cx) (t e : Expr) (ev : Env → Sto → R (List D)) : Prop := PI X t e (rd G W (Wk G) ev)
theorem _root_.L2.PI.imp {X : Cx} {t e : Expr} {i i' : TI} (h : PI X t e i) (k : ∀ σ H Q, i' σ H Q → i σ H Q) : PI X t e i' := ⟨fun pins s σ H Q I q => h.run pins s σ H Q I (k _ _ _ q)⟩
def iAny (K : PySem.W.Frag) (tl : TE) : TI := fun σ H R => tl σ H fun x H1 => (∃ a, x = .ref a ∧ (∃ xs, SqL K H1 a xs) ∧ R (Itl K a) H1) ∨ (∃ a, x = .ref a ∧ (∃ xs, SqT K H1 a xs) ∧ R (Itt K a) H1) ∨ ∃ z, x = .str z ∧ R (Its z) H1
theorem pi_any {tg l : Expr} {tl : TE} (hl : PE X l tl) : PI X tg l (iAny X.K tl) := by
  refine ⟨fun pins s σ H R I h => ?_⟩
  refine thn (hl.run pins s σ H _ I h) fun v s1 ⟨x, H1, I1, r1, q1⟩ => ?_
  rcases q1 with ⟨a, e, ⟨xs, hq⟩, q⟩ | ⟨a, e, ⟨xs, hq⟩, q⟩ | ⟨x, ex, q⟩
  · subst e
    cases r1
    obtain ⟨its, rv, p, hz⟩ := I1.list hq
    refine wpAny_pyIter_list p.isList ?_
    refine ⟨s1.heap.objs.size, [s1.heap.objs.size], _, _, H1, rfl, I1.kept (t' := s1.toks) fun b o e => Heap.get?_push_of_some _ e, turn_list a _, ⟨_, Heap.get?_push_size _ rfl, rfl, rfl⟩, fun b hb => ?_, q⟩
    have e : b = s1.heap.objs.size := by simpa using hb
    subst e
    exact I1.fpOk (Nat.le_refl _) (I1.hok.fresh (Nat.le_refl _))
  · subst e
    cases r1
    obtain ⟨its, rv, p, hz⟩ := I1.tuple hq
    refine wpAny_pyIter_tuple (show s1.heap.IsTuple a its.toArray from p) ?_
    refine ⟨s1.heap.objs.size, [s1.heap.objs.size], _, _, H1, rfl, I1.kept (t' := s1.toks) fun b o e => Heap.get?_push_of_some _ e, turn_tuple a _, ⟨_, Heap.get?_push_size _ rfl, rfl, rfl⟩, fun b hb => ?_, q⟩
    have e : b = s1.heap.objs.size := by simpa using hb
    subst e
    exact I1.fpOk (Nat.le_refl _) (I1.hok.fresh (Nat.le_refl _))
  · subst ex
    obtain ⟨t, rfl⟩ := r1
    cases ha : x.cps.all (· < 128)
    · exact wpAny_pyIter_wide ha (pi_one (tk := s1.toks) I1 _ (turn_str _ x t "str_iterator" (.inr rfl)) ⟨_, Heap.get?_push_size _ rfl, rfl, rfl⟩ q)
    · exact wpAny_pyIter_ascii ha (pi_one (tk := s1.toks) I1 _ (turn_str _ x t "str_ascii_iterator" (.inl rfl)) ⟨_, Heap.get?_push_size _ rfl, rfl, rfl⟩ q)
theorem wk_lst {K : PySem.W.Frag} {w : Wd} {H : Hp} {a : Addr} {vs : List V} {l : List D} (hK : G.K = K) (h : ImL w H a vs) (r : RVs G.K w H vs l) : Wk G w H (Itl K a) l := by
  subst hK
  refine ⟨fun w' H' S e hS i d hd => ?_, fun w' H' e => ⟨vs, .inl (e.imL h).2, by rw [r.length]; exact Nat.le_refl _⟩⟩
  obtain ⟨v, hv, rv⟩ := r.get hd
  refine ⟨⟨vs, v, .inl (e.imL h).2, hv⟩, fun x H'' y => ?_⟩
  obtain ⟨rfl, y⟩ := y
  have := y vs (.inl (e.imL h).2)
  rw [hv] at this
  cases this
  exact ⟨w', Ext.refl, hS, RV.exts e _ _ rv⟩
theorem wk_tup {K : PySem.W.Frag} {w : Wd} {H : Hp} {a : Addr} {vs : List V} {l : List D} (hK : G.K = K) (h : ImT G.K w H a vs) (r : RVs G.K w H vs l) : Wk G w H (Itt K a) l := by
  subst hK
  refine ⟨fun w' H' S e hS i d hd => ?_, fun w' H' e => ⟨vs, (e.imT h).sq, by rw [r.length]; exact Nat.le_refl _⟩⟩
  obtain ⟨v, hv, rv⟩ := r.get hd
  refine ⟨⟨vs, v, (e.imT h).sq, hv⟩, fun x H'' y => ?_⟩
  obtain ⟨rfl, y⟩ := y
  have := y vs (e.imT h).sq
  rw [hv] at this
  cases this
  exact ⟨w', Ext.refl, hS, RV.exts e _ _ rv⟩
theorem wk_str {w : Wd} {H : Hp} {z : Str} : Wk G w H (Its z) (z.cps.toList.map fun c => .str ⟨#[c]⟩) := by
  refine ⟨fun w' H' S e hS i d hd => ?_, fun w' H' e => by show z.cps.size ≤ _; simp⟩
  have hi : i < z.cps.size := by
    have := (List.getElem?_eq_some_iff.mp hd).1
    simpa using this
  refine ⟨hi, fun x H'' y => ?_⟩
  obtain ⟨rfl, c, hc, rfl⟩ := y
  refine ⟨w', Ext.refl, hS, ?_⟩
  rw [List.getElem?_map, Array.getElem?_toList, hc] at hd
  cases hd
  exact RV_str
theorem wk_rng {w : Wd} {H : Hp} {lo : Int} {n : Nat} : Wk G w H (Itr lo n) (rngL lo n) := by
  refine ⟨fun w' H' S e hS i d hd => ?_, fun w' H' e => by show n ≤ _; simp [rngL]⟩
  have hi : i < n := by
    have := (List.getElem?_eq_some_iff.mp hd).1
    simpa [rngL] using this
  refine ⟨hi, fun x H'' y => ?_⟩
  obtain ⟨rfl, rfl⟩ := y
  refine ⟨w', Ext.refl, hS, ?_⟩
  unfold rngL at hd
  rw [List.getElem?_map, List.getElem?_range hi] at hd
  cases hd
  exact RV_int
theorem get_zip {a b : List D} {i : Nat} {d : D} (h : (List.zipWith (fun x y => D.tup [x, y]) a b)[i]? = some d) : ∃ x y, a[i]? = some x ∧ b[i]? = some y ∧ d = .tup [x, y] := by
  rw [List.getElem?_zipWith] at h
  cases ha : a[i]? with
  | none => rw [ha] at h; cases h
  | some x =>
    cases hb : b[i]? with
    | none => rw [ha, hb] at h; cases h
    | some y => rw [ha, hb] at h; cases h; exact ⟨x, y, rfl, rfl, rfl⟩
theorem wk_zipL {K : PySem.W.Frag} {w : Wd} {H : Hp} {a b : Addr} {vs us : List V} {l m : List D} (hK : G.K = K) (h : ImL w H a vs) (r : RVs G.K w H vs l) (h2 : ImL w H b us) (r2 : RVs G.K w H us m) : Wk G w H (Itz K a b) (List.zipWith (fun x y => D.tup [x, y]) l m) := by
  subst hK
  refine ⟨fun w' H' S e hS i d hd => ?_, fun w' H' e => ⟨vs, us, .inl (e.imL h).2, .inl (e.imL h2).2, ?_⟩⟩
  · obtain ⟨x, y, hx, hy, rfl⟩ := get_zip hd
    obtain ⟨v, hv, rv⟩ := r.get hx
    obtain ⟨u, hu, ru⟩ := r2.get hy
    refine ⟨⟨vs, us, v, u, .inl (e.imL h).2, .inl (e.imL h2).2, hv, hu⟩, fun x H'' yl => ?_⟩
    obtain ⟨T, v', u', rfl, hT, rfl, y1, y2⟩ := yl
    have e1 := y1 vs (.inl (e.imL h).2)
    have e2 := y2 us (.inl (e.imL h2).2)
    rw [hv] at e1; rw [hu] at e2
    cases e1; cases e2
    refine ⟨_, ext_imm hS hT, rst_imm hS hT, rv_tup hS hT ?_⟩
    simp only [RVs]
    exact ⟨_, _, rfl, RV.exts e _ _ rv, _, _, rfl, RV.exts e _ _ ru, rfl⟩
  · rw [r.length, r2.length, List.length_zipWith]; omega
theorem wk_zipT {K : PySem.W.Frag} {w : Wd} {H : Hp} {a b : Addr} {vs us : List V} {l m : List D} (hK : G.K = K) (h : ImT G.K w H a vs) (r : RVs G.K w H vs l) (h2 : ImT G.K w H b us) (r2 : RVs G.K w H us m) : Wk G w H (RZ.ItzT K a b) (List.zipWith (fun x y => D.tup [x, y]) l m) := by
  subst hK
  refine ⟨fun w' H' S e hS i d hd => ?_, fun w' H' e => ⟨vs, us, (e.imT h).sq, (e.imT h2).sq, ?_⟩⟩
  · obtain ⟨x, y, hx, hy, rfl⟩ := get_zip hd
    obtain ⟨v, hv, rv⟩ := r.get hx
    obtain ⟨u, hu, ru⟩ := r2.get hy
    refine ⟨⟨vs, us, v, u, (e.imT h).sq, (e.imT h2).sq, hv, hu⟩, fun x H'' yl => ?_⟩
    obtain ⟨T, v', u', rfl, hT, rfl, y1, y2⟩ := yl
    have e1 := y1 vs (e.imT h).sq
    have e2 := y2 us (e.imT h2).sq
    rw [hv] at e1; rw [hu] at e2
    cases e1; cases e2
    refine ⟨_, ext_imm hS hT, rst_imm hS hT, rv_tup hS hT ?_⟩
    simp only [RVs]
    exact ⟨_, _, rfl, RV.exts e _ _ rv, _, _, rfl, RV.exts e _ _ ru, rfl⟩
  · rw [r.length, r2.length, List.length_zipWith]; omega
theorem i_seq (g : Good T G call N sc fn W k X) {a : Ex} {t x : Expr} (ha : JE G W X x (evE call a)) : JI G W X t x (evI call (.seq a)) := by
  refine (pi_any ha).imp fun σ H Q q => ?_
  obtain ⟨w, H0, ε, S, hS, hE, q⟩ := q
  simp only [evI] at q
  refine rd_step (ev := evE call a) monF hS hE q fun d1 S1 w1 H1 v e1 hS1 hE1 r1 q1 => ?_
  obtain ⟨ds, hd, q2⟩ := q1.of
  cases d1 <;> simp only [seqOf] at hd <;> try cases hd
  · split at hd
    · cases hd
      simp only [RV] at r1
      exact .inr (.inr ⟨_, r1, q2 w1 H1 _ Ext.refl hS1 wk_str⟩)
    · cases hd
  · simp only [RV] at r1
    obtain ⟨a, vs, rfl, r2, r3⟩ := r1
    exact .inr (.inl ⟨a, rfl, ⟨vs, g.lw.hK ▸ r2.sq⟩, q2 w1 H1 _ Ext.refl hS1 (wk_tup g.lw.hK r2 r3)⟩)
  · simp only [RV] at r1
    obtain ⟨a, vs, rfl, r2, r3⟩ := r1
    exact .inl ⟨a, rfl, ⟨vs, .inl r2.2⟩, q2 w1 H1 _ Ext.refl hS1 (wk_lst g.lw.hK r2 r3)⟩
theorem RVs.getR {K : PySem.W.Frag} {w : Wd} {H : Hp} {vs : List V} {l : List D} (r : RVs K w H vs l) {i : Nat} {d : D} (h : l.reverse[i]? = some d) : i < l.length ∧ ∃ v, vs[l.length - 1 - i]? = some v ∧ RV K w H v d := by
  have hi : i < l.length := by
    have := (List.getElem?_eq_some_iff.mp h).1
    simpa using this
  refine ⟨hi, ?_⟩
  rw [List.getElem?_reverse hi] at h
  exact r.get h
theorem wk_revL {K : PySem.W.Frag} {w : Wd} {H : Hp} {a : Addr} {vs : List V} {l : List D} (hK : G.K = K) (h : ImL w H a vs) (r : RVs G.K w H vs l) : Wk G w H (Itv K a vs.length) l.reverse := by
  subst hK
  refine ⟨fun w' H' S e hS i d hd => ?_, fun w' H' e => by show vs.length ≤ _; rw [r.length, List.length_reverse]; exact Nat.le_refl _⟩
  obtain ⟨hi, v, hv, rv⟩ := r.getR hd
  rw [← r.length] at hi hv
  refine ⟨⟨hi, vs, v, .inl (e.imL h).2, hv⟩, fun x H'' y => ?_⟩
  obtain ⟨rfl, y⟩ := y
  have := y vs (.inl (e.imL h).2)
  rw [hv] at this
  cases this
  exact ⟨w', Ext.refl, hS, RV.exts e _ _ rv⟩
theorem wk_revT {K : PySem.W.Frag} {w : Wd} {H : Hp} {a : Addr} {vs : List V} {l : List D} (hK : G.K = K) (h : ImT G.K w H a vs) (r : RVs G.K w H vs l) : Wk G w H (RT.ItvT K a vs.length) l.reverse := by
  subst hK
  refine ⟨fun w' H' S e hS i d hd => ?_, fun w' H' e => by show vs.length ≤ _; rw [r.length, List.length_reverse]; exact Nat.le_refl _⟩
  obtain ⟨hi, v, hv, rv⟩ := r.getR hd
  rw [← r.length] at hi hv
  refine ⟨⟨hi, vs, v, (e.imT h).sq, hv⟩, fun x H'' y => ?_⟩
  obtain ⟨rfl, y⟩ := y
  have := y vs (e.imT h).sq
  rw [hv] at this
  cases this
  exact ⟨w', Ext.refl, hS, RV.exts e _ _ rv⟩
theorem i_rev (g : Good T G call N sc fn W k X) {a : Ex} {t y : Expr} (hg : glB sc "reversed" = true) (ha : JE G W X y (evE call a)) (hn : notStar y = true) : JI G W X t (.Call (.Name "reversed" p1) [y] [] pos) (evI call (.rev a)) := by
  refine (RT.pi_revA (g.gl hg) g.lw.rev ha (starEach_cons hn)).imp fun σ H Q q => ?_
  obtain ⟨w, H0, ε, S, hS, hE, q⟩ := q
  simp only [evI] at q
  refine rd_step (ev := evE call a) monF hS hE q fun d1 S1 w1 H1 v e1 hS1 hE1 r1 q1 => ?_
  cases d1 <;> try exact q1.elim
  · simp only [RV] at r1
    obtain ⟨a, vs, rfl, r2, r3⟩ := r1
    exact ⟨a, vs, rfl, .inr ⟨g.lw.hK ▸ r2.sq, q1 w1 H1 _ Ext.refl hS1 (wk_revT g.lw.hK r2 r3)⟩⟩
  · simp only [RV] at r1
    obtain ⟨a, vs, rfl, r2, r3⟩ := r1
    exact ⟨a, vs, rfl, .inl ⟨.inl r2.2, q1 w1 H1 _ Ext.refl hS1 (wk_revL g.lw.hK r2 r3)⟩⟩
theorem wk_rrng {w : Wd} {H : Hp} {n : Nat} : Wk G w H (Itc (0 + (n : Int) - 1) (-1) n) (rngL 0 n).reverse := by
  refine ⟨fun w' H' S e hS i d hd => ?_, fun w' H' e => by show n ≤ _; simp [rngL]⟩
  have hi : i < n := by
    have := (List.getElem?_eq_some_iff.mp hd).1
    simpa [rngL] using this
  refine ⟨hi, fun x H'' y => ?_⟩
  obtain ⟨rfl, rfl⟩ := y
  refine ⟨w', Ext.refl, hS, ?_⟩
  rw [List.getElem?_reverse (by simpa [rngL] using hi)] at hd
  have hl : (rngL 0 n).length = n := by simp [rngL]
  rw [hl] at hd
  unfold rngL at hd
  rw [List.getElem?_map, List.getElem?_range (by omega)] at hd
  cases hd
  have : 0 + (n : Int) - 1 + (i : Int) * -1 = 0 + ((n - 1 - i : Nat) : Int) := by omega
  rw [this]
  exact RV_int
theorem i_rrng (g : Good T G call N sc fn W k X) {a : Ex} {t y : Expr} {pos2 : Pos} (hg : glB sc "reversed" = true) (hg2 : glB sc "range" = true) (ha : JE G W X y (evE call a)) (hn : notStar y = true) :
    JI G W X t (.Call (.Name "reversed" p1) [.Call (.Name "range" p2) [y] [] pos2] [] pos) (evI call (.rrng a)) := by
  refine (pi_revR (g.gl hg) g.lw.rev (prg_1 (g.gl hg2) g.lw.rng ha (starEach_cons hn)) rfl).imp fun σ H Q q => ?_
  obtain ⟨w, H0, ε, S, hS, hE, q⟩ := q
  simp only [evI] at q
  refine rd_step (ev := evE call a) monF hS hE q fun d1 S1 w1 H1 v e1 hS1 hE1 r1 q1 => ?_
  obtain ⟨ds, hd, q2⟩ := q1.of
  cases d1 <;> simp only [rng1F] at hd <;> try cases hd
  split at hd
  · rename_i j hc
    cases hd
    simp only [RV] at r1
    subst r1
    refine ⟨j, rfl, by omega, by omega, hc.1, hc.2, ?_⟩
    have : (j - 0).toNat = j.toNat := by omega
    rw [this]
    exact q2 w1 H1 _ Ext.refl hS1 wk_rrng
  · cases hd
theorem i_rng (g : Good T G call N sc fn W k X) {a : Ex} {t y : Expr} (hg : glB sc "range" = true) (ha : JE G W X y (evE call a)) (hn : notStar y = true) : JI G W X t (.Call (.Name "range" p1) [y] [] pos) (evI call (.rng a)) := by
  refine (pi_range1 (g.gl hg) g.lw.rng (pa_cons ha pa_nil (starEach_cons hn)) (starEach_cons hn)).imp fun σ H Q q => ?_
  obtain ⟨w, H0, ε, S, hS, hE, q⟩ := q
  simp only [evI] at q
  refine rd_step (ev := evE call a) monF hS hE q fun d1 S1 w1 H1 v e1 hS1 hE1 r1 q1 => ?_
  obtain ⟨ds, hd, q2⟩ := q1.of
  cases d1 <;> simp only [rng1F] at hd <;> try cases hd
  split at hd
  · rename_i hc
    cases hd
    simp only [RV] at r1
    subst r1
    exact ⟨_, rfl, hc.1, hc.2, q2 w1 H1 _ Ext.refl hS1 wk_rng⟩
  · cases hd
theorem i_rng2 (g : Good T G call N sc fn W k X) {a b : Ex} {t y z : Expr} (hg : glB sc "range" = true) (ha : JE G W X y (evE call a)) (hb : JE G W X z (evE call b)) (hn : notStar y = true) (hn2 : notStar z = true) :
    JI G W X t (.Call (.Name "range" p1) [y, z] [] pos) (evI call (.rng2 a b)) := by
  refine (pi_range2 (g.gl hg) g.lw.rng (pa_cons ha (pa_cons hb pa_nil (starEach_cons hn2)) (starEach_cons hn)) (by rw [starEach_cons hn, starEach_cons hn2]; rfl) (starEach_cons hn2)).imp fun σ H Q q => ?_
  obtain ⟨w, H0, ε, S, hS, hE, q⟩ := q
  simp only [evI] at q
  refine rd_step (ev := evE call a) monF hS hE q fun d1 S1 w1 H1 v e1 hS1 hE1 r1 q1 => ?_
  refine rd_step (ev := evE call b) monF hS1 hE1 q1 fun d2 S2 w2 H2 u e2 hS2 hE2 r2 q1 => ?_
  obtain ⟨ds, hd, q2⟩ := q1.of
  cases d1 <;> cases d2 <;> simp only [rng2F] at hd <;> try cases hd
  split at hd
  · rename_i hc
    cases hd
    simp only [RV] at r1 r2
    subst r1 r2
    exact ⟨_, _, rfl, hc, q2 w2 H2 _ Ext.refl hS2 wk_rng⟩
  · cases hd
theorem i_zip (g : Good T G call N sc fn W k X) {a b : Ex} {elts : List Expr} {kk : Nat} {tp : Pos} {y z : Expr} (hg : glB sc "zip" = true) (ha : JE G W X y (evE call a)) (hb : JE G W X z (evE call b)) (hn : notStar y = true) (hn2 : notStar z = true) :
    JI G W X (.Tuple elts kk tp) (.Call (.Name "zip" p1) [y, z] [] pos) (evI call (.zip a b)) := by
  refine (RZ.pi_zipA (g.gl hg) g.lw.zip (pa_cons ha (pa_cons hb pa_nil (starEach_cons hn2)) (starEach_cons hn)) (starEach_cons hn) (by rw [starEach_cons hn2]; rfl)).imp fun σ H Q q => ?_
  obtain ⟨w, H0, ε, S, hS, hE, q⟩ := q
  simp only [evI] at q
  refine rd_step (ev := evE call a) monF hS hE q fun d1 S1 w1 H1 v e1 hS1 hE1 r1 q1 => ?_
  refine rd_step (ev := evE call b) monF hS1 hE1 q1 fun d2 S2 w2 H2 u e2 hS2 hE2 r2 q1 => ?_
  obtain ⟨ds, hd, q2⟩ := q1.of
  cases d1 <;> cases d2 <;> simp only [zipF] at hd <;> try cases hd
  · have r1' := RV.ext e2 _ _ r1
    simp only [RV] at r1' r2
    obtain ⟨a, vs, rfl, h1, h2⟩ := r1'
    obtain ⟨b, us, rfl, h3, h4⟩ := r2
    exact ⟨a, b, vs, us, rfl, .inr ⟨g.lw.hK ▸ h1.sq, g.lw.hK ▸ h3.sq, q2 w2 H2 _ Ext.refl hS2 (wk_zipT g.lw.hK h1 h2 h3 h4)⟩⟩
  · have r1' := RV.ext e2 _ _ r1
    simp only [RV] at r1' r2
    obtain ⟨a, vs, rfl, h1, h2⟩ := r1'
    obtain ⟨b, us, rfl, h3, h4⟩ := r2
    exact ⟨a, b, vs, us, rfl, .inl ⟨.inl h1.2, .inl h3.2, q2 w2 H2 _ Ext.refl hS2 (wk_zipL g.lw.hK h1 h2 h3 h4)⟩⟩

theorem wk_dk {w : Wd} {H : Hp} {a : Addr} {o : Obj} {kvs : List (Key × V)} {ks : List Key} (h : H a = some (.frz o (.dK kvs))) (hk : kvs.map (·.1) = ks) : Wk G w H (Itk a o kvs) (keysL ks) := by
  subst hk
  refine ⟨fun w' H' S e hS i d hd => ?_, fun w' H' e => ⟨e.fz a _ _ h, by simp [keysL]⟩⟩
  unfold keysL at hd
  rw [List.getElem?_map, List.getElem?_map] at hd
  cases hq : kvs[i]? with
  | none => rw [hq] at hd; cases hd
  | some p =>
    rw [hq] at hd
    cases hd
    refine ⟨⟨e.fz a _ _ h, (List.getElem?_eq_some_iff.mp hq).1⟩, fun x H'' y => ?_⟩
    obtain ⟨rfl, k, v, e1, rfl⟩ := y
    rw [hq] at e1
    cases e1
    exact ⟨w', Ext.refl, hS, keyD_rv _⟩
theorem wk_dvl {w : Wd} {H : Hp} {a : Addr} {o : Obj} {kvs : List (Key × V)} {vs : List D} (h : H a = some (.frz o (.dK kvs))) (hr : RVs G.K w H (kvs.map (·.2)) vs) : Wk G w H (Itd a o kvs) vs := by
  have hl := hr.length
  rw [List.length_map] at hl
  refine ⟨fun w' H' S e hS i d hd => ?_, fun w' H' e => ⟨e.fz a _ _ h, by rw [hl]; exact Nat.le_refl _⟩⟩
  obtain ⟨v, hv, rv⟩ := hr.get hd
  rw [List.getElem?_map] at hv
  cases hq : kvs[i]? with
  | none => rw [hq] at hv; cases hv
  | some p =>
    rw [hq] at hv
    cases hv
    refine ⟨⟨e.fz a _ _ h, (List.getElem?_eq_some_iff.mp hq).1⟩, fun x H'' y => ?_⟩
    obtain ⟨rfl, k, e1⟩ := y
    rw [hq] at e1
    cases e1
    exact ⟨w', Ext.refl, hS, RV.exts e _ _ rv⟩
theorem wk_dit {w : Wd} {H : Hp} {a : Addr} {o : Obj} {kvs : List (Key × V)} {ks : List Key} {vs : List D} (h : H a = some (.frz o (.dK kvs))) (hk : kvs.map (·.1) = ks) (hr : RVs G.K w H (kvs.map (·.2)) vs) : Wk G w H (Iti a o kvs) (List.zipWith (fun k v => .tup [dOfKey k, v]) ks vs) := by
  subst hk
  have hl := hr.length
  rw [List.length_map] at hl
  refine ⟨fun w' H' S e hS i d hd => ?_, fun w' H' e => ⟨e.fz a _ _ h, by rw [List.length_zipWith, List.length_map]; omega⟩⟩
  rw [List.getElem?_zipWith, List.getElem?_map] at hd
  cases hq : kvs[i]? with
  | none => rw [hq] at hd; cases hd
  | some p =>
    rw [hq] at hd
    cases hu : vs[i]? with
    | none => rw [hu] at hd; cases hd
    | some d1 =>
    rw [hu] at hd
    cases hd
    obtain ⟨v, hv, rv⟩ := hr.get hu
    rw [List.getElem?_map, hq] at hv
    cases hv
    refine ⟨⟨e.fz a _ _ h, (List.getElem?_eq_some_iff.mp hq).1⟩, fun x H'' y => ?_⟩
    obtain ⟨T, k, v, e1, rfl, hT, rfl⟩ := y
    rw [hq] at e1
    cases e1
    refine ⟨_, ext_imm hS hT, rst_imm hS hT, rv_tup hS hT ?_⟩
    simp only [RVs]
    exact ⟨_, _, rfl, keyD_rv _, _, _, rfl, RV.exts e _ _ rv, rfl⟩
theorem wk_enu {K : PySem.W.Frag} {w : Wd} {H : Hp} {a : Addr} {vs : List V} {l : List D} (hK : G.K = K) (h : ImL w H a vs) (r : RVs G.K w H vs l) : Wk G w H (Ite K a) (l.zipIdx.map fun p => .tup [.int (p.2 : Nat), p.1]) := by
  subst hK
  refine ⟨fun w' H' S e hS i d hd => ?_, fun w' H' e => ⟨vs, .inl (e.imL h).2, by rw [r.length]; simp⟩⟩
  rw [List.getElem?_map, List.getElem?_zipIdx] at hd
  cases hu : l[i]? with
  | none => rw [hu] at hd; cases hd
  | some d1 =>
    rw [hu] at hd
    cases hd
    obtain ⟨v, hv, rv⟩ := r.get hu
    refine ⟨⟨vs, v, .inl (e.imL h).2, hv⟩, fun x H'' y => ?_⟩
    obtain ⟨T, x1, rfl, hT, rfl, y⟩ := y
    have := y vs (.inl (e.imL h).2)
    rw [hv] at this
    cases this
    refine ⟨_, ext_imm hS hT, rst_imm hS hT, rv_tup hS hT ?_⟩
    simp only [RVs, Nat.zero_add]
    exact ⟨_, _, rfl, RV_int, _, _, rfl, RV.exts e _ _ rv, rfl⟩
/-- what a walked dict is in the heap -/
theorem dctW_at {w : Wd} {H : Hp} {S : Sto} {x : D} {v : V} {p : List Key × List D} (hS : RSt G w S H) (r : RV G.K w H v x) (h : dctW S x = some p) : ∃ a o kvs, v = .ref a ∧ H a = some (.frz o (.dK kvs)) ∧ kvs.map (·.1) = p.1 ∧ RVs G.K w H (kvs.map (·.2)) p.2 := by
  cases x <;> simp only [dctW] at h <;> try cases h
  · rename_i n
    split at h
    · rename_i ks vs e
      cases h
      obtain ⟨a, e1, o, kvs, h1, h2, h3⟩ := hS.ob n _ e
      simp only [RV] at r
      obtain ⟨b, e2, rfl⟩ := r
      rw [e1] at e2
      cases e2
      exact ⟨a, o, kvs, rfl, h1, h2, h3⟩
    · cases h
  · simp only [RV] at r
    obtain ⟨a, o, kvs, rfl, _, h1, h2, h3⟩ := r
    exact ⟨a, o, kvs, rfl, h1, h2, h3⟩
theorem i_dk (g : Good T G call N sc fn W k X) {a : Ex} {t x : Expr} (ha : JE G W X x (evE call a)) : JI G W X t x (evI call (.dk a)) := by
  refine (pi_keys ha).imp fun σ H Q q => ?_
  obtain ⟨w, H0, ε, S, hS, hE, q⟩ := q
  simp only [evI] at q
  refine rd_step (ev := evE call a) monF hS hE q fun d1 S1 w1 H1 v e1 hS1 hE1 r1 q1 => ?_
  obtain ⟨ds, hd, q2⟩ := q1.of
  cases hp : dctW S1 d1 with
  | none => rw [hp] at hd; cases hd
  | some p =>
    rw [hp] at hd
    cases hd
    obtain ⟨b, o, kvs, rfl, h1, h2, h3⟩ := dctW_at hS1 r1 hp
    exact ⟨b, o, rfl, .inl ⟨kvs, h1, q2 w1 H1 _ Ext.refl hS1 (wk_dk h1 h2)⟩⟩
theorem i_dvl (g : Good T G call N sc fn W k X) {a : Ex} {t x : Expr} {ap : Pos} (h0 : notCall0 x = true) (hl : (ap.endLine == pos.line) = true) (ha : JE G W X x (evE call a)) : JI G W X t (.Call (.Attribute x "values" ap) [] [] pos) (evI call (.dvl a)) := by
  refine (pi_values ha (base_of h0) hl).imp fun σ H Q q => ?_
  obtain ⟨w, H0, ε, S, hS, hE, q⟩ := q
  simp only [evI] at q
  refine rd_step (ev := evE call a) monF hS hE q fun d1 S1 w1 H1 v e1 hS1 hE1 r1 q1 => ?_
  obtain ⟨ds, hd, q2⟩ := q1.of
  cases hp : dctW S1 d1 with
  | none => rw [hp] at hd; cases hd
  | some p =>
    rw [hp] at hd
    cases hd
    obtain ⟨b, o, kvs, rfl, h1, h2, h3⟩ := dctW_at hS1 r1 hp
    exact ⟨b, o, kvs, rfl, h1, q2 w1 H1 _ Ext.refl hS1 (wk_dvl h1 h3)⟩
theorem i_dit (g : Good T G call N sc fn W k X) {a : Ex} {x : Expr} {elts : List Expr} {kk : Nat} {tp ap : Pos} (h0 : notCall0 x = true) (hl : (ap.endLine == pos.line) = true) (ha : JE G W X x (evE call a)) : JI G W X (.Tuple elts kk tp) (.Call (.Attribute x "items" ap) [] [] pos) (evI call (.dit a)) := by
  refine (pi_items ha (base_of h0) hl).imp fun σ H Q q => ?_
  obtain ⟨w, H0, ε, S, hS, hE, q⟩ := q
  simp only [evI] at q
  refine rd_step (ev := evE call a) monF hS hE q fun d1 S1 w1 H1 v e1 hS1 hE1 r1 q1 => ?_
  obtain ⟨ds, hd, q2⟩ := q1.of
  cases hp : dctW S1 d1 with
  | none => rw [hp] at hd; cases hd
  | some p =>
    rw [hp] at hd
    cases hd
    obtain ⟨b, o, kvs, rfl, h1, h2, h3⟩ := dctW_at hS1 r1 hp
    exact ⟨b, o, kvs, rfl, h1, q2 w1 H1 _ Ext.refl hS1 (wk_dit h1 h2 h3)⟩
theorem i_enu (g : Good T G call N sc fn W k X) {a : Ex} {y : Expr} {elts : List Expr} {kk : Nat} {tp : Pos} (hg : glB sc "enumerate" = true) (ha : JE G W X y (evE call a)) (hn : notStar y = true) : JI G W X (.Tuple elts kk tp) (.Call (.Name "enumerate" p1) [y] [] pos) (evI call (.enu a)) := by
  refine (pi_enum (g.gl hg) g.lw.enu (pa_cons ha pa_nil (starEach_cons hn)) (starEach_cons hn)).imp fun σ H Q q => ?_
  obtain ⟨w, H0, ε, S, hS, hE, q⟩ := q
  simp only [evI] at q
  refine rd_step (ev := evE call a) monF hS hE q fun d1 S1 w1 H1 v e1 hS1 hE1 r1 q1 => ?_
  obtain ⟨ds, hd, q2⟩ := q1.of
  cases d1 <;> simp only [enuF] at hd <;> try cases hd
  simp only [RV] at r1
  obtain ⟨a, vs, rfl, r2, r3⟩ := r1
  exact ⟨a, vs, rfl, .inl r2.2, q2 w1 H1 _ Ext.refl hS1 (wk_enu g.lw.hK r2 r3)⟩
/-! ### comprehensions -/
abbrev NoW : WX := fun _ _ _ _ => False
theorem takesNo {X : Cx} : Takes X NoW := fun u s' ⟨a, B, sI, pins, σ, H, cls, d, e, I, nb, up, sky, na, os, ag, w⟩ => w.elim
abbrev JC (G : Gx) (W : WX) (X : Cx) (xs : List Expr) (ev : Env → Sto → R Bool) : Prop := PTs X xs (rd G W eqR ev)
theorem c_none : JC G W X [] (evC call none) := by
  refine ⟨fun pins s σ H Q I q => pts_nil.run pins s σ H Q I ?_⟩
  obtain ⟨w, H0, ε, S, hS, hE, q⟩ := q
  simp only [evC] at q
  exact q w H true Ext.refl hS rfl
theorem c_some {a : Ex} {x : Expr} (ha : JT G W X x (evT call a)) : JC G W X [x] (evC call (some a)) := by
  refine ⟨fun pins s σ H Q I q => (pts_one ha).run pins s σ H Q I ?_⟩
  obtain ⟨w, H0, ε, S, hS, hE, q⟩ := q
  simp only [evC] at q
  exact ⟨w, H0, ε, S, hS, hE, q⟩
theorem ownN_snd {own : List Nat} : (ownN N own).map (·.2) = own := by
  unfold ownN
  rw [List.map_map]
  exact List.map_id _
/-- a new list, not yet a value: H1 the heap ahead -/
def finF (G : Gx) (Hi : Hp) (Q : VK) : Po D := fun w H d S' => ∀ w' H' a, Ext w H w' H' → RSt G w' S' H' → OwnAt G.K w' H' a d → a ∉ w'.ρ → ¬ w'.Φ a → Hi a = none → Q (.ref a) H'
theorem monFF {G : Gx} {Hi : Hp} {Q : VK} : Mon (finF G Hi Q) := ⟨fun e h w2 H2 a e2 => h w2 H2 a (e.trans e2)⟩
def rdF (G : Gx) (W : WX) (ev : Env → Sto → R D) : TE := fun σ H Q =>
  ∃ w H0 ε S, RSt G w S H ∧ REn G.K w H0 σ H ε ∧ Pst (ev ε S) (finF G H Q w H) (PX G W σ w H)
/-- a new thing that nobody will change becomes a value: a list stays what it is, a dict is iced -/
theorem ice_own {w w' : Wd} {H H' : Hp} {S : Sto} {a : Addr} {d : D} {Q : VK} (e : Ext w H w' H') (hS : RSt G w' S H') (ha : OwnAt G.K w' H' a d) (n1 : a ∉ w'.ρ) (n2 : ¬ w'.Φ a) (hi : H a = none)
    (q : finP G (RV G.K) Q w H d S) : Q (.ref a) H' ∨ ∃ u, H' a = some u ∧ Mut (some u) ∧ ∀ ob, Q (.ref a) (upd H' a (.frz ob u)) := by
  cases d <;> try exact ha.elim
  · obtain ⟨vs, h1, h2⟩ := ha
    refine .inl (q (w'.imm a n1) H' (.ref a) ⟨e.ρ, fun b h => .inl (e.Φ b h), fun b h => ?_, e.keep, e.dom, e.fz⟩ (rst_own hS n1 ⟨by rw [h1]; exact (fun z => nomatch z), by rw [h1]; exact nt_lst⟩) ?_)
    · rcases h with h | h
      · exact e.new b h
      · subst h; exact .inr hi
    · simp only [RV]
      exact ⟨a, vs, rfl, ⟨.inr rfl, .inl h1⟩, RVs.exts (exts_own n1) _ _ h2⟩
  · obtain ⟨kvs, h1, h2, h3⟩ := ha
    refine .inr ⟨_, h1, trivial, fun ob => ?_⟩
    have hf : ∀ ob u, H' a ≠ some (.frz ob u) := nf_of h1
    have x1 := exts_upd (o := .frz ob (.dK kvs)) n2 hf
    have hS1 := rst_upd (o := .frz ob (.dK kvs)) hS n1 n2 (by rw [h1]; exact nt_dK) hf
    refine q (w'.imm a n1) _ (.ref a) ⟨e.ρ, fun b h => .inl (e.Φ b h), fun b h => ?_, fun b o hb hn hm => ?_, fun b h => dom_upd b (e.dom b h), fun b ob u h => ?_⟩ (rst_own hS1 n1 ⟨by rw [upd_same]; exact (fun z => nomatch z), by rw [upd_same]; exact nt_frz⟩) ?_
    · rcases h with h | h
      · exact e.new b h
      · subst h; exact .inr hi
    · rw [upd_ne (fun z => by subst z; rw [hi] at hb; cases hb)]; exact e.keep b o hb hn hm
    · exact fz_upd hf b ob u (e.fz b ob u h)
    · simp only [RV]
      exact ⟨a, ob, kvs, rfl, .inr rfl, upd_same, h2, RVs.exts (exts_own n1) _ _ (RVs.exts x1 _ _ h3)⟩
theorem pe_F {X : Cx} {e : Expr} {ev : Env → Sto → R D} (h : PE X e (rdF G W ev)) : PE X e (rd G W (RV G.K) ev) := by
  refine ⟨fun pins s σ H Q I q => ?_⟩
  refine thn (h.run pins s σ H (fun v H1 => Q v H1 ∨ ∃ p u, v = .ref p ∧ H1 p = some u ∧ Mut (some u) ∧ ∀ ob, Q v (upd H1 p (.frz ob u))) I ?_) fun u s1 ⟨v, H1, I1, r1, q1⟩ => ?_
  · obtain ⟨w, H0, ε, S, hS, hE, q⟩ := q
    refine ⟨w, H0, ε, S, hS, hE, q.imp (fun d S' q w' H' a e hS' ha n1 n2 hi => ?_) fun _ _ q => q⟩
    rcases ice_own e hS' ha n1 n2 hi q with h | ⟨u, h1, h2, h3⟩
    · exact .inl h
    · exact .inr ⟨a, u, rfl, h1, h2, h3⟩
  · rcases q1 with q1 | ⟨p, o, ev, hp, hm, q1⟩
    · exact ⟨v, H1, I1, r1, q1⟩
    · obtain ⟨ob, I2⟩ := I1.lock hp hm
      exact ⟨v, _, I2, r1, q1 ob⟩
/-- a written dict, new -/
theorem f_dsp (g : Good T G call N sc fn W k X) {es : List Ex} {keys : List (Option Expr)} {vals : List Expr} (h : JKv G W X pos call es keys vals) (hall : keys.all (·.isSome) = true) (hl : keys.length = vals.length) (h0 : keys ≠ []) (h15 : keys.length ≤ 15) (hk : es.length = 2 * keys.length) :
    PE X (.Dict keys vals pos) (rdF G W (evE call (.dsp es))) := by
  obtain ⟨trs, h1, h2⟩ := h
  refine (pe_disp h1 hall hl h0 h15).imp fun σ H Q q => ?_
  obtain ⟨w, H0, ε, S, hS, hE, q⟩ := q
  simp only [evE] at q
  intro p hp
  obtain ⟨f1, f2⟩ := hS.fresh hp
  refine h2 σ _ _ ?_
  refine rd_stepE (ev := evEs call es) (f := fun ds S1 => R.of S1 (Option.map (fun p => BX.D.dct p.1 p.2) (dspF ds [] []))) (P := fun _ _ d S' => finF G H Q w H d S' ∧ True) (w := w) ⟨fun _ h => h⟩ (rst_tmp hS hp) (hE.ext (ext_tmp hp)) ?_ fun ds S1 w1 H1 ps ee e1 hS1 hE1 r1 q1 => ?_
  · exact q.imp (fun _ _ q => ⟨q, trivial⟩) fun _ _ q => q.ext (ext_tmp hp)
  obtain ⟨d, hd, q2⟩ := q1.of
  cases hdd : dspF ds [] [] with
  | none => rw [hdd] at hd; cases hd
  | some rr =>
    rw [hdd] at hd
    cases hd
    have hp1 : H1 p = some (.dK []) := e1.keep p _ upd_same f1 (fun _ z => nomatch z)
    have hn : upd H p (.dK []) p ≠ none := by rw [upd_same]; exact fun z => nomatch z
    have g1 : p ∉ w1.ρ := e1.out hn f1
    have g2 : ¬ w1.Φ p := e1.outΦ hn f2
    obtain ⟨more, e3, e4, e5⟩ := dsp_rel (kvs := []) r1 rfl (by simp [RVs]) hdd
    have hf : ∀ ob u, H1 p ≠ some (.frz ob u) := nf_of hp1
    refine ⟨hp1, more, e3, ?_, q2.1 w1 _ p (Ext.put e1 hp) (rst_upd hS1 g1 g2 (by rw [hp1]; exact nt_dK) hf) ⟨mergeK [] more, upd_same, e4, RVs.exts (exts_upd g2 hf) _ _ e5⟩ g1 g2 hp⟩
    have z1 := (evEs_len ee).trans hk
    have z2 := r1.length
    have : ∀ ps : List (V × V), (ps.flatMap fun p => [p.1, p.2]).length = 2 * ps.length := fun ps => by
      induction ps with
      | nil => rfl
      | cons p ps ih => simp only [List.flatMap_cons, List.length_append, List.length_cons, List.length_nil, ih]; omega
    rw [this] at z2
    have z3 := congrArg List.length e3
    rw [List.length_map] at z3
    omega
theorem fresh_back {w1 w : Wd} {H H1 : Hp} {S : Sto} {a : Addr} (e : Ext w H w1 H1) (hS : RSt G w1 S H1) (h : H1 a = none) : H a = none := by
  cases q : H a with
  | none => rfl
  | some o => exact absurd h (e.dom a (by rw [q]; exact fun z => nomatch z))
theorem lc_imp (g : Good T G call N sc fn W k X) {el : Ex} {tg : Tg} {it : Itx} {cond : Option Ex} {own : List Nat} (htg : tgIn own tg = true) {σ : St} {H : Hp} {Q : VK} (q : rdF G W (evE call (.lc el tg it cond own)) σ H Q) :
    tLc (rd G W (Wk G) (evI call it)) (gRd G tg) (rd G NoW eqR (evC call cond)) (rd G NoW (RV G.K) (evE call el)) own σ H Q := by
  obtain ⟨w, H0, ε, S, hS, hE, q⟩ := q
  simp only [evE] at q
  refine rd_step (ev := evI call it) monFF hS hE q fun ds S1 w1 H1 J e1 hS1 hE1 wk q1 => ?_
  intro D hD
  generalize hF : (fun (d : BX.D) (S : Sto) => (match setT tg d (wipeE ε own) with
        | some ε' => (evC call cond ε' S).bd fun k S2 => if k = true then (evE call el ε' S2).bd fun x S3 => .ok (some x) S3 else .ok none S2
        | none => .stuck : R (Option BX.D))) = F at q1
  cases hL : lcL F ds S1 with
  | stuck => rw [hL] at q1; exact q1.elim
  | exc _ _ => rw [hL] at q1; exact q1.elim
  | ok xs S2 =>
    rw [hL] at q1
    dsimp only at q1
    split at q1
    case isFalse => exact q1.elim
    case isTrue hz =>
      have q1 : finF G H Q w1 H1 (.lst xs) S2 := q1
      have hfr : H D = none := fresh_back e1 hS1 hD
      obtain ⟨f1, f2⟩ := hS1.fresh hD
      refine ⟨fun i m H => m = ds.length - i ∧ i ≤ ds.length ∧ ∃ w' S' ys vs rest, Ext w1 H1 w' H ∧ RSt G w' S' H ∧ H D = some (.lst vs) ∧ D ∉ w'.ρ ∧ ¬ w'.Φ D ∧ RVs G.K w' H vs ys ∧ lcL F (ds.drop i) S' = .ok rest S2 ∧ ys ++ rest = xs,
        ⟨ds.length, by simp, Nat.zero_le _, w1, S1, [], [], xs, ext_tmp hD, rst_tmp hS1 hD, upd_same, f1, f2, by simp [RVs], hL, rfl⟩, ?_⟩
      rintro i m Hm ⟨rfl, hile, w', S', ys, vs, rest, e, hS', hDv, n1, n2, rv, hl, hyr⟩
      have hDn : Hm D ≠ none := by rw [hDv]; exact fun z => nomatch z
      by_cases hi : i < ds.length
      · right
        have hd : ds[i]? = some ds[i] := by simp [hi]
        obtain ⟨hgo, hyld⟩ := wk.go w' Hm S' e.toS hS' i _ hd
        rw [List.drop_eq_getElem_cons hi] at hl
        refine ⟨hgo, fun H' => ds.length - (i + 1) = ds.length - (i + 1) ∧ i + 1 ≤ ds.length ∧ ∃ w' S' ys vs rest, Ext w1 H1 w' H' ∧ RSt G w' S' H' ∧ H' D = some (.lst vs) ∧ D ∉ w'.ρ ∧ ¬ w'.Φ D ∧ RVs G.K w' H' vs ys ∧ lcL F (ds.drop (i + 1)) S' = .ok rest S2 ∧ ys ++ rest = xs,
          fun H' hN => ⟨_, by omega, hN⟩, fun v H'' hy => ?_⟩
        obtain ⟨w2, e2, hS2, r2⟩ := hyld v H'' hy
        simp only [lcL] at hl
        -- the item's evaluation
        have hfd : ∀ o, F ds[i] S' = o → (match o with
          | .ok (some x) S'' => (match lcL F (List.drop (i + 1) ds) S'' with
            | .ok xs S''' => (.ok (x :: xs) S''' : R (List BX.D))
            | _ => .stuck)
          | .ok none S'' => lcL F (List.drop (i + 1) ds) S''
          | _ => .stuck) = .ok rest S2 := fun o e => by rw [← e]; exact hl
        cases hset : setT tg ds[i] (wipeE ε own) with
        | none =>
          have : F ds[i] S' = .stuck := by rw [← hF]; simp only [hset]
          have := hfd _ this
          cases this
        | some ε' =>
          have hFd : F ds[i] S' = (evC call cond ε' S').bd fun k S2 => if k = true then (evE call el ε' S2).bd fun x S3 => .ok (some x) S3 else .ok none S2 := by rw [← hF]; simp only [hset]
          have hl := hfd _ hFd
          clear hfd
          have hE2 : REn G.K w2 H0 (wipe σ own) H'' (wipeE ε own) := ((hE1.ext e).ext e2).wipe own
          refine ⟨w2, H0, wipeE ε own, _, ε', hE2, r2, hset, fun σ2 hEs hw => ⟨?_, ?_⟩⟩
          · rw [hw own htg]; exact wipe_wipe fun j hj => hj
          · -- the test
            refine ⟨w2, H0, ε', S', hS2, hEs, ?_⟩
            cases hC : evC call cond ε' S' with
            | stuck => rw [hC] at hl; cases hl
            | exc _ _ => rw [hC] at hl; cases hl
            | ok kb Sk =>
              rw [hC] at hl
              simp only [R.bd_ok] at hl
              intro w3 H3 b e3 hS3 hb
              obtain rfl : b = kb := hb
              have e13 : Ext w1 H1 w3 H3 := (e.trans e2).trans e3
              have d2 : H'' D = some (.lst vs) := e2.keep D _ hDv n1 (fun _ z => nomatch z)
              have n12 : D ∉ w2.ρ := e2.out hDn n1
              have n22 : ¬ w2.Φ D := e2.outΦ hDn n2
              have d2n : H'' D ≠ none := by rw [d2]; exact fun z => nomatch z
              have d3 : H3 D = some (.lst vs) := e3.keep D _ d2 n12 (fun _ z => nomatch z)
              have n13 : D ∉ w3.ρ := e3.out d2n n12
              have n23 : ¬ w3.Φ D := e3.outΦ d2n n22
              have d3n : H3 D ≠ none := by rw [d3]; exact fun z => nomatch z
              cases b with
              | false =>
                simp only [Bool.false_eq_true, if_false] at hl ⊢
                exact ⟨trivial, hi, w3, Sk, ys, vs, rest, e13, hS3, d3, n13, n23, RVs.ext e3 _ _ (RVs.ext e2 _ _ rv), hl, hyr⟩
              | true =>
                simp only [if_true] at hl ⊢
                refine ⟨w3, H0, ε', Sk, hS3, hEs.ext e3, ?_⟩
                cases hV : evE call el ε' Sk with
                | stuck => rw [hV] at hl; cases hl
                | exc _ _ => rw [hV] at hl; cases hl
                | ok xv Sx =>
                  rw [hV] at hl
                  simp only [R.bd_ok] at hl
                  intro w4 H4 y e4 hS4 ry
                  cases hR : lcL F (List.drop (i + 1) ds) Sx with
                  | stuck => rw [hR] at hl; cases hl
                  | exc _ _ => rw [hR] at hl; cases hl
                  | ok rest' S5 =>
                    rw [hR] at hl
                    cases hl
                    have d4 : H4 D = some (.lst vs) := e4.keep D _ d3 n13 (fun _ z => nomatch z)
                    have n14 : D ∉ w4.ρ := e4.out d3n n13
                    have n24 : ¬ w4.Φ D := e4.outΦ d3n n23
                    have rv4 := RVs.ext e4 _ _ (RVs.ext e3 _ _ (RVs.ext e2 _ _ rv))
                    have hlen : vs.length < sizeLine := by
                      have := congrArg List.length hyr
                      simp only [List.length_append, List.length_cons] at this
                      rw [rv.length]
                      omega
                    have eu : ExtS w4 H4 w4 (upd H4 D (.lst (vs ++ [y]))) := exts_upd n24 (nf_of d4)
                    refine ⟨vs, d4, hlen, trivial, hi, w4, Sx, ys ++ [xv], vs ++ [y], rest', ?_, rst_upd hS4 n14 n24 (by rw [d4]; exact nt_lst) (nf_of d4), upd_same, n14, n24, ?_, hR, by rw [List.append_assoc]; exact hyr⟩
                    · have e14 := e13.trans e4
                      refine ⟨e14.ρ, e14.Φ, e14.new, fun a o ha hn hm => ?_, fun a h => dom_upd a (e14.dom a h), fun a ob u ha => by
                        rw [upd_ne (fun z => by subst z; rw [hD] at ha; cases ha)]
                        exact e14.fz a ob u ha⟩
                      have : a ≠ D := fun z => by subst z; rw [hD] at ha; cases ha
                      rw [upd_ne this]
                      exact e14.keep a o ha hn hm
                    · refine RVs.append (RVs.exts eu _ _ rv4) ?_
                      simp only [RVs]
                      exact ⟨y, [], rfl, RV.exts eu _ _ ry, rfl⟩
      · left
        have hie : i = ds.length := by omega
        subst hie
        refine ⟨wk.stop w' Hm e.toS, ?_⟩
        simp only [List.drop_length, lcL] at hl
        cases hl
        rw [List.append_nil] at hyr
        subst hyr
        exact q1 w' Hm D e hS' ⟨vs, hDv, rv⟩ n1 n2 hfr
theorem s_lc (g : Good T G call N sc fn W k X) {el : Ex} {tg : Tg} {it : Itx} {cond : Option Ex} {own : List Nat} {x tx ix : Expr} {ifs : List Expr} {scope : Scope}
    (hi : JI G W X tx ix (evI call it)) (ok : BlkOk X.N X.env.scope scope (ownN N own)) (htg : tgIn own tg = true)
    (hg : ∀ (s : Shared) (H : Hp) (C : Addr) (cl : List (Str × Addr)) (fp : List Addr), PG (X.blk s H scope (compEnvC scope cl C X.env) fp) tx (gRd G tg))
    (ht : ∀ (s : Shared) (H : Hp) (C : Addr) (cl : List (Str × Addr)) (fp : List Addr), JC G NoW (X.blk s H scope (compEnvC scope cl C X.env) fp) ifs (evC call cond))
    (he : ∀ (s : Shared) (H : Hp) (C : Addr) (cl : List (Str × Addr)) (fp : List Addr), JE G NoW (X.blk s H scope (compEnvC scope cl C X.env) fp) x (evE call el))
    (hs : ∀ x, foldedSetIterable ix X.env x = pure x) : PE X (.ListComp x [⟨tx, ix, ifs, 0⟩] scope pos) (rdF G W (evE call (.lc el tg it cond own))) := by
  refine (pe_lc g.calm (by rw [g.hN]; exact g.nd) hi ok hg ht he hs).imp fun σ H Q q => ?_
  rw [ownN_snd]
  exact lc_imp g htg q
theorem dc_imp (g : Good T G call N sc fn W k X) {kx vx : Ex} {tg : Tg} {it : Itx} {cond : Option Ex} {own : List Nat} (htg : tgIn own tg = true) {σ : St} {H : Hp} {Q : VK} (q : rdF G W (evE call (.dc kx vx tg it cond own)) σ H Q) :
    tDc (rd G W (Wk G) (evI call it)) (gRd G tg) (rd G NoW eqR (evC call cond)) (rd G NoW (RV G.K) (evE call kx)) (rd G NoW (RV G.K) (evE call vx)) own σ H Q := by
  obtain ⟨w, H0, ε, S, hS, hE, q⟩ := q
  simp only [evE] at q
  refine rd_step (ev := evI call it) monFF hS hE q fun ds S1 w1 H1 J e1 hS1 hE1 wk q1 => ?_
  intro D hD
  generalize hF : (fun (d : BX.D) (S : Sto) => (match setT tg d (wipeE ε own) with
        | some ε' => (evC call cond ε' S).bd fun k S2 => if k = true then (evE call kx ε' S2).bd fun y S3 => (evE call vx ε' S3).bd fun z S4 => .ok (some (y, z)) S4 else .ok none S2
        | none => .stuck : R (Option (BX.D × BX.D)))) = F at q1
  cases hL : lcD F ds [] [] S1 with
  | stuck => rw [hL] at q1; exact q1.elim
  | exc _ _ => rw [hL] at q1; exact q1.elim
  | ok pr S2 =>
      rw [hL] at q1
      have q1 : finF G H Q w1 H1 (.dct pr.1 pr.2) S2 := q1
      have hfr : H D = none := fresh_back e1 hS1 hD
      obtain ⟨f1, f2⟩ := hS1.fresh hD
      refine ⟨fun i m H => m = ds.length - i ∧ i ≤ ds.length ∧ ∃ w' S' kvs ks ys, Ext w1 H1 w' H ∧ RSt G w' S' H ∧ H D = some (.dK kvs) ∧ D ∉ w'.ρ ∧ ¬ w'.Φ D ∧ kvs.map (·.1) = ks ∧ RVs G.K w' H (kvs.map (·.2)) ys ∧ lcD F (ds.drop i) ks ys S' = .ok pr S2,
        ⟨ds.length, by simp, Nat.zero_le _, w1, S1, [], [], [], ext_tmp hD, rst_tmp hS1 hD, upd_same, f1, f2, rfl, by simp [RVs], hL⟩, ?_⟩
      rintro i m Hm ⟨rfl, hile, w', S', kvs, ks, ys, e, hS', hDv, n1, n2, hks, rv, hl⟩
      have hDn : Hm D ≠ none := by rw [hDv]; exact fun z => nomatch z
      by_cases hi : i < ds.length
      · right
        have hd : ds[i]? = some ds[i] := by simp [hi]
        obtain ⟨hgo, hyld⟩ := wk.go w' Hm S' e.toS hS' i _ hd
        rw [List.drop_eq_getElem_cons hi] at hl
        refine ⟨hgo, fun H' => ds.length - (i + 1) = ds.length - (i + 1) ∧ i + 1 ≤ ds.length ∧ ∃ w' S' kvs ks ys, Ext w1 H1 w' H' ∧ RSt G w' S' H' ∧ H' D = some (.dK kvs) ∧ D ∉ w'.ρ ∧ ¬ w'.Φ D ∧ kvs.map (·.1) = ks ∧ RVs G.K w' H' (kvs.map (·.2)) ys ∧ lcD F (ds.drop (i + 1)) ks ys S' = .ok pr S2,
          fun H' hN => ⟨_, by omega, hN⟩, fun v H'' hy => ?_⟩
        obtain ⟨w2, e2, hS2, r2⟩ := hyld v H'' hy
        simp only [lcD] at hl
        -- the item's evaluation
        have hfd : ∀ o, F ds[i] S' = o → (match o with
          | .ok (some p) S'' => (match keyD p.1 with
            | some q => if ks.length < sizeLine then lcD F (List.drop (i + 1) ds) (putKs ks q) (putVs ks ys q p.2) S'' else .stuck
            | none => .stuck)
          | .ok none S'' => lcD F (List.drop (i + 1) ds) ks ys S''
          | _ => (.stuck : R (List Key × List BX.D))) = .ok pr S2 := fun o e => by rw [← e]; exact hl
        cases hset : setT tg ds[i] (wipeE ε own) with
        | none =>
          have : F ds[i] S' = .stuck := by rw [← hF]; simp only [hset]
          have := hfd _ this
          cases this
        | some ε' =>
          have hFd : F ds[i] S' = (evC call cond ε' S').bd fun k S2 => if k = true then (evE call kx ε' S2).bd fun y S3 => (evE call vx ε' S3).bd fun z S4 => .ok (some (y, z)) S4 else .ok none S2 := by rw [← hF]; simp only [hset]
          have hl := hfd _ hFd
          clear hfd
          have hE2 : REn G.K w2 H0 (wipe σ own) H'' (wipeE ε own) := ((hE1.ext e).ext e2).wipe own
          refine ⟨w2, H0, wipeE ε own, _, ε', hE2, r2, hset, fun σ2 hEs hw => ⟨?_, ?_⟩⟩
          · rw [hw own htg]; exact wipe_wipe fun j hj => hj
          · -- the test
            refine ⟨w2, H0, ε', S', hS2, hEs, ?_⟩
            cases hC : evC call cond ε' S' with
            | stuck => rw [hC] at hl; cases hl
            | exc _ _ => rw [hC] at hl; cases hl
            | ok kb Sk =>
              rw [hC] at hl
              simp only [R.bd_ok] at hl
              intro w3 H3 b e3 hS3 hb
              obtain rfl : b = kb := hb
              have e13 : Ext w1 H1 w3 H3 := (e.trans e2).trans e3
              have d2 : H'' D = some (.dK kvs) := e2.keep D _ hDv n1 (fun _ z => nomatch z)
              have n12 : D ∉ w2.ρ := e2.out hDn n1
              have n22 : ¬ w2.Φ D := e2.outΦ hDn n2
              have d2n : H'' D ≠ none := by rw [d2]; exact fun z => nomatch z
              have d3 : H3 D = some (.dK kvs) := e3.keep D _ d2 n12 (fun _ z => nomatch z)
              have n13 : D ∉ w3.ρ := e3.out d2n n12
              have n23 : ¬ w3.Φ D := e3.outΦ d2n n22
              have d3n : H3 D ≠ none := by rw [d3]; exact fun z => nomatch z
              cases b with
              | false =>
                simp only [Bool.false_eq_true, if_false] at hl ⊢
                exact ⟨trivial, hi, w3, Sk, kvs, ks, ys, e13, hS3, d3, n13, n23, hks, RVs.ext e3 _ _ (RVs.ext e2 _ _ rv), hl⟩
              | true =>
                simp only [if_true] at hl ⊢
                refine ⟨w3, H0, ε', Sk, hS3, hEs.ext e3, ?_⟩
                cases hV : evE call kx ε' Sk with
                | stuck => rw [hV] at hl; cases hl
                | exc _ _ => rw [hV] at hl; cases hl
                | ok kd Sx =>
                  rw [hV] at hl
                  simp only [R.bd_ok] at hl
                  intro w4 H4 y e4 hS4 ry
                  refine ⟨w4, H0, ε', Sx, hS4, (hEs.ext e3).ext e4, ?_⟩
                  cases hV2 : evE call vx ε' Sx with
                  | stuck => rw [hV2] at hl; cases hl
                  | exc _ _ => rw [hV2] at hl; cases hl
                  | ok xv Sy =>
                  rw [hV2] at hl
                  simp only [R.bd_ok] at hl
                  intro w5 H5 z e5 hS5 rz
                  cases hq : keyD kd with
                  | none => rw [hq] at hl; cases hl
                  | some qk =>
                  rw [hq] at hl
                  dsimp only at hl
                  split at hl
                  case isFalse => cases hl
                  case isTrue hlen =>
                    have d4 : H4 D = some (.dK kvs) := e4.keep D _ d3 n13 (fun _ z => nomatch z)
                    have n14 : D ∉ w4.ρ := e4.out d3n n13
                    have n24 : ¬ w4.Φ D := e4.outΦ d3n n23
                    have d4n : H4 D ≠ none := by rw [d4]; exact fun z => nomatch z
                    have d5 : H5 D = some (.dK kvs) := e5.keep D _ d4 n14 (fun _ z => nomatch z)
                    have n15 : D ∉ w5.ρ := e5.out d4n n14
                    have n25 : ¬ w5.Φ D := e5.outΦ d4n n24
                    have rv5 := RVs.ext e5 _ _ (RVs.ext e4 _ _ (RVs.ext e3 _ _ (RVs.ext e2 _ _ rv)))
                    obtain ⟨p1, p2⟩ := put_rel hks rv5 rz qk
                    have eu : ExtS w5 H5 w5 (upd H5 D (.dK (putK kvs qk z))) := exts_upd n25 (nf_of d5)
                    refine ⟨kvs, qk, key_of (.inl ry) hq, d5, by rw [← List.length_map (f := (·.1)), hks]; exact hlen, trivial, hi, w5, Sy, putK kvs qk z, _, _, ?_, rst_upd hS5 n15 n25 (by rw [d5]; exact nt_dK) (nf_of d5), upd_same, n15, n25, p1, RVs.exts eu _ _ p2, hl⟩
                    have e15 := (e13.trans e4).trans e5
                    refine ⟨e15.ρ, e15.Φ, e15.new, fun a o ha hn hm => ?_, fun a h => dom_upd a (e15.dom a h), fun a ob u ha => ?_⟩
                    · rw [upd_ne (fun z => by subst z; rw [hD] at ha; cases ha)]
                      exact e15.keep a o ha hn hm
                    · rw [upd_ne (fun z => by subst z; rw [hD] at ha; cases ha)]
                      exact e15.fz a ob u ha
      · left
        have hie : i = ds.length := by omega
        subst hie
        refine ⟨wk.stop w' Hm e.toS, ?_⟩
        simp only [List.drop_length, lcD] at hl
        cases hl
        exact q1 w' Hm D e hS' ⟨kvs, hDv, hks, rv⟩ n1 n2 hfr
theorem s_dc (g : Good T G call N sc fn W k X) {kx vx : Ex} {tg : Tg} {it : Itx} {cond : Option Ex} {own : List Nat} {x y tx ix : Expr} {ifs : List Expr} {scope : Scope}
    (hi : JI G W X tx ix (evI call it)) (ok : BlkOk X.N X.env.scope scope (ownN N own)) (htg : tgIn own tg = true)
    (hg : ∀ (s : Shared) (H : Hp) (C : Addr) (cl : List (Str × Addr)) (fp : List Addr), PG (X.blk s H scope (compEnvC scope cl C X.env) fp) tx (gRd G tg))
    (ht : ∀ (s : Shared) (H : Hp) (C : Addr) (cl : List (Str × Addr)) (fp : List Addr), JC G NoW (X.blk s H scope (compEnvC scope cl C X.env) fp) ifs (evC call cond))
    (hk : ∀ (s : Shared) (H : Hp) (C : Addr) (cl : List (Str × Addr)) (fp : List Addr), JE G NoW (X.blk s H scope (compEnvC scope cl C X.env) fp) x (evE call kx))
    (he : ∀ (s : Shared) (H : Hp) (C : Addr) (cl : List (Str × Addr)) (fp : List Addr), JE G NoW (X.blk s H scope (compEnvC scope cl C X.env) fp) y (evE call vx))
    (hs : ∀ x, foldedSetIterable ix X.env x = pure x) : PE X (.DictComp x y [⟨tx, ix, ifs, 0⟩] scope pos) (rdF G W (evE call (.dc kx vx tg it cond own))) := by
  refine (pe_dc g.calm (by rw [g.hN]; exact g.nd) hi ok hg ht hk he hs).imp fun σ H Q q => ?_
  rw [ownN_snd]
  exact dc_imp g htg q
/-! ### two clauses -/
section
variable {K : PySem.W.Frag} {w w' : Wd} {H0 H H' : Hp} {σ : St} {ε : Env} {D : Addr}
/-- the heap without D -/
def era (H : Hp) (D : Addr) : Hp := fun b => if b = D then none else H b
theorem era_ne {b : Addr} (h : b ≠ D) : era H D b = H b := if_neg h
theorem era_some {b : Addr} {o : HO} (h : era H D b = some o) : b ≠ D ∧ H b = some o := by
  unfold era at h
  split at h
  · cases h
  · rename_i e; exact ⟨e, h⟩
theorem exts_era (n : ¬ w.Φ D) (hf : ∀ ob u, H D ≠ some (.frz ob u)) : ExtS w H w (era H D) := ⟨⟨[], by simp⟩, fun _ h => h, fun a o h e _ => by rw [era_ne (fun z => by subst z; exact n h)]; exact e, fun a ob u e => by rw [era_ne (fun z => by subst z; exact hf ob u e)]; exact e⟩
theorem ext_era : Ext w (era H D) w H := ⟨⟨[], by simp, fun _ z => by simp at z⟩, fun _ h => h, fun _ h => .inl h, fun a o h _ _ => (era_some h).2, fun a h => by
  cases e : era H D a with
  | none => exact absurd e h
  | some o => rw [(era_some e).2]; exact (fun z => nomatch z), fun a ob u h => (era_some h).2⟩
theorem Ext.era_of {w1 : Wd} {H1 : Hp} (e : Ext w1 H1 w H) (h : H1 D = none) : Ext w1 H1 w (era H D) := ⟨e.ρ, e.Φ, e.new, fun a o ha hn hm => by
  rw [era_ne (fun z => by subst z; rw [h] at ha; cases ha)]
  exact e.keep a o ha hn hm, fun a ha => by
  rw [era_ne (fun z => by subst z; exact ha h)]
  exact e.dom a ha, fun a ob u ha => by
  rw [era_ne (fun z => by subst z; rw [h] at ha; cases ha)]
  exact e.fz a ob u ha⟩
/-- D is not an own list -/
theorem REn.erase (h : REn K w H0 σ H ε) (n : ¬ w.Φ D) (hD : H0 D ≠ none) (hf : ∀ ob u, H D ≠ some (.frz ob u)) : REn K w H0 σ (era H D) ε := by
  refine ⟨h.len, fun i s q => ?_, h.ap⟩
  have q' := h.sl i s q
  cases s with
  | un => trivial
  | val d => obtain ⟨v, h1, h2⟩ := q'; exact ⟨v, h1, RV.exts (exts_era n hf) _ _ h2⟩
  | own d =>
    obtain ⟨a, h2, h3, h5, h6, h7⟩ := q'
    have : a ≠ D := fun z => by subst z; exact hD h7
    exact ⟨a, h2, h3.exts (exts_era n hf) (era_ne this), h5, h6, h7⟩
/-- D counts as known from now on -/
theorem REn.know (h : REn K w H0 σ H ε) (n : H D = none) (o : HO) : REn K w (upd H0 D o) σ H ε := by
  refine ⟨h.len, fun i s q => ?_, h.ap⟩
  have q' := h.sl i s q
  cases s with
  | un => trivial
  | val d => exact q'
  | own d =>
    obtain ⟨a, h2, h3, h5, h6, h7⟩ := q'
    have : a ≠ D := fun z => by subst z; exact h3.ne n
    exact ⟨a, h2, h3, h5, h6, (upd_ne this).trans h7⟩
end
theorem lc2_imp (g : Good T G call N sc fn W k X) {el : Ex} {tg tg1 : Tg} {it it1 : Itx} {cond : Option Ex} {own own1 : List Nat} (htg : tgIn own tg = true) (htg1 : tgIn own1 tg1 = true) {σ : St} {H : Hp} {Q : VK} (q : rdF G W (evE call (.lc2 el tg it cond tg1 it1 own own1)) σ H Q) :
    tLc2 (rd G W (Wk G) (evI call it)) (gRd G tg) (rd G NoW eqR (evC call cond)) (rd G NoW (Wk G) (evI call it1)) (gRd G tg1) (rd G NoW eqR (evC call none)) (rd G NoW (RV G.K) (evE call el)) own own1 σ H Q := by
  obtain ⟨w, H0, ε, S, hS, hE, q⟩ := q
  simp only [evE] at q
  refine rd_step (ev := evI call it) monFF hS hE q fun ds S1 w1 H1 J e1 hS1 hE1 wk q1 => ?_
  intro D hD
  generalize hF : (fun (d : BX.D) (S : Sto) => (match setT tg d (wipeE ε own) with
        | some ε' => (evC call cond ε' S).bd fun k S2 => if k = true then (evI call it1 ε' S2).bd fun ds1 S3 =>
            lcL (fun d1 S => match setT tg1 d1 (wipeE ε' own1) with
              | some ε2 => (evE call el ε2 S).bd fun x S4 => .ok (some x) S4
              | none => .stuck) ds1 S3 else .ok [] S2
        | none => .stuck : R (List BX.D))) = F at q1
  cases hL : lcM F ds S1 with
  | stuck => rw [hL] at q1; exact q1.elim
  | exc _ _ => rw [hL] at q1; exact q1.elim
  | ok xs S2 =>
    rw [hL] at q1
    dsimp only at q1
    split at q1
    case isFalse => exact q1.elim
    case isTrue hz =>
      have q1 : finF G H Q w1 H1 (.lst xs) S2 := q1
      have hfr : H D = none := fresh_back e1 hS1 hD
      obtain ⟨f1, f2⟩ := hS1.fresh hD
      refine ⟨fun i m H => m = ds.length - i ∧ i ≤ ds.length ∧ ∃ w' S' ys vs rest, Ext w1 H1 w' H ∧ RSt G w' S' H ∧ H D = some (.lst vs) ∧ D ∉ w'.ρ ∧ ¬ w'.Φ D ∧ RVs G.K w' H vs ys ∧ lcM F (ds.drop i) S' = .ok rest S2 ∧ ys ++ rest = xs,
        ⟨ds.length, by simp, Nat.zero_le _, w1, S1, [], [], xs, ext_tmp hD, rst_tmp hS1 hD, upd_same, f1, f2, by simp [RVs], hL, rfl⟩, ?_⟩
      rintro i m Hm ⟨rfl, hile, w', S', ys, vs, rest, e, hS', hDv, n1, n2, rv, hl, hyr⟩
      have hDn : Hm D ≠ none := by rw [hDv]; exact fun z => nomatch z
      by_cases hi : i < ds.length
      · right
        have hd : ds[i]? = some ds[i] := by simp [hi]
        obtain ⟨hgo, hyld⟩ := wk.go w' Hm S' e.toS hS' i _ hd
        rw [List.drop_eq_getElem_cons hi] at hl
        refine ⟨hgo, fun H' => ds.length - (i + 1) = ds.length - (i + 1) ∧ i + 1 ≤ ds.length ∧ ∃ w' S' ys vs rest, Ext w1 H1 w' H' ∧ RSt G w' S' H' ∧ H' D = some (.lst vs) ∧ D ∉ w'.ρ ∧ ¬ w'.Φ D ∧ RVs G.K w' H' vs ys ∧ lcM F (ds.drop (i + 1)) S' = .ok rest S2 ∧ ys ++ rest = xs,
          fun H' hN => ⟨_, by omega, hN⟩, fun v H'' hy => ?_⟩
        obtain ⟨w2, e2, hS2, r2⟩ := hyld v H'' hy
        simp only [lcM] at hl
        -- the item's evaluation
        have hfd : ∀ o, F ds[i] S' = o → (match o with
          | .ok xs S'' => (match lcM F (List.drop (i + 1) ds) S'' with
            | .ok ys S''' => (.ok (xs ++ ys) S''' : R (List BX.D))
            | _ => .stuck)
          | _ => .stuck) = .ok rest S2 := fun o e => by rw [← e]; exact hl
        cases hset : setT tg ds[i] (wipeE ε own) with
        | none =>
          have : F ds[i] S' = .stuck := by rw [← hF]; simp only [hset]
          have := hfd _ this
          cases this
        | some ε' =>
          generalize hF1 : (fun (d1 : BX.D) (S : Sto) => (match setT tg1 d1 (wipeE ε' own1) with
              | some ε2 => (evE call el ε2 S).bd fun x S4 => .ok (some x) S4
              | none => .stuck : R (Option BX.D))) = F1 at hF
          have hFd : F ds[i] S' = (evC call cond ε' S').bd fun k S2 => if k = true then (evI call it1 ε' S2).bd fun ds1 S3 => lcL F1 ds1 S3 else .ok [] S2 := by rw [← hF, ← hF1]; simp only [hset]
          have hl := hfd _ hFd
          clear hfd
          -- D is known from here on
          have hE2 : REn G.K w2 (upd H0 D (.lst [])) (wipe σ own) H'' (wipeE ε own) := (((hE1.know hD (.lst [])).ext e).ext e2).wipe own
          have hD0 : (upd H0 D (.lst [])) D ≠ none := by rw [upd_same]; exact fun z => nomatch z
          generalize upd H0 D (.lst []) = HZ at hE2 hD0
          refine ⟨w2, HZ, wipeE ε own, _, ε', hE2, r2, hset, fun σ2 hEs hw => ⟨?_, ?_⟩⟩
          · rw [hw own htg]; exact wipe_wipe fun j hj => hj
          · -- the test
            refine ⟨w2, HZ, ε', S', hS2, hEs, ?_⟩
            cases hC : evC call cond ε' S' with
            | stuck => rw [hC] at hl; cases hl
            | exc _ _ => rw [hC] at hl; cases hl
            | ok kb Sk =>
              rw [hC] at hl
              simp only [R.bd_ok] at hl
              intro w3 H3 b e3 hS3 hb
              obtain rfl : b = kb := hb
              have e13 : Ext w1 H1 w3 H3 := (e.trans e2).trans e3
              have d2 : H'' D = some (.lst vs) := e2.keep D _ hDv n1 (fun _ z => nomatch z)
              have n12 : D ∉ w2.ρ := e2.out hDn n1
              have n22 : ¬ w2.Φ D := e2.outΦ hDn n2
              have d2n : H'' D ≠ none := by rw [d2]; exact fun z => nomatch z
              have d3 : H3 D = some (.lst vs) := e3.keep D _ d2 n12 (fun _ z => nomatch z)
              have n13 : D ∉ w3.ρ := e3.out d2n n12
              have n23 : ¬ w3.Φ D := e3.outΦ d2n n22
              have d3n : H3 D ≠ none := by rw [d3]; exact fun z => nomatch z
              cases b with
              | false =>
                simp only [Bool.false_eq_true, if_false] at hl ⊢
                cases hR : lcM F (List.drop (i + 1) ds) Sk with
                | stuck => rw [hR] at hl; cases hl
                | exc _ _ => rw [hR] at hl; cases hl
                | ok rest' S5 =>
                  rw [hR] at hl
                  cases hl
                  exact ⟨trivial, hi, w3, Sk, ys, vs, rest', e13, hS3, d3, n13, n23, RVs.ext e3 _ _ (RVs.ext e2 _ _ rv), hR, hyr⟩
              | true =>
                simp only [if_true] at hl ⊢
                refine ⟨w3, HZ, ε', Sk, hS3, hEs.ext e3, ?_⟩
                cases hV : evI call it1 ε' Sk with
                | stuck => rw [hV] at hl; cases hl
                | exc _ _ => rw [hV] at hl; cases hl
                | ok ds1 Sx =>
                  rw [hV] at hl
                  simp only [R.bd_ok] at hl
                  cases hM : lcL F1 ds1 Sx with
                  | stuck => rw [hM] at hl; cases hl
                  | exc _ _ => rw [hM] at hl; cases hl
                  | ok zs S3 =>
                  rw [hM] at hl
                  dsimp only at hl
                  cases hR : lcM F (List.drop (i + 1) ds) S3 with
                  | stuck => rw [hR] at hl; cases hl
                  | exc _ _ => rw [hR] at hl; cases hl
                  | ok rest' S5 =>
                  rw [hR] at hl
                  cases hl
                  intro w4 H4 J1 e4 hS4 wk1
                  have d4 : H4 D = some (.lst vs) := e4.keep D _ d3 n13 (fun _ z => nomatch z)
                  have n14 : D ∉ w4.ρ := e4.out d3n n13
                  have n24 : ¬ w4.Φ D := e4.outΦ d3n n23
                  have rv4 := RVs.ext e4 _ _ (RVs.ext e3 _ _ (RVs.ext e2 _ _ rv))
                  have hE4 : REn G.K w4 HZ σ2 (era H4 D) ε' := ((hEs.ext e3).ext e4).erase n24 hD0 (nf_of d4)
                  have e14 : Ext w1 H1 w4 (era H4 D) := (e13.trans e4).era_of hD
                  refine ⟨fun j m H => m = ds1.length - j ∧ j ≤ ds1.length ∧ ∃ w' S' ys vs rest, Ext w4 (era H4 D) w' H ∧ RSt G w' S' H ∧ H D = some (.lst vs) ∧ D ∉ w'.ρ ∧ ¬ w'.Φ D ∧ RVs G.K w' H vs ys ∧ lcL F1 (ds1.drop j) S' = .ok rest S3 ∧ ys ++ (rest ++ rest') = xs,
                    ⟨ds1.length, by simp, Nat.zero_le _, w4, Sx, ys, vs, zs, ext_era, hS4, d4, n14, n24, rv4, hM, hyr⟩, ?_⟩
                  clear rv
                  rintro j m1 Hm1 ⟨rfl, hjle, w5, S5', ys5, vs5, rest5, e5, hS5, d5, n15, n25, rv5, hl5, hyr5⟩
                  have d5n : Hm1 D ≠ none := by rw [d5]; exact fun z => nomatch z
                  have es5 : ExtS w4 H4 w5 Hm1 := (exts_era n24 (nf_of d4)).trans e5.toS
                  by_cases hj : j < ds1.length
                  · right
                    have hd1 : ds1[j]? = some ds1[j] := by simp [hj]
                    obtain ⟨hgo1, hyld1⟩ := wk1.go w5 Hm1 S5' es5 hS5 j _ hd1
                    rw [List.drop_eq_getElem_cons hj] at hl5
                    refine ⟨hgo1, fun H' => ds1.length - (j + 1) = ds1.length - (j + 1) ∧ j + 1 ≤ ds1.length ∧ ∃ w' S' ys vs rest, Ext w4 (era H4 D) w' H' ∧ RSt G w' S' H' ∧ H' D = some (.lst vs) ∧ D ∉ w'.ρ ∧ ¬ w'.Φ D ∧ RVs G.K w' H' vs ys ∧ lcL F1 (ds1.drop (j + 1)) S' = .ok rest S3 ∧ ys ++ (rest ++ rest') = xs,
                      fun H' hN => ⟨_, by omega, hN⟩, fun v1 H6 hy1 => ?_⟩
                    obtain ⟨w6, e6, hS6, r6⟩ := hyld1 v1 H6 hy1
                    simp only [lcL] at hl5
                    have hfd1 : ∀ o, F1 ds1[j] S5' = o → (match o with
                      | .ok (some x) S'' => (match lcL F1 (List.drop (j + 1) ds1) S'' with
                        | .ok xs S''' => (.ok (x :: xs) S''' : R (List BX.D))
                        | _ => .stuck)
                      | .ok none S'' => lcL F1 (List.drop (j + 1) ds1) S''
                      | _ => .stuck) = .ok rest5 S3 := fun o e => by rw [← e]; exact hl5
                    cases hset1 : setT tg1 ds1[j] (wipeE ε' own1) with
                    | none =>
                      have : F1 ds1[j] S5' = .stuck := by rw [← hF1]; simp only [hset1]
                      have := hfd1 _ this
                      cases this
                    | some ε2 =>
                      have hFd1 : F1 ds1[j] S5' = (evE call el ε2 S5').bd fun x S4 => .ok (some x) S4 := by rw [← hF1]; simp only [hset1]
                      have hl6 := hfd1 _ hFd1
                      clear hfd1
                      have hE6 : REn G.K w6 HZ (wipe σ2 own1) H6 (wipeE ε' own1) := ((hE4.ext e5).ext e6).wipe own1
                      refine ⟨w6, HZ, wipeE ε' own1, _, ε2, hE6, r6, hset1, fun σ3 hEs3 hw3 => ⟨?_, ?_⟩⟩
                      · rw [hw3 own1 htg1]; exact wipe_wipe fun j hj => hj
                      · refine ⟨w6, HZ, ε2, S5', hS6, hEs3, ?_⟩
                        simp only [evC]
                        intro w7 H7 b e7 hS7 hb
                        obtain rfl : b = true := hb
                        simp only [if_true]
                        have d6 : H6 D = some (.lst vs5) := e6.keep D _ d5 n15 (fun _ z => nomatch z)
                        have n16 : D ∉ w6.ρ := e6.out d5n n15
                        have n26 : ¬ w6.Φ D := e6.outΦ d5n n25
                        have d6n : H6 D ≠ none := by rw [d6]; exact fun z => nomatch z
                        have d7 : H7 D = some (.lst vs5) := e7.keep D _ d6 n16 (fun _ z => nomatch z)
                        have n17 : D ∉ w7.ρ := e7.out d6n n16
                        have n27 : ¬ w7.Φ D := e7.outΦ d6n n26
                        have d7n : H7 D ≠ none := by rw [d7]; exact fun z => nomatch z
                        refine ⟨w7, HZ, ε2, S5', hS7, hEs3.ext e7, ?_⟩
                        cases hV1 : evE call el ε2 S5' with
                        | stuck => rw [hV1] at hl6; cases hl6
                        | exc _ _ => rw [hV1] at hl6; cases hl6
                        | ok xv Sy =>
                          rw [hV1] at hl6
                          simp only [R.bd_ok] at hl6
                          intro w8 H8 y e8 hS8 ry
                          cases hR1 : lcL F1 (List.drop (j + 1) ds1) Sy with
                          | stuck => rw [hR1] at hl6; cases hl6
                          | exc _ _ => rw [hR1] at hl6; cases hl6
                          | ok rest6 S9 =>
                            rw [hR1] at hl6
                            cases hl6
                            have d8 : H8 D = some (.lst vs5) := e8.keep D _ d7 n17 (fun _ z => nomatch z)
                            have n18 : D ∉ w8.ρ := e8.out d7n n17
                            have n28 : ¬ w8.Φ D := e8.outΦ d7n n27
                            have rv8 := RVs.ext e8 _ _ (RVs.ext e7 _ _ (RVs.ext e6 _ _ rv5))
                            have hlen : vs5.length < sizeLine := by
                              have := congrArg List.length hyr5
                              simp only [List.length_append, List.length_cons] at this
                              rw [rv5.length]
                              omega
                            have eu : ExtS w8 H8 w8 (upd H8 D (.lst (vs5 ++ [y]))) := exts_upd n28 (nf_of d8)
                            refine ⟨vs5, d8, hlen, trivial, hj, w8, Sy, ys5 ++ [xv], vs5 ++ [y], rest6, ?_, rst_upd hS8 n18 n28 (by rw [d8]; exact nt_lst) (nf_of d8), upd_same, n18, n28, ?_, hR1, by rw [List.append_assoc]; exact hyr5⟩
                            · have e18 := ((e5.trans e6).trans e7).trans e8
                              refine ⟨e18.ρ, e18.Φ, e18.new, fun a o ha hn hm => ?_, fun a h => dom_upd a (e18.dom a h), fun a ob u ha => by
                                rw [upd_ne (era_some ha).1]
                                exact e18.fz a ob u ha⟩
                              rw [upd_ne (era_some ha).1]
                              exact e18.keep a o ha hn hm
                            · refine RVs.append (RVs.exts eu _ _ rv8) ?_
                              simp only [RVs]
                              exact ⟨y, [], rfl, RV.exts eu _ _ ry, rfl⟩
                  · left
                    have hje : j = ds1.length := by omega
                    subst hje
                    refine ⟨wk1.stop w5 Hm1 es5, ?_⟩
                    simp only [List.drop_length, lcL] at hl5
                    cases hl5
                    rw [List.nil_append] at hyr5
                    exact ⟨trivial, hi, w5, _, ys5, vs5, rest', e14.trans e5, hS5, d5, n15, n25, rv5, hR, hyr5⟩
      · left
        have hie : i = ds.length := by omega
        subst hie
        refine ⟨wk.stop w' Hm e.toS, ?_⟩
        simp only [List.drop_length, lcM] at hl
        cases hl
        rw [List.append_nil] at hyr
        subst hyr
        exact q1 w' Hm D e hS' ⟨vs, hDv, rv⟩ n1 n2 hfr
theorem s_lc2 (g : Good T G call N sc fn W k X) {el : Ex} {tg tg1 : Tg} {it it1 : Itx} {cond : Option Ex} {own own1 : List Nat} {x tx ix tx1 ix1 : Expr} {ifs : List Expr} {scope : Scope}
    (hi : JI G W X tx ix (evI call it)) (ok : BlkOk X.N X.env.scope scope (ownN N own)) (htg : tgIn own tg = true) (htg1 : tgIn own1 tg1 = true) (hv : ∀ i ∈ own1, i ∈ own)
    (hg : ∀ (s : Shared) (H : Hp) (C : Addr) (cl : List (Str × Addr)) (fp : List Addr), PG (X.blk s H scope (compEnvC scope cl C X.env) fp) tx (gRd G tg))
    (ht : ∀ (s : Shared) (H : Hp) (C : Addr) (cl : List (Str × Addr)) (fp : List Addr), JC G NoW (X.blk s H scope (compEnvC scope cl C X.env) fp) ifs (evC call cond))
    (hi1 : ∀ (s : Shared) (H : Hp) (C : Addr) (cl : List (Str × Addr)) (fp : List Addr), JI G NoW (X.blk s H scope (compEnvC scope cl C X.env) fp) tx1 ix1 (evI call it1))
    (hg1 : ∀ (s : Shared) (H : Hp) (C : Addr) (cl : List (Str × Addr)) (fp : List Addr), PG (X.blk s H scope (compEnvC scope cl C X.env) fp) tx1 (gRd G tg1))
    (he : ∀ (s : Shared) (H : Hp) (C : Addr) (cl : List (Str × Addr)) (fp : List Addr), JE G NoW (X.blk s H scope (compEnvC scope cl C X.env) fp) x (evE call el))
    (hs : ∀ x, foldedSetIterable ix X.env x = pure x) (hs1 : ∀ env x, foldedSetIterable ix1 env x = pure x) : PE X (.ListComp x [⟨tx, ix, ifs, 0⟩, ⟨tx1, ix1, [], 0⟩] scope pos) (rdF G W (evE call (.lc2 el tg it cond tg1 it1 own own1))) := by
  refine (pe_lc2 (vs1 := own1) g.calm (by rw [g.hN]; exact g.nd) hi ok (by rw [ownN_snd]; exact hv) hg ht hi1 hg1 (fun s H C cl fp => c_none (G := G) (W := NoW) (call := call)) he hs hs1).imp fun σ H Q q => ?_
  rw [ownN_snd]
  exact lc2_imp g htg htg1 q
theorem Good.blk (g : Good T G call N sc fn W k X) {scope : Scope} (hk : scope.kind = .function) (s : Shared) (H : Hp) (C : Addr) (cl : List (Str × Addr)) (fp : List Addr) :
    Good T G call N (relS scope sc) (blkF scope) NoW k (X.blk s H scope (compEnvC scope cl C X.env) fp) where
  calm := g.calm
  hN := g.hN
  nd := g.nd
  hsc := by rw [← g.hsc]; rfl
  hfn := fun x h => by
    unfold blkF at h
    split at h
    · rename_i e
      have e2 := lookup_relS_keep (sc := sc) (x := x) (by decide) e
      exact ⟨.inl e2, .inr e2⟩
    · rename_i e
      have e2 := lookup_relS_keep (sc := sc) (x := x) (by decide) e
      refine ⟨.inr e2, .inl ?_⟩
      show (scope.names.lookup x == some .cell) = true
      rw [e]; rfl
    · cases h
  rm := g.rm
  tk := takesNo
  lw := g.lw
  lamS := g.lamS
  lamC := fun h => by
    obtain ⟨h1, c, P, h2, h3, h4, h5⟩ := g.lamC h
    exact ⟨h1, ⟨c, P, h2, h3, h4, h5⟩⟩

/-! ### all expressions -/
theorem chKv_len : ∀ {es : List Ex} {ks : List (Option Expr)} {vs : List Expr}, chKv T N es sc fn ks vs = true → ks.all (·.isSome) = true ∧ es.length = 2 * ks.length
  | [], ks, vs, h => by
    simp only [chKv] at h
    split at h
    · exact ⟨rfl, rfl⟩
    · cases h
  | [_], ks, vs, h => by simp [chKv] at h
  | a :: b :: es, ks, vs, h => by
    simp only [chKv] at h
    split at h
    · simp only [Bool.and_eq_true] at h
      obtain ⟨h1, h2⟩ := chKv_len h.2
      simp only [List.all_cons, Option.isSome_some, Bool.true_and, List.length_cons]
      exact ⟨h1, by omega⟩
    · cases h
theorem len_chEs : ∀ {es : List Ex} {xs : List Expr}, chEs T N es sc fn xs = true → es.length = xs.length
  | [], xs, h => by
    simp only [chEs] at h
    split at h
    · rfl
    · cases h
  | e :: es, xs, h => by
    simp only [chEs] at h
    split at h
    · simp only [Bool.and_eq_true] at h
      simp [len_chEs h.2]
    · cases h
end
mutual
theorem sE {T : Tb} {G : Gx} {call : Call} {N : List Str} {k : Nat} : ∀ (a : Ex) (sc : Scope) (fn : Str → Bool) (W : WX) (X : Cx) (e : Expr), Good T G call N sc fn W k X → chE T N a sc fn e = true → JE G W X e (evE call a)
  | .cst d, sc, fn, W, X, e, g, h => by
    simp only [chE] at h
    split at h
    · exact s_cst h
    · cases h
  | .var i, sc, fn, W, X, e, g, h => by
    simp only [chE] at h
    split at h
    · simp only [Bool.and_eq_true, decide_eq_true_eq] at h
      exact s_var g h.1 h.2
    · cases h
  | .glb y d, sc, fn, W, X, e, g, h => by
    simp only [chE] at h
    split at h
    · simp only [Bool.and_eq_true, beq_iff_eq] at h
      obtain ⟨⟨rfl, h2⟩, h3⟩ := h
      exact s_glb g h2 h3
    · cases h
  | .bin o a b, sc, fn, W, X, e, g, h => by
    simp only [chE] at h
    split at h
    · simp only [Bool.and_eq_true] at h
      obtain ⟨⟨h1, h2⟩, h3⟩ := h
      rw [opB_eq h1]
      exact s_bin g (s_opd g (sE a sc fn W X _ g h2) h2) (s_opd g (sE b sc fn W X _ g h3) h3)
    · cases h
  | .neg a, sc, fn, W, X, e, g, h => by
    simp only [chE] at h
    split at h
    · exact s_neg g (sE a sc fn W X _ g h)
    · cases h
  | .cmp o a b, sc, fn, W, X, e, g, h => by
    simp only [chE] at h
    split at h
    · simp only [Bool.and_eq_true, Bool.not_eq_true'] at h
      obtain ⟨⟨⟨h1, h2⟩, h3⟩, h4⟩ := h
      have e1 := cpB_eq h1
      subst e1
      exact s_cmp g (s_opd g (sE a sc fn W X _ g h3) h3) (s_opd g (sE b sc fn W X _ g h4) h4) h2
    · cases h
  | .chn o o' a b c, sc, fn, W, X, e, g, h => by
    simp only [chE] at h
    split at h
    · simp only [Bool.and_eq_true, Bool.not_eq_true'] at h
      obtain ⟨⟨⟨⟨⟨h1, h2⟩, h3⟩, h4⟩, h5⟩, h6⟩ := h
      have e1 := cpB_eq h1
      have e2 := cpB_eq h2
      subst e1 e2
      exact s_chn g (s_opd g (sE a sc fn W X _ g h4) h4) (s_opd g (sE b sc fn W X _ g h5) h5) (s_opd g (sE c sc fn W X _ g h6) h6) h3
    · cases h
  | .and a b, sc, fn, W, X, e, g, h => by
    simp only [chE] at h
    split at h
    · simp only [Bool.and_eq_true] at h
      exact s_and (sE a sc fn W X _ g h.1) (pe_one (sE b sc fn W X _ g h.2))
    · simp only [Bool.and_eq_true] at h
      exact s_and (sE a sc fn W X _ g h.1) (sE b sc fn W X _ g h.2)
    · cases h
  | .or a b, sc, fn, W, X, e, g, h => by
    simp only [chE] at h
    split at h
    · simp only [Bool.and_eq_true] at h
      exact s_or (sE a sc fn W X _ g h.1) (pe_one (sE b sc fn W X _ g h.2))
    · simp only [Bool.and_eq_true] at h
      exact s_or (sE a sc fn W X _ g h.1) (sE b sc fn W X _ g h.2)
    · cases h
  | .not a, sc, fn, W, X, e, g, h => by
    simp only [chE] at h
    split at h
    · exact s_not g (s_opd g (sE a sc fn W X _ g h) h)
    · cases h
  | .ite c a b, sc, fn, W, X, e, g, h => by
    simp only [chE] at h
    split at h
    · simp only [Bool.and_eq_true] at h
      exact s_ite (sT c sc fn W X _ g h.1.1) (sE a sc fn W X _ g h.1.2) (sE b sc fn W X _ g h.2)
    · cases h
  | .tup es, sc, fn, W, X, e, g, h => by
    simp only [chE] at h
    split at h
    · exact s_tup (sEs es sc fn W X _ g h)
    · cases h
  | .lst es, sc, fn, W, X, e, g, h => by
    simp only [chE] at h
    split at h
    · exact s_lst (sEs es sc fn W X _ g h)
    · cases h
  | .nlst es, sc, fn, W, X, e, g, h => by
    simp only [chE] at h
    split at h
    · exact s_nlst (sEs es sc fn W X _ g h)
    · cases h
  | .ix a b, sc, fn, W, X, e, g, h => by
    simp only [chE] at h
    split at h
    · simp only [Bool.and_eq_true] at h
      obtain ⟨⟨h1, h2⟩, h3⟩ := h
      exact s_ix g (s_opd g (sE a sc fn W X _ g h2) h2) (sE b sc fn W X _ g h3) h1
    · cases h
  | .sl a lo hi, sc, fn, W, X, e, g, h => by
    simp only [chE] at h
    split at h
    · simp only [Bool.and_eq_true] at h
      obtain ⟨⟨h1, h2⟩, h3⟩ := h
      exact s_sl g (s_opd g (sE a sc fn W X _ g h1) h1) (sP lo sc fn W X _ g h2) (sP hi sc fn W X _ g h3)
    · cases h
  | .call f es dv, sc, fn, W, X, e, g, h => by
    simp only [chE] at h
    split at h
    · simp only [Bool.and_eq_true, beq_iff_eq] at h
      obtain ⟨⟨⟨⟨rfl, h2⟩, h3⟩, h4⟩, h5⟩ := h
      exact s_call g h2 h3 h4 (len_chEs h5) (sEs es sc fn W X _ g h5) (chEs_star h5)
    · cases h
  | .callK f es ks kes pm, sc, fn, W, X, e, g, h => by
    simp only [chE] at h
    split at h
    · simp only [Bool.and_eq_true, beq_iff_eq] at h
      obtain ⟨⟨⟨⟨⟨rfl, h2⟩, h3⟩, h4⟩, h5⟩, h6⟩ := h
      exact s_callK g h2 h3 h4 (len_chEs h5) (sEs es sc fn W X _ g h5) (chEs_star h5) (sKs kes sc fn W X _ ks g h6) h6
    · cases h
  | .op1 .lrev a, sc, fn, W, X, e, g, h => by
    simp only [chE] at h
    split at h
    · simp only [Bool.and_eq_true, beq_iff_eq] at h
      obtain ⟨⟨⟨⟨⟨rfl, h2⟩, rfl⟩, h4⟩, h5⟩, h6⟩ := h
      exact s_lrev g h2 h4 h5 (sE a sc fn W X _ g h6)
    · cases h
  | .op1 .srt a, sc, fn, W, X, e, g, h => by
    simp only [chE] at h
    split at h
    · simp only [Bool.and_eq_true, beq_iff_eq] at h
      obtain ⟨⟨⟨rfl, h2⟩, h3⟩, h4⟩ := h
      exact s_srt g h2 h3 (sE a sc fn W X _ g h4)
    · cases h
  | .op1 .lrg a, sc, fn, W, X, e, g, h => by
    simp only [chE] at h
    split at h
    · simp only [Bool.and_eq_true, beq_iff_eq] at h
      obtain ⟨⟨⟨⟨⟨rfl, h2⟩, rfl⟩, h4⟩, h5⟩, h6⟩ := h
      exact s_lrg g h2 h4 h5 (sE a sc fn W X _ g h6)
    · cases h
  | .op2 .lrg2 a b, sc, fn, W, X, e, g, h => by
    simp only [chE] at h
    split at h
    · simp only [Bool.and_eq_true, beq_iff_eq] at h
      obtain ⟨⟨⟨⟨⟨⟨⟨rfl, h2⟩, rfl⟩, h4⟩, h5⟩, h6⟩, h7⟩, h8⟩ := h
      exact s_lrg2 g h2 h4 h5 h6 (sE a sc fn W X _ g h7) (sE b sc fn W X _ g h8)
    · cases h
  | .chn3 .., _, _, _, _, _, _, _ => ⟨fun pins s σ H Q I ⟨w, H0, ε, S, hS, hE, q⟩ => by simp only [evE] at q; exact q.elim⟩
  | .blt b es, sc, fn, W, X, e, g, h => by
    simp only [chE] at h
    split at h
    · simp only [Bool.and_eq_true, beq_iff_eq] at h
      obtain ⟨⟨rfl, h2⟩, h3⟩ := h
      exact s_blt g h2 (sOs es sc fn W X _ g h3) (chEs_star h3)
    · cases h
  | .isi a t, sc, fn, W, X, e, g, h => by
    simp only [chE] at h
    split at h
    · simp only [Bool.and_eq_true, beq_iff_eq] at h
      obtain ⟨⟨⟨⟨⟨rfl, h2⟩, h3⟩, h4⟩, rfl⟩, h6⟩ := h
      exact s_isi g h2 (s_opd g (sE a sc fn W X _ g h4) h4) h3 h6
    · cases h
  | .lc el tg it cond own, sc, fn, W, X, e, g, h => by
    simp only [chE] at h
    split at h
    · rename_i x tx ix ifs scope pos
      simp only [Bool.and_eq_true] at h
      obtain ⟨⟨⟨⟨⟨⟨h1, h2⟩, h3⟩, h4⟩, h5⟩, h6⟩, h7⟩ := h
      have ok : BlkOk X.N X.env.scope scope (ownN N own) := by rw [g.hN, g.hsc]; exact blkOk_by h2
      exact pe_F (s_lc g (sI it sc fn W X tx ix g h4) ok h3 (fun s H C cl fp => s_tg (g.blk ok.kind s H C cl fp) tg tx h5) (fun s H C cl fp => sC cond _ _ NoW _ ifs (g.blk ok.kind s H C cl fp) h6)
        (fun s H C cl fp => sE el _ _ NoW _ x (g.blk ok.kind s H C cl fp) h7) (setIter_of h1))
    · cases h
  | .lc2 el tg it cond tg1 it1 own own1, sc, fn, W, X, e, g, h => by
    simp only [chE] at h
    split at h
    · rename_i x tx ix ifs tx1 ix1 scope pos
      simp only [Bool.and_eq_true] at h
      obtain ⟨⟨⟨⟨⟨⟨⟨⟨⟨⟨⟨h1, h1'⟩, h2⟩, h3⟩, h3'⟩, hv⟩, h4⟩, h5⟩, h6⟩, h4'⟩, h5'⟩, h7⟩ := h
      have ok : BlkOk X.N X.env.scope scope (ownN N own) := by rw [g.hN, g.hsc]; exact blkOk_by h2
      exact pe_F (s_lc2 g (sI it sc fn W X tx ix g h4) ok h3 h3' (fun i hi => by simpa using List.all_eq_true.mp hv i hi) (fun s H C cl fp => s_tg (g.blk ok.kind s H C cl fp) tg tx h5) (fun s H C cl fp => sC cond _ _ NoW _ ifs (g.blk ok.kind s H C cl fp) h6)
        (fun s H C cl fp => sI it1 _ _ NoW _ tx1 ix1 (g.blk ok.kind s H C cl fp) h4') (fun s H C cl fp => s_tg (g.blk ok.kind s H C cl fp) tg1 tx1 h5')
        (fun s H C cl fp => sE el _ _ NoW _ x (g.blk ok.kind s H C cl fp) h7) (setIter_of h1) (fun _ => setIter_of h1'))
    · cases h
  | .prim p es, sc, fn, W, X, e, g, h => by
    simp only [chE] at h
    split at h
    · rename_i xs hx
      simp only [Bool.and_eq_true] at h
      exact s_prim g hx h.1 (sJs es sc fn W X _ g h.2)
    · cases h
  | .srtK l i key, sc, fn, W, X, e, g, h => by
    simp only [chE] at h
    split at h
    · simp only [Bool.and_eq_true, beq_iff_eq] at h
      obtain ⟨⟨⟨⟨⟨⟨rfl, rfl⟩, h3⟩, h4⟩, h5⟩, h6⟩, h7⟩ := h
      exact s_srtK g h3 h4 h5 h6 (sE l sc fn W X _ g h7)
    · cases h
  | .minK l i key, sc, fn, W, X, e, g, h => by
    simp only [chE] at h
    split at h
    · simp only [Bool.and_eq_true, beq_iff_eq] at h
      obtain ⟨⟨⟨⟨⟨⟨rfl, rfl⟩, h3⟩, h4⟩, h5⟩, h6⟩, h7⟩ := h
      exact s_minK g h3 h4 h5 h6 (sE l sc fn W X _ g h7)
    · cases h
  | .mth f c m o es dv, sc, fn, W, X, e, g, h => by
    simp only [chE] at h
    split at h
    · simp only [Bool.and_eq_true, beq_iff_eq, decide_eq_true_eq] at h
      obtain ⟨⟨⟨⟨⟨⟨⟨rfl, h2⟩, h3⟩, h4⟩, h5⟩, h6⟩, h7⟩, h8⟩ := h
      exact s_mth g h2 h3 h4 (by simpa using h5) h6 (len_chEs h8) (sE o sc fn W X _ g h7) (sEs es sc fn W X _ g h8) (chEs_star h8)
    · cases h
  | .mthK f c m o es ks kes pm, sc, fn, W, X, e, g, h => by
    simp only [chE] at h
    split at h
    · simp only [Bool.and_eq_true, beq_iff_eq, decide_eq_true_eq] at h
      obtain ⟨⟨⟨⟨⟨⟨⟨⟨rfl, h2⟩, h3⟩, h4⟩, h5⟩, h6⟩, h7⟩, h8⟩, h9⟩ := h
      exact s_mthK g h2 h3 h4 (by simpa using h5) h6 (len_chEs h8) (sE o sc fn W X _ g h7) (sEs es sc fn W X _ g h8) (chEs_star h8) (sKs kes sc fn W X _ ks g h9) h9
    · cases h
  | .mkK f c es ks kes pm, sc, fn, W, X, e, g, h => by
    simp only [chE] at h
    split at h
    · simp only [Bool.and_eq_true, beq_iff_eq] at h
      obtain ⟨⟨⟨⟨⟨rfl, h2⟩, h3⟩, h4⟩, h5⟩, h6⟩ := h
      exact s_mkK g h2 h3 h4 (len_chEs h5) (sEs es sc fn W X _ g h5) (chEs_star h5) (sKs kes sc fn W X _ ks g h6) h6
    · cases h
  | .mk f c es dv, sc, fn, W, X, e, g, h => by
    simp only [chE] at h
    split at h
    · simp only [Bool.and_eq_true, beq_iff_eq] at h
      obtain ⟨⟨⟨⟨rfl, h2⟩, h3⟩, h4⟩, h5⟩ := h
      exact s_mk g h2 h3 h4 (len_chEs h5) (sEs es sc fn W X _ g h5) (chEs_star h5)
    · cases h
  | .op1 .srtD a, sc, fn, W, X, e, g, h => by
    simp only [chE] at h
    split at h
    · simp only [Bool.and_eq_true, beq_iff_eq] at h
      obtain ⟨⟨⟨rfl, h2⟩, h3⟩, h4⟩ := h
      exact s_srtD g h2 h3 (sE a sc fn W X _ g h4)
    · cases h
  | .lidx a b, sc, fn, W, X, e, g, h => by
    simp only [chE] at h
    split at h
    · simp only [Bool.and_eq_true, beq_iff_eq] at h
      obtain ⟨⟨⟨⟨⟨rfl, h2⟩, h3⟩, h4⟩, h5⟩, h6⟩ := h
      exact s_lidx g h2 (by simpa using h3) h4 (sE a sc fn W X _ g h5) (sE b sc fn W X _ g h6)
    · cases h
  | .orV a b, sc, fn, W, X, e, g, h => by
    simp only [chE] at h
    split at h
    · simp only [Bool.and_eq_true] at h
      exact s_orV g (sE a sc fn W X _ g h.1) (sE b sc fn W X _ g h.2)
    · cases h
  | .mkV f c fs es, sc, fn, W, X, e, g, h => by
    simp only [chE] at h
    split at h
    · simp only [Bool.and_eq_true, beq_iff_eq] at h
      obtain ⟨⟨⟨⟨rfl, h2⟩, h3⟩, h4⟩, h5⟩ := h
      exact s_mkV g h2 h3 h4 (len_chEs h5) (sEs es sc fn W X _ g h5) (chEs_star h5)
    · cases h
  | .dsp es, sc, fn, W, X, e, g, h => by
    simp only [chE] at h
    split at h
    · simp only [Bool.and_eq_true, decide_eq_true_eq, Bool.not_eq_true'] at h
      obtain ⟨⟨⟨h1, h2⟩, h3⟩, h4⟩ := h
      obtain ⟨z1, z2⟩ := chKv_len h4
      exact pe_F (f_dsp g (sKv es sc fn W X _ _ _ g h4) z1 h3 (fun z => by subst z; simp at h1) h2 z2)
    · cases h
  | .dc kx vx tg it cond own, sc, fn, W, X, e, g, h => by
    simp only [chE] at h
    split at h
    · rename_i x y tx ix ifs scope pos
      simp only [Bool.and_eq_true] at h
      obtain ⟨⟨⟨⟨⟨⟨⟨h1, h2⟩, h3⟩, h4⟩, h5⟩, h6⟩, h7⟩, h8⟩ := h
      have ok : BlkOk X.N X.env.scope scope (ownN N own) := by rw [g.hN, g.hsc]; exact blkOk_by h2
      exact pe_F (s_dc g (sI it sc fn W X tx ix g h4) ok h3 (fun s H C cl fp => s_tg (g.blk ok.kind s H C cl fp) tg tx h5) (fun s H C cl fp => sC cond _ _ NoW _ ifs (g.blk ok.kind s H C cl fp) h6)
        (fun s H C cl fp => sE kx _ _ NoW _ x (g.blk ok.kind s H C cl fp) h7) (fun s H C cl fp => sE vx _ _ NoW _ y (g.blk ok.kind s H C cl fp) h8) (setIter_of h1))
    · cases h
theorem sT {T : Tb} {G : Gx} {call : Call} {N : List Str} {k : Nat} : ∀ (a : Ex) (sc : Scope) (fn : Str → Bool) (W : WX) (X : Cx) (e : Expr), Good T G call N sc fn W k X → chE T N a sc fn e = true → JT G W X e (evT call a)
  | .cst d, sc, fn, W, X, e, g, h => by
    have hh := sE (T := T) (G := G) (call := call) (N := N) (.cst d) sc fn W X e g h
    simp only [chE] at h
    split at h
    · refine (t_val g (je_toO hh) fun _ => rfl).imp fun σ H Q q => ?_
      obtain ⟨w, H0, ε, S, hS, hE, q⟩ := q
      exact ⟨w, H0, ε, S, hS, hE, by simpa only [evT, evE, R.bd_ok] using q⟩
    · cases h
  | .var i, sc, fn, W, X, e, g, h => by
    have hh := s_opd g (sE (T := T) (G := G) (call := call) (N := N) (.var i) sc fn W X e g h) h
    simp only [chE] at h
    split at h
    · refine (t_val g hh fun _ => rfl).imp fun σ H Q q => ?_
      obtain ⟨w, H0, ε, S, hS, hE, q⟩ := q
      exact ⟨w, H0, ε, S, hS, hE, by simpa only [evT] using q⟩
    · cases h
  | .glb y d, sc, fn, W, X, e, g, h => by
    have hh := sE (T := T) (G := G) (call := call) (N := N) (.glb y d) sc fn W X e g h
    simp only [chE] at h
    split at h
    · refine (t_val g (je_toO hh) fun _ => rfl).imp fun σ H Q q => ?_
      obtain ⟨w, H0, ε, S, hS, hE, q⟩ := q
      exact ⟨w, H0, ε, S, hS, hE, by simpa only [evT, evE, R.bd_ok] using q⟩
    · cases h
  | .and a b, sc, fn, W, X, e, g, h => by
    simp only [chE] at h
    split at h
    · simp only [Bool.and_eq_true] at h
      exact (t_and (sT a sc fn W X _ g h.1) (pw_and1 (sT b sc fn W X _ g h.2))).pt
    · simp only [Bool.and_eq_true] at h
      exact (t_and (sT a sc fn W X _ g h.1) (sW b sc fn W X _ .And _ _ g h.2)).pt
    · cases h
  | .or a b, sc, fn, W, X, e, g, h => by
    simp only [chE] at h
    split at h
    · simp only [Bool.and_eq_true] at h
      exact (t_or (sT a sc fn W X _ g h.1) (pw_or1 (sT b sc fn W X _ g h.2))).pt
    · simp only [Bool.and_eq_true] at h
      exact (t_or (sT a sc fn W X _ g h.1) (sW b sc fn W X _ .Or _ _ g h.2)).pt
    · cases h
  | .not a, sc, fn, W, X, e, g, h => by
    simp only [chE] at h
    split at h
    · exact t_not (sT a sc fn W X _ g h)
    · cases h
  | .cmp o a b, sc, fn, W, X, e, g, h => by
    simp only [chE] at h
    split at h
    · simp only [Bool.and_eq_true, Bool.not_eq_true'] at h
      obtain ⟨⟨⟨h1, h2⟩, h3⟩, h4⟩ := h
      have e1 := cpB_eq h1
      subst e1
      exact t_cmp g (s_opd g (sE a sc fn W X _ g h3) h3) (s_opd g (sE b sc fn W X _ g h4) h4) h2
    · cases h
  | .chn o o' a b c, sc, fn, W, X, e, g, h => by
    simp only [chE] at h
    split at h
    · simp only [Bool.and_eq_true, Bool.not_eq_true'] at h
      obtain ⟨⟨⟨⟨⟨h1, h2⟩, h3⟩, h4⟩, h5⟩, h6⟩ := h
      have e1 := cpB_eq h1
      have e2 := cpB_eq h2
      subst e1 e2
      exact t_chn g (s_opd g (sE a sc fn W X _ g h4) h4) (s_opd g (sE b sc fn W X _ g h5) h5) (s_opd g (sE c sc fn W X _ g h6) h6) h3
    · cases h
  | .call f es dv, sc, fn, W, X, e, g, h => by
    simp only [chE] at h
    split at h
    · simp only [Bool.and_eq_true, beq_iff_eq] at h
      obtain ⟨⟨⟨⟨rfl, h2⟩, h3⟩, h4⟩, h5⟩ := h
      refine (t_val g (je_toO (s_call g h2 h3 h4 (len_chEs h5) (sEs es sc fn W X _ g h5) (chEs_star h5))) fun _ => rfl).imp fun σ H Q q => ?_
      obtain ⟨w, H0, ε, S, hS, hE, q⟩ := q
      exact ⟨w, H0, ε, S, hS, hE, by simpa only [evT, evE] using q⟩
    · cases h
  | .callK f es ks kes pm, sc, fn, W, X, e, g, h => by
    simp only [chE] at h
    split at h
    · simp only [Bool.and_eq_true, beq_iff_eq] at h
      obtain ⟨⟨⟨⟨⟨rfl, h2⟩, h3⟩, h4⟩, h5⟩, h6⟩ := h
      refine (t_val g (je_toO (s_callK g h2 h3 h4 (len_chEs h5) (sEs es sc fn W X _ g h5) (chEs_star h5) (sKs kes sc fn W X _ ks g h6) h6)) fun _ => rfl).imp fun σ H Q q => ?_
      obtain ⟨w, H0, ε, S, hS, hE, q⟩ := q
      exact ⟨w, H0, ε, S, hS, hE, by simpa only [evT, evE] using q⟩
    · cases h
  | .chn3 o o' o2 a b c d, sc, fn, W, X, e, g, h => by
    simp only [chE] at h
    split at h
    · simp only [Bool.and_eq_true, Bool.not_eq_true'] at h
      obtain ⟨⟨⟨⟨⟨⟨⟨h1, h2⟩, h3⟩, h4⟩, h5⟩, h6⟩, h7⟩, h8⟩ := h
      have e1 := cpB_eq h1
      have e2 := cpB_eq h2
      have e3 := cpB_eq h3
      subst e1 e2 e3
      exact t_chn3 g (s_opd g (sE a sc fn W X _ g h5) h5) (s_opd g (sE b sc fn W X _ g h6) h6) (s_opd g (sE c sc fn W X _ g h7) h7) (s_opd g (sE d sc fn W X _ g h8) h8) h4
    · cases h
  | .op1 .., _, _, _, _, _, _, _ => ⟨fun pins s σ H Q I ⟨w, H0, ε, S, hS, hE, q⟩ => by simp only [evT] at q; exact q.elim⟩
  | .op2 .., _, _, _, _, _, _, _ => ⟨fun pins s σ H Q I ⟨w, H0, ε, S, hS, hE, q⟩ => by simp only [evT] at q; exact q.elim⟩
  | .blt b es, sc, fn, W, X, e, g, h => by
    simp only [chE] at h
    split at h
    · simp only [Bool.and_eq_true, beq_iff_eq] at h
      obtain ⟨⟨rfl, h2⟩, h3⟩ := h
      refine (t_val g (je_toO (s_blt g h2 (sOs es sc fn W X _ g h3) (chEs_star h3))) fun _ => rfl).imp fun σ H Q q => ?_
      obtain ⟨w, H0, ε, S, hS, hE, q⟩ := q
      exact ⟨w, H0, ε, S, hS, hE, by simpa only [evT, evE] using q⟩
    · cases h
  | .isi a t, sc, fn, W, X, e, g, h => by
    simp only [chE] at h
    split at h
    · simp only [Bool.and_eq_true, beq_iff_eq] at h
      obtain ⟨⟨⟨⟨⟨rfl, h2⟩, h3⟩, h4⟩, rfl⟩, h6⟩ := h
      exact t_isi g h2 (s_opd g (sE a sc fn W X _ g h4) h4) h3 h6
    · cases h
  | .ix a b, sc, fn, W, X, e, g, h => by
    simp only [chE] at h
    split at h
    · simp only [Bool.and_eq_true] at h
      obtain ⟨⟨h1, h2⟩, h3⟩ := h
      refine (t_val g (je_toO (s_ix g (s_opd g (sE a sc fn W X _ g h2) h2) (sE b sc fn W X _ g h3) h1)) fun _ => rfl).imp fun σ H Q q => ?_
      obtain ⟨w, H0, ε, S, hS, hE, q⟩ := q
      exact ⟨w, H0, ε, S, hS, hE, by simpa only [evT, evE] using q⟩
    · cases h
  | .bin .., _, _, _, _, _, _, _ => ⟨fun pins s σ H Q I ⟨w, H0, ε, S, hS, hE, q⟩ => by simp only [evT] at q; exact q.elim⟩
  | .neg .., _, _, _, _, _, _, _ => ⟨fun pins s σ H Q I ⟨w, H0, ε, S, hS, hE, q⟩ => by simp only [evT] at q; exact q.elim⟩
  | .ite .., _, _, _, _, _, _, _ => ⟨fun pins s σ H Q I ⟨w, H0, ε, S, hS, hE, q⟩ => by simp only [evT] at q; exact q.elim⟩
  | .tup .., _, _, _, _, _, _, _ => ⟨fun pins s σ H Q I ⟨w, H0, ε, S, hS, hE, q⟩ => by simp only [evT] at q; exact q.elim⟩
  | .lst .., _, _, _, _, _, _, _ => ⟨fun pins s σ H Q I ⟨w, H0, ε, S, hS, hE, q⟩ => by simp only [evT] at q; exact q.elim⟩
  | .nlst .., _, _, _, _, _, _, _ => ⟨fun pins s σ H Q I ⟨w, H0, ε, S, hS, hE, q⟩ => by simp only [evT] at q; exact q.elim⟩
  | .sl .., _, _, _, _, _, _, _ => ⟨fun pins s σ H Q I ⟨w, H0, ε, S, hS, hE, q⟩ => by simp only [evT] at q; exact q.elim⟩
  | .lc2 .., _, _, _, _, _, _, _ => ⟨fun pins s σ H Q I ⟨w, H0, ε, S, hS, hE, q⟩ => by simp only [evT] at q; exact q.elim⟩
  | .lc .., _, _, _, _, _, _, _ => ⟨fun pins s σ H Q I ⟨w, H0, ε, S, hS, hE, q⟩ => by simp only [evT] at q; exact q.elim⟩
  | .prim p es, sc, fn, W, X, e, g, h => by
    simp only [chE] at h
    split at h
    · rename_i xs hx
      simp only [Bool.and_eq_true] at h
      exact t_prim g hx h.1 (sJs es sc fn W X _ g h.2)
    · cases h
  | .mth f c m o es dv, sc, fn, W, X, e, g, h => by
    simp only [chE] at h
    split at h
    · simp only [Bool.and_eq_true, beq_iff_eq, decide_eq_true_eq] at h
      obtain ⟨⟨⟨⟨⟨⟨⟨rfl, h2⟩, h3⟩, h4⟩, h5⟩, h6⟩, h7⟩, h8⟩ := h
      refine (t_val g (je_toO (s_mth g h2 h3 h4 (by simpa using h5) h6 (len_chEs h8) (sE o sc fn W X _ g h7) (sEs es sc fn W X _ g h8) (chEs_star h8))) fun _ => rfl).imp fun σ H Q q => ?_
      obtain ⟨w, H0, ε, S, hS, hE, q⟩ := q
      exact ⟨w, H0, ε, S, hS, hE, by simpa only [evT, evE] using q⟩
    · cases h
  | .srtK .., _, _, _, _, _, _, _ => ⟨fun pins s σ H Q I ⟨w, H0, ε, S, hS, hE, q⟩ => by simp only [evT] at q; exact q.elim⟩
  | .minK .., _, _, _, _, _, _, _ => ⟨fun pins s σ H Q I ⟨w, H0, ε, S, hS, hE, q⟩ => by simp only [evT] at q; exact q.elim⟩
  | .mthK .., _, _, _, _, _, _, _ => ⟨fun pins s σ H Q I ⟨w, H0, ε, S, hS, hE, q⟩ => by simp only [evT] at q; exact q.elim⟩
  | .mk .., _, _, _, _, _, _, _ => ⟨fun pins s σ H Q I ⟨w, H0, ε, S, hS, hE, q⟩ => by simp only [evT] at q; exact q.elim⟩
  | .mkK .., _, _, _, _, _, _, _ => ⟨fun pins s σ H Q I ⟨w, H0, ε, S, hS, hE, q⟩ => by simp only [evT] at q; exact q.elim⟩
  | .lidx .., _, _, _, _, _, _, _ => ⟨fun pins s σ H Q I ⟨w, H0, ε, S, hS, hE, q⟩ => by simp only [evT] at q; exact q.elim⟩
  | .orV .., _, _, _, _, _, _, _ => ⟨fun pins s σ H Q I ⟨w, H0, ε, S, hS, hE, q⟩ => by simp only [evT] at q; exact q.elim⟩
  | .mkV .., _, _, _, _, _, _, _ => ⟨fun pins s σ H Q I ⟨w, H0, ε, S, hS, hE, q⟩ => by simp only [evT] at q; exact q.elim⟩
  | .dsp .., _, _, _, _, _, _, _ => ⟨fun pins s σ H Q I ⟨w, H0, ε, S, hS, hE, q⟩ => by simp only [evT] at q; exact q.elim⟩
  | .dc .., _, _, _, _, _, _, _ => ⟨fun pins s σ H Q I ⟨w, H0, ε, S, hS, hE, q⟩ => by simp only [evT] at q; exact q.elim⟩
/-- the rest of an and, of an or -/
theorem sW {T : Tb} {G : Gx} {call : Call} {N : List Str} {k : Nat} : ∀ (a : Ex) (sc : Scope) (fn : Str → Bool) (W : WX) (X : Cx) (es : List Expr) (o : BoolOp) (z : Expr) (p : Pos), Good T G call N sc fn W k X → chE T N a sc fn (.BoolOp o (z :: es) p) = true → PW X (.BoolOp o (z :: es) p) (rd G W eqR (evT call a))
  | .and a b, sc, fn, W, X, es, o, z, p, g, h => by
    simp only [chE] at h
    split at h
    · rename_i e1
      cases e1
      simp only [Bool.and_eq_true] at h
      exact t_and (sT a sc fn W X _ g h.1) (pw_and1 (sT b sc fn W X _ g h.2))
    · rename_i e1
      cases e1
      simp only [Bool.and_eq_true] at h
      exact t_and (sT a sc fn W X _ g h.1) (sW b sc fn W X _ .And _ _ g h.2)
    · cases h
  | .or a b, sc, fn, W, X, es, o, z, p, g, h => by
    simp only [chE] at h
    split at h
    · rename_i e1
      cases e1
      simp only [Bool.and_eq_true] at h
      exact t_or (sT a sc fn W X _ g h.1) (pw_or1 (sT b sc fn W X _ g h.2))
    · rename_i e1
      cases e1
      simp only [Bool.and_eq_true] at h
      exact t_or (sT a sc fn W X _ g h.1) (sW b sc fn W X _ .Or _ _ g h.2)
    · cases h
  | .cst .., _, _, _, _, _, _, _, _, _, h => by simp [chE] at h
  | .var .., _, _, _, _, _, _, _, _, _, h => by simp [chE] at h
  | .glb .., _, _, _, _, _, _, _, _, _, h => by simp [chE] at h
  | .bin .., _, _, _, _, _, _, _, _, _, h => by simp [chE] at h
  | .neg .., _, _, _, _, _, _, _, _, _, h => by simp [chE] at h
  | .cmp .., _, _, _, _, _, _, _, _, _, h => by simp [chE] at h
  | .chn .., _, _, _, _, _, _, _, _, _, h => by simp [chE] at h
  | .not .., _, _, _, _, _, _, _, _, _, h => by simp [chE] at h
  | .ite .., _, _, _, _, _, _, _, _, _, h => by simp [chE] at h
  | .tup .., _, _, _, _, _, _, _, _, _, h => by simp [chE] at h
  | .lst .., _, _, _, _, _, _, _, _, _, h => by simp [chE] at h
  | .nlst .., _, _, _, _, _, _, _, _, _, h => by simp [chE] at h
  | .ix .., _, _, _, _, _, _, _, _, _, h => by simp [chE] at h
  | .sl .., _, _, _, _, _, _, _, _, _, h => by simp [chE] at h
  | .call .., _, _, _, _, _, _, _, _, _, h => by simp [chE] at h
  | .callK .., _, _, _, _, _, _, _, _, _, h => by simp [chE] at h
  | .op1 .lrev _, _, _, _, _, _, _, _, _, _, h => by simp [chE] at h
  | .op1 .srtD _, _, _, _, _, _, _, _, _, _, h => by simp [chE] at h
  | .op1 .lrg _, _, _, _, _, _, _, _, _, _, h => by simp [chE] at h
  | .op1 .srt _, _, _, _, _, _, _, _, _, _, h => by simp [chE] at h
  | .op2 .lrg2 _ _, _, _, _, _, _, _, _, _, _, h => by simp [chE] at h
  | .chn3 .., _, _, _, _, _, _, _, _, _, h => by simp [chE] at h
  | .blt .., _, _, _, _, _, _, _, _, _, h => by simp [chE] at h
  | .isi .., _, _, _, _, _, _, _, _, _, h => by simp [chE] at h
  | .lc2 .., _, _, _, _, _, _, _, _, _, h => by simp [chE] at h
  | .lc .., _, _, _, _, _, _, _, _, _, h => by simp [chE] at h
  | .prim .., _, _, _, _, _, _, _, _, _, h => by simp [chE, prX_bool] at h
  | .srtK .., _, _, _, _, _, _, _, _, _, h => by simp [chE] at h
  | .minK .., _, _, _, _, _, _, _, _, _, h => by simp [chE] at h
  | .mth .., _, _, _, _, _, _, _, _, _, h => by simp [chE] at h
  | .mthK .., _, _, _, _, _, _, _, _, _, h => by simp [chE] at h
  | .mk .., _, _, _, _, _, _, _, _, _, h => by simp [chE] at h
  | .mkK .., _, _, _, _, _, _, _, _, _, h => by simp [chE] at h
  | .lidx .., _, _, _, _, _, _, _, _, _, h => by simp [chE] at h
  | .mkV .., _, _, _, _, _, _, _, _, _, h => by simp [chE] at h
  | .dsp .., _, _, _, _, _, _, _, _, _, h => by simp [chE] at h
  | .dc .., _, _, _, _, _, _, _, _, _, h => by simp [chE] at h
  | .orV .., _, _, _, _, _, _, _, _, _, _ => ⟨fun _ pins s σ H Q I ⟨w, H0, ε, S, hS, hE, q⟩ => by simp only [evT] at q; exact q.elim⟩
theorem sJs {T : Tb} {G : Gx} {call : Call} {N : List Str} {k : Nat} : ∀ (es : List Ex) (sc : Scope) (fn : Str → Bool) (W : WX) (X : Cx) (xs : List Expr), Good T G call N sc fn W k X → chEs T N es sc fn xs = true → JOs G W X call xs es
  | [], sc, fn, W, X, xs, g, h => by
    simp only [chEs] at h
    split at h
    · exact .nil
    · cases h
  | e :: es, sc, fn, W, X, xs, g, h => by
    simp only [chEs] at h
    split at h
    · simp only [Bool.and_eq_true] at h
      exact .cons (s_opd g (sE e sc fn W X _ g h.1.2) h.1.2) (sE e sc fn W X _ g h.1.2) (sJs es sc fn W X _ g h.2)
    · cases h
theorem sEs {T : Tb} {G : Gx} {call : Call} {N : List Str} {k : Nat} : ∀ (es : List Ex) (sc : Scope) (fn : Str → Bool) (W : WX) (X : Cx) (xs : List Expr), Good T G call N sc fn W k X → chEs T N es sc fn xs = true → JA G W X xs (evEs call es)
  | [], sc, fn, W, X, xs, g, h => by
    simp only [chEs] at h
    split at h
    · exact a_nil
    · cases h
  | e :: es, sc, fn, W, X, xs, g, h => by
    simp only [chEs] at h
    split at h
    · simp only [Bool.and_eq_true] at h
      exact a_cons (sE e sc fn W X _ g h.1.2) (sEs es sc fn W X _ g h.2) h.1.1
    · cases h
theorem sKs {T : Tb} {G : Gx} {call : Call} {N : List Str} {k : Nat} : ∀ (es : List Ex) (sc : Scope) (fn : Str → Bool) (W : WX) (X : Cx) (kws : List Keyword) (ks : List Str), Good T G call N sc fn W k X → chKs T N es sc fn kws ks = true → JK G W X kws (evEs call es)
  | [], sc, fn, W, X, kws, ks, g, h => by
    simp only [chKs] at h
    split at h
    · exact k_nil
    · cases h
  | e :: es, sc, fn, W, X, kws, ks, g, h => by
    simp only [chKs] at h
    split at h
    · simp only [Bool.and_eq_true] at h
      exact k_cons (sE e sc fn W X _ g h.1.2) (sKs es sc fn W X _ _ g h.2)
    · cases h
theorem sOs {T : Tb} {G : Gx} {call : Call} {N : List Str} {k : Nat} : ∀ (es : List Ex) (sc : Scope) (fn : Str → Bool) (W : WX) (X : Cx) (xs : List Expr), Good T G call N sc fn W k X → chEs T N es sc fn xs = true → JAo G W X xs (evOs call es)
  | [], sc, fn, W, X, xs, g, h => by
    simp only [chEs] at h
    split at h
    · exact o_nil
    · cases h
  | e :: es, sc, fn, W, X, xs, g, h => by
    simp only [chEs] at h
    split at h
    · simp only [Bool.and_eq_true] at h
      exact o_cons (s_opd g (sE e sc fn W X _ g h.1.2) h.1.2) (sOs es sc fn W X _ g h.2) h.1.1
    · cases h
theorem sKv {T : Tb} {G : Gx} {call : Call} {N : List Str} {k : Nat} : ∀ (es : List Ex) (sc : Scope) (fn : Str → Bool) (W : WX) (X : Cx) (pos : Pos) (ks : List (Option Expr)) (vs : List Expr), Good T G call N sc fn W k X → chKv T N es sc fn ks vs = true → JKv G W X pos call es ks vs
  | [], sc, fn, W, X, pos, ks, vs, g, h => by
    simp only [chKv] at h
    split at h
    · exact kv_nil
    · cases h
  | [_], sc, fn, W, X, pos, ks, vs, g, h => by simp [chKv] at h
  | a :: b :: es, sc, fn, W, X, pos, ks, vs, g, h => by
    simp only [chKv] at h
    split at h
    · simp only [Bool.and_eq_true] at h
      exact kv_cons (sE a sc fn W X _ g h.1.1) (sE b sc fn W X _ g h.1.2) (sKv es sc fn W X _ _ _ g h.2)
    · cases h
theorem sP {T : Tb} {G : Gx} {call : Call} {N : List Str} {k : Nat} : ∀ (o : Option Ex) (sc : Scope) (fn : Str → Bool) (W : WX) (X : Cx) (x : Option Expr), Good T G call N sc fn W k X → chP T N o sc fn x = true → JP G W X x (evP call o)
  | none, sc, fn, W, X, x, g, h => by
    simp only [chP] at h
    split at h
    · exact p_none
    · cases h
  | some a, sc, fn, W, X, x, g, h => by
    simp only [chP] at h
    split at h
    · exact p_some (sE a sc fn W X _ g h)
    · cases h
theorem sC {T : Tb} {G : Gx} {call : Call} {N : List Str} {k : Nat} : ∀ (o : Option Ex) (sc : Scope) (fn : Str → Bool) (W : WX) (X : Cx) (xs : List Expr), Good T G call N sc fn W k X → chC T N o sc fn xs = true → JC G W X xs (evC call o)
  | none, sc, fn, W, X, x, g, h => by
    simp only [chC] at h
    split at h
    · exact c_none
    · cases h
  | some a, sc, fn, W, X, x, g, h => by
    simp only [chC] at h
    split at h
    · exact c_some (sT a sc fn W X _ g h)
    · cases h
theorem sI {T : Tb} {G : Gx} {call : Call} {N : List Str} {k : Nat} : ∀ (it : Itx) (sc : Scope) (fn : Str → Bool) (W : WX) (X : Cx) (t e : Expr), Good T G call N sc fn W k X → chI T N it sc fn t e = true → JI G W X t e (evI call it)
  | .seq a, sc, fn, W, X, t, e, g, h => by
    simp only [chI] at h
    exact i_seq g (sE a sc fn W X _ g h)
  | .rng a, sc, fn, W, X, t, e, g, h => by
    simp only [chI] at h
    split at h
    · simp only [Bool.and_eq_true, beq_iff_eq] at h
      obtain ⟨⟨⟨rfl, h2⟩, h3⟩, h4⟩ := h
      exact i_rng g h2 (sE a sc fn W X _ g h4) h3
    · cases h
  | .rng2 a b, sc, fn, W, X, t, e, g, h => by
    simp only [chI] at h
    split at h
    · simp only [Bool.and_eq_true, beq_iff_eq] at h
      obtain ⟨⟨⟨⟨⟨rfl, h2⟩, h3⟩, h4⟩, h5⟩, h6⟩ := h
      exact i_rng2 g h2 (sE a sc fn W X _ g h5) (sE b sc fn W X _ g h6) h3 h4
    · cases h
  | .zip a b, sc, fn, W, X, t, e, g, h => by
    simp only [chI] at h
    split at h
    · simp only [Bool.and_eq_true, beq_iff_eq] at h
      obtain ⟨⟨⟨⟨⟨⟨h0, rfl⟩, h2⟩, h3⟩, h4⟩, h5⟩, h6⟩ := h
      cases t <;> simp [isTup] at h0
      exact i_zip g h2 (sE a sc fn W X _ g h5) (sE b sc fn W X _ g h6) h3 h4
    · cases h
  | .rev a, sc, fn, W, X, t, e, g, h => by
    simp only [chI] at h
    split at h
    · simp only [Bool.and_eq_true, beq_iff_eq] at h
      obtain ⟨⟨⟨rfl, h2⟩, h3⟩, h4⟩ := h
      exact i_rev g h2 (sE a sc fn W X _ g h4) h3
    · cases h
  | .rrng a, sc, fn, W, X, t, e, g, h => by
    simp only [chI] at h
    split at h
    · simp only [Bool.and_eq_true, beq_iff_eq] at h
      obtain ⟨⟨⟨⟨⟨rfl, h2⟩, rfl⟩, h4⟩, h5⟩, h6⟩ := h
      exact i_rrng g h2 h4 (sE a sc fn W X _ g h6) h5
    · cases h
  | .dk a, sc, fn, W, X, t, e, g, h => by
    simp only [chI] at h
    exact i_dk g (sE a sc fn W X _ g h)
  | .dit a, sc, fn, W, X, t, e, g, h => by
    simp only [chI] at h
    split at h
    · simp only [Bool.and_eq_true, beq_iff_eq] at h
      obtain ⟨⟨⟨⟨h0, rfl⟩, h2⟩, h3⟩, h4⟩ := h
      cases t <;> simp [isTup] at h0
      exact i_dit g h3 (by simpa using h2) (sE a sc fn W X _ g h4)
    · cases h
  | .dvl a, sc, fn, W, X, t, e, g, h => by
    simp only [chI] at h
    split at h
    · simp only [Bool.and_eq_true, beq_iff_eq] at h
      obtain ⟨⟨⟨rfl, h2⟩, h3⟩, h4⟩ := h
      exact i_dvl g h3 (by simpa using h2) (sE a sc fn W X _ g h4)
    · cases h
  | .enu a, sc, fn, W, X, t, e, g, h => by
    simp only [chI] at h
    split at h
    · simp only [Bool.and_eq_true, beq_iff_eq] at h
      obtain ⟨⟨⟨⟨h0, rfl⟩, h2⟩, h3⟩, h4⟩ := h
      cases t <;> simp [isTup] at h0
      exact i_enu g h2 (sE a sc fn W X _ g h4) h3
    · cases h
end
end BX
set_option Elab.async false
set_option linter.all false
set_option maxRecDepth 100000
set_option maxHeartbeats 2000000
/-! BX6: statements, defs. -/
namespace BX
open PySem L2
open PyProof.Rows hiding St Binds

/-! ### the check -/
def notComp : Expr → Bool
  | .ListComp .. => false | .SetComp .. => false | .DictComp .. => false
  | _ => true
def isName : Expr → Bool
  | .Name .. => true
  | _ => false
/-- x = [..] on one line: the list goes into x by a swap -/
def swapB (sc : Scope) : Expr → Expr → Bool
  | .Name t p, .ListComp _ _ scope q => (match sc.names.lookup t with | some .local => true | _ => false) && (p.line == q.line) && !(scope.names.any fun (n, k) => n == t && (k == .local || k == .cell))
  | _, _ => false
/-- x = {.. : ..} on one line -/
def swapD (sc : Scope) : Expr → Expr → Bool
  | .Name t p, .DictComp _ _ _ scope q => (match sc.names.lookup t with | some .local => true | _ => false) && (p.line == q.line) && !(scope.names.any fun (n, k) => n == t && (k == .local || k == .cell))
  | _, _ => false
/-- x = [..], x not a plain local: no swap -/
def cellB (sc : Scope) : Expr → Bool
  | .Name t _ => !(sc.names.lookup t == some .local)
  | _ => false
/-- no two stores are exchanged -/
def plainStores : Expr → Expr → Bool
  | .Tuple ts _ _, .Tuple vs _ _ => !(ts.all isName) || vs.all (foldedForSure 8)
  | .List _ _, _ => false
  | _, _ => true
def freshE : Ex → Bool
  | .lst _ => true
  | .lc .. => true
  | .lc2 .. => true
  | .blt .list _ => true
  | .bin .mul (.lst _) _ => true
  | .prim .dnew _ => true
  | .prim .dcopy _ => true
  | .prim .lcopy _ => true
  | .prim .dlist _ => true
  | .dsp _ => true
  | .dc .. => true
  | .ite _ (.lst _) (.lst _) => true
  | _ => false
/-- a comprehension, as it stands -/
def lcE : Ex → Bool
  | .lc .. => true
  | .lc2 .. => true
  | _ => false
section
variable (T : Tb) (N : List Str) (sc : Scope) (fn : Str → Bool)
/-- a name, an attribute of slot j -/
def chPt (j : Nat) (c : Str) : Nat ⊕ Str → Expr → Bool
  | .inl i, e => match e with | .Name y _ => decide (N[i]? = some y) && fn y | _ => false
  | .inr f, e => match e with | .Attribute (.Name y _) g _ => decide (N[j]? = some y) && visB sc y && g == f && T.fldB c f | _ => false
def chPts (j : Nat) (c : Str) : List (Nat ⊕ Str) → List Expr → Bool
  | [], es => match es with | [] => true | _ => false
  | t :: ts, es => match es with | x :: xs => chPt T N sc fn j c t x && chPts j c ts xs | _ => false
mutual
def chS : Sm → Stmt → Bool
  | .asg t e, st => match st with
    | .Assign [tx] x _ => notStar tx && chT N fn t tx && chE T N e sc fn x && plainStores tx x && (notComp x || !(isName tx) || cellB sc tx || swapB sc tx x)
    | _ => false
  | .par i j a b, st => match st with
    | .Assign [.Tuple [.Name x px, .Name y py] _ _] (.Tuple [u, v] _ _) _ => decide (N[i]? = some x) && decide (N[j]? = some y) && decide (i ≠ j) && decide (x ≠ y) && (py.line == px.line) &&
        (match sc.names.lookup x with | some .local => true | _ => false) && (match sc.names.lookup y with | some .local => true | _ => false) &&
        notStar u && notStar v && !([u, v].all (foldedForSure 8)) && !([u, v].all (constantsAlone 8)) && chE T N a sc fn u && chE T N b sc fn v
    | _ => false
  | .own i e, st => match st with
    | .Assign [.Name y p] x _ => decide (N[i]? = some y) && fn y && freshE e && chE T N e sc fn x && (notComp x || swapB sc (.Name y p) x || swapD sc (.Name y p) x || cellB sc (.Name y p))
    | _ => false
  | .frz i s, st => chS s st
  | .aug i o e, st => match st with
    | .AugAssign (.Name y _) p x _ => decide (N[i]? = some y) && fn y && opB o p && chE T N e sc fn x
    | _ => false
  | .star i j e, st => match st with
    | .Assign [.Tuple [.Name x _, .Starred (.Name y _) _] _ _] v _ => decide (N[i]? = some x) && decide (N[j]? = some y) && fn x && fn y && chE T N e sc fn v && !isTup v
    | _ => false
  | .set a i e, st => match st with
    | .Assign [.Subscript o k _] x _ => notSlice k && notComp x && chE T N e sc fn x && chE T N a sc fn o && chE T N i sc fn k
    | _ => false
  | .app i e, st => match st with
    | .Expr (.Call (.Attribute (.Name y _) m ap) [x] [] cp) _ => decide (N[i]? = some y) && visB sc y && m == ("append" : Str) && notStar x && (ap.endLine == cp.line) && chE T N e sc fn x
    | _ => false
  | .setO i k e, st => match st with
    | .Assign [.Subscript (.Name y _) kx _] x _ => decide (N[i]? = some y) && visB sc y && notSlice kx && notComp x && chE T N e sc fn x && chE T N k sc fn kx
    | _ => false
  | .augO i k o e, st => match st with
    | .AugAssign (.Subscript (.Name y _) kx _) p x _ => decide (N[i]? = some y) && visB sc y && notSlice kx && opB o p && chE T N e sc fn x && chE T N k sc fn kx
    | _ => false
  | .setOD i k e, st => match st with
    | .Assign [.Subscript (.Name y _) kx _] x _ => decide (N[i]? = some y) && visB sc y && notSlice kx && notComp x && chE T N e sc fn x && chE T N k sc fn kx
    | _ => false
  | .setD a k e, st => match st with
    | .Assign [.Subscript o kx _] x _ => notSlice kx && notComp x && chE T N e sc fn x && chE T N a sc fn o && chE T N k sc fn kx
    | _ => false
  | .slO i lo hi e, st => match st with
    | .Assign [.Subscript (.Name y _) (.Slice (some l) (some h) none _) _] x _ => decide (N[i]? = some y) && visB sc y && notComp x && chE T N e sc fn x && chE T N lo sc fn l && chE T N hi sc fn h
    | _ => false
  | .insO i k e, st => match st with
    | .Expr (.Call (.Attribute (.Name y _) m ap) [kx, x] [] cp) _ => m == ("insert" : Str) && decide (N[i]? = some y) && visB sc y && notStar kx && notStar x && (ap.endLine == cp.line) && chE T N k sc fn kx && chE T N e sc fn x
    | _ => false
  | .starO i j e, st => match st with
    | .Assign [.Tuple [.Name x _, .Starred (.Name y _) _] _ _] v _ => decide (N[i]? = some x) && decide (N[j]? = some y) && fn x && fn y && chE T N e sc fn v && !isTup v
    | _ => false
  | .augF a c f o e, st => match st with
    | .AugAssign (.Attribute ox f' _) p x _ => f' == f && T.fldB c f && opB o p && chE T N a sc fn ox && chE T N e sc fn x
    | _ => false
  | .parF j c ts e, st => match st with
    | .Assign [.Tuple xs kk pp] x _ => chPts T N sc fn j c ts xs && notComp x && plainStores (.Tuple xs kk pp) x && chE T N e sc fn x
    | _ => false
  | .chnF j c f1 f2 e, st => match st with
    | .Assign [t1, t2] x _ => chPt T N sc fn j c (.inr f1) t1 && chPt T N sc fn j c (.inr f2) t2 && chE T N e sc fn x
    | _ => false
  | .appR a e, st => match st with
    | .Expr (.Call (.Attribute o m ap) [x] [] cp) _ => m == ("append" : Str) && notStar x && (ap.endLine == cp.line) && notCall0 o && chE T N a sc fn o && chE T N e sc fn x
    | _ => false
  | .lk _ s, st => chS s st
  | .setF a c f e, st => match st with
    | .Assign [.Attribute o f' _] x _ => f' == f && T.fldB c f && chE T N e sc fn x && chE T N a sc fn o
    | _ => false
  | .popOD _ _, _ => false
  | .popD a k, st => match st with
    | .Expr (.Call (.Attribute o m ap) [kx] [] cp) _ => m == ("pop" : Str) && notStar kx && (ap.endLine == cp.line) && notCall0 o && chE T N a sc fn o && chE T N k sc fn kx
    | _ => false
  | .popO t i, st => match st with
    | .Assign [tx] (.Call (.Attribute (.Name y _) m ap) [] [] cp) _ => m == ("pop" : Str) && decide (N[i]? = some y) && visB sc y && (ap.endLine == cp.line) && notStar tx && chT N fn t tx
    | _ => false
  | .extO i e, st => match st with
    | .AugAssign (.Name y _) .Add x _ => decide (N[i]? = some y) && fn y && chE T N e sc fn x
    | _ => false
  | .exp e, st => match st with
    | .Expr x _ => notComp x && chE T N e sc fn x
    | _ => false
  | .ret e, st => match st with
    | .Return (some x) _ => chE T N e sc fn x
    | _ => false
  | .retN, st => match st with
    | .Return none _ => true
    | _ => false
  | .ite c a b, st => match st with
    | .If x y z _ => chE T N c sc fn x && chB a y && chB b z
    | _ => false
  | .for t it b, st => match st with
    | .For tx x y [] _ => notSet x && chT N fn t tx && chI T N it sc fn tx x && chB b y
    | _ => false
  | .whl c b, st => match st with
    | .While x y [] _ => chE T N c sc fn x && chB b y
    | _ => false
  | .brk, st => match st with
    | .Break _ => true
    | _ => false
  | .cnt, st => match st with
    | .Continue _ => true
    | _ => false
  | .pass, st => match st with
    | .Pass _ => true
    | _ => false
  | .dead, _ => true
def chB : List Sm → List Stmt → Bool
  | [], ss => match ss with | [] => true | _ => false
  | s :: b, ss => match ss with | st :: ss => chS s st && chB b ss | _ => false
end
end

/-! ### the frame -/
section
variable {K : PySem.W.Frag} {w : Wd} {H0 H Hi : Hp} {σ : St} {ε : Env}
theorem REn.exts {w' : Wd} {H' : Hp} (e : ExtS w H w' H') (h : REn K w H0 σ H ε) (k : ∀ (i : Nat) (d : D) (a : Addr), ε[i]? = some (.own d) → σ[i]? = some (some (.ref a)) → H a ≠ none → a ∉ w.ρ → ¬ w.Φ a → H' a = H a ∧ a ∉ w'.ρ ∧ ¬ w'.Φ a) : REn K w' H0 σ H' ε := by
  refine ⟨h.len, fun i s q => ?_, h.ap⟩
  have q' := h.sl i s q
  cases s with
  | un => trivial
  | val d => obtain ⟨v, h1, h2⟩ := q'; exact ⟨v, h1, RV.exts e _ _ h2⟩
  | own d =>
    obtain ⟨a, h2, h3, h5, h6, h7⟩ := q'
    obtain ⟨k1, k2, k3⟩ := k i d a q h2 h3.ne h5 h6
    exact ⟨a, h2, h3.exts e k1, k2, k3, h7⟩
/-- a new own list -/
theorem REn.setOwn (h : REn K w H0 σ H ε) {a : Addr} {d0 : D} (i : Nat) (ha : OwnAt K w H a d0) (n1 : a ∉ w.ρ) (n2 : ¬ w.Φ a) (h0 : H0 a = none)
    (hd : ∀ (j : Nat) (d : D), j ≠ i → ε[j]? = some (.own d) → σ[j]? ≠ some (some (.ref a))) : REn K w H0 (σ.set i (some (.ref a))) H (ε.set i (.own d0)) := by
  refine ⟨by simp [h.len], fun j s e => ?_, fun j k d1 d2 b hne e1 e2 e3 => ?_⟩
  · by_cases hij : i = j
    · subst hij
      have hl : i < ε.length := by
        have := (List.getElem?_eq_some_iff.mp e).1
        simpa using this
      rw [List.getElem?_set_self hl] at e
      cases e
      exact ⟨a, List.getElem?_set_self (by rw [h.len]; exact hl), ha, n1, n2, h0⟩
    · rw [List.getElem?_set_ne hij] at e ⊢
      exact h.sl j s e
  · by_cases hj : i = j
    · subst hj
      have hl : i < ε.length := by
        have := (List.getElem?_eq_some_iff.mp e1).1
        simpa using this
      rw [List.getElem?_set_self (by rw [h.len]; exact hl)] at e3
      cases e3
      rw [List.getElem?_set_ne hne] at e2 ⊢
      exact hd k d2 (fun z => hne z.symm) e2
    · by_cases hk : i = k
      · subst hk
        have hl : i < ε.length := by
          have := (List.getElem?_eq_some_iff.mp e2).1
          simpa using this
        rw [List.getElem?_set_ne hj] at e1 e3
        rw [List.getElem?_set_self (by rw [h.len]; exact hl)]
        intro z
        cases z
        exact hd j d1 (fun z => hj z.symm) e1 e3
      · rw [List.getElem?_set_ne hj] at e1 e3
        rw [List.getElem?_set_ne hk] at e2 ⊢
        exact h.ap j k d1 d2 b hne e1 e2 e3
/-- an own list becomes a value -/
theorem REn.freeze (h : REn K w H0 σ H ε) {i : Nat} {l : List D} (e : ε[i]? = some (.own (.lst l))) : ∃ a, OwnAt K w H a (.lst l) ∧ a ∉ w.ρ ∧ ¬ w.Φ a ∧ H0 a = none ∧ ∀ n : a ∉ w.ρ, REn K (w.imm a n) H0 σ H (ε.set i (.val (.lst l))) := by
  obtain ⟨a, h2, h3, h5, h6, h7⟩ := h.sl i _ e
  refine ⟨a, h3, h5, h6, h7, fun n => ⟨by simp [h.len], fun j s q => ?_, fun j k d1 d2 b hne e1 e2 e3 => ?_⟩⟩
  · by_cases hij : i = j
    · subst hij
      have hl : i < ε.length := (List.getElem?_eq_some_iff.mp e).1
      rw [List.getElem?_set_self hl] at q
      cases q
      obtain ⟨vs, g1, g2⟩ := h3
      refine ⟨.ref a, h2, ?_⟩
      simp only [RV]
      exact ⟨a, vs, rfl, ⟨.inr rfl, .inl g1⟩, RVs.exts (exts_own n) _ _ g2⟩
    · rw [List.getElem?_set_ne hij] at q
      have q' := h.sl j s q
      cases s with
      | un => trivial
      | val d => obtain ⟨v, g1, g2⟩ := q'; exact ⟨v, g1, RV.exts (exts_own n) _ _ g2⟩
      | own d' =>
        obtain ⟨b, g2, g3, g5, g6, g7⟩ := q'
        refine ⟨b, g2, g3.exts (exts_own n) rfl, g5, fun z => ?_, g7⟩
        rcases z with z | z
        · exact g6 z
        · subst z; exact h.ap i j _ _ _ hij e q h2 g2
  · have hj : i ≠ j := fun z => by
      subst z
      have hl : i < ε.length := (List.getElem?_eq_some_iff.mp e).1
      rw [List.getElem?_set_self hl] at e1
      cases e1
    have hk : i ≠ k := fun z => by
      subst z
      have hl : i < ε.length := (List.getElem?_eq_some_iff.mp e).1
      rw [List.getElem?_set_self hl] at e2
      cases e2
    rw [List.getElem?_set_ne hj] at e1
    rw [List.getElem?_set_ne hk] at e2
    exact h.ap j k d1 d2 b hne e1 e2 e3
/-- an own dict becomes a value: it is iced -/
theorem REn.ice (h : REn K w H0 σ H ε) {i : Nat} {ks : List Key} {ds : List D} (e : ε[i]? = some (.own (.dct ks ds))) : ∃ a kvs, H a = some (.dK kvs) ∧ a ∉ w.ρ ∧ ¬ w.Φ a ∧ H0 a = none ∧ ∀ (n : a ∉ w.ρ) (ob : Obj), REn K (w.imm a n) H0 σ (upd H a (.frz ob (.dK kvs))) (ε.set i (.val (.dct ks ds))) := by
  obtain ⟨a, h2, ⟨kvs, hk1, hk2, hk3⟩, h5, h6, h7⟩ := h.sl i _ e
  have hf : ∀ ob u, H a ≠ some (.frz ob u) := nf_of hk1
  refine ⟨a, kvs, hk1, h5, h6, h7, fun n ob => ?_⟩
  have xe : ExtS w H (w.imm a n) (upd H a (.frz ob (.dK kvs))) := (exts_upd h6 hf).trans (exts_own n)
  refine ⟨by simp [h.len], fun j s q => ?_, fun j k d1 d2 b hne e1 e2 e3 => ?_⟩
  · by_cases hij : i = j
    · subst hij
      have hl : i < ε.length := (List.getElem?_eq_some_iff.mp e).1
      rw [List.getElem?_set_self hl] at q
      cases q
      refine ⟨.ref a, h2, ?_⟩
      simp only [RV]
      exact ⟨a, ob, kvs, rfl, .inr rfl, upd_same, hk2, RVs.exts xe _ _ hk3⟩
    · rw [List.getElem?_set_ne hij] at q
      have q' := h.sl j s q
      cases s with
      | un => trivial
      | val d => obtain ⟨v, g1, g2⟩ := q'; exact ⟨v, g1, RV.exts xe _ _ g2⟩
      | own d' =>
        obtain ⟨b, g2, g3, g5, g6, g7⟩ := q'
        have hb : b ≠ a := fun z => by subst z; exact h.ap i j _ _ _ hij e q h2 g2
        refine ⟨b, g2, g3.exts xe (upd_ne hb), g5, fun z => ?_, g7⟩
        rcases z with z | z
        · exact g6 z
        · exact hb z
  · have hj : i ≠ j := fun z => by
      subst z
      have hl : i < ε.length := (List.getElem?_eq_some_iff.mp e).1
      rw [List.getElem?_set_self hl] at e1
      cases e1
    have hk : i ≠ k := fun z => by
      subst z
      have hl : i < ε.length := (List.getElem?_eq_some_iff.mp e).1
      rw [List.getElem?_set_self hl] at e2
      cases e2
    rw [List.getElem?_set_ne hj] at e1
    rw [List.getElem?_set_ne hk] at e2
    exact h.ap j k d1 d2 b hne e1 e2 e3
/-- an own thing is not iced -/
theorem REn.nf (h : REn K w H0 σ H ε) {i : Nat} {a : Addr} {d : D} (e : ε[i]? = some (.own d)) (hs : σ[i]? = some (some (.ref a))) : ∀ ob u, H a ≠ some (.frz ob u) := by
  obtain ⟨b, h2, h3, _⟩ := h.sl i _ e
  rw [hs] at h2
  cases h2
  exact h3.nf
/-- an own list grows -/
theorem REn.growO (h : REn K w H0 σ H ε) {i : Nat} {a : Addr} {dA dB : D} {o : HO} (e : ε[i]? = some (.own dA)) (hs : σ[i]? = some (some (.ref a))) (n1 : a ∉ w.ρ) (n2 : ¬ w.Φ a) (h0 : H0 a = none) (hv : OwnAt K w (upd H a o) a dB) :
    REn K w H0 σ (upd H a o) (ε.set i (.own dB)) := by
  have hf := h.nf e hs
  refine ⟨by simp [h.len], fun j s q => ?_, fun j k d1 d2 b hne e1 e2 e3 => ?_⟩
  · by_cases hij : i = j
    · subst hij
      have hl : i < ε.length := (List.getElem?_eq_some_iff.mp e).1
      rw [List.getElem?_set_self hl] at q
      cases q
      exact ⟨a, hs, hv, n1, n2, h0⟩
    · rw [List.getElem?_set_ne hij] at q
      have q' := h.sl j s q
      cases s with
      | un => trivial
      | val d => obtain ⟨v, g1, g2⟩ := q'; exact ⟨v, g1, RV.exts (exts_upd n2 hf) _ _ g2⟩
      | own d' =>
        obtain ⟨b, g2, g3, g5, g6, g7⟩ := q'
        have hb : b ≠ a := fun z => by subst z; exact h.ap i j _ _ _ hij e q hs g2
        exact ⟨b, g2, g3.exts (exts_upd n2 hf) (upd_ne hb), g5, g6, g7⟩
  · have old : ∀ (j : Nat) (d : D), (ε.set i (Sl.own dB))[j]? = some (.own d) → ∃ d', ε[j]? = some (.own d') := fun j d q => by
      by_cases hij : i = j
      · subst hij; exact ⟨_, e⟩
      · rw [List.getElem?_set_ne hij] at q; exact ⟨_, q⟩
    obtain ⟨d1', e1'⟩ := old j _ e1
    obtain ⟨d2', e2'⟩ := old k _ e2
    exact h.ap j k d1' d2' b hne e1' e2' e3
theorem REn.grow (h : REn K w H0 σ H ε) {i : Nat} {a : Addr} {d0 : D} {l' : List D} {vs' : List V} (e : ε[i]? = some (.own d0)) (hs : σ[i]? = some (some (.ref a))) (n1 : a ∉ w.ρ) (n2 : ¬ w.Φ a) (h0 : H0 a = none) (hv : RVs K w H vs' l') :
    REn K w H0 σ (upd H a (.lst vs')) (ε.set i (.own (.lst l'))) := h.growO e hs n1 n2 h0 ⟨vs', upd_same, RVs.exts (exts_upd n2 (h.nf e hs)) _ _ hv⟩
theorem REn.growD (h : REn K w H0 σ H ε) {i : Nat} {a : Addr} {d0 : D} {ks : List Key} {ds : List D} {kvs : List (Key × V)} (e : ε[i]? = some (.own d0)) (hs : σ[i]? = some (some (.ref a))) (n1 : a ∉ w.ρ) (n2 : ¬ w.Φ a) (h0 : H0 a = none) (hk : kvs.map (·.1) = ks) (hv : RVs K w H (kvs.map (·.2)) ds) :
    REn K w H0 σ (upd H a (.dK kvs)) (ε.set i (.own (.dct ks ds))) := h.growO e hs n1 n2 h0 ⟨kvs, upd_same, hk, RVs.exts (exts_upd n2 (h.nf e hs)) _ _ hv⟩
end

/-! ### readings of statements -/
def endP (G : Gx) (W : WX) (w0 : Wd) (H0 : Hp) (D : Ends) (w : Wd) (H : Hp) : Fl → Sto → Prop := fun f S' => match f with
  | .nx ε' => ∀ w' σ' H', RSt G w' S' H' → REn G.K w' H0 σ' H' ε' → Ext w0 H0 w' H' → ExtS w H w' H' → D.nx σ' H'
  | .bk ε' => ∀ w' σ' H', RSt G w' S' H' → REn G.K w' H0 σ' H' ε' → Ext w0 H0 w' H' → ExtS w H w' H' → D.bk σ' H'
  | .ct ε' => ∀ w' σ' H', RSt G w' S' H' → REn G.K w' H0 σ' H' ε' → Ext w0 H0 w' H' → ExtS w H w' H' → D.ct σ' H'
  | .rt d => ∀ w' H' v, RSt G w' S' H' → Ext w0 H0 w' H' → ExtS w H w' H' → RV G.K w' H' v d → D.rt v H'
  | .ex x ε' => ∀ w' σ' H' c dx, RSt G w' S' H' → REn G.K w' H0 σ' H' ε' → Ext w0 H0 w' H' → G.rx w' H' x c dx → W c dx σ' H'
theorem endP_ext {G : Gx} {W : WX} {w0 w w1 : Wd} {H0 H H1 : Hp} {D : Ends} {f : Fl} {S : Sto} (e : ExtS w H w1 H1) (h : endP G W w0 H0 D w H f S) : endP G W w0 H0 D w1 H1 f S := by
  cases f with
  | nx ε' => exact fun w' σ' H' a b c d => h w' σ' H' a b c (e.trans d)
  | bk ε' => exact fun w' σ' H' a b c d => h w' σ' H' a b c (e.trans d)
  | ct ε' => exact fun w' σ' H' a b c d => h w' σ' H' a b c (e.trans d)
  | rt d => exact fun w' H' v a b c => h w' H' v a b (e.trans c)
  | ex x ε' => exact h
def sRd (G : Gx) (W : WX) (ev : Env → Sto → R Fl) : TS := fun D σ H =>
  ∃ w0 H0 w ε S f S', RSt G w S H ∧ REn G.K w H0 σ H ε ∧ Ext w0 H0 w H ∧ ev ε S = .ok f S' ∧ endP G W w0 H0 D w H f S'
theorem _root_.L2.PS.imp {X : Cx} {s : Stmt} {t t' : TS} (h : PS X s t) (k : ∀ D σ H, t' D σ H → t D σ H) : PS X s t' := ⟨fun pins s σ H D I q => h.run pins s σ H D I (k _ _ _ q)⟩
theorem _root_.L2.PSs.imp {X : Cx} {s : List Stmt} {t t' : TS} (h : PSs X s t) (k : ∀ D σ H, t' D σ H → t D σ H) : PSs X s t' := ⟨fun pins s σ H D I q => h.run pins s σ H D I (k _ _ _ q)⟩
abbrev JS (G : Gx) (W : WX) (X : Cx) (s : Stmt) (ev : Env → Sto → R Fl) : Prop := PS X s (sRd G W ev)
abbrev JB (G : Gx) (W : WX) (X : Cx) (s : List Stmt) (ev : Env → Sto → R Fl) : Prop := PSs X s (sRd G W ev)
/-- an expression within a statement -/
theorem sx_step {G : Gx} {W : WX} {α β : Type} {rel : Wd → Hp → β → α → Prop} {ev : Env → Sto → R α} {f : α → Sto → R Fl} {w0 w : Wd} {H0 H : Hp} {σ : St} {ε : Env} {S S' : Sto} {fl : Fl} {D : Ends} {Q : β → Hp → Prop}
    (hS : RSt G w S H) (hE : REn G.K w H0 σ H ε) (hX : Ext w0 H0 w H) (h : (ev ε S).lf ε f = .ok fl S') (hend : endP G W w0 H0 D w H fl S')
    (k : ∀ d S1 w1 H1 v, Ext w H w1 H1 → RSt G w1 S1 H1 → REn G.K w1 H0 σ H1 ε → Ext w0 H0 w1 H1 → rel w1 H1 v d → f d S1 = .ok fl S' → endP G W w0 H0 D w1 H1 fl S' → Q v H1) : rd G W rel ev σ H Q := by
  refine ⟨w, H0, ε, S, hS, hE, ?_⟩
  cases hr : ev ε S with
  | ok d S1 =>
    rw [hr] at h
    exact fun w1 H1 v e hS1 r => k d S1 w1 H1 v e hS1 (hE.ext e) (hX.trans e) r h (endP_ext e.toS hend)
  | exc x S1 =>
    rw [hr] at h
    cases h
    exact fun w1 H1 c dx e hS1 rx => hend w1 σ H1 c dx hS1 (hE.ext e) (hX.trans e) rx
  | stuck => rw [hr] at h; cases h
theorem sxF_step {G : Gx} {W : WX} {ev : Env → Sto → R D} {f : D → Sto → R Fl} {w0 w : Wd} {H0 H : Hp} {σ : St} {ε : Env} {S S' : Sto} {fl : Fl} {D' : Ends} {Q : VK}
    (hS : RSt G w S H) (hE : REn G.K w H0 σ H ε) (hX : Ext w0 H0 w H) (h : (ev ε S).lf ε f = .ok fl S') (hend : endP G W w0 H0 D' w H fl S')
    (k : ∀ d S1 w1 H1 a, Ext w H w1 H1 → RSt G w1 S1 H1 → REn G.K w1 H0 σ H1 ε → Ext w0 H0 w1 H1 → OwnAt G.K w1 H1 a d → a ∉ w1.ρ → ¬ w1.Φ a → H a = none → f d S1 = .ok fl S' → endP G W w0 H0 D' w1 H1 fl S' → Q (.ref a) H1) : rdF G W ev σ H Q := by
  refine ⟨w, H0, ε, S, hS, hE, ?_⟩
  cases hr : ev ε S with
  | ok d S1 =>
    rw [hr] at h
    exact fun w1 H1 a e hS1 ha n1 n2 hi => k d S1 w1 H1 a e hS1 (hE.ext e) (hX.trans e) ha n1 n2 hi h (endP_ext e.toS hend)
  | exc x S1 =>
    rw [hr] at h
    cases h
    exact fun w1 H1 c dx e hS1 rx => hend w1 σ H1 c dx hS1 (hE.ext e) (hX.trans e) rx
  | stuck => rw [hr] at h; cases h

structure GoodS (T : Tb) (G : Gx) (call : Call) (N : List Str) (sc : Scope) (fn : Str → Bool) (W : WX) (k : Nat) (X : Cx) : Prop extends Good T G call N sc fn W k X where
  pass : PassesOwn (model X.prog X.w) X.A X.env X.xe
  kind : sc.kind = .function

/-! ### facts of the text -/
theorem swapsCell {tx x : Expr} {l : Nat} {env : PySem.Env} (h : cellB env.scope tx = true) : swapsWithSole [tx] x l env = pure false := by
  show swapsWith x (some tx) l env = pure false
  cases tx <;> first | (cases h; done) | skip
  rename_i t p
  have hk : (env.kindOf t == some .local) = false := by simpa [cellB, Env.kindOf] using h
  cases x <;> first | rfl | (simp only [swapsWith, hk, Bool.and_false, Bool.false_and])
theorem swapsCellW {x : Expr} {y : Str} {p : Pos} {l : Nat} {env : PySem.Env} (h : cellB env.scope (.Name y p) = true) : swapsWith x (some (.Name y p)) l env = pure false := swapsCell (tx := .Name y p) (l := l) h
theorem swapsSole {tx x : Expr} {l : Nat} {env : PySem.Env} (h : notComp x = true ∨ isName tx = false) : swapsWithSole [tx] x l env = pure false := by
  show swapsWith x (some tx) l env = pure false
  rcases h with h | h
  · cases x <;> first | rfl | (simp [notComp] at h)
  · cases x <;> first | rfl | (cases tx <;> first | rfl | (simp [isName] at h))
theorem swapsExpr {x : Expr} {t : Option Expr} {l : Nat} {env : PySem.Env} (h : notComp x = true) : swapsWith x t l env = pure false := by
  cases x <;> first | rfl | (simp [notComp] at h)
theorem few_names {p : Expr → Option Str} (hp : ∀ e, isName e = false → p e = none) : ∀ {l : List Expr}, l.all isName = false → (l.filterMap p).length < l.length
  | [], q => by simp at q
  | e :: l, q => by
    have hle := List.length_filterMap_le p l
    cases he : isName e with
    | false => rw [List.filterMap_cons, hp e he]; simp only [List.length_cons]; omega
    | true =>
      simp only [List.all_cons, he, Bool.true_and] at q
      have := few_names hp q
      rw [List.filterMap_cons]
      cases p e <;> simp only [List.length_cons] <;> omega
theorem stores_none {tx x : Expr} {env : PySem.Env} (h : plainStores tx x = true) : swappedStores [tx] x env = pure none := by
  by_cases ht : ∃ ts a b, tx = .Tuple ts a b
  · obtain ⟨ts, a, b, rfl⟩ := ht
    cases x with
    | Tuple vs c d =>
      simp only [plainStores, Bool.or_eq_true, Bool.not_eq_true'] at h
      unfold swappedStores
      dsimp only
      split
      · rfl
      split
      · rfl
      split
      · rfl
      · rename_i h3
        rcases h with h | h
        · simp only [Bool.or_eq_true, bne_iff_ne, ne_eq, not_or, Decidable.not_not] at h3
          refine absurd h3.1 (Nat.ne_of_lt (few_names ?_ h))
          intro e he
          cases e <;> first | rfl | (simp [isName] at he)
        · rw [if_pos h]
    | _ => rfl
  · cases tx <;> first
      | exact absurd ⟨_, _, _, rfl⟩ ht
      | (cases x <;> first | rfl | (simp [plainStores] at h))
theorem swp {x y : Str} {px py : Pos} {kt k2 : Nat} {pt pt2 : Pos} {a b : Expr} {env : PySem.Env} (hk : env.scope.kind = .function) (hx : env.scope.names.lookup x = some .local) (hy : env.scope.names.lookup y = some .local)
    (hl : (py.line == px.line) = true) (hne : x ≠ y) (na : notStar a = true) (nb : notStar b = true) (h1 : [a, b].all (foldedForSure 8) = false) (h2 : [a, b].all (constantsAlone 8) = false) :
    swappedStores [.Tuple [.Name x px, .Name y py] kt pt] (.Tuple [a, b] k2 pt2) env = pure (some [x, y]) := by
  have hb : env.blockKind = .function := by unfold Env.blockKind; rw [hk]; rfl
  have kx : env.kindOf x = some .local := hx
  have ky : env.kindOf y = some .local := hy
  have hs : ∀ p : Expr → Bool, (∀ e, notStar e = true → p e = false) → [a, b].any p = false := fun p hp => by simp [hp a na, hp b nb]
  have hf : ∀ p : Expr → Option Str, p (.Name x px) = some x → p (.Name y py) = some y → [Expr.Name x px, Expr.Name y py].filterMap p = [x, y] := fun p e1 e2 => by simp [e1, e2]
  have hyx : (y == x) = false := by simpa using fun z => hne z.symm
  have hd : [x, y].eraseDups = [x, y] := by
    simp only [List.eraseDups_cons, List.filter_cons, hyx, Bool.not_false, if_true, List.filter_nil, List.eraseDups_nil]
  unfold swappedStores
  dsimp only
  split
  · rename_i hc
    simp [hb] at hc
  split
  · rename_i hc
    rw [hs _ (fun e he => by cases e <;> first | rfl | (simp [notStar] at he))] at hc
    cases hc
  rw [hf _ (by simp [kx, Expr.pos]) (by simp only [List.head?_cons, Option.map_some, Option.getD_some, Expr.pos, ky, hl, beq_self_eq_true, Bool.and_true, if_true])]
  rw [hd, if_neg (by simp), if_neg (by rw [h1]; exact Bool.false_ne_true), if_neg (by rw [h2]; exact Bool.false_ne_true)]
theorem assign_sub {o i : Expr} {pos : Pos} {env : PySem.Env} (h : notSlice i = true) : ∀ v, assign (.Subscript o i pos) env v = (do
      let ov ← holding [v] (eval o env)
      let iv ← holding [v, ov] (eval i env)
      standAt pos
      holding [v, ov, iv] (setItem ov iv v)
      release [v, ov, iv] []) := by
  intro v
  cases i <;> first | rfl | (simp [notSlice] at h)
theorem sw_of {sc : Scope} {tx x : Expr} (h : swapB sc tx x = true) : ∃ t p el gs scope q, tx = .Name t p ∧ x = .ListComp el gs scope q ∧ sc.names.lookup t = some .local ∧ (p.line == q.line) = true ∧ (scope.names.any fun (n, k) => n == t && (k == .local || k == .cell)) = false := by
  cases tx <;> cases x <;> simp [swapB] at h
  rename_i t p el gs scope q
  obtain ⟨⟨h1, h2⟩, h3⟩ := h
  refine ⟨t, p, el, gs, scope, q, rfl, rfl, ?_, by simpa using h2, ?_⟩
  · split at h1
    · assumption
    · cases h1
  · simp only [List.any_eq_false]
    rintro ⟨n, k⟩ hm
    have := h3 n k hm
    simpa using this

theorem swd_of {sc : Scope} {tx x : Expr} (h : swapD sc tx x = true) : ∃ t p kx vx gs scope q, tx = .Name t p ∧ x = .DictComp kx vx gs scope q ∧ sc.names.lookup t = some .local ∧ (p.line == q.line) = true ∧ (scope.names.any fun (n, k) => n == t && (k == .local || k == .cell)) = false := by
  cases tx <;> cases x <;> simp [swapD] at h
  rename_i t p kx vx gs scope q
  obtain ⟨⟨h1, h2⟩, h3⟩ := h
  refine ⟨t, p, kx, vx, gs, scope, q, rfl, rfl, ?_, by simpa using h2, ?_⟩
  · split at h1
    · assumption
    · cases h1
  · simp only [List.any_eq_false]
    rintro ⟨n, k⟩ hm
    have := h3 n k hm
    simpa using this
section
variable {T : Tb} {G : Gx} {call : Call} {N : List Str} {sc : Scope} {fn : Str → Bool} {W : WX} {k turns : Nat} {X : Cx} {pos p1 p2 : Pos}
theorem aug_ok (o : BOp) : PIp X (bopN o) (fun x y H Q => ∃ i j z, x = .int i ∧ y = .int j ∧ binF o (.int i) (.int j) = some (.int z) ∧ Q (.int z) H) := by
  intro pins s σ H x y v u Q I rx ry h
  obtain ⟨i, j, z, rfl, rfl, hf, q⟩ := h
  cases o with
  | add => simp only [binF] at hf; cases hf; exact iop_add pins s σ H _ _ v u Q I rx ry ⟨_, _, rfl, rfl, q⟩
  | sub => simp only [binF] at hf; cases hf; exact iop_sub pins s σ H _ _ v u Q I rx ry ⟨_, _, rfl, rfl, q⟩
  | mul =>
    simp only [binF] at hf
    split at hf
    · rename_i hc
      cases hf
      exact (opI (C := fun i j => mulOk i j = true) fun _ _ _ _ _ _ _ hc q => imul_int q (mulOk_ok hc)) pins s σ H _ _ v u Q I rx ry ⟨_, _, rfl, rfl, hc, q⟩
    · cases hf
  | fdiv =>
    simp only [binF] at hf
    split at hf
    · rename_i hc
      cases hf
      refine (opI (C := CDivW) (g := fun i j => i / j) fun i j _ _ _ _ _ hc q => ?_) pins s σ H _ _ v u Q I rx ry ⟨_, _, rfl, rfl, hc, q⟩
      have h1 : (0 : Int) < j := hc.1
      exact ifloordiv_int (by omega) (by rw [Int.fdiv_eq_ediv_of_nonneg i (by omega)]; exact q) (.inl (PyProof.noPylong_of_log2 hc.2))
    · cases hf
  | mod =>
    simp only [binF] at hf
    split at hf
    · rename_i hc
      cases hf
      exact iop_mod pins s σ H _ _ v u Q I rx ry ⟨_, _, rfl, rfl, hc, q⟩
    · cases hf
  | pow => 
    simp only [binF] at hf
    split at hf
    · rename_i hc
      cases hf
      exact (opI (C := fun i j => 0 ≤ j ∧ j ≤ 1000000 ∧ (Builtin.Int.intBits i : Int) * j ≤ 2 ^ 27) (g := fun i j => i ^ j.toNat) fun _ _ _ _ _ _ _ hc q => ipow_int hc.1 hc.2.2 q) pins s σ H _ _ v u Q I rx ry ⟨_, _, rfl, rfl, hc, q⟩
    · cases hf
  | shl =>
    simp only [binF] at hf
    split at hf
    · rename_i hc
      cases hf
      exact iop_shl pins s σ H _ _ v u Q I rx ry ⟨_, _, rfl, rfl, hc, q⟩
    · cases hf
  | shr =>
    simp only [binF] at hf
    split at hf
    · rename_i hc
      cases hf
      exact iop_shr pins s σ H _ _ v u Q I rx ry ⟨_, _, rfl, rfl, hc, q⟩
    · cases hf
end
end BX
set_option Elab.async false
set_option linter.all false
set_option maxRecDepth 100000
set_option maxHeartbeats 2000000
/-! BX6b: attributes as targets; a locked dict; name = a dict comprehension. -/
namespace BX
open PySem L2
open PyProof.Rows hiding St Binds

/-! ### o.f as a target -/
def gAttr (K : PySem.W.Frag) (ta : TE) (f : Str) : TG := fun v σ H Q => ta σ H fun x H1 => ∃ a C dx fs, x = .ref a ∧ H1 a = some (.ins C dx fs) ∧ Cls K C ∧ NoAttr K C f ∧ fs.length < 1000 ∧ Q σ (upd H1 a (.ins C dx (putF f v fs)))
theorem pg_attr {X : Cx} {o : Expr} {f : Str} {pos : Pos} {ta : TE} (ho : PE X o ta) : PG X (.Attribute o f pos) (gAttr X.K ta f) := by
  refine ⟨fun pins s σ H v u Q I r h => ?_⟩
  rw [assign_Attribute]
  refine wpAny_bind (wpAny_holding (thn (ho.run pins s σ H _ I h) fun ov s1 ⟨x, H1, I1, r1, a, C, dx, fs, ex, ea, c, n, l, q⟩ => ?_))
  subst ex
  obtain rfl : ov = Value.ref a := r1
  refine wpAny_bind (wpAny_standAt (wpAny_bind (wpAny_holding (setattr_ok I1 ea c n l r fun s3 I3 => ?_))))
  exact wpAny_release ⟨σ, _, I3, q⟩

/-! ### a dict is locked, where there is one -/
theorem ps_lockO {X : Cx} {st : Stmt} {t : TS} (h : PS X st t) : PS X st (fun D σ H => tLock t D σ H ∨ t D σ H) := by
  refine ⟨fun pins s σ H D I hw => ?_⟩
  rcases hw with hw | hw
  · exact (ps_lock h).run pins s σ H D I hw
  · exact h.run pins s σ H D I hw
/-- between two states: what is immutable stays -/
structure ExtW (w : Wd) (H : Hp) (w' : Wd) (H' : Hp) : Prop where
  ρ : ∃ t, w'.ρ = w.ρ ++ t
  Φ : ∀ a, w.Φ a → w'.Φ a
  keep : ∀ a o, w.Φ a → H a = some o → (∀ ps, o ≠ .tbl ps) → H' a = some o
section
variable {K : PySem.W.Frag} {w w' : Wd} {H H' : Hp}
theorem ExtW.imT (e : ExtW w H w' H') {a : Addr} {vs : List V} (h : ImT K w H a vs) : ImT K w' H' a vs := by
  rcases h with ⟨h1, h2⟩ | h
  · exact .inl ⟨e.Φ a h1, Rd.keep h2 (fun _ z => nomatch z) fun o q n => e.keep a o h1 q n⟩
  · exact .inr h
theorem ExtW.imS (e : ExtW w H w' H') {a : Addr} {vs : List V} (h : ImS K w H a vs) : ImS K w' H' a vs := by
  rcases h with ⟨h1, h2⟩ | h
  · exact .inl ⟨e.Φ a h1, Rd.keep h2 (fun _ z => nomatch z) fun o q n => e.keep a o h1 q n⟩
  · exact .inr h
mutual
theorem RV.extw (e : ExtW w H w' H') : ∀ (d : D) (v : V), RV K w H v d → RV K w' H' v d
  | .non, _, h => by simp only [RV] at h ⊢; exact h
  | .bl _, _, h => by simp only [RV] at h ⊢; exact h
  | .int _, _, h => by simp only [RV] at h ⊢; exact h
  | .str _, _, h => by simp only [RV] at h ⊢; exact h
  | .tup l, v, h => by
    simp only [RV] at h ⊢
    obtain ⟨a, vs, h1, h2, h3⟩ := h
    exact ⟨a, vs, h1, e.imT h2, RVs.extw e l vs h3⟩
  | .lst l, v, h => by
    simp only [RV] at h ⊢
    obtain ⟨a, vs, h1, h2, h3⟩ := h
    exact ⟨a, vs, h1, ⟨e.Φ a h2.1, Rd.keep h2.2 (fun _ z => nomatch z) fun o q n => e.keep a o h2.1 q n⟩, RVs.extw e l vs h3⟩
  | .ref n, v, h => by
    simp only [RV] at h ⊢
    obtain ⟨a, h1, h2⟩ := h
    refine ⟨a, ?_, h2⟩
    obtain ⟨t, et⟩ := e.ρ
    rw [et, List.getElem?_append_left (List.getElem?_eq_some_iff.mp h1).1]
    exact h1
  | .scr l, v, h => by
    simp only [RV] at h ⊢
    obtain ⟨a, vs, h1, h2, h3⟩ := h
    exact ⟨a, vs, h1, e.imS h2, RVs.extw e l vs h3⟩
  | .dct ks ds, v, h => by
    simp only [RV] at h ⊢
    obtain ⟨a, o, kvs, h1, h2, h3, h4, h5⟩ := h
    exact ⟨a, o, kvs, h1, e.Φ a h2, e.keep a _ h2 h3 (fun _ z => nomatch z), h4, RVs.extw e ds _ h5⟩
  | .obj fs ds, v, h => by
    simp only [RV] at h ⊢
    obtain ⟨a, C, dx, fv, h1, h2, h3, h4, h5, h6, h7⟩ := h
    exact ⟨a, C, dx, fv, h1, e.Φ a h2, e.keep a _ h2 h3 (fun _ z => nomatch z), h4, h5, h6, RVs.extw e ds _ h7⟩
theorem RVs.extw (e : ExtW w H w' H') : ∀ (ds : List D) (vs : List V), RVs K w H vs ds → RVs K w' H' vs ds
  | [], _, h => by simp only [RVs] at h ⊢; exact h
  | d :: ds, vs, h => by
    simp only [RVs] at h ⊢
    obtain ⟨v, r, h1, h2, h3⟩ := h
    exact ⟨v, r, h1, RV.extw e d v h2, RVs.extw e ds r h3⟩
end
/-- an object of the store, whatever it was, is laid anew -/
theorem extw_obj {p : Addr} {o : HO} (hp : p ∈ w.ρ) : ExtW w H w (upd H p o) := ⟨⟨[], by simp⟩, fun _ h => h, fun a u h e _ => by rw [upd_ne (fun z => by subst z; exact w.dis _ hp h)]; exact e⟩
theorem OwnAt.extw {a : Addr} {d : D} (e : ExtW w H w' H') (h : OwnAt K w H a d) (k : H' a = H a) : OwnAt K w' H' a d := by
  cases d <;> try exact h.elim
  · obtain ⟨vs, h1, h2⟩ := h; exact ⟨vs, k.trans h1, RVs.extw e _ _ h2⟩
  · obtain ⟨vs, h1, h2, h3⟩ := h; exact ⟨vs, k.trans h1, h2, RVs.extw e _ _ h3⟩
theorem ROb.extw {G : Gx} {a : Addr} {o : Ob} (e : ExtW w H w' H') (h : ROb G w H a o) (k : H' a = H a) : ROb G w' H' a o := by
  cases o with
  | lst l => obtain ⟨vs, h1, h2⟩ := h; exact ⟨vs, k.trans h1, RVs.extw e _ _ h2⟩
  | dct ks l => obtain ⟨vs, h1, h2, h3⟩ := h; exact ⟨vs, k.trans h1, h2, RVs.extw e _ _ h3⟩
  | ins c fs => obtain ⟨C, dx, fv, h1, h2, h3, h4⟩ := h; exact ⟨C, dx, fv, h1, k.trans h2, ⟨h3.ks, RVs.extw e _ _ h3.vs⟩, h4⟩
  | fdct ks ds => obtain ⟨o, vs, h1, h2, h3⟩ := h; exact ⟨o, vs, k.trans h1, h2, RVs.extw e _ _ h3⟩
theorem REn.objw {H0 : Hp} {σ : St} {ε : Env} {p : Addr} {o : HO} (hp : p ∈ w.ρ) (h : REn K w H0 σ H ε) : REn K w H0 σ (upd H p o) ε := by
  refine ⟨h.len, fun i s q => ?_, h.ap⟩
  have q' := h.sl i s q
  cases s with
  | un => trivial
  | val d => obtain ⟨v, h1, h2⟩ := q'; exact ⟨v, h1, RV.extw (extw_obj hp) _ _ h2⟩
  | own d =>
    obtain ⟨a, h2, h3, h5, h6, h7⟩ := q'
    exact ⟨a, h2, h3.extw (extw_obj hp) (upd_ne fun z => by subst z; exact h5 hp), h5, h6, h7⟩
theorem rst_objw {G : Gx} {S : Sto} (r : RSt G w S H) {p : Addr} {n : Nat} {o : HO} {nb : Ob} (e : w.ρ[n]? = some p) (hn : n < S.length) (hk : NT (H p)) (hv : ROb G w (upd H p o) p nb) : RSt G w (S.set n nb) (upd H p o) := by
  have hp : p ∈ w.ρ := List.mem_of_getElem? e
  refine ⟨by simp [r.len], fun m ob q => ?_, fun a q => ?_, tabs_upd r.tab hk⟩
  · by_cases hm : n = m
    · subst hm
      rw [List.getElem?_set_self hn] at q
      cases q
      exact ⟨p, e, hv⟩
    · rw [List.getElem?_set_ne hm] at q
      obtain ⟨a, e', k⟩ := r.ob m ob q
      refine ⟨a, e', k.extw (extw_obj hp) (upd_ne fun z => hm ?_)⟩
      subst z
      have h1 := List.getElem?_eq_some_iff.mp e
      have h2 := List.getElem?_eq_some_iff.mp e'
      exact (List.getElem_inj w.nd).mp (h1.2.trans h2.2.symm)
  · by_cases z : a = p
    · subst z; exact absurd q (w.dis a hp)
    · rw [upd_ne z]; exact r.phi a q
end

/-! ### name = {.. : ..} on one line, the name a local -/
section
variable {X : Cx}
theorem exec_use {name : Str} {pos' : Pos} {value : Expr} {pos : Pos} {env : PySem.Env} (hsw : swapsWith value (some (.Name name pos')) pos.line env = pure true) : exec (.Assign [.Name name pos'] value pos) env = (do standAt pos; evalThenUse value env (assign (.Name name pos') env); pure .next) := by
  have e : exec (.Assign [.Name name pos'] value pos) env = (do
      standAt pos
      if ← swapsWith value (some (.Name name pos')) pos.line env then
        evalThenUse value env (assign (.Name name pos') env)
        return .next
      let v ← eval value env
      assign (.Name name pos') env v
      pure .next) := rfl
  rw [e, hsw]; rfl
theorem ps_setDc {i : Nat} {y : Str} {py : Pos} {kx vx tg iter : Expr} {ifs : List Expr} {scope : Scope} {own : List (Str × Nat)} {pos spos : Pos} {wi : TI} {g : TG} {tt : TT} {tk tv : TE} (hc : X.calm = true) (hN : X.N.Nodup) (hy : X.N[i]? = some y) (hyl : X.env.scope.names.lookup y = some .local)
    (hsw : swapsWith (.DictComp kx vx [⟨tg, iter, ifs, 0⟩] scope pos) (some (.Name y py)) spos.line X.env = pure true) (hi : PI X tg iter wi) (ok : BlkOk X.N X.env.scope scope own)
    (hg : ∀ (s : Shared) (H : Hp) (C : Addr) (cl : List (Str × Addr)) (fp : List Addr), PG (X.blk s H scope (compEnvC scope cl C X.env) fp) tg g) (ht : ∀ (s : Shared) (H : Hp) (C : Addr) (cl : List (Str × Addr)) (fp : List Addr), PTs (X.blk s H scope (compEnvC scope cl C X.env) fp) ifs tt)
    (hk : ∀ (s : Shared) (H : Hp) (C : Addr) (cl : List (Str × Addr)) (fp : List Addr), PE (X.blk s H scope (compEnvC scope cl C X.env) fp) kx tk)
    (he : ∀ (s : Shared) (H : Hp) (C : Addr) (cl : List (Str × Addr)) (fp : List Addr), PE (X.blk s H scope (compEnvC scope cl C X.env) fp) vx tv) (hs : ∀ x, foldedSetIterable iter X.env x = pure x) :
    PS X (.Assign [.Name y py] (.DictComp kx vx [⟨tg, iter, ifs, 0⟩] scope pos) spos) (tAsg (tDc wi g tt tk tv (own.map (·.2))) (gName i)) := by
  refine ⟨fun pins s σ H D I h => ?_⟩
  rw [exec_use hsw]
  refine wpAny_bind (wpAny_standAt (wpAny_bind ?_))
  show wpAny _ X.A (do let _ ← comprehension (.DictComp kx vx [⟨tg, iter, ifs, 0⟩] scope pos) scope X.env (firstIterPos [⟨tg, iter, ifs, 0⟩] pos) newDict false (eval iter X.env) (some (assign (.Name y py) X.env))) _ _ s
  have h : tDc wi g tt tk tv (own.map (·.2)) σ H (fun x H1 => gName i x σ H1 D.nx) := h
  refine wpAny_bind (thn (dc_core (Qf := fun _ s' => SP X pins D .next s') hc hN I hi ok hg ht hk he hs h fun L C s' m H' I' q hn f => ?_) fun _ s' hq => wpAny_pure (wpAny_pure hq))
  show wpAny _ _ (assign (.Name y py) X.env (.ref L)) _ _ _
  refine wpAny_assign_Name (store_ok2 (v := V.ref L) I' hN hy (.inl hyl) rfl (fun s2 I2 ⟨a, sb, ha⟩ => ?_) (.inr hyl))
  obtain ⟨f0, f1, f2, f3, f4, f5⟩ := f
  have haC : C ≠ a := by
    rcases ha with z | z
    · rw [z]; exact f1
    · exact fun e => f4 y a z e.symm
  refine ⟨m, hn.sameBut sb haC, fun h3 sb3 => ?_⟩
  exact ⟨_, H', I2.turned (t' := s2.toks) (fun b o hb e => (sb3.2 b hb).trans e) f0 f1 f3 f4 f5, q⟩
theorem swd_true {kx vx : Expr} {gs : List Comprehension} {scope : Scope} {pos py : Pos} {y : Str} {l : Nat} {env : PySem.Env} (hk : env.scope.kind = .function) (hy : env.scope.names.lookup y = some .local) (hl : (py.line == pos.line) = true)
    (ha : (scope.names.any fun (n, k) => n == y && (k == .local || k == .cell)) = false) : swapsWith (.DictComp kx vx gs scope pos) (some (.Name y py)) l env = pure true := by
  have ky : env.kindOf y = some .local := hy
  have hb : env.blockKind = .function := by unfold Env.blockKind; rw [hk]; rfl
  unfold swapsWith
  simp only [hb, ky, ha, Expr.pos, hl]
  rfl
end
end BX
set_option Elab.async false
set_option linter.all false
set_option maxRecDepth 100000
set_option maxHeartbeats 2000000
/-! BX7: soundness of statements and defs. -/
namespace BX
open PySem L2
open PyProof.Rows hiding St Binds

section
variable {T : Tb} {G : Gx} {call : Call} {N : List Str} {sc : Scope} {fn : Str → Bool} {W : WX} {k turns : Nat} {X : Cx} {pos p1 p2 : Pos}
theorem f_lst {es : List Ex} {xs : List Expr} (h : JA G W X xs (evEs call es)) : PE X (.List xs pos) (rdF G W (evE call (.lst es))) := by
  refine (pe_lst h).imp fun σ H Q q => ?_
  obtain ⟨w, H0, ε, S, hS, hE, q⟩ := q
  simp only [evE] at q
  refine rd_step (ev := evEs call es) monFF hS hE q fun ds S1 w1 H1 vs e1 hS1 hE1 r1 q1 => ?_
  split at q1
  · rename_i hz
    refine ⟨by rw [r1.length]; exact hz, fun p hp => ?_⟩
    obtain ⟨f1, f2⟩ := hS1.fresh hp
    exact q1 w1 _ p (ext_tmp hp) (rst_tmp hS1 hp) ⟨vs, upd_same, RVs.ext (ext_tmp hp) _ _ r1⟩ f1 f2 (fresh_back e1 hS1 hp)
  · exact q1.elim
theorem blt_list_inv {ds : List BX.D} {d : BX.D} (h : bltF .list ds = some d) : (∃ l, ds = [.lst l] ∧ d = .lst l) ∨ ∃ l, ds = [.tup l] ∧ d = .lst l := by
  rcases ds with _ | ⟨a, _ | ⟨b, r⟩⟩
  · simp [bltF] at h
  · cases a <;> simp [bltF] at h <;> subst h
    · exact .inr ⟨_, rfl, rfl⟩
    · exact .inl ⟨_, rfl, rfl⟩
  · cases a <;> simp [bltF] at h
theorem f_list (g : Good T G call N sc fn W k X) {es : List Ex} {y : Expr} {xs : List Expr} (hg : glB sc "list" = true) (h : JAo G W X (y :: xs) (evOs call es)) (hn : (y :: xs).all notStar = true) :
    PE X (.Call (.Name "list" p1) (y :: xs) [] pos) (rdF G W (evE call (.blt .list es))) := by
  simp only [List.all_cons, Bool.and_eq_true] at hn
  refine (pe_callTy call_list_of (g.gl hg) (g.lw.blt .list) (blt_boot .list) h (by decide) (gl_of hg).2 (starEach_cons hn.1) (starAll hn.2)).imp fun σ H Q q => ?_
  obtain ⟨w, H0, ε, S, hS, hE, q⟩ := q
  simp only [evE] at q
  refine rd_step (ev := evOs call es) monFF hS hE q fun ds S1 w1 H1 vs e1 hS1 hE1 r1 q1 => ?_
  have fin : ∀ {l : List BX.D} {us : List V} {p : Addr}, RVs G.K w1 H1 us l → bltF .list ds = some (.lst l) → H1 p = none → Q (.ref p) (upd H1 p (.lst us)) := by
    intro l us p r hb hp
    rw [hb] at q1
    obtain ⟨f1, f2⟩ := hS1.fresh hp
    exact q1 w1 _ p (ext_tmp hp) (rst_tmp hS1 hp) ⟨us, upd_same, RVs.ext (ext_tmp hp) _ _ r⟩ f1 f2 (fresh_back e1 hS1 hp)
  cases hb : bltF .list ds with
  | none => rw [hb] at q1; exact q1.elim
  | some d =>
    rcases blt_list_inv hb with ⟨l, rfl, rfl⟩ | ⟨l, rfl, rfl⟩
    · obtain ⟨v, rfl, rv⟩ := ROs.one r1
      obtain ⟨a, us, rfl, h1, h2⟩ := rv.lst
      exact ⟨a, us, rfl, .inl (.inl h1), fun p hp => fin h2 rfl hp⟩
    · obtain ⟨v, rfl, rv⟩ := ROs.one r1
      obtain ⟨_, a, us, rfl, h1, h2⟩ := rv.tup
      exact ⟨a, us, rfl, .inr (g.lw.hK ▸ h1), fun p hp => fin h2 rfl hp⟩
theorem lst_of {es : List Ex} {ε : Env} {S S1 : Sto} {d : BX.D} (h : evE call (.lst es) ε S = .ok d S1) : ∃ l, d = .lst l := by
  simp only [evE] at h
  cases e : evEs call es ε S with
  | ok ds S2 =>
    rw [e] at h
    simp only [R.bd_ok] at h
    split at h
    · cases h; exact ⟨_, rfl⟩
    · cases h
  | exc _ _ => rw [e] at h; cases h
  | stuck => rw [e] at h; cases h
theorem f_rep (g : Good T G call N sc fn W k X) {es : List Ex} {b : Ex} {x y : Expr} (ha : JE G W X x (evE call (.lst es))) (hb : JO G W X y (fun ε S => opd ε b S (evE call b ε S))) : PE X (.BinOp x .Mult y pos) (rdF G W (evE call (.bin .mul (.lst es) b))) := by
  have hL : PE X x (rd G W (fun w H v d => RV G.K w H v d ∧ ∃ l, d = BX.D.lst l) (evE call (.lst es))) := ha.imp fun σ H Q ⟨w, H0, ε, S, hS, hE, q⟩ => ⟨w, H0, ε, S, hS, hE, by
    cases e : evE call (.lst es) ε S with
    | ok d S1 =>
      rw [e] at q
      intro w' H' b x hS' r
      exact q w' H' b x hS' ⟨r, lst_of e⟩
    | exc x S1 => rw [e] at q; exact q
    | stuck => rw [e] at q; exact q⟩
  refine (pe_op op_rep hL hb).imp fun σ H Q q => ?_
  obtain ⟨w, H0, ε, S, hS, hE, q⟩ := q
  have eo : evE call (.bin .mul (.lst es) b) ε S = (evE call (.lst es) ε S).bd fun x S1 => (opd ε b S1 (evE call b ε S1)).bd fun y S2 => R.of S2 (binF .mul x y) := by simp only [evE, opd]
  rw [eo] at q
  refine rd_step (ev := evE call (.lst es)) monFF hS hE q fun d1 S1 w1 H1 v e1 hS1 hE1 r1 q1 => ?_
  refine rd_step (ev := fun ε S => opd ε b S (evE call b ε S)) monFF hS1 hE1 q1 fun d2 S2 w2 H2 u e2 hS2 hE2 r2 q2 => ?_
  obtain ⟨r1, l, rfl⟩ := r1
  cases d2 with
  | int k =>
    simp only [binF] at q2
    split at q2
    · rename_i hc
      obtain rfl := r2.int
      have r1' := RV.ext e2 _ _ r1
      simp only [RV] at r1'
      obtain ⟨a, vs, rfl, h1, h2⟩ := r1'
      refine ⟨a, vs, k, rfl, rfl, h1.2, hc.1, hc.2.1, by rw [h2.length]; exact hc.2.2, fun p hp => ?_⟩
      obtain ⟨f1, f2⟩ := hS2.fresh hp
      exact q2 w2 _ p (ext_tmp hp) (rst_tmp hS2 hp) ⟨_, upd_same, RVs.ext (ext_tmp hp) _ _ (h2.rep _)⟩ f1 f2 (fresh_back e1 hS1 (fresh_back e2 hS2 hp))
    · exact q2.elim
  | _ => simp only [binF] at q2; exact q2.elim
/-- one looked-at operand, the answer a new list or dict -/
theorem rdF_os1 {a : Ex} {p : Pr} {σ : St} {H : Hp} {Q P : VK} (q : rdF G W (evE call (.prim p [a])) σ H Q)
    (k : ∀ w1 S1 H1 d v, RSt G w1 S1 H1 → RO G.K w1 H1 v d → Pst (prF p [d] S1) (finF G H Q w1 H1) (PX G W σ w1 H1) → (∀ x, H1 x = none → H x = none) → P v H1) : rd G W (RO G.K) (fun ε S => opd ε a S (evE call a ε S)) σ H P := by
  obtain ⟨w, H0, ε, S, hS, hE, q⟩ := q
  simp only [evE, os1] at q
  exact rd_step (ev := fun ε S => opd ε _ S (evE call _ ε S)) monFF hS hE q fun d1 S1 w1 H1 v e1 hS1 hE1 r1 q1 => k w1 S1 H1 d1 v hS1 r1 q1 fun x hx => fresh_back e1 hS1 hx
theorem finF_lst {w : Wd} {S : Sto} {H Hi : Hp} {Q : VK} {ds : List BX.D} {vs : List V} {p : Addr} {P : Exc → Sto → Prop} (q : Pst (R.ok (.lst ds) S) (finF G Hi Q w H) P) (hS : RSt G w S H) (hp : H p = none) (hi : Hi p = none) (r : RVs G.K w H vs ds) : Q (.ref p) (upd H p (.lst vs)) :=
  have q : finF G Hi Q w H (.lst ds) S := q
  q w _ p (ext_tmp hp) (rst_tmp hS hp) ⟨vs, upd_same, RVs.ext (ext_tmp hp) _ _ r⟩ (hS.fresh hp).1 (hS.fresh hp).2 hi
theorem finF_dct {w : Wd} {S : Sto} {H Hi : Hp} {Q : VK} {ks : List Key} {ds : List BX.D} {kvs : List (Key × V)} {p : Addr} {P : Exc → Sto → Prop} (q : Pst (R.ok (.dct ks ds) S) (finF G Hi Q w H) P) (hS : RSt G w S H) (hp : H p = none) (hi : Hi p = none) (hk : kvs.map (·.1) = ks) (r : RVs G.K w H (kvs.map (·.2)) ds) : Q (.ref p) (upd H p (.dK kvs)) :=
  have q : finF G Hi Q w H (.dct ks ds) S := q
  q w _ p (ext_tmp hp) (rst_tmp hS hp) ⟨kvs, upd_same, hk, RVs.ext (ext_tmp hp) _ _ r⟩ (hS.fresh hp).1 (hS.fresh hp).2 hi
theorem prX_comp {p : Pr} {e : Expr} {xs : List Expr} (h : prX p sc e = some xs) : notComp e = true := by
  cases e <;> first | rfl | (cases p <;> cases h)
theorem f_prim (g : Good T G call N sc fn W k X) {p : Pr} {es : List Ex} {e : Expr} {xs : List Expr} (hf : freshE (.prim p es) = true) (h : prX p sc e = some xs) (js : JOs G W X call xs es) : PE X e (rdF G W (evE call (.prim p es))) := by
  cases p <;> simp only [freshE, Bool.false_eq_true] at hf
  case dnew =>
    simp only [prX] at h
    split at h
    · cases h; cases js
      refine pe_dnewK.imp fun σ H Q q => ?_
      obtain ⟨w, H0, ε, S, hS, hE, q⟩ := q
      simp only [evE, evOs, R.bd_ok, prF] at q
      exact fun p hp => finF_dct q hS hp hp rfl (by simp [RVs])
    · cases h
  case lcopy =>
    obtain ⟨p, z, pos, rfl, hg, hn, rfl⟩ := blX_some h
    cases js with | cons j1 je1 js => cases js with | nil =>
    refine (pe_callTy call_list_of (g.gl hg) (g.lw.blt .list) boot_list (pa_cons j1 pa_nil (starEach_cons hn)) (by decide) (gl_of hg).2 (starEach_cons hn) rfl).imp fun σ H Q q => ?_
    refine rdF_os1 q fun w S2 H2 d v hS2 r1 q2 hb => ?_
    simp only [prF] at q2
    split at q2
    · rename_i l hd
      obtain ⟨a, vs, rfl, h1, h2⟩ := dr_lst hS2 r1 hd
      exact ⟨a, vs, rfl, .inl (.inl h1), fun p hp => finF_lst q2 hS2 hp (hb p hp) h2⟩
    · exact q2.elim
  case dcopy =>
    obtain ⟨p, z, pos, rfl, hg, hn, rfl⟩ := blX_some h
    cases js with | cons j1 je1 js => cases js with | nil =>
    refine (pe_callTy call_dictD (g.gl hg) g.lw.dct (by decide +kernel) (pa_cons j1 pa_nil (starEach_cons hn)) (by decide) (gl_of hg).2 (starEach_cons hn) rfl).imp fun σ H Q q => ?_
    refine rdF_os1 q fun w S2 H2 d v hS2 r1 q2 hb => ?_
    simp only [prF] at q2
    split at q2
    · rename_i ks vs hd
      obtain ⟨a, kvs, rfl, h1, h2, h3⟩ := dr_dct hS2 r1 hd
      exact ⟨a, kvs, rfl, h1, fun p hp => finF_dct q2 hS2 hp (hb p hp) h2 h3⟩
    · exact q2.elim
  case dlist =>
    obtain ⟨p, z, pos, rfl, hg, hn, rfl⟩ := blX_some h
    cases js with | cons j1 je1 js => cases js with | nil =>
    refine (pe_callTy (call_listD g.calm) (g.gl hg) (g.lw.blt .list) boot_list (pa_cons j1 pa_nil (starEach_cons hn)) (by decide) (gl_of hg).2 (starEach_cons hn) rfl).imp fun σ H Q q => ?_
    refine rdF_os1 q fun w S2 H2 d v hS2 r1 q2 hb => ?_
    simp only [prF] at q2
    split at q2
    · rename_i ks vs hd
      obtain ⟨a, kvs, rfl, h1, h2, h3⟩ := dr_dct hS2 r1 hd
      refine ⟨a, kvs, rfl, h1, fun p hp => finF_lst q2 hS2 hp (hb p hp) ?_⟩
      have := keys_rvs (K := G.K) (w := w) (H := H2) ks
      rw [← h2, List.map_map] at this
      rw [← h2]
      exact this
    · exact q2.elim
theorem f_ite {c : Ex} {as bs : List Ex} {z x y : Expr} (hc : JT G W X z (evT call c)) (ha : PE X x (rdF G W (evE call (.lst as)))) (hb : PE X y (rdF G W (evE call (.lst bs)))) : PE X (.IfExp z x y pos) (rdF G W (evE call (.ite c (.lst as) (.lst bs)))) := by
  refine (pe_ifExp hc ha hb).imp fun σ H Q q => ?_
  obtain ⟨w, H0, ε, S, hS, hE, q⟩ := q
  generalize hA : Ex.lst as = A at q ⊢
  generalize hB : Ex.lst bs = B at q ⊢
  simp only [evE] at q
  refine rd_step (ev := evT call c) monFF hS hE q fun c' S1 w1 H1 v e1 hS1 hE1 r1 q1 => ?_
  obtain rfl : v = c' := r1
  cases v with
  | true =>
    simp only [if_true] at q1 ⊢
    exact ⟨w1, H0, ε, S1, hS1, hE1, q1.imp (fun d S2 k w' H' a e hS' ha n1 n2 hi => k w' H' a e hS' ha n1 n2 (fresh_back e1 hS1 hi)) fun _ _ k => k⟩
  | false =>
    simp only [Bool.false_eq_true, if_false] at q1 ⊢
    exact ⟨w1, H0, ε, S1, hS1, hE1, q1.imp (fun d S2 k w' H' a e hS' ha n1 n2 hi => k w' H' a e hS' ha n1 n2 (fresh_back e1 hS1 hi)) fun _ _ k => k⟩
/-- name = a new list -/
theorem st_nameF (g : GoodS T G call N sc fn W k X) {e : Ex} {x : Expr} {i : Nat} {y : Str} (hf : freshE e = true) (hc : chE T N e sc fn x = true) (hi : N[i]? = some y) (hy : fn y = true) (hs : ((notComp x = true ∨ swapB sc (.Name y p1) x = true) ∨ swapD sc (.Name y p1) x = true) ∨ cellB sc (.Name y p1) = true) :
    PS X (.Assign [.Name y p1] x pos) (tAsg (rdF G W (evE call e)) (gName i)) := by
  obtain ⟨hl, hfn⟩ := g.hfn y hy
  have hN : X.N.Nodup := by rw [g.hN]; exact g.nd
  have hi' : X.N[i]? = some y := by rw [g.hN]; exact hi
  have hl' : Loc X.env.scope y := by rw [g.hsc]; exact hl
  have hf' : X.fn y = true ∨ X.env.scope.names.lookup y = some .local := by rw [g.hsc]; exact hfn
  cases e with
  | lst es =>
    simp only [chE] at hc
    split at hc
    · exact ps_set hN hi' hl' (f_lst (sEs es sc fn W X _ g.toGood hc)) (swapsExpr rfl) hf'
    · cases hc
  | lc el tg it cond own =>
    simp only [chE] at hc
    split at hc
    · rename_i x tx ix ifs scope q
      simp only [Bool.and_eq_true] at hc
      obtain ⟨⟨⟨⟨⟨⟨h1, h2⟩, h3⟩, h4⟩, h5⟩, h6⟩, h7⟩ := hc
      have ok : BlkOk X.N X.env.scope scope (ownN N own) := by rw [g.hN, g.hsc]; exact blkOk_by h2
      rcases hs with ((hs | hs) | hs) | hs
      · simp [notComp] at hs
      rotate_left
      · simp [swapD] at hs
      · exact ps_set hN hi' hl' (s_lc g.toGood (sI it sc fn W X tx ix g.toGood h4) ok h3 (fun s H C cl fp => s_tg (g.toGood.blk ok.kind s H C cl fp) tg tx h5) (fun s H C cl fp => sC cond _ _ NoW _ ifs (g.toGood.blk ok.kind s H C cl fp) h6)
          (fun s H C cl fp => sE el _ _ NoW _ x (g.toGood.blk ok.kind s H C cl fp) h7) (setIter_of h1)) (swapsCellW (by rw [g.hsc]; exact hs)) hf'
      · obtain ⟨t, p, el', gs, sco, q', e1, e2, h8, h9, h10⟩ := sw_of hs
        cases e1; cases e2
        have hk : X.env.scope.kind = .function := by rw [g.hsc]; exact g.kind
        have hyl : X.env.scope.names.lookup y = some .local := by rw [g.hsc]; exact h8
        refine (ps_setLc (own := ownN N own) g.calm hN hi' hyl (sw_true hk hyl h9 h10) (sI it sc fn W X tx ix g.toGood h4) ok (fun s H C cl fp => s_tg (g.toGood.blk ok.kind s H C cl fp) tg tx h5) (fun s H C cl fp => sC cond _ _ NoW _ ifs (g.toGood.blk ok.kind s H C cl fp) h6)
          (fun s H C cl fp => sE el _ _ NoW _ x (g.toGood.blk ok.kind s H C cl fp) h7) (setIter_of h1)).imp fun D σ H q => ?_
        rw [ownN_snd]
        exact lc_imp g.toGood h3 q
    · cases hc
  | lc2 el tg it cond tg1 it1 own own1 =>
    simp only [chE] at hc
    split at hc
    · rename_i x tx ix ifs tx1 ix1 scope q
      simp only [Bool.and_eq_true] at hc
      obtain ⟨⟨⟨⟨⟨⟨⟨⟨⟨⟨⟨h1, h1'⟩, h2⟩, h3⟩, h3'⟩, hv⟩, h4⟩, h5⟩, h6⟩, h4'⟩, h5'⟩, h7⟩ := hc
      have ok : BlkOk X.N X.env.scope scope (ownN N own) := by rw [g.hN, g.hsc]; exact blkOk_by h2
      rcases hs with ((hs | hs) | hs) | hs
      · simp [notComp] at hs
      rotate_left
      · simp [swapD] at hs
      · exact ps_set hN hi' hl' (s_lc2 g.toGood (sI it sc fn W X tx ix g.toGood h4) ok h3 h3' (fun i hi => by simpa using List.all_eq_true.mp hv i hi) (fun s H C cl fp => s_tg (g.toGood.blk ok.kind s H C cl fp) tg tx h5) (fun s H C cl fp => sC cond _ _ NoW _ ifs (g.toGood.blk ok.kind s H C cl fp) h6)
          (fun s H C cl fp => sI it1 _ _ NoW _ tx1 ix1 (g.toGood.blk ok.kind s H C cl fp) h4') (fun s H C cl fp => s_tg (g.toGood.blk ok.kind s H C cl fp) tg1 tx1 h5') (fun s H C cl fp => sE el _ _ NoW _ x (g.toGood.blk ok.kind s H C cl fp) h7) (setIter_of h1) (fun _ => setIter_of h1')) (swapsCellW (by rw [g.hsc]; exact hs)) hf'
      · obtain ⟨t, p, el', gs, sco, q', e1, e2, h8, h9, h10⟩ := sw_of hs
        cases e1; cases e2
        have hk : X.env.scope.kind = .function := by rw [g.hsc]; exact g.kind
        have hyl : X.env.scope.names.lookup y = some .local := by rw [g.hsc]; exact h8
        refine (ps_setLc2 (own := ownN N own) (vs1 := own1) g.calm hN hi' hyl (sw_true hk hyl h9 h10) (sI it sc fn W X tx ix g.toGood h4) ok (fun i hi => by rw [ownN_snd]; simpa using List.all_eq_true.mp hv i hi) (fun s H C cl fp => s_tg (g.toGood.blk ok.kind s H C cl fp) tg tx h5) (fun s H C cl fp => sC cond _ _ NoW _ ifs (g.toGood.blk ok.kind s H C cl fp) h6)
          (fun s H C cl fp => sI it1 _ _ NoW _ tx1 ix1 (g.toGood.blk ok.kind s H C cl fp) h4') (fun s H C cl fp => s_tg (g.toGood.blk ok.kind s H C cl fp) tg1 tx1 h5') (fun s H C cl fp => c_none (G := G) (W := NoW) (call := call))
          (fun s H C cl fp => sE el _ _ NoW _ x (g.toGood.blk ok.kind s H C cl fp) h7) (setIter_of h1) (fun _ => setIter_of h1')).imp fun D σ H q => ?_
        rw [ownN_snd]
        exact lc2_imp g.toGood h3 h3' q
    · cases hc
  | dsp es =>
    simp only [chE] at hc
    split at hc
    · simp only [Bool.and_eq_true, decide_eq_true_eq, Bool.not_eq_true'] at hc
      obtain ⟨⟨⟨h1, h2⟩, h3⟩, h4⟩ := hc
      obtain ⟨z1, z2⟩ := chKv_len h4
      exact ps_set hN hi' hl' (f_dsp g.toGood (sKv es sc fn W X _ _ _ g.toGood h4) z1 h3 (fun z => by subst z; simp at h1) h2 z2) (swapsExpr rfl) hf'
    · cases hc
  | dc kx vx tg it cond own =>
    simp only [chE] at hc
    split at hc
    · rename_i x vx0 tx ix ifs scope q
      simp only [Bool.and_eq_true] at hc
      obtain ⟨⟨⟨⟨⟨⟨⟨h1, h2⟩, h3⟩, h4⟩, h5⟩, h6⟩, h7⟩, h8⟩ := hc
      have ok : BlkOk X.N X.env.scope scope (ownN N own) := by rw [g.hN, g.hsc]; exact blkOk_by h2
      rcases hs with ((hs | hs) | hs) | hs
      · simp [notComp] at hs
      · simp [swapB] at hs
      rotate_left
      · exact ps_set hN hi' hl' (s_dc g.toGood (sI it sc fn W X tx ix g.toGood h4) ok h3 (fun s H C cl fp => s_tg (g.toGood.blk ok.kind s H C cl fp) tg tx h5) (fun s H C cl fp => sC cond _ _ NoW _ ifs (g.toGood.blk ok.kind s H C cl fp) h6)
          (fun s H C cl fp => sE kx _ _ NoW _ _ (g.toGood.blk ok.kind s H C cl fp) h7) (fun s H C cl fp => sE vx _ _ NoW _ _ (g.toGood.blk ok.kind s H C cl fp) h8) (setIter_of h1)) (swapsCellW (by rw [g.hsc]; exact hs)) hf'
      · obtain ⟨t, p, kx', vx', gs, sco, q', e1, e2, h9, h10, h11⟩ := swd_of hs
        cases e1; cases e2
        have hk : X.env.scope.kind = .function := by rw [g.hsc]; exact g.kind
        have hyl : X.env.scope.names.lookup y = some .local := by rw [g.hsc]; exact h9
        refine (ps_setDc (own := ownN N own) g.calm hN hi' hyl (swd_true hk hyl h10 h11) (sI it sc fn W X tx ix g.toGood h4) ok (fun s H C cl fp => s_tg (g.toGood.blk ok.kind s H C cl fp) tg tx h5) (fun s H C cl fp => sC cond _ _ NoW _ ifs (g.toGood.blk ok.kind s H C cl fp) h6)
          (fun s H C cl fp => sE kx _ _ NoW _ _ (g.toGood.blk ok.kind s H C cl fp) h7) (fun s H C cl fp => sE vx _ _ NoW _ _ (g.toGood.blk ok.kind s H C cl fp) h8) (setIter_of h1)).imp fun D σ H q => ?_
        rw [ownN_snd]
        exact dc_imp g.toGood h3 q
    · cases hc
  | blt b es =>
    cases b <;> simp [freshE] at hf
    simp only [chE] at hc
    split at hc
    · simp only [Bool.and_eq_true, beq_iff_eq] at hc
      obtain ⟨⟨rfl, h2⟩, h3⟩ := hc
      exact ps_set hN hi' hl' (f_list g.toGood h2 (sOs es sc fn W X _ g.toGood h3) (chEs_star h3)) (swapsExpr rfl) hf'
    · cases hc
  | ite c a b =>
    cases a <;> simp [freshE] at hf
    cases b <;> simp [freshE] at hf
    rename_i as bs
    generalize hA : Ex.lst as = A at hc
    generalize hB : Ex.lst bs = B at hc
    simp only [chE] at hc
    split at hc
    · simp only [Bool.and_eq_true] at hc
      subst hA hB
      obtain ⟨⟨h1, h2⟩, h3⟩ := hc
      simp only [chE] at h2 h3
      split at h2
      · split at h3
        · exact ps_set hN hi' hl' (f_ite (sT c sc fn W X _ g.toGood h1) (f_lst (sEs as sc fn W X _ g.toGood h2)) (f_lst (sEs bs sc fn W X _ g.toGood h3))) (swapsExpr rfl) hf'
        · cases h3
      · cases h2
    · cases hc
  | bin o a b =>
    cases o <;> simp [freshE] at hf
    cases a <;> simp [freshE] at hf
    rename_i es
    generalize hL : Ex.lst es = L at hc
    simp only [chE] at hc
    split at hc
    · simp only [Bool.and_eq_true] at hc
      obtain ⟨⟨h1, h2⟩, h3⟩ := hc
      have e1 := opB_eq h1
      subst e1
      subst hL
      exact ps_set hN hi' hl' (f_rep g.toGood (sE (.lst es) sc fn W X _ g.toGood h2) (s_opd g.toGood (sE b sc fn W X _ g.toGood h3) h3)) (swapsExpr rfl) hf'
    · cases hc
  | prim p es =>
    simp only [chE] at hc
    split at hc
    · rename_i xs hx
      simp only [Bool.and_eq_true] at hc
      exact ps_set hN hi' hl' (f_prim g.toGood hf hx (sJs es sc fn W X _ g.toGood hc.2)) (swapsExpr (prX_comp hx)) hf'
    · cases hc
  | _ => simp [freshE] at hf
theorem st_asg (g : GoodS T G call N sc fn W k X) {t : Tg} {e : Ex} {tx x : Expr} (hn : notStar tx = true) (ht : chT N fn t tx = true) (hc : chE T N e sc fn x = true) (hp : plainStores tx x = true) (hs : (notComp x = true ∨ isName tx = false) ∨ cellB sc tx = true) :
    JS G W X (.Assign [tx] x pos) (evS call turns (.asg t e)) := by
  refine (ps_asg (sE e sc fn W X x g.toGood hc) (s_tg g.toGood t tx ht) (hs.elim (fun h => swapsSole h) fun h => swapsCell (by rw [g.hsc]; exact h)) (stores_none hp) (by rw [notStarEach hn]; rfl)).imp fun D σ H q => ?_
  obtain ⟨w0, H0, w, ε, S, f, S', hS, hE, hX, h, hend⟩ := q
  simp only [evS] at h
  refine sx_step (ev := evE call e) hS hE hX h hend fun d S1 w1 H1 v e1 hS1 hE1 hX1 r1 h1 hend1 => ?_
  split at h1
  · rename_i ε' hset
    cases h1
    exact ⟨w1, H0, ε, d, ε', hE1, r1, hset, fun σ' hE' _ => hend1 w1 σ' H1 hS1 hE' hX1 ExtS.refl⟩
  · cases h1
theorem lcE_lst {e : Ex} {ε : BX.Env} {S S1 : Sto} {d : BX.D} (hf : lcE e = true) (h : evE call e ε S = .ok d S1) : ∃ l, d = .lst l := by
  cases e <;> first | (cases hf; done) | skip
  all_goals
    simp only [evE] at h
    generalize evI call _ ε S = r at h
    cases r with
    | ok ds S2 =>
      simp only [R.bd_ok] at h
      split at h
      · split at h
        · cases h; exact ⟨_, rfl⟩
        · cases h
      · cases h
    | exc _ _ => cases h
    | stuck => cases h
theorem lcE_fresh {e : Ex} (h : lcE e = true) : freshE e = true := by
  cases e <;> first | rfl | cases h
theorem st_asgLc (g : GoodS T G call N sc fn W k X) {i : Nat} {e : Ex} {y : Str} {x : Expr} (hf : lcE e = true) (hc : chE T N e sc fn x = true) (hi : N[i]? = some y) (hy : fn y = true) (hs : ((notComp x = true ∨ swapB sc (.Name y p1) x = true) ∨ swapD sc (.Name y p1) x = true) ∨ cellB sc (.Name y p1) = true) :
    JS G W X (.Assign [.Name y p1] x pos) (evS call turns (.asg (.nm i) e)) := by
  refine (st_nameF g (lcE_fresh hf) hc hi hy hs).imp fun D σ H q => ?_
  obtain ⟨w0, H0, w, ε, S, f, S', hS, hE, hX, h, hend⟩ := q
  simp only [evS] at h
  refine ⟨w, H0, ε, S, hS, hE, ?_⟩
  cases hr : evE call e ε S with
  | ok d S1 =>
    rw [hr] at h
    obtain ⟨l, rfl⟩ := lcE_lst hf hr
    simp only [R.lf_ok, setT] at h
    cases h
    intro w1 H1 a e1 hS1 ha n1 n2 hi2
    obtain ⟨vs, g1, g2⟩ := ha
    have hX1 := hX.trans e1
    have h0 : H0 a = none := fresh_back hX hS hi2
    refine hend (w1.imm a n1) _ H1 (rst_own hS1 n1 ⟨by rw [g1]; exact (fun z => nomatch z), by rw [g1]; exact nt_lst⟩) ((REn.exts (exts_own n1) (hE.ext e1) fun i2 d2 a2 z1 z2 z3 z4 z5 => ⟨rfl, z4, fun z => ?_⟩).set (v := .ref a) (d := .lst l) ?_ i) ⟨hX1.ρ, fun b hb => .inl (hX1.Φ b hb), fun b hb => ?_, hX1.keep, hX1.dom, hX1.fz⟩ (e1.toS.trans (exts_own n1))
    · rcases z with z | z
      · exact z5 z
      · subst z
        obtain ⟨b, q1, q2, _⟩ := hE.sl i2 _ z1
        rw [z2] at q1
        cases q1
        exact q2.ne hi2
    · simp only [RV]
      exact ⟨a, vs, rfl, ⟨.inr rfl, .inl g1⟩, RVs.exts (exts_own n1) _ _ g2⟩
    · rcases hb with hb | hb
      · exact hX1.new b hb
      · subst hb; exact .inr h0
  | exc x S1 =>
    rw [hr] at h
    cases h
    exact fun w1 H1 c dx e hS1 rx => hend w1 σ H1 c dx hS1 (hE.ext e) (hX.trans e) rx
  | stuck => rw [hr] at h; cases h
theorem st_own (g : GoodS T G call N sc fn W k X) {i : Nat} {e : Ex} {y : Str} {x : Expr} (hf : freshE e = true) (hc : chE T N e sc fn x = true) (hi : N[i]? = some y) (hy : fn y = true) (hs : ((notComp x = true ∨ swapB sc (.Name y p1) x = true) ∨ swapD sc (.Name y p1) x = true) ∨ cellB sc (.Name y p1) = true) :
    JS G W X (.Assign [.Name y p1] x pos) (evS call turns (.own i e)) := by
  refine (st_nameF g hf hc hi hy hs).imp fun D σ H q => ?_
  obtain ⟨w0, H0, w, ε, S, f, S', hS, hE, hX, h, hend⟩ := q
  simp only [evS] at h
  refine sxF_step (ev := evE call e) hS hE hX h hend fun d S1 w1 H1 a e1 hS1 hE1 hX1 ha n1 n2 hfr h1 hend1 => ?_
  cases h1
  refine hend1 w1 _ H1 hS1 (hE1.setOwn i ha n1 n2 (fresh_back hX hS hfr) fun j d _ ej z => ?_) hX1 ExtS.refl
  obtain ⟨b, g2, g3, _⟩ := hE.sl j _ ej
  rw [z] at g2
  cases g2
  exact g3.ne hfr
theorem st_par (g : GoodS T G call N sc fn W k X) {i j : Nat} {a b : Ex} {x y : Str} {px py pt pt2 : Pos} {kt k2 : Nat} {u v : Expr} (hi : N[i]? = some x) (hj : N[j]? = some y) (hij : i ≠ j) (hne : x ≠ y) (hl : (py.line == px.line) = true)
    (hx : sc.names.lookup x = some .local) (hy : sc.names.lookup y = some .local) (nu : notStar u = true) (nv : notStar v = true) (h1 : [u, v].all (foldedForSure 8) = false) (h2 : [u, v].all (constantsAlone 8) = false)
    (ha : JE G W X u (evE call a)) (hb : JE G W X v (evE call b)) : JS G W X (.Assign [.Tuple [.Name x px, .Name y py] kt pt] (.Tuple [u, v] k2 pt2) pos) (evS call turns (.par i j a b)) := by
  have hk : X.env.scope.kind = .function := by rw [g.hsc]; exact g.kind
  have hx' : X.env.scope.names.lookup x = some .local := by rw [g.hsc]; exact hx
  have hy' : X.env.scope.names.lookup y = some .local := by rw [g.hsc]; exact hy
  refine (ps_par g.calm (by rw [g.hN]; exact g.nd) (by rw [g.hN]; exact hi) (by rw [g.hN]; exact hj) hij hx' hy' (pa_cons ha (pa_cons hb pa_nil (starEach_cons nv)) (starEach_cons nu)) (swp hk hx' hy' hl hne nu nv h1 h2) (swapsSole (.inl rfl))).imp fun D σ H q => ?_
  obtain ⟨w0, H0, w, ε, S, f, S', hS, hE, hX, h, hend⟩ := q
  simp only [evS] at h
  refine sx_step (ev := evE call a) hS hE hX h hend fun d S1 w1 H1 v e1 hS1 hE1 hX1 r1 h1 hend1 => ?_
  refine sx_step (ev := evE call b) hS1 hE1 hX1 h1 hend1 fun d2 S2 w2 H2 v2 e2 hS2 hE2 hX2 r2 h2 hend2 => ?_
  cases h2
  exact ⟨v, v2, rfl, hend2 w2 _ H2 hS2 ((hE2.set (RV.ext e2 _ _ r1) i).set r2 j) hX2 ExtS.refl⟩
theorem st_frz {i : Nat} {s : Sm} {st : Stmt} (h : JS G W X st (evS call turns s)) : JS G W X st (evS call turns (.frz i s)) := by
  refine (ps_ice h).imp fun D σ H q => ?_
  obtain ⟨w0, H0, w, ε, S, f, S', hS, hE, hX, h, hend⟩ := q
  simp only [evS] at h
  split at h
  · rename_i d e
    cases d with
    | lst l =>
      obtain ⟨a, h1, h2, h3, h4, h5⟩ := hE.freeze e
      refine .inr ⟨w0, H0, w.imm a h2, _, S, f, S', rst_own hS h2 ⟨h1.ne, h1.nt⟩, h5 h2, ⟨hX.ρ, fun b hb => .inl (hX.Φ b hb), fun b hb => ?_, hX.keep, hX.dom, hX.fz⟩, h, endP_ext (exts_own h2) hend⟩
      rcases hb with hb | hb
      · exact hX.new b hb
      · subst hb; exact .inr h4
    | dct ks ds =>
      obtain ⟨a, kvs, h1, h2, h3, h4, h5⟩ := hE.ice e
      refine .inl ⟨a, _, h1, trivial, fun ob => ?_⟩
      have hf : ∀ ob u, H a ≠ some (.frz ob u) := nf_of h1
      have hS1 := rst_upd (o := .frz ob (.dK kvs)) hS h2 h3 (by rw [h1]; exact nt_dK) hf
      refine ⟨w0, H0, w.imm a h2, _, S, f, S', rst_own hS1 h2 ⟨by rw [upd_same]; exact (fun z => nomatch z), by rw [upd_same]; exact nt_frz⟩, h5 h2 ob, ⟨hX.ρ, fun b hb => .inl (hX.Φ b hb), fun b hb => ?_, fun b o hb hnb hnt => ?_, fun b hb => dom_upd b (hX.dom b hb), fun b ob u hb => fz_upd hf b ob u (hX.fz b ob u hb)⟩, h, endP_ext ((exts_upd h3 hf).trans (exts_own h2)) hend⟩
      · rcases hb with hb | hb
        · exact hX.new b hb
        · subst hb; exact .inr h4
      · rw [upd_ne (fun z => by subst z; rw [h4] at hb; cases hb)]
        exact hX.keep b o hb hnb hnt
    | _ =>
      obtain ⟨a, h1, h2, _⟩ := hE.sl i _ e
      exact h2.elim
  · exact .inr ⟨w0, H0, w, ε, S, f, S', hS, hE, hX, h, hend⟩
theorem st_aug (g : GoodS T G call N sc fn W k X) {i : Nat} {o : BOp} {e : Ex} {y : Str} {x : Expr} (hi : N[i]? = some y) (hy : fn y = true) (he : JE G W X x (evE call e)) : JS G W X (.AugAssign (.Name y p1) (bopN o) x pos) (evS call turns (.aug i o e)) := by
  obtain ⟨hl, hfn⟩ := g.hfn y hy
  refine (ps_aug (by rw [g.hN]; exact g.nd) (by rw [g.hN]; exact hi) (by rw [g.hsc]; exact hl) he (aug_ok o) (by rw [g.hsc]; exact hfn)).imp fun D σ H q => ?_
  obtain ⟨w0, H0, w, ε, S, f, S', hS, hE, hX, h, hend⟩ := q
  simp only [evS] at h
  split at h
  · rename_i x0 e0
    obtain ⟨v0, s0, r0⟩ := hE.sl i _ e0
    simp only [RV] at r0
    subst r0
    refine ⟨_, s0, ?_⟩
    refine sx_step (ev := evE call e) hS hE hX h hend fun d S1 w1 H1 v e1 hS1 hE1 hX1 r1 h1 hend1 => ?_
    cases d <;> try cases h1
    rename_i y0
    simp only [RV] at r1
    subst r1
    dsimp only at h1
    split at h1
    · rename_i z hz
      cases h1
      have : ∃ zi, z = .int zi := by
        cases o <;> simp only [binF] at hz <;> first | (cases hz; exact ⟨_, rfl⟩) | (split at hz <;> first | (cases hz; exact ⟨_, rfl⟩) | cases hz)
      obtain ⟨zi, rfl⟩ := this
      exact ⟨_, _, zi, rfl, rfl, hz, hend1 w1 _ H1 hS1 (hE1.set RV_int i) hX1 ExtS.refl⟩
    · cases h1
  · cases h
theorem stores_star {ts : List Expr} {a : Nat} {b : Pos} {v : Expr} {env : PySem.Env} (h : isTup v = false) : swappedStores [.Tuple ts a b] v env = pure none := by
  cases v <;> first | rfl | (simp [isTup] at h)
theorem st_star (g : GoodS T G call N sc fn W k X) {i j kt : Nat} {e : Ex} {x y : Str} {v : Expr} {sp pt : Pos} (hi : N[i]? = some x) (hj : N[j]? = some y) (hx : fn x = true) (hy : fn y = true) (he : JE G W X v (evE call e)) (hv : isTup v = false) :
    JS G W X (.Assign [.Tuple [.Name x p1, .Starred (.Name y p2) sp] kt pt] v pos) (evS call turns (.star i j e)) := by
  obtain ⟨hl1, hf1⟩ := g.hfn x hx
  obtain ⟨hl2, hf2⟩ := g.hfn y hy
  have hN : X.N.Nodup := by rw [g.hN]; exact g.nd
  refine (ps_asg he (pg_star (i := i) (j := j) g.calm hN (by rw [g.hN]; exact hi) (by rw [g.hN]; exact hj) (by rw [g.hsc]; exact hl1) (by rw [g.hsc]; exact hl2) (by rw [g.hsc]; exact hf1) (by rw [g.hsc]; exact hf2)) (swapsSole (.inr rfl)) (stores_star hv) rfl).imp fun D σ H q => ?_
  obtain ⟨w0, H0, w, ε, S, f, S', hS, hE, hX, h, hend⟩ := q
  simp only [evS] at h
  refine sx_step (ev := evE call e) hS hE hX h hend fun d S1 w1 H1 u e1 hS1 hE1 hX1 r1 h1 hend1 => ?_
  have fin : ∀ {d0 : BX.D} {l : List BX.D} {v0 : V} {vr : List V} {q : Addr}, RV G.K w1 H1 v0 d0 → RVs G.K w1 H1 vr l → R.ok (Fl.nx ((ε.set i (.val d0)).set j (.val (.lst l)))) S1 = .ok f S' → H1 q = none → D.nx ((σ.set i (some v0)).set j (some (.ref q))) (upd H1 q (.lst vr)) := by
    intro d0 l v0 vr q r2 r3 h2 hq
    cases h2
    have eX := ext_imm (o := HO.lst vr) hS1 hq
    exact hend1 _ _ _ (rst_imm hS1 hq) (((hE1.ext eX).set (RV.ext eX _ _ r2) i).set (rv_lst hS1 hq r3) j) (hX1.trans eX) eX.toS
  split at h1
  · split at h1
    · rename_i d0 l hz
      simp only [RV, RVs] at r1
      obtain ⟨a, vs, rfl, r2, v0, vr, rfl, r3, r4⟩ := r1
      exact ⟨a, v0, vr, rfl, .inl (.inl r2.2), by rw [r4.length]; exact hz, fun q hq => fin r3 r4 h1 hq⟩
    · cases h1
  · split at h1
    · rename_i d0 l hz
      simp only [RV, RVs] at r1
      obtain ⟨a, vs, rfl, r2, v0, vr, rfl, r3, r4⟩ := r1
      exact ⟨a, v0, vr, rfl, .inr (g.lw.hK ▸ r2.sq), by rw [r4.length]; exact hz, fun q hq => fin r3 r4 h1 hq⟩
    · cases h1
  · cases h1
theorem st_set (g : GoodS T G call N sc fn W k X) {a i e : Ex} {o kx x : Expr} (hn : notSlice kx = true) (hc : notComp x = true) (he : JE G W X x (evE call e)) (ha : JE G W X o (evE call a)) (hi : JE G W X kx (evE call i)) :
    JS G W X (.Assign [.Subscript o kx p1] x pos) (evS call turns (.set a i e)) := by
  refine (ps_asg he (pg_sub ha hi set_list (assign_sub hn)) (swapsSole (.inl hc)) (stores_none (by cases x <;> rfl)) rfl).imp fun D σ H q => ?_
  obtain ⟨w0, H0, w, ε, S, f, S', hS, hE, hX, h, hend⟩ := q
  simp only [evS] at h
  refine sx_step (ev := evE call e) hS hE hX h hend fun d S1 w1 H1 v e1 hS1 hE1 hX1 r1 h1 hend1 => ?_
  refine sx_step (ev := evE call a) hS1 hE1 hX1 h1 hend1 fun d2 S2 w2 H2 v2 e2 hS2 hE2 hX2 r2 h2 hend2 => ?_
  refine sx_step (ev := evE call i) hS2 hE2 hX2 h2 hend2 fun d3 S3 w3 H3 v3 e3 hS3 hE3 hX3 r3 h3 hend3 => ?_
  have r1' := RV.ext e3 _ _ (RV.ext e2 _ _ r1)
  have r2' := RV.ext e3 _ _ r2
  cases hset : setL d2 d3 d S3 with
  | none => rw [hset] at h3; cases h3
  | some S4 =>
    rw [hset] at h3
    cases h3
    unfold setL at hset
    split at hset
    · rename_i n ki
      split at hset
      · rename_i l el
        cases hj : ixN l.length ki with
        | none => rw [hj] at hset; cases hset
        | some j =>
          rw [hj] at hset
          cases hset
          simp only [RV] at r2' r3
          obtain ⟨p, hp, rfl⟩ := r2'
          subst r3
          obtain ⟨p', hp', vs, hH, hv⟩ := hS3.ob n _ el
          rw [hp] at hp'
          cases hp'
          have hn : n < S3.length := (List.getElem?_eq_some_iff.mp el).1
          have hm : p ∈ w3.ρ := List.mem_of_getElem? hp
          refine ⟨p, vs, ki, j, rfl, rfl, hH, by rw [hv.length]; exact hj, ?_⟩
          refine hend3 w3 σ _ (rst_set hS3 hp hn (RVs.set r1' j hv) (nf_of hH)) (hE3.ext (ext_set hm (nf_of hH))) (hX3.trans (ext_set hm (nf_of hH))) (ext_set hm (nf_of hH)).toS
      · cases hset
    · cases hset
theorem st_app (g : GoodS T G call N sc fn W k X) {i : Nat} {e : Ex} {y : Str} {x : Expr} {ap cp : Pos} (hi : N[i]? = some y) (hy : visB sc y = true) (hn : notStar x = true) (hl : (ap.endLine == cp.line) = true) (he : JE G W X x (evE call e)) :
    JS G W X (.Expr (.Call (.Attribute (.Name y p1) "append" ap) [x] [] cp) pos) (evS call turns (.app i e)) := by
  obtain ⟨hv, hd, hcd⟩ := vis_of hy
  have hs := starEach_cons (xs := []) (env := X.env) hn
  refine (ps_expr (pe_bm PySem.F.plainAttrs_list PySem.F.slot_list_append PySem.F.type_list_append mt_append (pe_var (by rw [g.hN]; exact hi) (by rw [g.hsc]; exact hv) hd hcd) (pa_cons he pa_nil hs) rfl (by rw [hs]; rfl) hl hs rfl) rfl).imp fun D σ H q => ?_
  obtain ⟨w0, H0, w, ε, S, f, S', hS, hE, hX, h, hend⟩ := q
  simp only [evS] at h
  split at h
  · rename_i l e0
    obtain ⟨a, s0, ⟨vs, h1, h2⟩, h3, h4, h5⟩ := hE.sl i _ e0
    refine ⟨.ref a, s0, .inl ⟨rfl, _, .inl (.inl h1)⟩, ?_⟩
    refine sx_step (ev := evE call e) hS hE hX h hend fun d S1 w1 H1 v e1 hS1 hE1 hX1 r1 h6 hend1 => ?_
    split at h6
    · rename_i hz
      cases h6
      have hn : H a ≠ none := by rw [h1]; exact fun z => nomatch z
      have k1 : H1 a = some (.lst vs) := e1.keep a _ h1 h3 (fun _ z => nomatch z)
      have k2 := e1.out hn h3
      have k3 := e1.outΦ hn h4
      have rv := RVs.ext e1 _ _ h2
      refine ⟨a, vs, v, rfl, rfl, k1, by rw [rv.length]; exact hz, ?_⟩
      have rv2 : RVs G.K w1 H1 (vs ++ [v]) (l ++ [d]) := rv.append (by simp only [RVs]; exact ⟨v, [], rfl, r1, rfl⟩)
      refine hend1 w1 σ _ (rst_upd hS1 k2 k3 (by rw [k1]; exact nt_lst) (nf_of k1)) (hE1.grow e0 s0 k2 k3 h5 rv2) ⟨hX1.ρ, hX1.Φ, hX1.new, fun b o hb hnb hnt => ?_, fun b hb => dom_upd b (hX1.dom b hb), fun b ob u hb => fz_upd (nf_of k1) b ob u (hX1.fz b ob u hb)⟩ (exts_upd k3 (nf_of k1))
      have : b ≠ a := fun z => by subst z; rw [h5] at hb; cases hb
      rw [upd_ne this]
      exact hX1.keep b o hb hnb hnt
    · cases h6
  · cases h
theorem st_setO (g : GoodS T G call N sc fn W k X) {i : Nat} {kk e : Ex} {y : Str} {kx x : Expr} {py : Pos} (hi : N[i]? = some y) (hy : visB sc y = true) (hn : notSlice kx = true) (hc : notComp x = true) (he : JE G W X x (evE call e)) (hk : JE G W X kx (evE call kk)) :
    JS G W X (.Assign [.Subscript (.Name y py) kx p1] x pos) (evS call turns (.setO i kk e)) := by
  obtain ⟨hv, hd, hcd⟩ := vis_of hy
  refine (ps_asg he (pg_sub (pe_var (by rw [g.hN]; exact hi) (by rw [g.hsc]; exact hv) hd hcd) hk set_list (assign_sub hn)) (swapsSole (.inl hc)) (stores_none (by cases x <;> rfl)) rfl).imp fun D σ H q => ?_
  obtain ⟨w0, H0, w, ε, S, f, S', hS, hE, hX, h, hend⟩ := q
  simp only [evS] at h
  refine sx_step (ev := evE call e) hS hE hX h hend fun d S1 w1 H1 v e1 hS1 hE1 hX1 r1 h1 hend1 => ?_
  split at h1
  · rename_i l e0
    obtain ⟨a, s0, ⟨vs, g1, g2⟩, g3, g4, g5⟩ := hE1.sl i _ e0
    refine ⟨.ref a, s0, ?_⟩
    refine sx_step (ev := evE call kk) hS1 hE1 hX1 h1 hend1 fun d2 S2 w2 H2 v2 e2 hS2 hE2 hX2 r2 h2 hend2 => ?_
    obtain ⟨a2, s2, ⟨us, k1, k2⟩, k3, k4, k5⟩ := hE2.sl i _ e0
    rw [s0] at s2
    cases s2
    cases d2 <;> try cases h2
    rename_i z
    simp only [RV] at r2
    subst r2
    dsimp only at h2
    cases hj : ixN l.length z with
    | none => rw [hj] at h2; cases h2
    | some j =>
      rw [hj] at h2
      cases h2
      refine ⟨a, us, z, j, rfl, rfl, k1, by rw [k2.length]; exact hj, ?_⟩
      have rv2 := RVs.set (RV.ext e2 _ _ r1) j k2
      refine hend2 w2 σ _ (rst_upd hS2 k3 k4 (by rw [k1]; exact nt_lst) (nf_of k1)) (hE2.grow e0 s0 k3 k4 k5 rv2) ⟨hX2.ρ, hX2.Φ, hX2.new, fun b o hb hnb hnt => ?_, fun b hb => dom_upd b (hX2.dom b hb), fun b ob u hb => fz_upd (nf_of k1) b ob u (hX2.fz b ob u hb)⟩ (exts_upd k4 (nf_of k1))
      have : b ≠ a := fun z => by subst z; rw [k5] at hb; cases hb
      rw [upd_ne this]
      exact hX2.keep b o hb hnb hnt
  · cases h1
theorem aug_store {kx : Expr} (h : notSlice kx = true) : ∀ ov iv new, augStore kx ov iv new = (do holding [new, ov, iv] (setItem ov iv new); release [new, ov, iv] []; pure .next) := by
  intro ov iv new
  cases kx <;> first | rfl | (simp [notSlice] at h)
theorem st_augO (g : GoodS T G call N sc fn W k X) {i : Nat} {o : BOp} {kk e : Ex} {y : Str} {kx x : Expr} {py : Pos} (hi : N[i]? = some y) (hy : visB sc y = true) (hn : notSlice kx = true) (he : JE G W X x (evE call e)) (hk : JE G W X kx (evE call kk)) :
    JS G W X (.AugAssign (.Subscript (.Name y py) kx p1) (bopN o) x pos) (evS call turns (.augO i kk o e)) := by
  obtain ⟨hv, hd, hcd⟩ := vis_of hy
  refine (ps_augS (pe_var (by rw [g.hN]; exact hi) (by rw [g.hsc]; exact hv) hd hcd) hk get_lst he (aug_ok o) set_list (aug_store hn)).imp fun D σ H q => ?_
  obtain ⟨w0, H0, w, ε, S, f, S', hS, hE, hX, h, hend⟩ := q
  simp only [evS] at h
  split at h
  · rename_i l e0
    obtain ⟨a, s0, ⟨vs, g1, g2⟩, g3, g4, g5⟩ := hE.sl i _ e0
    refine ⟨.ref a, s0, ?_⟩
    refine sx_step (ev := evE call kk) hS hE hX h hend fun d1 S1 w1 H1 v1 e1 hS1 hE1 hX1 r1 h1 hend1 => ?_
    obtain ⟨a1, s1, ⟨us, k1, k2⟩, k3, k4, k5⟩ := hE1.sl i _ e0
    rw [s0] at s1
    cases s1
    cases d1 <;> try cases h1
    rename_i z
    simp only [RV] at r1
    subst r1
    dsimp only at h1
    split at h1
    · rename_i xo j hx hj
      obtain ⟨vx, hvx, rvx⟩ := RVs.atI k2 hx
      simp only [RV] at rvx
      subst rvx
      refine ⟨a, us, z, _, rfl, rfl, .inl (.inl k1), hvx, ?_⟩
      refine sx_step (ev := evE call e) hS1 hE1 hX1 h1 hend1 fun d2 S2 w2 H2 v2 e2 hS2 hE2 hX2 r2 h2 hend2 => ?_
      obtain ⟨a2, s2, ⟨us2, m1, m2⟩, m3, m4, m5⟩ := hE2.sl i _ e0
      rw [s0] at s2
      cases s2
      cases d2 <;> try cases h2
      rename_i y0
      simp only [RV] at r2
      subst r2
      dsimp only at h2
      split at h2
      · rename_i zz hz
        cases h2
        have : ∃ zi, zz = .int zi := by
          cases o <;> simp only [binF] at hz <;> first | (cases hz; exact ⟨_, rfl⟩) | (split at hz <;> first | (cases hz; exact ⟨_, rfl⟩) | cases hz)
        obtain ⟨zi, rfl⟩ := this
        refine ⟨xo, y0, zi, rfl, rfl, hz, ?_⟩
        refine ⟨a, us2, z, j, rfl, rfl, m1, by rw [m2.length]; exact hj, ?_⟩
        have rv2 := RVs.set (K := G.K) (w := w2) (H := H2) (d := .int zi) (v := .int zi) RV_int j m2
        refine hend2 w2 σ _ (rst_upd hS2 m3 m4 (by rw [m1]; exact nt_lst) (nf_of m1)) (hE2.grow e0 s0 m3 m4 m5 rv2) ⟨hX2.ρ, hX2.Φ, hX2.new, fun b o hb hnb hnt => ?_, fun b hb => dom_upd b (hX2.dom b hb), fun b ob u hb => fz_upd (nf_of m1) b ob u (hX2.fz b ob u hb)⟩ (exts_upd m4 (nf_of m1))
        have : b ≠ a := fun z => by subst z; rw [m5] at hb; cases hb
        rw [upd_ne this]
        exact hX2.keep b o hb hnb hnt
      · cases h2
    · cases h1
  · cases h
theorem swapsT {t x : Expr} {l : Nat} {env : PySem.Env} (h : isName t = false) : swapsWith x (some t) l env = pure false := swapsSole (tx := t) (.inr h)
theorem st_setOD (g : GoodS T G call N sc fn W k X) {i : Nat} {kk e : Ex} {y : Str} {kx x : Expr} {py : Pos} (hi : N[i]? = some y) (hy : visB sc y = true) (he : JE G W X x (evE call e)) (hk : JE G W X kx (evE call kk)) :
    JS G W X (.Assign [.Subscript (.Name y py) kx p1] x pos) (evS call turns (.setOD i kk e)) := by
  obtain ⟨hv, hd, hcd⟩ := vis_of hy
  have hu : X.A.units + 1 < cLine := by have := g.room.units; omega
  refine (ps_dput hu (pe_var (by rw [g.hN]; exact hi) (by rw [g.hsc]; exact hv) hd hcd) hk he (swapsT rfl)).imp fun D σ H q => ?_
  obtain ⟨w0, H0, w, ε, S, f, S', hS, hE, hX, h, hend⟩ := q
  simp only [evS] at h
  refine sx_step (ev := evE call e) hS hE hX h hend fun d S1 w1 H1 v e1 hS1 hE1 hX1 r1 h1 hend1 => ?_
  split at h1
  · rename_i ks vs e0
    obtain ⟨a, s0, _⟩ := hE1.sl i _ e0
    refine ⟨.ref a, s0, ?_⟩
    refine sx_step (ev := evE call kk) hS1 hE1 hX1 h1 hend1 fun d2 S2 w2 H2 v2 e2 hS2 hE2 hX2 r2 h2 hend2 => ?_
    obtain ⟨a2, s2, ⟨kvs, k1, k2, k6⟩, k3, k4, k5⟩ := hE2.sl i _ e0
    rw [s0] at s2
    cases s2
    split at h2
    · rename_i q hq
      split at h2
      · rename_i hlt
        cases h2
        obtain rfl := key_of (.inl r2) hq
        obtain ⟨p1, p2⟩ := put_rel k2 k6 (RV.ext e2 _ _ r1) q
        refine ⟨a, _, rfl, .k k1 (by rw [kvs_len k2]; exact hlt), ?_⟩
        refine hend2 w2 σ _ (rst_upd hS2 k3 k4 (by rw [k1]; exact nt_dK) (nf_of k1)) (hE2.growD e0 s0 k3 k4 k5 p1 p2) ⟨hX2.ρ, hX2.Φ, hX2.new, fun b o hb hnb hnt => ?_, fun b hb => dom_upd b (hX2.dom b hb), fun b ob u hb => fz_upd (nf_of k1) b ob u (hX2.fz b ob u hb)⟩ (exts_upd k4 (nf_of k1))
        have : b ≠ a := fun z => by subst z; rw [k5] at hb; cases hb
        rw [upd_ne this]
        exact hX2.keep b o hb hnb hnt
      · cases h2
    · cases h2
  · cases h1
theorem st_setD (g : GoodS T G call N sc fn W k X) {a kk e : Ex} {o kx x : Expr} (he : JE G W X x (evE call e)) (ha : JE G W X o (evE call a)) (hk : JE G W X kx (evE call kk)) :
    JS G W X (.Assign [.Subscript o kx p1] x pos) (evS call turns (.setD a kk e)) := by
  have hu : X.A.units + 1 < cLine := by have := g.room.units; omega
  refine (ps_dput hu ha hk he (swapsT rfl)).imp fun D σ H q => ?_
  obtain ⟨w0, H0, w, ε, S, f, S', hS, hE, hX, h, hend⟩ := q
  simp only [evS] at h
  refine sx_step (ev := evE call e) hS hE hX h hend fun d S1 w1 H1 v e1 hS1 hE1 hX1 r1 h1 hend1 => ?_
  refine sx_step (ev := evE call a) hS1 hE1 hX1 h1 hend1 fun d2 S2 w2 H2 v2 e2 hS2 hE2 hX2 r2 h2 hend2 => ?_
  refine sx_step (ev := evE call kk) hS2 hE2 hX2 h2 hend2 fun d3 S3 w3 H3 v3 e3 hS3 hE3 hX3 r3 h3 hend3 => ?_
  have r1' := RV.ext e3 _ _ (RV.ext e2 _ _ r1)
  have r2' := RV.ext e3 _ _ r2
  cases hset : setDS d2 d3 d S3 with
  | none => rw [hset] at h3; cases h3
  | some S4 =>
    rw [hset] at h3
    cases h3
    unfold setDS at hset
    split at hset
    · rename_i n
      split at hset
      · rename_i ks vs q el hq
        split at hset
        · rename_i hlt
          cases hset
          simp only [RV] at r2'
          obtain ⟨p, hp, rfl⟩ := r2'
          obtain ⟨p', hp', kvs, hH, hk2, hv⟩ := hS3.ob n _ el
          rw [hp] at hp'
          cases hp'
          obtain rfl := key_of (.inl r3) hq
          obtain ⟨q1, q2⟩ := put_rel hk2 hv r1' q
          have hn : n < S3.length := (List.getElem?_eq_some_iff.mp el).1
          have hm : p ∈ w3.ρ := List.mem_of_getElem? hp
          refine ⟨p, _, rfl, .k hH (by rw [kvs_len hk2]; exact hlt), ?_⟩
          exact hend3 w3 σ _ (rst_setD hS3 hp hn q1 q2 (nf_of hH)) (hE3.ext (ext_set hm (nf_of hH))) (hX3.trans (ext_set hm (nf_of hH))) (ext_set hm (nf_of hH)).toS
        · cases hset
      · cases hset
    · cases hset
theorem put_fld {K : PySem.W.Frag} {w : Wd} {H : Hp} {f : Str} {v : V} {d : BX.D} (hv : RV K w H v d) : ∀ {fv : List (Str × V)} {fs : List (Str × BX.D)}, fv.map (·.1) = fs.map (·.1) → RVs K w H (fv.map (·.2)) (fs.map (·.2)) →
    (putF f v fv).map (·.1) = (putFD f d fs).map (·.1) ∧ RVs K w H ((putF f v fv).map (·.2)) ((putFD f d fs).map (·.2))
  | [], [], _, _ => by simp only [putF, putFD, List.map_cons, List.map_nil, RVs]; exact ⟨trivial, v, [], rfl, hv, rfl⟩
  | [], _ :: _, h, _ => by simp at h
  | _ :: _, [], h, _ => by simp at h
  | (a, x) :: fv, (b, y) :: fs, h, r => by
    simp only [List.map_cons, List.cons.injEq] at h
    obtain ⟨rfl, h⟩ := h
    simp only [List.map_cons, RVs] at r
    obtain ⟨x', r', e, r1, r2⟩ := r
    cases e
    simp only [putF, putFD]
    split
    · simp only [List.map_cons, RVs]
      exact ⟨by rw [h], v, _, rfl, hv, r2⟩
    · obtain ⟨i1, i2⟩ := put_fld hv h r2
      simp only [List.map_cons, RVs]
      exact ⟨by rw [i1], x, _, rfl, r1, i2⟩
theorem putFD_keys {f : Str} {d : BX.D} : ∀ {fs : List (Str × BX.D)} {g : Str}, g ∈ (putFD f d fs).map (·.1) → g = f ∨ g ∈ fs.map (·.1)
  | [], g, h => by simp only [putFD, List.map_cons, List.map_nil, List.mem_singleton] at h; exact .inl h
  | (a, x) :: fs, g, h => by
    simp only [putFD] at h
    split at h
    · exact .inr h
    · simp only [List.map_cons, List.mem_cons] at h ⊢
      rcases h with h | h
      · exact .inr (.inl h)
      · rcases putFD_keys h with h | h
        · exact .inl h
        · exact .inr (.inr h)
theorem st_setF (g : GoodS T G call N sc fn W k X) {a e : Ex} {c f : Str} {o x : Expr} (hc : T.fldB c f = true) (he : JE G W X x (evE call e)) (ha : JE G W X o (evE call a)) :
    JS G W X (.Assign [.Attribute o f p1] x pos) (evS call turns (.setF a c f e)) := by
  refine (ps_fld ha he (swapsT rfl)).imp fun D σ H q => ?_
  obtain ⟨w0, H0, w, ε, S, fl, S', hS, hE, hX, h, hend⟩ := q
  simp only [evS] at h
  refine sx_step (ev := evE call e) hS hE hX h hend fun d S1 w1 H1 v e1 hS1 hE1 hX1 r1 h1 hend1 => ?_
  refine sx_step (ev := evE call a) hS1 hE1 hX1 h1 hend1 fun d2 S2 w2 H2 v2 e2 hS2 hE2 hX2 r2 h2 hend2 => ?_
  have r1' := RV.ext e2 _ _ r1
  cases hset : setFS d2 c f d S2 with
  | none => rw [hset] at h2; cases h2
  | some S4 =>
    rw [hset] at h2
    cases h2
    unfold setFS at hset
    split at hset
    · rename_i n
      split at hset
      · rename_i c' fs el
        split at hset
        · rename_i hh
          obtain ⟨rfl, hlt⟩ := hh
          cases hset
          simp only [RV] at r2
          obtain ⟨p, hp, rfl⟩ := r2
          obtain ⟨p', hp', C, dx, fv, hcl, hH, hF, hC, hno⟩ := hS2.ob n _ el
          rw [hp] at hp'
          cases hp'
          obtain ⟨q1, q2⟩ := put_fld (f := f) r1' hF.ks hF.vs
          have hn : n < S2.length := (List.getElem?_eq_some_iff.mp el).1
          have hm : p ∈ w2.ρ := List.mem_of_getElem? hp
          have hl : fv.length = fs.length := by have := congrArg List.length hF.ks; simpa using this
          have hnf : NoAttr G.K C f := by rw [g.lw.hK]; exact g.lw.fld _ f C hc hcl
          refine ⟨p, C, dx, fv, rfl, hH, g.lw.hK ▸ hC, g.lw.hK ▸ hnf, by rw [hl]; exact hlt, ?_⟩
          refine hend2 w2 σ _ (rst_setO hS2 hp hn ⟨C, dx, _, hcl, upd_same, ⟨q1, RVs.exts (exts_obj hm (nf_of hH)) _ _ q2⟩, hC, fun f2 hf2 => ?_⟩ (nf_of hH)) (hE2.ext (ext_set hm (nf_of hH))) (hX2.trans (ext_set hm (nf_of hH))) (ext_set hm (nf_of hH)).toS
          rcases putFD_keys hf2 with rfl | hf2
          · exact hnf
          · exact hno f2 hf2
        · cases hset
      · cases hset
    · cases hset
theorem st_popD (g : GoodS T G call N sc fn W k X) {a kk : Ex} {o kx : Expr} {ap cp : Pos} (h0 : notCall0 o = true) (hn : notStar kx = true) (hl : (ap.endLine == cp.line) = true) (ha : JE G W X o (evE call a)) (hk : JE G W X kx (evE call kk)) :
    JS G W X (.Expr (.Call (.Attribute o "pop" ap) [kx] [] cp) pos) (evS call turns (.popD a kk)) := by
  refine (ps_expr (pe_dpop1 ha hk (m1_of h0 hn hl)) (swapsExpr rfl)).imp fun D σ H q => ?_
  obtain ⟨w0, H0, w, ε, S, f, S', hS, hE, hX, h, hend⟩ := q
  simp only [evS] at h
  refine sx_step (ev := evE call a) hS hE hX h hend fun d2 S2 w2 H2 v2 e2 hS2 hE2 hX2 r2 h2 hend2 => ?_
  split at h2
  · rename_i hd
    unfold isDct at hd
    split at hd
    · rename_i n
      split at hd
      · rename_i ks0 vs0 el0
        have r2c := r2
        simp only [RV] at r2c
        obtain ⟨p, hp, rfl⟩ := r2c
        obtain ⟨p', hp', kvs0, hH0, _, _⟩ := hS2.ob n _ el0
        rw [hp] at hp'
        cases hp'
        refine ⟨p, rfl, .inl ⟨kvs0, .inl hH0⟩, ?_⟩
        refine sx_step (ev := evE call kk) hS2 hE2 hX2 h2 hend2 fun d3 S3 w3 H3 v3 e3 hS3 hE3 hX3 r3 h3 hend3 => ?_
        have hp3 := e3.at hp
        cases hset : popDS (.ref n) d3 S3 with
        | none => rw [hset] at h3; cases h3
        | some S4 =>
          rw [hset] at h3
          cases h3
          simp only [popDS] at hset
          split at hset
          · rename_i ks vs q el hq
            split at hset
            · rename_i hhas
              cases hset
              obtain ⟨p', hp', kvs, hH, hk2, hv⟩ := hS3.ob _ _ el
              rw [hp3] at hp'
              cases hp'
              obtain rfl := key_of (.inl r3) hq
              obtain ⟨q1, q2⟩ := drop_rel hk2 hv q
              have hn : _ < S3.length := (List.getElem?_eq_some_iff.mp el).1
              have hm : p ∈ w3.ρ := List.mem_of_getElem? hp3
              rw [getK_isSome hk2 hv] at hhas
              obtain ⟨u, hu⟩ := Option.isSome_iff_exists.mp hhas
              refine ⟨kvs, q, u, hH, rfl, hu, ?_⟩
              exact hend3 w3 σ _ (rst_setD hS3 hp3 hn q1 q2 (nf_of hH)) (hE3.ext (ext_set hm (nf_of hH))) (hX3.trans (ext_set hm (nf_of hH))) (ext_set hm (nf_of hH)).toS
            · cases hset
          · cases hset
      · cases hd
    · cases hd
  · cases h2
theorem st_popO (g : GoodS T G call N sc fn W k X) {i : Nat} {t : Tg} {y : Str} {tx : Expr} {ap cp : Pos} (hi : N[i]? = some y) (hy : visB sc y = true) (hl : (ap.endLine == cp.line) = true) (hn : notStar tx = true) (ht : chT N fn t tx = true) :
    JS G W X (.Assign [tx] (.Call (.Attribute (.Name y p1) "pop" ap) [] [] cp) pos) (evS call turns (.popO t i)) := by
  obtain ⟨hv, hd, hcd⟩ := vis_of hy
  have hp : PE X (.Call (.Attribute (.Name y p1) "pop" ap) [] [] cp) _ := pe_bm0 PySem.F.plainAttrs_list PySem.F.slot_list_pop PySem.F.type_list_pop mt_pop (pe_var (by rw [g.hN]; exact hi) (by rw [g.hsc]; exact hv) hd hcd) rfl hl
  refine (ps_asg hp (s_tg g.toGood t tx ht) (swapsSole (.inl rfl)) (by cases tx <;> rfl) (by rw [notStarEach hn]; rfl)).imp fun D σ H q => ?_
  obtain ⟨w0, H0, w, ε, S, f, S', hS, hE, hX, h, hend⟩ := q
  simp only [evS] at h
  split at h
  · rename_i l e0
    obtain ⟨a, s0, ⟨vs, g1, g2⟩, g3, g4, g5⟩ := hE.sl i _ e0
    split at h
    · rename_i d hd
      split at h
      · rename_i ε' hset
        cases h
        rw [List.getLast?_eq_getElem?] at hd
        obtain ⟨u, hu, ru⟩ := g2.get hd
        refine ⟨.ref a, s0, .inl ⟨rfl, _, .inl (.inl g1)⟩, a, vs, u, rfl, rfl, g1, by rw [g2.length]; exact hu, ?_⟩
        have rv2 : RVs G.K w H vs.dropLast l.dropLast := by
          rw [List.dropLast_eq_take, List.dropLast_eq_take, g2.length]
          exact g2.take _
        refine ⟨w, H0, _, d, ε', hE.grow e0 s0 g3 g4 g5 rv2, RV.exts (exts_upd g4 (nf_of g1)) _ _ ru, hset, fun σ' hE' _ => ?_⟩
        refine hend w σ' _ (rst_upd hS g3 g4 (by rw [g1]; exact nt_lst) (nf_of g1)) hE' ⟨hX.ρ, hX.Φ, hX.new, fun b o hb hnb hnt => ?_, fun b hb => dom_upd b (hX.dom b hb), fun b ob u hb => fz_upd (nf_of g1) b ob u (hX.fz b ob u hb)⟩ (exts_upd g4 (nf_of g1))
        have : b ≠ a := fun z => by subst z; rw [g5] at hb; cases hb
        rw [upd_ne this]
        exact hX.keep b o hb hnb hnt
      · cases h
    · cases h
  · cases h
theorem iop_extR : OpR X (inplaceOp .Add) (fun x y H Q => ∃ l b xs zs, x = .ref l ∧ y = .ref b ∧ H l = some (.lst xs) ∧ Rd H b (.lst zs) ∧ xs.length + zs.length ≤ sizeLine ∧ Q (.ref l) (upd H l (.lst (xs ++ zs)))) := by
  intro pins s σ H x y v u Q I rx ry h
  obtain ⟨l, b, xs, zs, rfl, rfl, hH, hB, hz, q⟩ := h
  cases rx
  cases ry
  obtain ⟨z, its, n, r, hl, e⟩ := I.lstM hH
  obtain ⟨z2, its2, n2, r2, e2⟩ := hB.ok I.hok
  have hl2 := r2.length
  have hsz : its.toArray.size + its2.toArray.size ≤ sizeLine := by rw [List.size_toArray, List.size_toArray]; omega
  have hlong : ¬ (!its.toArray.isEmpty && Builtin.List.listTooLong (its.toArray.size + its2.toArray.size)) = true := by
    rw [notLongL hsz, Bool.and_false]
    exact Bool.false_ne_true
  refine iadd_road ⟨_, e, rfl⟩ ⟨_, e2, rfl⟩ (call_meets PySem.F.slot_list_iadd ⟨_, e, rfl⟩ PySem.F.entry_list_iadd (PySem.F.args_list_iadd_2 _ _)
    (AutoSeq1.list___iadd___list_list_0 l its.toArray n b its2.toArray n2 hlong (by rw [List.size_toArray]; omega) (by omega)) ⟨e, e2, ?_⟩)
  refine ⟨.ref l, _, I.lset (its' := its ++ its2) (t' := s.toks) hH e (by simp) (r.append r2) ?_, rfl, q⟩
  rw [List.length_append]
  omega
theorem set_self {σ : St} {i : Nat} {v : Option V} (h : σ[i]? = some v) : σ.set i v = σ := by
  refine List.ext_getElem? fun j => ?_
  by_cases hj : i = j
  · subst hj
    rw [List.getElem?_set_self (List.getElem?_eq_some_iff.mp h).1, h]
  · rw [List.getElem?_set_ne hj]
theorem st_extO (g : GoodS T G call N sc fn W k X) {i : Nat} {e : Ex} {y : Str} {x : Expr} (hi : N[i]? = some y) (hy : fn y = true) (he : JE G W X x (evE call e)) : JS G W X (.AugAssign (.Name y p1) .Add x pos) (evS call turns (.extO i e)) := by
  obtain ⟨hl, hfn⟩ := g.hfn y hy
  refine (ps_aug (by rw [g.hN]; exact g.nd) (by rw [g.hN]; exact hi) (by rw [g.hsc]; exact hl) he iop_extR (by rw [g.hsc]; exact hfn)).imp fun D σ H q => ?_
  obtain ⟨w0, H0, w, ε, S, f, S', hS, hE, hX, h, hend⟩ := q
  simp only [evS] at h
  split at h
  · rename_i l e0
    obtain ⟨a, s0, _⟩ := hE.sl i _ e0
    refine ⟨.ref a, s0, ?_⟩
    refine sx_step (ev := evE call e) hS hE hX h hend fun d S1 w1 H1 v e1 hS1 hE1 hX1 r1 h1 hend1 => ?_
    obtain ⟨a2, s2, ⟨vs, g1, g2⟩, g3, g4, g5⟩ := hE1.sl i _ e0
    rw [s0] at s2
    cases s2
    cases d <;> try cases h1
    rename_i m
    dsimp only at h1
    split at h1
    · rename_i hz
      cases h1
      simp only [RV] at r1
      obtain ⟨b, us, rfl, r2, r3⟩ := r1
      refine ⟨a, b, vs, us, rfl, rfl, g1, r2.2, by rw [g2.length, r3.length]; exact hz, ?_⟩
      show D.nx (σ.set i (some (.ref a))) _
      rw [set_self s0]
      refine hend1 w1 σ _ (rst_upd hS1 g3 g4 (by rw [g1]; exact nt_lst) (nf_of g1)) (hE1.grow e0 s0 g3 g4 g5 (g2.append r3)) ⟨hX1.ρ, hX1.Φ, hX1.new, fun b o hb hnb hnt => ?_, fun b hb => dom_upd b (hX1.dom b hb), fun b ob u hb => fz_upd (nf_of g1) b ob u (hX1.fz b ob u hb)⟩ (exts_upd g4 (nf_of g1))
      have : b ≠ a := fun z => by subst z; rw [g5] at hb; cases hb
      rw [upd_ne this]
      exact hX1.keep b o hb hnb hnt
    · cases h1
  · cases h
theorem st_exp {e : Ex} {x : Expr} (hc : notComp x = true) (he : JE G W X x (evE call e)) : JS G W X (.Expr x pos) (evS call turns (.exp e)) := by
  refine (ps_expr he (swapsExpr hc)).imp fun D σ H q => ?_
  obtain ⟨w0, H0, w, ε, S, f, S', hS, hE, hX, h, hend⟩ := q
  simp only [evS] at h
  refine sx_step (ev := evE call e) hS hE hX h hend fun d S1 w1 H1 v e1 hS1 hE1 hX1 r1 h1 hend1 => ?_
  cases h1
  exact hend1 w1 σ H1 hS1 hE1 hX1 ExtS.refl
theorem st_ret {e : Ex} {x : Expr} (he : JE G W X x (evE call e)) : JS G W X (.Return (some x) pos) (evS call turns (.ret e)) := by
  refine (ps_ret he).imp fun D σ H q => ?_
  obtain ⟨w0, H0, w, ε, S, f, S', hS, hE, hX, h, hend⟩ := q
  simp only [evS] at h
  refine sx_step (ev := evE call e) hS hE hX h hend fun d S1 w1 H1 v e1 hS1 hE1 hX1 r1 h1 hend1 => ?_
  cases h1
  exact hend1 w1 H1 v hS1 hX1 ExtS.refl r1
theorem st_retN : JS G W X (.Return none pos) (evS call turns .retN) := by
  refine ps_retN.imp fun D σ H q => ?_
  obtain ⟨w0, H0, w, ε, S, f, S', hS, hE, hX, h, hend⟩ := q
  simp only [evS] at h
  cases h
  exact hend w H .non hS hX ExtS.refl RV_non
theorem st_ite {c : Ex} {a b : List Sm} {x : Expr} {y z : List Stmt} (hc : JT G W X x (evT call c)) (ha : JB G W X y (evB call turns a)) (hb : JB G W X z (evB call turns b)) : JS G W X (.If x y z pos) (evS call turns (.ite c a b)) := by
  refine (ps_if hc ha hb).imp fun D σ H q => ?_
  obtain ⟨w0, H0, w, ε, S, f, S', hS, hE, hX, h, hend⟩ := q
  simp only [evS] at h
  refine sx_step (ev := evT call c) hS hE hX h hend fun d S1 w1 H1 v e1 hS1 hE1 hX1 r1 h1 hend1 => ?_
  obtain rfl : v = d := r1
  cases v with
  | true =>
    simp only [if_true] at h1 ⊢
    exact ⟨w0, H0, w1, ε, S1, f, S', hS1, hE1, hX1, h1, hend1⟩
  | false =>
    simp only [Bool.false_eq_true, if_false] at h1 ⊢
    exact ⟨w0, H0, w1, ε, S1, f, S', hS1, hE1, hX1, h1, hend1⟩
theorem st_for (g : GoodS T G call N sc fn W k X) {t : Tg} {it : Itx} {b : List Sm} {tx x : Expr} {y : List Stmt} (hi : JI G W X tx x (evI call it)) (ht : PG X tx (gRd G t)) (hb : JB G W X y (evB call turns b)) (hs : notSet x = true) :
    JS G W X (.For tx x y [] pos) (evS call turns (.for t it b)) := by
  refine (ps_for g.pass g.calm hi ht hb (setIter_of hs)).imp fun D σ H q => ?_
  obtain ⟨w0, H0, w, ε, S, f, S', hS, hE, hX, h, hend⟩ := q
  simp only [evS] at h
  refine sx_step (ev := evI call it) hS hE hX h hend fun ds S1 w1 H1 J e1 hS1 hE1 hX1 wk h1 hend1 => ?_
  generalize hF : (fun (d : BX.D) (ε : BX.Env) (S : Sto) => (match setT t d ε with
    | some ε' => evB call turns b ε' S
    | none => .stuck : R Fl)) = F at h1
  refine ⟨fun i m σ H => m = ds.length - i ∧ i ≤ ds.length ∧ ∃ w' ε' S2, RSt G w' S2 H ∧ REn G.K w' H0 σ H ε' ∧ Ext w0 H0 w' H ∧ ExtS w1 H1 w' H ∧ forL F (ds.drop i) ε' S2 = .ok f S',
    ⟨ds.length, by simp, Nat.zero_le _, w1, ε, S1, hS1, hE1, hX1, ExtS.refl, h1⟩, ?_⟩
  rintro i m σ H ⟨rfl, hile, w', ε', S2, hS', hE', hX', eS, hl⟩
  by_cases hlt : i < ds.length
  · right
    obtain ⟨hgo, hyld⟩ := wk.go w' H S2 eS hS' i ds[i] (by simp [hlt])
    rw [List.drop_eq_getElem_cons hlt] at hl
    simp only [forL] at hl
    refine ⟨hgo, fun σ H => ds.length - (i + 1) = ds.length - (i + 1) ∧ i + 1 ≤ ds.length ∧ ∃ w' ε' S2, RSt G w' S2 H ∧ REn G.K w' H0 σ H ε' ∧ Ext w0 H0 w' H ∧ ExtS w1 H1 w' H ∧ forL F (ds.drop (i + 1)) ε' S2 = .ok f S', fun σ' H' hN => ⟨_, by omega, hN⟩, fun v H'' hy => ?_⟩
    obtain ⟨w2, e2, hS2, r2⟩ := hyld v H'' hy
    have hE2 := hE'.ext e2
    have hX2 := hX'.trans e2
    have eS2 := eS.trans e2.toS
    cases hset : setT t ds[i] ε' with
    | none =>
      have : F ds[i] ε' S2 = .stuck := by rw [← hF]; simp only [hset]
      rw [this] at hl
      cases hl
    | some ε1 =>
      have hFd : F ds[i] ε' S2 = evB call turns b ε1 S2 := by rw [← hF]; simp only [hset]
      rw [hFd] at hl
      refine ⟨w2, H0, ε', ds[i], ε1, hE2, r2, hset, fun σ2 hEs _ => ?_⟩
      cases hB : evB call turns b ε1 S2 with
      | stuck => rw [hB] at hl; cases hl
      | exc _ _ => rw [hB] at hl; cases hl
      | ok f2 S3 =>
        rw [hB] at hl
        simp only [R.bd_ok] at hl
        refine ⟨w0, H0, w2, ε1, S2, f2, S3, hS2, hEs, hX2, hB, ?_⟩
        cases f2 with
        | nx ε2 => exact fun w3 σ3 H3 a b c d => ⟨rfl, hlt, w3, ε2, S3, a, b, c, eS2.trans d, hl⟩
        | ct ε2 => exact fun w3 σ3 H3 a b c d => ⟨rfl, hlt, w3, ε2, S3, a, b, c, eS2.trans d, hl⟩
        | bk ε2 =>
          cases hl
          exact fun w3 σ3 H3 a b c d => hend1 w3 σ3 H3 a b c (eS2.trans d)
        | rt d =>
          cases hl
          exact fun w3 H3 v a b c => hend1 w3 H3 v a b (eS2.trans c)
        | ex xx ε2 =>
          cases hl
          exact fun w3 σ3 H3 cc dx a b c d => hend1 w3 σ3 H3 cc dx a b c d
  · left
    have hie : i = ds.length := by omega
    subst hie
    simp only [List.drop_length, forL] at hl
    cases hl
    exact ⟨wk.stop w' H eS, hend1 w' σ H hS' hE' hX' eS⟩
theorem st_whl (g : GoodS T G call N sc fn W k X) {c : Ex} {b : List Sm} {x : Expr} {y : List Stmt} (hc : JT G W X x (evT call c)) (hb : JB G W X y (evB call turns b)) : JS G W X (.While x y [] pos) (evS call turns (.whl c b)) := by
  refine (ps_while g.pass hc hb).imp fun D σ H q => ?_
  obtain ⟨w0, H0, w, ε, S, f, S', hS, hE, hX, h, hend⟩ := q
  simp only [evS] at h
  refine ⟨fun m σ H2 => ∃ w' ε' S2, RSt G w' S2 H2 ∧ REn G.K w' H0 σ H2 ε' ∧ Ext w0 H0 w' H2 ∧ ExtS w H w' H2 ∧ whlL (fun ε S => evT call c ε S) (fun ε S => evB call turns b ε S) m ε' S2 = .ok f S',
    ⟨turns, w, ε, S, hS, hE, hX, ExtS.refl, h⟩, ?_⟩
  rintro m σ H2 ⟨w', ε', S2, hS', hE', hX', eS, hl⟩
  cases m with
  | zero => cases hl
  | succ m =>
    simp only [whlL] at hl
    refine sx_step (D := D) (ev := evT call c) hS' hE' hX' hl (endP_ext eS hend) fun d S3 w3 H3 v e3 hS3 hE3 hX3 r3 h3 hend3 => ?_
    obtain rfl : v = d := r3
    have eS3 := eS.trans e3.toS
    cases v with
    | false =>
      simp only [Bool.false_eq_true, if_false] at h3 ⊢
      cases h3
      exact hend3 w3 σ H3 hS3 hE3 hX3 ExtS.refl
    | true =>
      simp only [if_true] at h3 ⊢
      refine ⟨fun σ' H' => ∃ w' ε' S2, RSt G w' S2 H' ∧ REn G.K w' H0 σ' H' ε' ∧ Ext w0 H0 w' H' ∧ ExtS w H w' H' ∧ whlL (fun ε S => evT call c ε S) (fun ε S => evB call turns b ε S) m ε' S2 = .ok f S', fun σ' H' hN => ⟨m, Nat.lt_succ_self m, hN⟩, ?_⟩
      cases hB : evB call turns b ε' S3 with
      | stuck => rw [hB] at h3; cases h3
      | exc _ _ => rw [hB] at h3; cases h3
      | ok f2 S4 =>
        rw [hB] at h3
        simp only [R.bd_ok] at h3
        refine ⟨w0, H0, w3, ε', S3, f2, S4, hS3, hE3, hX3, hB, ?_⟩
        cases f2 with
        | nx ε2 => exact fun w4 σ4 H4 a b c d => ⟨w4, ε2, S4, a, b, c, eS3.trans d, h3⟩
        | ct ε2 => exact fun w4 σ4 H4 a b c d => ⟨w4, ε2, S4, a, b, c, eS3.trans d, h3⟩
        | bk ε2 =>
          cases h3
          exact fun w4 σ4 H4 a b c d => hend3 w4 σ4 H4 a b c d
        | rt d =>
          cases h3
          exact fun w4 H4 v a b c => hend3 w4 H4 v a b c
        | ex xx ε2 =>
          cases h3
          exact fun w4 σ4 H4 cc dx a b c d => hend3 w4 σ4 H4 cc dx a b c d
theorem b_nil : JB G W X [] (evB call turns []) := by
  refine pss_nil.imp fun D σ H q => ?_
  obtain ⟨w0, H0, w, ε, S, f, S', hS, hE, hX, h, hend⟩ := q
  simp only [evB] at h
  cases h
  exact hend w σ H hS hE hX ExtS.refl
theorem b_cons {s : Sm} {ss : List Sm} {st : Stmt} {sts : List Stmt} (h1 : JS G W X st (evS call turns s)) (h2 : JB G W X sts (evB call turns ss)) : JB G W X (st :: sts) (evB call turns (s :: ss)) := by
  refine (pss_cons h1 h2).imp fun D σ H q => ?_
  obtain ⟨w0, H0, w, ε, S, f, S', hS, hE, hX, h, hend⟩ := q
  simp only [evB] at h
  cases hs : evS call turns s ε S with
  | stuck => rw [hs] at h; cases h
  | exc _ _ => rw [hs] at h; cases h
  | ok f1 S1 =>
    rw [hs] at h
    simp only [R.bd_ok] at h
    refine ⟨w0, H0, w, ε, S, f1, S1, hS, hE, hX, hs, ?_⟩
    cases f1 with
    | nx ε1 => exact fun w2 σ2 H2 a b c d => ⟨w0, H0, w2, ε1, S1, f, S', a, b, c, h, endP_ext d hend⟩
    | ct ε1 => cases h; exact hend
    | bk ε1 => cases h; exact hend
    | rt d => cases h; exact hend
    | ex xx ε1 => cases h; exact hend
end
end BX
set_option Elab.async false
set_option linter.all false
set_option maxRecDepth 100000
set_option maxHeartbeats 2000000
/-! BX7b: further statements. -/
namespace BX
open PySem L2
open PyProof.Rows hiding St Binds

section
variable {T : Tb} {G : Gx} {call : Call} {N : List Str} {sc : Scope} {fn : Str → Bool} {W : WX} {k turns : Nat} {X : Cx} {pos p1 p2 : Pos}
theorem st_slO (g : GoodS T G call N sc fn W k X) {i : Nat} {lo hi e : Ex} {y : Str} {lx hx x : Expr} {py : Pos} (hN : N[i]? = some y) (hy : visB sc y = true) (hc : notComp x = true) (he : JE G W X x (evE call e)) (hlo : JE G W X lx (evE call lo)) (hhi : JE G W X hx (evE call hi)) :
    JS G W X (.Assign [.Subscript (.Name y py) (.Slice (some lx) (some hx) none p2) p1] x pos) (evS call turns (.slO i lo hi e)) := by
  obtain ⟨hv, hd, hcd⟩ := vis_of hy
  refine (ps_asg he (pg_subSl (pe_var (by rw [g.hN]; exact hN) (by rw [g.hsc]; exact hv) hd hcd) hlo hhi) (swapsSole (.inl hc)) (stores_none (by cases x <;> rfl)) rfl).imp fun D σ H q => ?_
  obtain ⟨w0, H0, w, ε, S, f, S', hS, hE, hX, h, hend⟩ := q
  simp only [evS] at h
  refine sx_step (ev := evE call e) hS hE hX h hend fun d S1 w1 H1 v e1 hS1 hE1 hX1 r1 h1 hend1 => ?_
  split at h1
  · rename_i l e0
    obtain ⟨a, s0, _⟩ := hE1.sl i _ e0
    refine ⟨.ref a, s0, ?_⟩
    refine sx_step (ev := evE call lo) hS1 hE1 hX1 h1 hend1 fun d2 S2 w2 H2 v2 e2 hS2 hE2 hX2 r2 h2 hend2 => ?_
    refine sx_step (ev := evE call hi) hS2 hE2 hX2 h2 hend2 fun d3 S3 w3 H3 v3 e3 hS3 hE3 hX3 r3 h3 hend3 => ?_
    obtain ⟨a2, s2, ⟨us, k1, k2⟩, k3, k4, k5⟩ := hE3.sl i _ e0
    rw [s0] at s2
    cases s2
    have r1' := RV.ext e3 _ _ (RV.ext e2 _ _ r1)
    have r2' := RV.ext e3 _ _ r2
    cases hp : slPut l d d2 d3 with
    | none => rw [hp] at h3; cases h3
    | some l' =>
      rw [hp] at h3
      cases h3
      cases d <;> cases d2 <;> cases d3 <;> simp only [slPut] at hp <;> try cases hp
      rename_i m ai ci
      split at hp
      · rename_i hh
        obtain ⟨c1, c2, c3, c4⟩ := hh
        cases hp
        simp only [RV] at r1' r2' r3
        subst r2' r3
        obtain ⟨b, ys, rfl, q1, q2⟩ := r1'
        obtain ⟨an, rfl⟩ := Int.eq_ofNat_of_zero_le c1
        obtain ⟨cn, rfl⟩ := Int.eq_ofNat_of_zero_le (Int.le_trans c1 c2)
        have hne : a ≠ b := fun z => by subst z; exact k4 q1.1
        refine ⟨a, b, us, ys, an, cn, rfl, rfl, rfl, rfl, k1, q1.2, hne, by omega, by rw [k2.length]; omega, by rw [k2.length, q2.length]; exact c4, ?_⟩
        have rv : RVs G.K w3 H3 (us.take an ++ ys ++ us.drop cn) (l.take (an : Int).toNat ++ m ++ l.drop (cn : Int).toNat) := by
          rw [Int.toNat_natCast, Int.toNat_natCast]
          exact ((k2.take an).append q2).append (k2.drop cn)
        refine hend3 w3 σ _ (rst_upd hS3 k3 k4 (by rw [k1]; exact nt_lst) (nf_of k1)) (hE3.grow e0 s0 k3 k4 k5 rv) ⟨hX3.ρ, hX3.Φ, hX3.new, fun b o hb hnb hnt => ?_, fun b hb => dom_upd b (hX3.dom b hb), fun b ob u hb => fz_upd (nf_of k1) b ob u (hX3.fz b ob u hb)⟩ (exts_upd k4 (nf_of k1))
        rw [upd_ne (fun z => by subst z; rw [k5] at hb; cases hb)]
        exact hX3.keep b o hb hnb hnt
      · cases hp
  · cases h1
theorem st_insO (g : GoodS T G call N sc fn W k X) {i : Nat} {kk e : Ex} {y : Str} {kx x : Expr} {ap cp : Pos} (hi : N[i]? = some y) (hy : visB sc y = true) (hn1 : notStar kx = true) (hn2 : notStar x = true) (hl : (ap.endLine == cp.line) = true) (hk : JE G W X kx (evE call kk)) (he : JE G W X x (evE call e)) :
    JS G W X (.Expr (.Call (.Attribute (.Name y p1) "insert" ap) [kx, x] [] cp) pos) (evS call turns (.insO i kk e)) := by
  obtain ⟨hv, hd, hcd⟩ := vis_of hy
  have hs2 := starEach_cons (xs := []) (env := X.env) hn2
  have hs1 := starEach_cons (xs := [x]) (env := X.env) hn1
  refine (ps_expr (pe_bm PySem.F.plainAttrs_list PySem.F.slot_list_insert PySem.F.type_list_insert mt_insert (pe_var (by rw [g.hN]; exact hi) (by rw [g.hsc]; exact hv) hd hcd) (pa_cons hk (pa_cons he pa_nil hs2) hs1) rfl (by rw [hs1, hs2]; rfl) hl hs1 (by rw [hs2]; rfl)) rfl).imp fun D σ H q => ?_
  obtain ⟨w0, H0, w, ε, S, f, S', hS, hE, hX, h, hend⟩ := q
  simp only [evS] at h
  split at h
  · rename_i l0 e0
    obtain ⟨a, s0, ⟨vs0, h10, h20⟩, _⟩ := hE.sl i _ e0
    refine ⟨.ref a, s0, .inl ⟨rfl, _, .inl (.inl h10)⟩, ?_⟩
    refine sx_step (ev := evE call kk) hS hE hX h hend fun d1 S1 w1 H1 v1 e1 hS1 hE1 hX1 r1 h1 hend1 => ?_
    refine sx_step (ev := evE call e) hS1 hE1 hX1 h1 hend1 fun d2 S2 w2 H2 v2 e2 hS2 hE2 hX2 r2 h2 hend2 => ?_
    obtain ⟨a2, s2, ⟨us, k1, k2⟩, k3, k4, k5⟩ := hE2.sl i _ e0
    rw [s0] at s2
    cases s2
    rw [e0] at h2
    cases d1 <;> try cases h2
    rename_i q
    dsimp only at h2
    split at h2
    · rename_i hh
      obtain ⟨c1, c2, c3⟩ := hh
      cases h2
      simp only [RV] at r1
      subst r1
      refine ⟨a, us, q, v2, rfl, rfl, k1, by rw [k2.length]; exact c1, c2, c3, ?_⟩
      have rv : RVs G.K w2 H2 (us.take q.toNat ++ [v2] ++ us.drop q.toNat) (l0.take q.toNat ++ [d2] ++ l0.drop q.toNat) := ((k2.take _).append (by simp only [RVs]; exact ⟨v2, [], rfl, r2, rfl⟩)).append (k2.drop _)
      refine hend2 w2 σ _ (rst_upd hS2 k3 k4 (by rw [k1]; exact nt_lst) (nf_of k1)) (hE2.grow e0 s0 k3 k4 k5 rv) ⟨hX2.ρ, hX2.Φ, hX2.new, fun b o hb hnb hnt => ?_, fun b hb => dom_upd b (hX2.dom b hb), fun b ob u hb => fz_upd (nf_of k1) b ob u (hX2.fz b ob u hb)⟩ (exts_upd k4 (nf_of k1))
      rw [upd_ne (fun z => by subst z; rw [k5] at hb; cases hb)]
      exact hX2.keep b o hb hnb hnt
    · cases h2
  · cases h
theorem st_starO (g : GoodS T G call N sc fn W k X) {i j kt : Nat} {e : Ex} {x y : Str} {v : Expr} {sp pt : Pos} (hi : N[i]? = some x) (hj : N[j]? = some y) (hx : fn x = true) (hy : fn y = true) (he : JE G W X v (evE call e)) (hv : isTup v = false) :
    JS G W X (.Assign [.Tuple [.Name x p1, .Starred (.Name y p2) sp] kt pt] v pos) (evS call turns (.starO i j e)) := by
  obtain ⟨hl1, hf1⟩ := g.hfn x hx
  obtain ⟨hl2, hf2⟩ := g.hfn y hy
  have hN : X.N.Nodup := by rw [g.hN]; exact g.nd
  refine (ps_asg he (pg_star (i := i) (j := j) g.calm hN (by rw [g.hN]; exact hi) (by rw [g.hN]; exact hj) (by rw [g.hsc]; exact hl1) (by rw [g.hsc]; exact hl2) (by rw [g.hsc]; exact hf1) (by rw [g.hsc]; exact hf2)) (swapsSole (.inr rfl)) (stores_star hv) rfl).imp fun D σ H q => ?_
  obtain ⟨w0, H0, w, ε, S, f, S', hS, hE, hX, h, hend⟩ := q
  simp only [evS] at h
  refine sx_step (ev := evE call e) hS hE hX h hend fun d S1 w1 H1 u e1 hS1 hE1 hX1 r1 h1 hend1 => ?_
  have fin : ∀ {d0 : BX.D} {l : List BX.D} {v0 : V} {vr : List V} {q : Addr}, RV G.K w1 H1 v0 d0 → RVs G.K w1 H1 vr l → R.ok (Fl.nx ((ε.set i (.val d0)).set j (.own (.lst l)))) S1 = .ok f S' → H1 q = none → D.nx ((σ.set i (some v0)).set j (some (.ref q))) (upd H1 q (.lst vr)) := by
    intro d0 l v0 vr q r2 r3 h2 hq
    cases h2
    have eX := ext_tmp (w := w1) (o := HO.lst vr) hq
    obtain ⟨f1, f2⟩ := hS1.fresh hq
    refine hend1 _ _ _ (rst_tmp hS1 hq) (((hE1.ext eX).set (RV.ext eX _ _ r2) i).setOwn j ⟨vr, upd_same, RVs.ext eX _ _ r3⟩ f1 f2 (fresh_back hX1 hS1 hq) fun j2 d2 _ ej z => ?_) (hX1.trans eX) eX.toS
    obtain ⟨b, g2, g3, _⟩ := (hE1.set r2 i).sl j2 _ ej
    rw [z] at g2
    cases g2
    exact g3.ne hq
  split at h1
  · split at h1
    · rename_i d0 l hz
      simp only [RV, RVs] at r1
      obtain ⟨a, vs, rfl, r2, v0, vr, rfl, r3, r4⟩ := r1
      exact ⟨a, v0, vr, rfl, .inl (.inl r2.2), by rw [r4.length]; exact hz.1, fun q hq => fin r3 r4 h1 hq⟩
    · cases h1
  · split at h1
    · rename_i d0 l hz
      simp only [RV, RVs] at r1
      obtain ⟨a, vs, rfl, r2, v0, vr, rfl, r3, r4⟩ := r1
      exact ⟨a, v0, vr, rfl, .inr (g.lw.hK ▸ r2.sq), by rw [r4.length]; exact hz.1, fun q hq => fin r3 r4 h1 hq⟩
    · cases h1
  · cases h1
theorem st_appR (g : GoodS T G call N sc fn W k X) {a e : Ex} {o x : Expr} {ap cp : Pos} (h0 : notCall0 o = true) (hn : notStar x = true) (hl : (ap.endLine == cp.line) = true) (ha : JE G W X o (evE call a)) (he : JE G W X x (evE call e)) :
    JS G W X (.Expr (.Call (.Attribute o "append" ap) [x] [] cp) pos) (evS call turns (.appR a e)) := by
  have hs := starEach_cons (xs := []) (env := X.env) hn
  refine (ps_expr (pe_bm PySem.F.plainAttrs_list PySem.F.slot_list_append PySem.F.type_list_append mt_append ha (pa_cons he pa_nil hs) (base_of h0) (by rw [hs]; rfl) hl hs rfl) rfl).imp fun D σ H q => ?_
  obtain ⟨w0, H0, w, ε, S, f, S', hS, hE, hX, h, hend⟩ := q
  simp only [evS] at h
  refine sx_step (ev := evE call a) hS hE hX h hend fun d1 S1 w1 H1 v1 e1 hS1 hE1 hX1 r1 h1 hend1 => ?_
  cases d1 <;> try cases h1
  rename_i n
  dsimp only at h1
  split at h1
  · rename_i l0 el0
    have r1c := r1
    simp only [RV] at r1c
    obtain ⟨p, hp, rfl⟩ := r1c
    obtain ⟨p', hp', vs0, hH0, _⟩ := hS1.ob n _ el0
    rw [hp] at hp'
    cases hp'
    refine ⟨.inl ⟨rfl, _, .inl (.inl hH0)⟩, ?_⟩
    refine sx_step (ev := evE call e) hS1 hE1 hX1 h1 hend1 fun d2 S2 w2 H2 v2 e2 hS2 hE2 hX2 r2 h2 hend2 => ?_
    split at h2
    · rename_i l el
      split at h2
      · rename_i hz
        cases h2
        have hp2 := e2.at hp
        obtain ⟨p', hp', vs, hH, hv⟩ := hS2.ob n _ el
        rw [hp2] at hp'
        cases hp'
        have hn : n < S2.length := (List.getElem?_eq_some_iff.mp el).1
        have hm : p ∈ w2.ρ := List.mem_of_getElem? hp2
        refine ⟨p, vs, v2, rfl, rfl, hH, by rw [hv.length]; exact hz, ?_⟩
        have rv : RVs G.K w2 H2 (vs ++ [v2]) (l ++ [d2]) := hv.append (by simp only [RVs]; exact ⟨v2, [], rfl, r2, rfl⟩)
        exact hend2 w2 σ _ (rst_set hS2 hp2 hn rv (nf_of hH)) (hE2.ext (ext_set hm (nf_of hH))) (hX2.trans (ext_set hm (nf_of hH))) (ext_set hm (nf_of hH)).toS
      · cases h2
    · cases h2
  · cases h1
/-- an attribute stored, as the store sees it -/
theorem setFS_at {G : Gx} {w : Wd} {H : Hp} {S S' : Sto} {c f : Str} {d0 d : BX.D} {v0 v : V} (hfl : ∀ C, G.cls c = some C → NoAttr G.K C f) (hS : RSt G w S H) (r0 : RV G.K w H v0 d0) (r : RV G.K w H v d) (h : setFS d0 c f d S = some S') :
    ∃ p C dx fv, v0 = .ref p ∧ H p = some (.ins C dx fv) ∧ Cls G.K C ∧ NoAttr G.K C f ∧ fv.length < 1000 ∧ p ∈ w.ρ ∧ G.cls c = some C ∧ RSt G w S' (upd H p (.ins C dx (putF f v fv))) := by
  unfold setFS at h
  split at h
  · rename_i n
    split at h
    · rename_i c' fs el
      split at h
      · rename_i hh
        obtain ⟨rfl, hlt⟩ := hh
        cases h
        simp only [RV] at r0
        obtain ⟨p, hp, rfl⟩ := r0
        obtain ⟨p', hp', C, dx, fv, hcl, hH, hF, hC, hno⟩ := hS.ob n _ el
        rw [hp] at hp'
        cases hp'
        obtain ⟨q1, q2⟩ := put_fld (f := f) r hF.ks hF.vs
        have hn : n < S.length := (List.getElem?_eq_some_iff.mp el).1
        have hm : p ∈ w.ρ := List.mem_of_getElem? hp
        have hl : fv.length = fs.length := by have := congrArg List.length hF.ks; simpa using this
        have hnf := hfl C hcl
        refine ⟨p, C, dx, fv, rfl, hH, hC, hnf, by rw [hl]; exact hlt, hm, hcl, rst_setO hS hp hn ⟨C, dx, _, hcl, upd_same, ⟨q1, RVs.exts (exts_obj hm (nf_of hH)) _ _ q2⟩, hC, fun f2 hf2 => ?_⟩ (nf_of hH)⟩
        rcases putFD_keys hf2 with rfl | hf2
        · exact hnf
        · exact hno f2 hf2
      · cases h
    · cases h
  · cases h
theorem fldI_at {G : Gx} {w : Wd} {H : Hp} {S : Sto} {c f : Str} {d0 : BX.D} {v0 : V} {i : Int} (hfl : ∀ C, G.cls c = some C → NoAttr G.K C f) (hS : RSt G w S H) (r0 : RV G.K w H v0 d0) (h : fldI S c f d0 = some i) :
    ∃ p C dx fv, v0 = .ref p ∧ H p = some (.ins C dx fv) ∧ Cls G.K C ∧ NoAttr G.K C f ∧ G.cls c = some C ∧ fv.lookup f = some (.int i) := by
  cases d0 <;> simp only [fldI] at h <;> try cases h
  rename_i n
  split at h
  · rename_i c' fs el
    split at h
    · rename_i hc
      subst hc
      split at h
      · rename_i j hj
        cases h
        simp only [RV] at r0
        obtain ⟨p, hp, rfl⟩ := r0
        obtain ⟨p', hp', C, dx, fv, hcl, hH, hF, hC, hno⟩ := hS.ob n _ el
        rw [hp] at hp'
        cases hp'
        refine ⟨p, C, dx, fv, rfl, hH, hC, hfl C hcl, hcl, ?_⟩
        rw [look_zip] at hj
        obtain ⟨u, h1, h2, _⟩ := fld_zip hF.ks hF.vs hj
        simp only [RV] at h2
        subst h2
        exact h1
      · cases h
    · cases h
  · cases h
theorem st_augF (g : GoodS T G call N sc fn W k X) {a e : Ex} {c f : Str} {o : BOp} {ox x : Expr} (hc : T.fldB c f = true) (ha : JE G W X ox (evE call a)) (he : JE G W X x (evE call e)) :
    JS G W X (.AugAssign (.Attribute ox f p1) (bopN o) x pos) (evS call turns (.augF a c f o e)) := by
  have hfl : ∀ C, G.cls c = some C → NoAttr G.K C f := fun C hcl => by rw [g.lw.hK]; exact g.lw.fld _ f C hc hcl
  refine (ps_fldaug ha he (rd := fun x y H Q => ∃ i j z, x = .int i ∧ y = .int j ∧ binF o (.int i) (.int j) = some (.int z) ∧ Q (.int z) H) (aug_ok o)).imp fun D σ H q => ?_
  obtain ⟨w0, H0, w, ε, S, fl, S', hS, hE, hX, h, hend⟩ := q
  simp only [evS] at h
  refine sx_step (ev := evE call a) hS hE hX h hend fun d1 S1 w1 H1 v1 e1 hS1 hE1 hX1 r1 h1 hend1 => ?_
  split at h1
  · rename_i i hi
    obtain ⟨p, C, dx, fv, rfl, hH, hC, hno, hcl, hlk⟩ := fldI_at hfl hS1 r1 hi
    refine ⟨p, C, dx, fv, _, rfl, hH, g.lw.hK ▸ hC, g.lw.hK ▸ hno, hlk, ?_⟩
    refine sx_step (ev := evE call e) hS1 hE1 hX1 h1 hend1 fun d2 S2 w2 H2 v2 e2 hS2 hE2 hX2 r2 h2 hend2 => ?_
    cases d2 <;> try cases h2
    rename_i j
    simp only [RV] at r2
    subst r2
    dsimp only at h2
    split at h2
    · rename_i z hz
      split at h2
      · rename_i S3 hset
        cases h2
        have : ∃ zi, z = .int zi := by
          cases o <;> simp only [binF] at hz <;> first | (cases hz; exact ⟨_, rfl⟩) | (split at hz <;> first | (cases hz; exact ⟨_, rfl⟩) | cases hz)
        obtain ⟨zi, rfl⟩ := this
        refine ⟨i, j, zi, rfl, rfl, hz, ?_⟩
        obtain ⟨p2, C2, dx2, fv2, e3, hH2, hC2, hno2, hlt, hm, hcl2, hS3⟩ := setFS_at hfl hS2 (RV.ext e2 _ _ r1) (RV_int (i := zi)) hset
        cases e3
        rw [hcl] at hcl2
        cases hcl2
        exact ⟨dx2, fv2, hH2, hlt, hend2 w2 σ _ hS3 (hE2.ext (ext_set hm (nf_of hH2))) (hX2.trans (ext_set hm (nf_of hH2))) (ext_set hm (nf_of hH2)).toS⟩
      · cases h2
    · cases h2
  · cases h1
/-! ### targets: names and own attributes -/
def gP (G : Gx) (j : Nat) (c : Str) (t : Nat ⊕ Str) : TG := fun v σ H Q => ∃ w H0 ε S d r, RSt G w S H ∧ REn G.K w H0 σ H ε ∧ RV G.K w H v d ∧ putT j c t d ε S = some r ∧
  ∀ σ' H', RSt G w r.2 H' → REn G.K w H0 σ' H' r.1 → Ext w H w H' → Q σ' H'
def gPs (G : Gx) (j : Nat) (c : Str) (ts : List (Nat ⊕ Str)) : TGs := fun vs σ H Q => ∃ w H0 ε S ds r, RSt G w S H ∧ REn G.K w H0 σ H ε ∧ RVs G.K w H vs ds ∧ putTs j c ts ds ε S = some r ∧
  ∀ σ' H', RSt G w r.2 H' → REn G.K w H0 σ' H' r.1 → Ext w H w H' → Q σ' H'
theorem s_pt (g : Good T G call N sc fn W k X) {j : Nat} {c : Str} {t : Nat ⊕ Str} {e : Expr} (h : chPt T N sc fn j c t e = true) : PG X e (gP G j c t) := by
  cases t with
  | inl i =>
    simp only [chPt] at h
    split at h
    · rename_i y pos
      simp only [Bool.and_eq_true, decide_eq_true_eq] at h
      obtain ⟨hl, hf⟩ := g.hfn y h.2
      refine (pg_name (by rw [g.hN]; exact g.nd) (by rw [g.hN]; exact h.1) (by rw [g.hsc]; exact hl) (by rw [g.hsc]; exact hf)).imp fun v σ H Q q => ?_
      obtain ⟨w, H0, ε, S, d, r, hS, hE, rv, hp, q⟩ := q
      simp only [putT] at hp
      cases hp
      exact q _ H hS (hE.set rv i) Ext.refl
    · cases h
  | inr f =>
    simp only [chPt] at h
    split at h
    · rename_i y py g0 pos
      simp only [Bool.and_eq_true, decide_eq_true_eq, beq_iff_eq] at h
      obtain ⟨⟨⟨h1, h2⟩, rfl⟩, h4⟩ := h
      obtain ⟨hv, hd, hcd⟩ := vis_of h2
      have hfl : ∀ C, G.cls c = some C → NoAttr G.K C g0 := fun C hcl => by rw [g.lw.hK]; exact g.lw.fld _ g0 C h4 hcl
      refine (pg_attr (pe_var (by rw [g.hN]; exact h1) (by rw [g.hsc]; exact hv) hd hcd)).imp fun v σ H Q q => ?_
      obtain ⟨w, H0, ε, S, d, r, hS, hE, rv, hp, q⟩ := q
      simp only [putT] at hp
      split at hp
      · rename_i o eo
        obtain ⟨v0, s0, r0⟩ := hE.sl j _ eo
        cases hset : setFS o c g0 d S with
        | none => rw [hset] at hp; cases hp
        | some S' =>
          rw [hset] at hp
          cases hp
          obtain ⟨p, C, dx, fv, rfl, hH, hC, hno, hlt, hm, hcl, hS'⟩ := setFS_at hfl hS r0 rv hset
          refine ⟨.ref p, s0, p, C, dx, fv, rfl, hH, g.lw.hK ▸ hC, g.lw.hK ▸ hno, hlt, ?_⟩
          exact q _ _ hS' (hE.ext (ext_set hm (nf_of hH))) (ext_set hm (nf_of hH))
      · cases hp
    · cases h
theorem chPts_star {j : Nat} {c : Str} : ∀ {ts : List (Nat ⊕ Str)} {es : List Expr}, chPts T N sc fn j c ts es = true → es.all notStar = true ∧ es.length = ts.length
  | [], es, h => by
    simp only [chPts] at h
    split at h
    · exact ⟨rfl, rfl⟩
    · cases h
  | t :: ts, es, h => by
    simp only [chPts] at h
    split at h
    · rename_i x xs
      simp only [Bool.and_eq_true] at h
      obtain ⟨h1, h2⟩ := chPts_star h.2
      have : notStar x = true := by
        have := h.1
        cases t <;> simp only [chPt] at this <;> split at this <;> first | rfl | cases this
      simp only [List.all_cons, Bool.and_eq_true, List.length_cons]
      exact ⟨⟨this, h1⟩, by rw [h2]⟩
    · cases h
theorem s_pts (g : Good T G call N sc fn W k X) {j : Nat} {c : Str} : ∀ {ts : List (Nat ⊕ Str)} {es : List Expr}, chPts T N sc fn j c ts es = true → PGs X es (gPs G j c ts)
  | [], es, h => by
    simp only [chPts] at h
    split at h
    · refine pgs_nil.imp fun vs σ H Q q => ?_
      obtain ⟨w, H0, ε, S, ds, r, hS, hE, rv, hp, q⟩ := q
      cases ds with
      | nil =>
        simp only [putTs] at hp
        cases hp
        simp only [RVs] at rv
        exact ⟨rv, q σ H hS hE Ext.refl⟩
      | cons _ _ => simp [putTs] at hp
    · cases h
  | t :: ts, es, h => by
    have hst := (chPts_star h).1
    simp only [chPts] at h
    split at h
    · rename_i x xs
      simp only [Bool.and_eq_true] at h
      simp only [List.all_cons, Bool.and_eq_true] at hst
      refine (pgs_cons (s_pt g h.1) (s_pts g h.2) (by rw [notStarEach hst.1]; rfl)).imp fun vs σ H Q q => ?_
      obtain ⟨w, H0, ε, S, ds, r, hS, hE, rv, hp, q⟩ := q
      cases ds with
      | nil => simp [putTs] at hp
      | cons d ds =>
        simp only [putTs] at hp
        split at hp
        · rename_i p ep
          simp only [RVs] at rv
          obtain ⟨v, r', rfl, r1, r2⟩ := rv
          exact ⟨v, r', rfl, w, H0, ε, S, d, p, hS, hE, r1, ep, fun σ1 H1 hS1 hE1 e1 => ⟨w, H0, p.1, p.2, ds, r, hS1, hE1, RVs.ext e1 _ _ r2, hp, fun σ2 H2 hS2 hE2 e2 => q σ2 H2 hS2 hE2 (e1.trans e2)⟩⟩
        · cases hp
    · cases h
theorem putTs_len {j : Nat} {c : Str} : ∀ {ts : List (Nat ⊕ Str)} {ds : List BX.D} {ε : BX.Env} {S : Sto} {r : BX.Env × Sto}, putTs j c ts ds ε S = some r → ds.length = ts.length
  | [], [], _, _, _, _ => rfl
  | [], _ :: _, _, _, _, h => by simp [putTs] at h
  | _ :: _, [], _, _, _, h => by simp [putTs] at h
  | t :: ts, d :: ds, ε, S, r, h => by
    simp only [putTs] at h
    split at h
    · simp [putTs_len h]
    · cases h
theorem st_parF (g : GoodS T G call N sc fn W k X) {j kt : Nat} {c : Str} {ts : List (Nat ⊕ Str)} {e : Ex} {xs : List Expr} {x : Expr} {pt : Pos} (hc : chPts T N sc fn j c ts xs = true) (hn : notComp x = true) (hp : plainStores (.Tuple xs kt pt) x = true) (he : JE G W X x (evE call e)) :
    JS G W X (.Assign [.Tuple xs kt pt] x pos) (evS call turns (.parF j c ts e)) := by
  obtain ⟨z1, z2⟩ := chPts_star hc
  obtain ⟨h3, h4⟩ := assignAll (env := X.env) z1
  have P1 := pg_tup (pos := pt) (k := kt) (n := ts.length) g.calm (s_pts g.toGood hc) (by rw [h3, z2]) h4
  have P2 := pg_unl (pos := pt) (k := kt) (n := ts.length) g.calm (s_pts g.toGood hc) (by rw [h3, z2]) h4
  have P : PG X (.Tuple xs kt pt) (fun v σ H Q => gTup X.K ts.length (gPs G j c ts) v σ H Q ∨ gUnl X.K ts.length (gPs G j c ts) v σ H Q) := ⟨fun pins s σ H v u Q I r q => q.elim (P1.run pins s σ H v u Q I r) (P2.run pins s σ H v u Q I r)⟩
  refine (ps_asg he P (swapsSole (.inl hn)) (stores_none hp) rfl).imp fun D σ H q => ?_
  obtain ⟨w0, H0, w, ε, S, f, S', hS, hE, hX, h, hend⟩ := q
  simp only [evS] at h
  refine sx_step (ev := evE call e) hS hE hX h hend fun d S1 w1 H1 v e1 hS1 hE1 hX1 r1 h1 hend1 => ?_
  cases d <;> try cases h1
  · rename_i ds
    dsimp only at h1
    split at h1
    · rename_i p ep
      cases h1
      simp only [RV] at r1
      obtain ⟨a, vs, rfl, r2, r3⟩ := r1
      exact .inl ⟨a, vs, rfl, g.lw.hK ▸ r2.sq, by rw [r3.length, putTs_len ep], w1, H0, ε, S1, ds, p, hS1, hE1, r3, ep, fun σ' H' hS' hE' e' => hend1 w1 σ' H' hS' hE' (hX1.trans e') e'.toS⟩
    · cases h1
  · rename_i ds
    dsimp only at h1
    split at h1
    · rename_i p ep
      cases h1
      simp only [RV] at r1
      obtain ⟨a, vs, rfl, r2, r3⟩ := r1
      exact .inr ⟨a, vs, rfl, .inl r2.2, by rw [r3.length, putTs_len ep], w1, H0, ε, S1, ds, p, hS1, hE1, r3, ep, fun σ' H' hS' hE' e' => hend1 w1 σ' H' hS' hE' (hX1.trans e') e'.toS⟩
    · cases h1
theorem stores_two {t1 t2 x : Expr} {env : PySem.Env} : swappedStores [t1, t2] x env = pure none := by
  cases t1 <;> first | rfl | (cases x <;> rfl)
theorem st_chnF (g : GoodS T G call N sc fn W k X) {j : Nat} {c f1 f2 : Str} {e : Ex} {t1 t2 x : Expr} (hc1 : chPt T N sc fn j c (.inr f1) t1 = true) (hc2 : chPt T N sc fn j c (.inr f2) t2 = true) (he : JE G W X x (evE call e)) :
    JS G W X (.Assign [t1, t2] x pos) (evS call turns (.chnF j c f1 f2 e)) := by
  have z1 : notStar t1 = true := by
    have := hc1
    simp only [chPt] at this
    split at this <;> first | rfl | cases this
  have z2 : notStar t2 = true := by
    have := hc2
    simp only [chPt] at this
    split at this <;> first | rfl | cases this
  refine (ps_asg2 he (s_pt g.toGood hc1) (s_pt g.toGood hc2) (by rw [notStarEach z1, notStarEach z2]; rfl) stores_two).imp fun D σ H q => ?_
  obtain ⟨w0, H0, w, ε, S, f, S', hS, hE, hX, h, hend⟩ := q
  simp only [evS] at h
  refine sx_step (ev := evE call e) hS hE hX h hend fun d S1 w1 H1 v e1 hS1 hE1 hX1 r1 h1 hend1 => ?_
  cases hp : putTs j c [.inr f1, .inr f2] [d, d] ε S1 with
  | none => rw [hp] at h1; cases h1
  | some p =>
    rw [hp] at h1
    cases h1
    simp only [putTs] at hp
    split at hp
    · rename_i q1 e2
      split at hp
      · rename_i q2 e3
        cases hp
        exact ⟨w1, H0, ε, S1, d, q1, hS1, hE1, r1, e2, fun σ1 H2 hS2 hE2 x1 => ⟨w1, H0, q1.1, q1.2, d, q2, hS2, hE2, RV.ext x1 _ _ r1, e3, fun σ2 H3 hS3 hE3 x2 => hend1 w1 σ2 H3 hS3 hE3 ((hX1.trans x1).trans x2) (x1.trans x2).toS⟩⟩
      · cases hp
    · cases hp
/-! ### a walked dict of the store -/
theorem unlk_ok {n : Nat} {ks : List Key} {vs : List BX.D} {r : R Fl} {f : Fl} {S' : Sto} (h : unlk n ks vs r = .ok f S') : ∃ S1, r = .ok f S1 ∧ ((∃ x ε, f = .ex x ε) ∧ S' = S1 ∨ (∀ x ε, f ≠ .ex x ε) ∧ S' = S1.set n (.dct ks vs)) := by
  cases r with
  | ok f1 S1 => cases f1 <;> simp only [unlk] at h <;> cases h <;> first | exact ⟨_, rfl, .inl ⟨⟨_, _, rfl⟩, rfl⟩⟩ | exact ⟨_, rfl, .inr ⟨(fun _ _ z => nomatch z), rfl⟩⟩
  | exc _ _ => cases h
  | stuck => cases h
theorem st_lk {p : Ex} {s : Sm} {st : Stmt} (h : JS G W X st (evS call turns s)) : JS G W X st (evS call turns (.lk p s)) := by
  refine (ps_lockO h).imp fun D σ H q => ?_
  obtain ⟨w0, H0, w, ε, S, f, S', hS, hE, hX, h, hend⟩ := q
  simp only [evS] at h
  cases hl : lkAt S (evE call p ε S) with
  | none => rw [hl] at h; exact .inr ⟨w0, H0, w, ε, S, f, S', hS, hE, hX, h, hend⟩
  | some q =>
    obtain ⟨n, ks, vs⟩ := q
    rw [hl] at h
    have el : S[n]? = some (.dct ks vs) := by
      unfold lkAt at hl
      split at hl
      · split at hl
        · rename_i e
          cases hl
          exact e
        · cases hl
      · cases hl
    obtain ⟨a, ha, kvs, hH, hk, hv⟩ := hS.ob n _ el
    have hn : n < S.length := (List.getElem?_eq_some_iff.mp el).1
    have hm : a ∈ w.ρ := List.mem_of_getElem? ha
    have hf : ∀ ob u, H a ≠ some (.frz ob u) := nf_of hH
    obtain ⟨S1, hev, hends⟩ := unlk_ok h
    refine .inl ⟨a, _, hH, trivial, fun od => ?_⟩
    have x1 := ext_set (w := w) (o := .frz od (.dK kvs)) hm hf
    have hS1 : RSt G w (S.set n (.fdct ks vs)) (upd H a (.frz od (.dK kvs))) := rst_setO hS ha hn ⟨od, kvs, upd_same, hk, RVs.exts (exts_obj hm hf) _ _ hv⟩ hf
    -- what is known when it is let go
    have out : ∀ {w' : Wd} {H' : Hp} {S2 : Sto}, RSt G w' S2 H' → Ext w0 H0 w' H' → ExtS w (upd H a (.frz od (.dK kvs))) w' H' → H' a = some (.frz od (.dK kvs)) ∧ RSt G w' (S2.set n (.dct ks vs)) (upd H' a (.dK kvs)) ∧ a ∈ w'.ρ ∧ Ext w0 H0 w' (upd H' a (.dK kvs)) ∧ ExtS w H w' (upd H' a (.dK kvs)) := by
      intro w' H' S2 hS' hX' eS
      have g1 := eS.fz a _ _ upd_same
      have g2 := eS.at ha
      have g3 : a ∈ w'.ρ := List.mem_of_getElem? g2
      have hn2 : n < S2.length := by rw [← hS'.len]; exact (List.getElem?_eq_some_iff.mp g2).1
      have hv2 : RVs G.K w' H' (kvs.map (·.2)) vs := RVs.exts eS _ _ (RVs.exts (exts_obj hm hf) _ _ hv)
      have h0 : ∀ o, H0 a = some o → a ∉ w0.ρ → False := fun o q z => hX.out (by rw [q]; exact fun z => nomatch z) z hm
      refine ⟨g1, rst_objw hS' g2 hn2 (by rw [g1]; exact nt_frz) ⟨kvs, upd_same, hk, RVs.extw (extw_obj g3) _ _ hv2⟩, g3, ⟨hX'.ρ, hX'.Φ, hX'.new, fun b o hb nb nt => ?_, fun b hb => dom_upd b (hX'.dom b hb), fun b ob u hb => ?_⟩, ⟨eS.ρ, eS.Φ, fun b o hb q nt => ?_, fun b ob u hb => ?_⟩⟩
      · rw [upd_ne (fun z => by subst z; exact h0 _ hb nb)]; exact hX'.keep b o hb nb nt
      · rw [upd_ne (fun z => by subst z; exact hf _ _ (hX.fz _ _ _ hb))]; exact hX'.fz b ob u hb
      · have : b ≠ a := fun z => by subst z; exact w.dis _ hm hb
        rw [upd_ne this]
        exact eS.keep b o hb (by rw [upd_ne this]; exact q) nt
      · have : b ≠ a := fun z => by subst z; exact hf _ _ hb
        rw [upd_ne this]
        exact eS.fz b ob u (by rw [upd_ne this]; exact hb)
    refine ⟨w0, H0, w, ε, S.set n (.fdct ks vs), f, S1, hS1, hE.ext x1, hX.trans x1, hev, ?_⟩
    rcases hends with ⟨⟨x, ε', rfl⟩, rfl⟩ | ⟨nex, rfl⟩
    · exact hend
    · cases f with
      | ex x ε' => exact absurd rfl (nex x ε')
      | nx ε' =>
        intro w' σ' H' a1 b1 c1 d1
        obtain ⟨g1, g2, g3, g4, g5⟩ := out a1 c1 d1
        exact ⟨g1, hend w' σ' _ g2 (b1.objw g3) g4 g5⟩
      | bk ε' =>
        intro w' σ' H' a1 b1 c1 d1
        obtain ⟨g1, g2, g3, g4, g5⟩ := out a1 c1 d1
        exact ⟨g1, hend w' σ' _ g2 (b1.objw g3) g4 g5⟩
      | ct ε' =>
        intro w' σ' H' a1 b1 c1 d1
        obtain ⟨g1, g2, g3, g4, g5⟩ := out a1 c1 d1
        exact ⟨g1, hend w' σ' _ g2 (b1.objw g3) g4 g5⟩
      | rt d =>
        intro w' H' v a1 c1 d1 r1
        obtain ⟨g1, g2, g3, g4, g5⟩ := out a1 c1 d1
        exact ⟨g1, hend w' _ v g2 g4 g5 (RV.extw (extw_obj g3) _ _ r1)⟩
end
end BX
set_option Elab.async false
set_option linter.all false
set_option maxRecDepth 100000
set_option maxHeartbeats 2000000
/-! BX7c: all statements; defs. -/
namespace BX
open PySem L2
open PyProof.Rows hiding St Binds

mutual
theorem sS {T : Tb} {G : Gx} {call : Call} {N : List Str} {k turns : Nat} {sc : Scope} {fn : Str → Bool} {W : WX} {X : Cx} (g : GoodS T G call N sc fn W k X) : ∀ (s : Sm) (st : Stmt), chS T N sc fn s st = true → JS G W X st (evS call turns s)
  | .asg t e, st, h => by
    simp only [chS] at h
    split at h
    · rename_i tx x pos
      simp only [Bool.and_eq_true, Bool.or_eq_true, Bool.not_eq_true'] at h
      obtain ⟨⟨⟨⟨h1, h2⟩, h3⟩, h4⟩, h5⟩ := h
      rcases h5 with h5 | h5
      · exact st_asg g h1 h2 h3 h4 h5
      · by_cases hc : notComp x = true
        · exact st_asg g h1 h2 h3 h4 (.inl (.inl hc))
        · obtain ⟨tn, p, el', gs, sco, q', e1, e2, h8, h9, h10⟩ := sw_of h5
          subst e1 e2
          have hfr : lcE e = true := by
            cases e <;> simp only [chE] at h3 <;> first | rfl | (split at h3 <;> first | cases h3 | (rename_i z; cases z) | (rename_i hx; have := prX_comp hx; simp [notComp] at this)) | cases h3
          cases t with
          | tp l => simp [chT] at h2
          | nm i =>
            simp only [chT, Bool.and_eq_true, decide_eq_true_eq] at h2
            exact st_asgLc g hfr h3 h2.1 h2.2 (.inl (.inl (.inr h5)))
    · cases h
  | .par i j a b, st, h => by
    simp only [chS] at h
    split at h
    · rename_i x px y py kt pt u v k2 pt2 pos
      simp only [Bool.and_eq_true, Bool.not_eq_true', decide_eq_true_eq] at h
      obtain ⟨⟨⟨⟨⟨⟨⟨⟨⟨⟨⟨⟨h1, h2⟩, h3⟩, h4⟩, h5⟩, h6⟩, h7⟩, h8⟩, h9⟩, h10⟩, h11⟩, h12⟩, h13⟩ := h
      have hx : sc.names.lookup x = some .local := by
        split at h6
        · assumption
        · cases h6
      have hy : sc.names.lookup y = some .local := by
        split at h7
        · assumption
        · cases h7
      exact st_par g h1 h2 h3 h4 h5 hx hy h8 h9 h10 h11 (sE a sc fn W X _ g.toGood h12) (sE b sc fn W X _ g.toGood h13)
    · cases h
  | .own i e, st, h => by
    simp only [chS] at h
    split at h
    · simp only [Bool.and_eq_true, Bool.or_eq_true, decide_eq_true_eq] at h
      obtain ⟨⟨⟨⟨h1, h2⟩, h3⟩, h4⟩, h5⟩ := h
      exact st_own g h3 h4 h1 h2 h5
    · cases h
  | .frz i s, st, h => by
    simp only [chS] at h
    exact st_frz (sS g s st h)
  | .aug i o e, st, h => by
    simp only [chS] at h
    split at h
    · simp only [Bool.and_eq_true, decide_eq_true_eq] at h
      obtain ⟨⟨⟨h1, h2⟩, h3⟩, h4⟩ := h
      rw [opB_eq h3]
      exact st_aug g h1 h2 (sE e sc fn W X _ g.toGood h4)
    · cases h
  | .star i j e, st, h => by
    simp only [chS] at h
    split at h
    · simp only [Bool.and_eq_true, decide_eq_true_eq, Bool.not_eq_true'] at h
      obtain ⟨⟨⟨⟨⟨h1, h2⟩, h3⟩, h4⟩, h5⟩, h6⟩ := h
      exact st_star g h1 h2 h3 h4 (sE e sc fn W X _ g.toGood h5) h6
    · cases h
  | .set a i e, st, h => by
    simp only [chS] at h
    split at h
    · simp only [Bool.and_eq_true] at h
      obtain ⟨⟨⟨⟨h1, h2⟩, h3⟩, h4⟩, h5⟩ := h
      exact st_set g h1 h2 (sE e sc fn W X _ g.toGood h3) (sE a sc fn W X _ g.toGood h4) (sE i sc fn W X _ g.toGood h5)
    · cases h
  | .app i e, st, h => by
    simp only [chS] at h
    split at h
    · simp only [Bool.and_eq_true, decide_eq_true_eq, beq_iff_eq] at h
      obtain ⟨⟨⟨⟨⟨h1, h2⟩, rfl⟩, h4⟩, h5⟩, h6⟩ := h
      exact st_app g h1 h2 h4 (by simpa using h5) (sE e sc fn W X _ g.toGood h6)
    · cases h
  | .setO i kk e, st, h => by
    simp only [chS] at h
    split at h
    · simp only [Bool.and_eq_true, decide_eq_true_eq] at h
      obtain ⟨⟨⟨⟨⟨h1, h2⟩, h3⟩, h4⟩, h5⟩, h6⟩ := h
      exact st_setO g h1 h2 h3 h4 (sE e sc fn W X _ g.toGood h5) (sE kk sc fn W X _ g.toGood h6)
    · cases h
  | .augO i kk o e, st, h => by
    simp only [chS] at h
    split at h
    · simp only [Bool.and_eq_true, decide_eq_true_eq] at h
      obtain ⟨⟨⟨⟨⟨h1, h2⟩, h3⟩, h4⟩, h5⟩, h6⟩ := h
      have e1 := opB_eq h4
      subst e1
      exact st_augO g h1 h2 h3 (sE e sc fn W X _ g.toGood h5) (sE kk sc fn W X _ g.toGood h6)
    · cases h
  | .setOD i kk e, st, h => by
    simp only [chS] at h
    split at h
    · simp only [Bool.and_eq_true, decide_eq_true_eq] at h
      obtain ⟨⟨⟨⟨⟨h1, h2⟩, h3⟩, h4⟩, h5⟩, h6⟩ := h
      exact st_setOD g h1 h2 (sE e sc fn W X _ g.toGood h5) (sE kk sc fn W X _ g.toGood h6)
    · cases h
  | .setD a kk e, st, h => by
    simp only [chS] at h
    split at h
    · simp only [Bool.and_eq_true] at h
      obtain ⟨⟨⟨⟨h1, h2⟩, h3⟩, h4⟩, h5⟩ := h
      exact st_setD g (sE e sc fn W X _ g.toGood h3) (sE a sc fn W X _ g.toGood h4) (sE kk sc fn W X _ g.toGood h5)
    · cases h
  | .slO i lo hi e, st, h => by
    simp only [chS] at h
    split at h
    · simp only [Bool.and_eq_true, decide_eq_true_eq] at h
      obtain ⟨⟨⟨⟨⟨h1, h2⟩, h3⟩, h4⟩, h5⟩, h6⟩ := h
      exact st_slO g h1 h2 h3 (sE e sc fn W X _ g.toGood h4) (sE lo sc fn W X _ g.toGood h5) (sE hi sc fn W X _ g.toGood h6)
    · cases h
  | .insO i kk e, st, h => by
    simp only [chS] at h
    split at h
    · simp only [Bool.and_eq_true, decide_eq_true_eq, beq_iff_eq] at h
      obtain ⟨⟨⟨⟨⟨⟨⟨rfl, h2⟩, h3⟩, h4⟩, h5⟩, h6⟩, h7⟩, h8⟩ := h
      exact st_insO g h2 h3 h4 h5 (by simpa using h6) (sE kk sc fn W X _ g.toGood h7) (sE e sc fn W X _ g.toGood h8)
    · cases h
  | .starO i j e, st, h => by
    simp only [chS] at h
    split at h
    · simp only [Bool.and_eq_true, decide_eq_true_eq, Bool.not_eq_true'] at h
      obtain ⟨⟨⟨⟨⟨h1, h2⟩, h3⟩, h4⟩, h5⟩, h6⟩ := h
      exact st_starO g h1 h2 h3 h4 (sE e sc fn W X _ g.toGood h5) h6
    · cases h
  | .augF a c f o e, st, h => by
    simp only [chS] at h
    split at h
    · simp only [Bool.and_eq_true, beq_iff_eq] at h
      obtain ⟨⟨⟨⟨rfl, h2⟩, h3⟩, h4⟩, h5⟩ := h
      have e1 := opB_eq h3
      subst e1
      exact st_augF g h2 (sE a sc fn W X _ g.toGood h4) (sE e sc fn W X _ g.toGood h5)
    · cases h
  | .parF j c ts e, st, h => by
    simp only [chS] at h
    split at h
    · simp only [Bool.and_eq_true] at h
      obtain ⟨⟨⟨h1, h2⟩, h3⟩, h4⟩ := h
      exact st_parF g h1 h2 h3 (sE e sc fn W X _ g.toGood h4)
    · cases h
  | .chnF j c f1 f2 e, st, h => by
    simp only [chS] at h
    split at h
    · simp only [Bool.and_eq_true] at h
      exact st_chnF g h.1.1 h.1.2 (sE e sc fn W X _ g.toGood h.2)
    · cases h
  | .appR a e, st, h => by
    simp only [chS] at h
    split at h
    · simp only [Bool.and_eq_true] at h
      obtain ⟨⟨⟨⟨⟨h1, h2⟩, h3⟩, h4⟩, h5⟩, h6⟩ := h
      obtain rfl := beq_iff_eq.mp h1
      exact st_appR g h4 h2 h3 (sE a sc fn W X _ g.toGood h5) (sE e sc fn W X _ g.toGood h6)
    · cases h
  | .lk p s, st, h => by
    simp only [chS] at h
    exact st_lk (sS g s st h)
  | .setF a c f e, st, h => by
    simp only [chS] at h
    split at h
    · simp only [Bool.and_eq_true, beq_iff_eq] at h
      obtain ⟨⟨⟨rfl, h2⟩, h3⟩, h4⟩ := h
      exact st_setF g h2 (sE e sc fn W X _ g.toGood h3) (sE a sc fn W X _ g.toGood h4)
    · cases h
  | .popOD _ _, _, h => by simp [chS] at h
  | .popD a kk, st, h => by
    simp only [chS] at h
    split at h
    · simp only [Bool.and_eq_true] at h
      obtain ⟨⟨⟨⟨⟨h1, h2⟩, h3⟩, h4⟩, h5⟩, h6⟩ := h
      obtain rfl := beq_iff_eq.mp h1
      exact st_popD g h4 h2 h3 (sE a sc fn W X _ g.toGood h5) (sE kk sc fn W X _ g.toGood h6)
    · cases h
  | .popO t i, st, h => by
    simp only [chS] at h
    split at h
    · simp only [Bool.and_eq_true, decide_eq_true_eq] at h
      obtain ⟨⟨⟨⟨⟨h1, h2⟩, h3⟩, h4⟩, h5⟩, h6⟩ := h
      obtain rfl := beq_iff_eq.mp h1
      exact st_popO g h2 h3 h4 h5 h6
    · cases h
  | .extO i e, st, h => by
    simp only [chS] at h
    split at h
    · simp only [Bool.and_eq_true, decide_eq_true_eq] at h
      exact st_extO g h.1.1 h.1.2 (sE e sc fn W X _ g.toGood h.2)
    · cases h
  | .exp e, st, h => by
    simp only [chS] at h
    split at h
    · simp only [Bool.and_eq_true] at h
      exact st_exp h.1 (sE e sc fn W X _ g.toGood h.2)
    · cases h
  | .ret e, st, h => by
    simp only [chS] at h
    split at h
    · exact st_ret (sE e sc fn W X _ g.toGood h)
    · cases h
  | .retN, st, h => by
    simp only [chS] at h
    split at h
    · exact st_retN
    · cases h
  | .ite c a b, st, h => by
    simp only [chS] at h
    split at h
    · simp only [Bool.and_eq_true] at h
      exact st_ite (sT c sc fn W X _ g.toGood h.1.1) (sB g a _ h.1.2) (sB g b _ h.2)
    · cases h
  | .for t it b, st, h => by
    simp only [chS] at h
    split at h
    · simp only [Bool.and_eq_true] at h
      obtain ⟨⟨⟨h1, h2⟩, h3⟩, h4⟩ := h
      exact st_for g (sI it sc fn W X _ _ g.toGood h3) (s_tg g.toGood t _ h2) (sB g b _ h4) h1
    · cases h
  | .whl c b, st, h => by
    simp only [chS] at h
    split at h
    · simp only [Bool.and_eq_true] at h
      exact st_whl g (sT c sc fn W X _ g.toGood h.1) (sB g b _ h.2)
    · cases h
  | .brk, st, h => by
    simp only [chS] at h
    split at h
    · refine ps_break.imp fun D σ H q => ?_
      obtain ⟨w0, H0, w, ε, S, f, S', hS, hE, hX, h, hend⟩ := q
      simp only [evS] at h
      cases h
      exact hend w σ H hS hE hX ExtS.refl
    · cases h
  | .cnt, st, h => by
    simp only [chS] at h
    split at h
    · refine ps_continue.imp fun D σ H q => ?_
      obtain ⟨w0, H0, w, ε, S, f, S', hS, hE, hX, h, hend⟩ := q
      simp only [evS] at h
      cases h
      exact hend w σ H hS hE hX ExtS.refl
    · cases h
  | .pass, st, h => by
    simp only [chS] at h
    split at h
    · refine ps_pass.imp fun D σ H q => ?_
      obtain ⟨w0, H0, w, ε, S, f, S', hS, hE, hX, h, hend⟩ := q
      simp only [evS] at h
      cases h
      exact hend w σ H hS hE hX ExtS.refl
    · cases h
  | .dead, st, h => by
    refine ps_never.imp fun D σ H q => ?_
    obtain ⟨w0, H0, w, ε, S, f, S', hS, hE, hX, h, hend⟩ := q
    simp only [evS] at h
    cases h
theorem sB {T : Tb} {G : Gx} {call : Call} {N : List Str} {k turns : Nat} {sc : Scope} {fn : Str → Bool} {W : WX} {X : Cx} (g : GoodS T G call N sc fn W k X) : ∀ (b : List Sm) (ss : List Stmt), chB T N sc fn b ss = true → JB G W X ss (evB call turns b)
  | [], ss, h => by
    simp only [chB] at h
    split at h
    · exact b_nil
    · cases h
  | s :: b, ss, h => by
    simp only [chB] at h
    split at h
    · simp only [Bool.and_eq_true] at h
      exact b_cons (sS g s _ h.1) (sB g b _ h.2)
    · cases h
end

/-! ### defs -/
def locB (sc : Scope) : Str → Bool := fun x => match sc.names.lookup x with | some .local => true | some .cell => true | _ => false
theorem loc_of {sc : Scope} {x : Str} (h : locB sc x = true) : Loc sc x := by
  unfold locB at h
  split at h
  · exact .inl (by assumption)
  · exact .inr (by assumption)
  · cases h
theorem start_ren {K : PySem.W.Frag} {w : Wd} {H : Hp} {N : List Str} {vs : List V} {ds : List D} (h : RVs K w H vs ds) : REn K w H (L2.start N vs) H (startE N.length ds) := by
  have hl := h.length
  refine ⟨by simp [L2.start, startE, hl], fun i s e => ?_, fun i j d e a hne e1 => ?_⟩
  · unfold startE at e
    by_cases hi : i < ds.length
    · rw [List.getElem?_append_left (by simpa using hi), List.getElem?_map] at e
      cases hd : ds[i]? with
      | none => rw [hd] at e; cases e
      | some d =>
        rw [hd] at e
        cases e
        obtain ⟨v, hv, r⟩ := h.get hd
        refine ⟨v, ?_, r⟩
        unfold L2.start
        rw [List.getElem?_append_left (by simpa [hl] using hi), List.getElem?_map, hv]
        rfl
    · rw [List.getElem?_append_right (by simpa using hi)] at e
      have := List.mem_of_getElem? e
      rw [List.mem_replicate] at this
      rw [this.2]
      trivial
  · unfold startE at e1
    by_cases hi : i < ds.length
    · rw [List.getElem?_append_left (by simpa using hi), List.getElem?_map] at e1
      cases hd : ds[i]? with
      | none => rw [hd] at e1; cases e1
      | some d => rw [hd] at e1; cases e1
    · rw [List.getElem?_append_right (by simpa using hi)] at e1
      have := List.mem_of_getElem? e1
      rw [List.mem_replicate] at this
      cases this.2
/-- the table, with lambdas or without -/
def Tb.sub (T : Tb) (b : Bool) : Tb := { T with lam := if b then T.lam else fun _ _ _ _ => false }
theorem Lw.sub {T : Tb} {G : Gx} {call : Call} {P : Program} {wo : World} {K : PySem.W.Frag} {mg : Str → Option Value} {base : Heap} {k : Nat} (lw : Lw T G call P wo K mg base k) (b : Bool) : Lw (T.sub b) G call P wo K mg base k :=
  ⟨lw.hK, lw.fns, lw.rev, lw.srt, lw.blt, lw.rng, lw.zip, lw.enu, lw.isi, lw.tys, lw.con, lw.mth, lw.mkd, lw.fld, lw.dct⟩
/-- the table's own lambdas are checked without lambdas -/
def LamOk (T : Tb) : Prop := ∀ N key sc body, T.lam N key sc body = true → chE (T.sub false) N key sc (fun _ => false) body = true
theorem lamS_of {T : Tb} {G : Gx} {call : Call} {P : Program} {wo : World} {K : PySem.W.Frag} {mg : Str → Option Value} {base : Heap} {k : Nat} {N : List Str} (lw : Lw T G call P wo K mg base k) (ok : LamOk T) (nd : N.Nodup) (b : Bool) :
    ∀ key sc' body, (T.sub b).lam N key sc' body = true → ∀ Y : Cx, LamAt P wo K mg base N sc' k Y → PE Y body (rd G (fun _ _ _ _ => False) (RV G.K) (evE call key)) := fun key sc' body h Y L => by
  cases b with
  | false => cases h
  | true =>
    obtain ⟨l1, l2, l3, l4, l5, l6, l7, l8, l9⟩ := L
    subst l5 l6 l7 l8 l9
    exact sE (T := T.sub false) key sc' (fun _ => false) NoW Y body ⟨l1, l2, nd, l3, fun x hx => (by cases hx), l4, takesNo, lw.sub false, fun _ _ _ z => (by cases z), fun ⟨_, _, _, z⟩ => (by cases z)⟩ (ok _ _ _ _ h)
def lamQ (qual : Str) : Str := qual ++ ".<locals>." ++ "<lambda>"
/-- what is known of a def of the text: where it stands is known apart -/
structure FnBody (T : Tb) (Γ : Tab) (K : PySem.W.Frag) (cs : List (Addr × Addr)) (tabs : List (Addr × Str)) (f : Nat) (a : Addr) : Prop where
  ex : ∃ (ps N : List Str) (st : Stmt) (x qual : Str) (body : List Sm) (oc : Value) (od an : Option Addr) (dV kV doc pm cdv ct : Value) (osl : Array (Option Value)) (b : Bool),
    K.lookup a = some ⟨oc, od, .func (PySem.W.fnOf x qual (defArgs st) (defBody st) (defScope st) dV kV doc pm an cdv ct), osl⟩ ∧ PySem.W.codeIn K cdv qual = true ∧ PySem.W.keepIn K (.ref a) = true ∧ FnScope N ps (defScope st) ∧ Γ f = some ⟨ps.length, N.length, body⟩ ∧
    chB (T.sub b) N (defScope st) (locB (defScope st)) body (defBody st) = true ∧ (b = true → ∃ c P, cdv = .ref c ∧ (c, P) ∈ cs ∧ (P, lamQ qual) ∈ tabs ∧ ∀ p ∈ tabs, p.1 = P → p.2 = lamQ qual) ∧
    (∀ n dv, T.dvB f n dv = true → dv.all flatD = true ∧ ∃ ds, Vals (dv.map vOf) ds ∧ Binds K (PySem.W.fnOf x qual (defArgs st) (defBody st) (defScope st) dV kV doc pm an cdv ct) ps ds) ∧
      ∀ n ks pmm, T.kwB f n ks pmm = true → pmFlat pmm = true ∧ ∃ g, KBn K (PySem.W.fnOf x qual (defArgs st) (defBody st) (defScope st) dV kV doc pm an cdv ct) ps n ks g fun vs zs => pmV (vs ++ zs) pmm
structure FnFact (T : Tb) (Γ : Tab) (K : PySem.W.Frag) (cs : List (Addr × Addr)) (tabs : List (Addr × Str)) (mg : Str → Option Value) (f : Nat) : Prop where
  ex : ∃ a, mg (T.nm f) = some (.ref a) ∧ FnBody T Γ K cs tabs f a
structure MthFact (T : Tb) (Γ : Tab) (G : Gx) (K : PySem.W.Frag) (cs : List (Addr × Addr)) (tabs : List (Addr × Str)) (f : Nat) (c m : Str) : Prop where
  ex : ∃ C a, G.cls c = some C ∧ Cls K C ∧ Meth K C m a ∧ FnBody T Γ K cs tabs f a
structure MkFact (T : Tb) (Γ : Tab) (G : Gx) (K : PySem.W.Frag) (cs : List (Addr × Addr)) (tabs : List (Addr × Str)) (mg : Str → Option Value) (f : Nat) (c : Str) : Prop where
  ex : ∃ C a, mg c = some (.ref C) ∧ G.cls c = some C ∧ Cls K C ∧ Mk K C a ∧ FnBody T Γ K cs tabs f a
section
variable {call : Call} {turns : Nat}
theorem lf_noexc {α : Type} {r : R α} {ε : Env} {f : α → Sto → R Fl} (h : ∀ a S x S2, f a S ≠ .exc x S2) : ∀ x S2, r.lf ε f ≠ .exc x S2 := by
  intro x S2
  cases r with
  | ok a S => exact h a S x S2
  | exc y S => exact fun z => nomatch z
  | stuck => exact fun z => nomatch z
theorem forL_noexc {F : D → Env → Sto → R Fl} (h : ∀ d ε S x S2, F d ε S ≠ .exc x S2) : ∀ (ds : List D) (ε : Env) (S : Sto) (x : Exc) (S2 : Sto), forL F ds ε S ≠ .exc x S2
  | [], _, _, _, _ => fun z => nomatch z
  | d :: ds, ε, S, x, S2 => by
    simp only [forL]
    cases hF : F d ε S with
    | stuck => exact fun z => nomatch z
    | exc y S' => exact absurd hF (h d ε S y S')
    | ok f S' =>
      simp only [R.bd_ok]
      cases f with
      | nx ε' => exact forL_noexc h ds ε' S' x S2
      | ct ε' => exact forL_noexc h ds ε' S' x S2
      | bk _ => exact fun z => nomatch z
      | rt _ => exact fun z => nomatch z
      | ex _ _ => exact fun z => nomatch z
theorem whlL_noexc {c : Env → Sto → R Bool} {F : Env → Sto → R Fl} (h : ∀ ε S x S2, F ε S ≠ .exc x S2) : ∀ (n : Nat) (ε : Env) (S : Sto) (x : Exc) (S2 : Sto), whlL c F n ε S ≠ .exc x S2
  | 0, _, _, _, _ => fun z => nomatch z
  | n + 1, ε, S, x, S2 => by
    simp only [whlL]
    refine lf_noexc (fun k S1 x S2 => ?_) x S2
    split
    · cases hF : F ε S1 with
      | stuck => exact fun z => nomatch z
      | exc y S' => exact absurd hF (h ε S1 y S')
      | ok f S' =>
        simp only [R.bd_ok]
        cases f with
        | nx ε' => exact whlL_noexc h n ε' S' x S2
        | ct ε' => exact whlL_noexc h n ε' S' x S2
        | bk _ => exact fun z => nomatch z
        | rt _ => exact fun z => nomatch z
        | ex _ _ => exact fun z => nomatch z
    · exact fun z => nomatch z
mutual
theorem evS_noexc : ∀ (s : Sm) (ε : Env) (S : Sto) (x : Exc) (S2 : Sto), evS call turns s ε S ≠ .exc x S2
  | .asg t e, ε, S, x, S2 => by simp only [evS]; exact lf_noexc (fun d S1 x S2 => by split <;> exact fun z => nomatch z) x S2
  | .par i j a b, ε, S, x, S2 => by simp only [evS]; exact lf_noexc (fun d S1 x S2 => lf_noexc (fun d S1 x S2 => by intro z; cases z) x S2) x S2
  | .own i e, ε, S, x, S2 => by simp only [evS]; exact lf_noexc (fun d S1 x S2 => by intro z; cases z) x S2
  | .frz i s, ε, S, x, S2 => by
    simp only [evS]
    split
    · exact evS_noexc s _ S x S2
    · exact evS_noexc s _ S x S2
  | .aug i o e, ε, S, x, S2 => by
    simp only [evS]
    split
    · exact lf_noexc (fun d S1 x S2 => by split <;> first | (split <;> exact fun z => nomatch z) | exact fun z => nomatch z) x S2
    · exact fun z => nomatch z
  | .star i j e, ε, S, x, S2 => by simp only [evS]; exact lf_noexc (fun d S1 x S2 => by split <;> first | (split <;> exact fun z => nomatch z) | exact fun z => nomatch z) x S2
  | .set a i e, ε, S, x, S2 => by simp only [evS]; exact lf_noexc (fun d S1 x S2 => lf_noexc (fun d S1 x S2 => lf_noexc (fun d S1 x S2 => by split <;> exact fun z => nomatch z) x S2) x S2) x S2
  | .app i e, ε, S, x, S2 => by
    simp only [evS]
    split
    · exact lf_noexc (fun d S1 x S2 => by split <;> exact fun z => nomatch z) x S2
    · exact fun z => nomatch z
  | .setO i kk e, ε, S, x, S2 => by
    simp only [evS]
    refine lf_noexc (fun d S1 x S2 => ?_) x S2
    split
    · exact lf_noexc (fun d S1 x S2 => by split <;> first | (split <;> exact fun z => nomatch z) | exact fun z => nomatch z) x S2
    · exact fun z => nomatch z
  | .augO i kk o e, ε, S, x, S2 => by
    simp only [evS]
    split
    · refine lf_noexc (fun d S1 x S2 => ?_) x S2
      split
      · split
        · exact lf_noexc (fun d S1 x S2 => by split <;> first | (split <;> exact fun z => nomatch z) | exact fun z => nomatch z) x S2
        · exact fun z => nomatch z
      · exact fun z => nomatch z
    · exact fun z => nomatch z
  | .setOD i kk e, ε, S, x, S2 => by
    simp only [evS]
    refine lf_noexc (fun d S1 x S2 => ?_) x S2
    split
    · exact lf_noexc (fun d S1 x S2 => by split <;> first | (split <;> exact fun z => nomatch z) | exact fun z => nomatch z) x S2
    · exact fun z => nomatch z
  | .setD a kk e, ε, S, x, S2 => by simp only [evS]; exact lf_noexc (fun d S1 x S2 => lf_noexc (fun d S1 x S2 => lf_noexc (fun d S1 x S2 => by split <;> exact fun z => nomatch z) x S2) x S2) x S2
  | .slO i lo hi e, ε, S, x, S2 => by simp only [evS]; repeat' (first | (intro z; cases z; done) | refine lf_noexc (fun _ _ _ _ => ?_) _ _ | split)
  | .insO i kk e, ε, S, x, S2 => by simp only [evS]; repeat' (first | (intro z; cases z; done) | refine lf_noexc (fun _ _ _ _ => ?_) _ _ | split)
  | .starO i j e, ε, S, x, S2 => by simp only [evS]; repeat' (first | (intro z; cases z; done) | refine lf_noexc (fun _ _ _ _ => ?_) _ _ | split)
  | .augF a c f o e, ε, S, x, S2 => by simp only [evS]; repeat' (first | (intro z; cases z; done) | refine lf_noexc (fun _ _ _ _ => ?_) _ _ | split)
  | .parF j c ts e, ε, S, x, S2 => by simp only [evS]; repeat' (first | (intro z; cases z; done) | refine lf_noexc (fun _ _ _ _ => ?_) _ _ | split)
  | .chnF j c f1 f2 e, ε, S, x, S2 => by simp only [evS]; repeat' (first | (intro z; cases z; done) | refine lf_noexc (fun _ _ _ _ => ?_) _ _ | split)
  | .appR a e, ε, S, x, S2 => by simp only [evS]; repeat' (first | (intro z; cases z; done) | refine lf_noexc (fun _ _ _ _ => ?_) _ _ | split)
  | .lk p s, ε, S, x, S2 => by
    simp only [evS]
    split
    · intro z
      cases hs : evS call turns s ε (S.set _ _) with
      | stuck => rw [hs] at z; cases z
      | exc y S' => exact absurd hs (evS_noexc s ε _ y S')
      | ok f S' =>
        rw [hs] at z
        cases f <;> cases z
    · exact evS_noexc s ε S x S2
  | .setF a c f e, ε, S, x, S2 => by simp only [evS]; exact lf_noexc (fun d S1 x S2 => lf_noexc (fun d S1 x S2 => by split <;> exact fun z => nomatch z) x S2) x S2
  | .popOD i kk, ε, S, x, S2 => by
    simp only [evS]
    split
    · exact lf_noexc (fun d S1 x S2 => by split <;> first | (split <;> exact fun z => nomatch z) | exact fun z => nomatch z) x S2
    · exact fun z => nomatch z
  | .popD a kk, ε, S, x, S2 => by
    simp only [evS]
    refine lf_noexc (fun d S1 x S2 => ?_) x S2
    split
    · exact lf_noexc (fun d S1 x S2 => by split <;> exact fun z => nomatch z) x S2
    · exact fun z => nomatch z
  | .popO t i, ε, S, x, S2 => by
    simp only [evS]
    split
    · split
      · split <;> exact fun z => nomatch z
      · exact fun z => nomatch z
    · exact fun z => nomatch z
  | .extO i e, ε, S, x, S2 => by
    simp only [evS]
    split
    · exact lf_noexc (fun d S1 x S2 => by split <;> first | (split <;> exact fun z => nomatch z) | exact fun z => nomatch z) x S2
    · exact fun z => nomatch z
  | .exp e, ε, S, x, S2 => by simp only [evS]; exact lf_noexc (fun d S1 x S2 => by intro z; cases z) x S2
  | .ret e, ε, S, x, S2 => by simp only [evS]; exact lf_noexc (fun d S1 x S2 => by intro z; cases z) x S2
  | .retN, ε, S, x, S2 => by simp only [evS]; exact fun z => nomatch z
  | .ite c a b, ε, S, x, S2 => by
    simp only [evS]
    exact lf_noexc (fun d S1 x S2 => by
      split
      · exact evB_noexc a ε S1 x S2
      · exact evB_noexc b ε S1 x S2) x S2
  | .for t it b, ε, S, x, S2 => by
    simp only [evS]
    exact lf_noexc (fun ds S1 x S2 => forL_noexc (fun d ε S x S2 => by
      split
      · exact evB_noexc b _ S x S2
      · exact fun z => nomatch z) ds ε S1 x S2) x S2
  | .whl c b, ε, S, x, S2 => by simp only [evS]; exact whlL_noexc (fun ε S x S2 => evB_noexc b ε S x S2) turns ε S x S2
  | .brk, ε, S, x, S2 => by simp only [evS]; exact fun z => nomatch z
  | .cnt, ε, S, x, S2 => by simp only [evS]; exact fun z => nomatch z
  | .pass, ε, S, x, S2 => by simp only [evS]; exact fun z => nomatch z
  | .dead, ε, S, x, S2 => by simp only [evS]; exact fun z => nomatch z
theorem evB_noexc : ∀ (b : List Sm) (ε : Env) (S : Sto) (x : Exc) (S2 : Sto), evB call turns b ε S ≠ .exc x S2
  | [], ε, S, x, S2 => by simp only [evB]; exact fun z => nomatch z
  | s :: ss, ε, S, x, S2 => by
    simp only [evB]
    cases hs : evS call turns s ε S with
    | stuck => exact fun z => nomatch z
    | exc y S' => exact absurd hs (evS_noexc s ε S y S')
    | ok f S' =>
      simp only [R.bd_ok]
      cases f with
      | nx ε' => exact evB_noexc ss ε' S' x S2
      | ct ε' => exact fun z => nomatch z
      | bk _ => exact fun z => nomatch z
      | rt _ => exact fun z => nomatch z
      | ex _ _ => exact fun z => nomatch z
end
end
theorem fn_ok {T : Tb} {G : Gx} {Γ : Tab} {turns k : Nat} {P : Program} {wo : World} {K : PySem.W.Frag} {mg : Str → Option Value} {base : Heap} {f : Nat} {x qual : Str} {st : Stmt} {a : Addr} {N ps : List Str} {body : List Sm} {oc : Value} {od an : Option Addr} {dV kV doc pm cdv ct : Value} {osl : Array (Option Value)} {b : Bool}
    (lk : K.lookup a = some ⟨oc, od, .func (PySem.W.fnOf x qual (defArgs st) (defBody st) (defScope st) dV kV doc pm an cdv ct), osl⟩) (hcd : PySem.W.codeIn K cdv qual = true) (S : FnScope N ps (defScope st)) (lw : Lw T G (evCall Γ turns k) P wo K mg base k) (ok : LamOk T)
    (hl : b = true → ∃ c P', cdv = .ref c ∧ _root_.LamX.TabB base mg c P' ∧ (P', lamQ qual) ∈ G.tabs ∧ ∀ p ∈ G.tabs, p.1 = P' → p.2 = lamQ qual) (hΓ : Γ f = some ⟨ps.length, N.length, body⟩) (hch : chB (T.sub b) N (defScope st) (locB (defScope st)) body (defBody st) = true) :
    FnOk P wo K mg base (L2.CX P wo) (4 * (k + 1)) a (PySem.W.fnOf x qual (defArgs st) (defBody st) (defScope st) dV kV doc pm an cdv ct) ps (spOf G (evCall Γ turns (k + 1) f)) := by
  have len : ∀ (vs : List V) (H : Hp) (Q : VK) (E : XK), spOf G (evCall Γ turns (k + 1) f) vs H Q E → vs.length = ps.length := fun vs H Q E h => by
    obtain ⟨w, S, ds, hS, hv, hp⟩ := h
    simp only [evCall, hΓ] at hp
    split at hp
    · rename_i hl
      rw [hv.length, hl]
    · exact hp.elim
  refine ⟨len, fun A outer s H args us vs Q E hr e0 hb r h => _root_.LamX.run_ofS (k := 4 * k + 3) lk hcd S hr e0 hb r (len vs H Q E h) fun hr => ?_⟩
  · obtain ⟨w, S', ds, hS, hv, hp⟩ := h
    simp only [evCall, hΓ] at hp
    split at hp
    · refine ⟨_, sB (turns := turns) (T := T.sub b) (G := G) (call := evCall Γ turns k) (N := N) (k := k) (sc := defScope st) (fn := locB (defScope st)) (W := fun cls d _ H => E cls d H) ⟨⟨rfl, rfl, S.nd, rfl, fun x hx => ⟨loc_of hx, .inl rfl⟩, hr.mono (by omega), takes_of rfl rfl rfl rfl, lw.sub b, lamS_of lw ok S.nd b, fun ⟨_, _, _, z⟩ => (by
        cases b with
        | false => cases z
        | true =>
          obtain ⟨c, P', h1, h2, h3, h4⟩ := hl rfl
          exact ⟨hr, ⟨c, P', h1, h2, h3, h4⟩⟩)⟩, passes_of rfl, S.kind⟩ body _ hch, ?_⟩
      cases hB : evB (evCall Γ turns k) turns body (startE N.length ds) S' with
      | stuck => rw [hB] at hp; exact hp.elim
      | exc xx S2 =>
        -- a block's own end is never that
        rw [hB] at hp
        exact absurd hB (evB_noexc _ _ _ _ _)
      | ok fl S2 =>
        rw [hB] at hp
        refine ⟨w, H, w, _, S', fl, S2, hS, start_ren hv, Ext.refl, hB, ?_⟩
        cases fl with
        | nx ε' => exact fun w' σ' H' a b c d => hp w' H' .non c a RV_non
        | bk ε' => exact hp.elim
        | ct ε' => exact hp.elim
        | rt d => exact fun w' H' v a b _ c => hp w' H' v b a c
        | ex xx ε' => exact fun w' σ' H' cc dx a b c d => hp w' H' cc dx c a d
    · exact hp.elim
theorem body_ok {T : Tb} {G : Gx} {Γ : Tab} {turns : Nat} {P : Program} {wo : World} {K : PySem.W.Frag} {cs : List (Addr × Addr)} {mg : Str → Option Value} {base : Heap} {f : Nat} {a : Addr} (ok : LamOk T) (hTB : ∀ p ∈ cs, _root_.LamX.TabB base mg p.1 p.2) (B : FnBody T Γ K cs G.tabs f a) : ∀ k, (∀ j, k = j + 1 → Lw T G (evCall Γ turns j) P wo K mg base j) →
    PySem.W.keepIn K (.ref a) = true ∧ ∃ fd ps, FnOk P wo K mg base (L2.CX P wo) (4 * k) a fd ps (spOf G (evCall Γ turns k f)) ∧ (∀ n dv, T.dvB f n dv = true → dv.all flatD = true ∧ ∃ ds, Vals (dv.map vOf) ds ∧ Binds K fd ps ds) ∧
      ∀ n ks pm, T.kwB f n ks pm = true → pmFlat pm = true ∧ ∃ g, KBn K fd ps n ks g fun vs zs => pmV (vs ++ zs) pm
  | 0, _ => by
    obtain ⟨ps, N, st, x, qual, body, oc, od, an, dV, kV, doc, pm, cdv, ct, osl, b, h1, h2, kp, h3, h4, h5, h7, h6⟩ := B.ex
    exact ⟨kp, _, ps, ⟨fun vs H Q E z => by obtain ⟨w, S, ds, _, _, z⟩ := z; exact z.elim, fun A outer s H args us vs Q E _ _ _ _ z => by obtain ⟨w, S, ds, _, _, z⟩ := z; exact z.elim⟩, h6⟩
  | k + 1, lw => by
    obtain ⟨ps, N, st, x, qual, body, oc, od, an, dV, kV, doc, pm, cdv, ct, osl, b, h1, h2, kp, h3, h4, h5, h7, h6⟩ := B.ex
    refine ⟨kp, _, ps, fn_ok h1 h2 h3 (lw k rfl) ok (fun hb => ?_) h4 h5, h6⟩
    obtain ⟨c, P', e1, e2, e3, e4⟩ := h7 hb
    exact ⟨c, P', e1, hTB _ e2, e3, e4⟩
/-- what the law's module gives -/
structure Facts (T : Tb) (G : Gx) (Γ : Tab) (K : PySem.W.Frag) (cs : List (Addr × Addr)) (mg : Str → Option Value) : Prop where
  hf : ∀ f, T.isF f = true → FnFact T Γ K cs G.tabs mg f
  rev : mg "reversed" = none
  srt : mg "sorted" = none
  blt : ∀ b, mg (bltN b) = none
  rng : mg "range" = none
  zip : mg "zip" = none
  enu : mg "enumerate" = none
  isi : mg "isinstance" = none
  tys : ∀ t, mg (Str.ofString (tyN t)) = none
  con : ∀ x d, T.conB x d = true → flatD d = true ∧ ∃ u, mg x = some u ∧ RelV (vOf d) u
  mth : ∀ f c m, T.mthB f c m = true → MthFact T Γ G K cs G.tabs f c m
  mkd : ∀ f c, T.mkB f c = true → MkFact T Γ G K cs G.tabs mg f c
  fld : ∀ c f C, T.fldB c f = true → G.cls c = some C → NoAttr K C f
  dct : mg "dict" = none
  lam : LamOk T
theorem lw_all {T : Tb} {G : Gx} {Γ : Tab} {turns : Nat} {P : Program} {wo : World} {K : PySem.W.Frag} {cs : List (Addr × Addr)} {mg : Str → Option Value} {base : Heap} (hK : G.K = K) (F : Facts T G Γ K cs mg) (hTB : ∀ p ∈ cs, _root_.LamX.TabB base mg p.1 p.2) : ∀ k, Lw T G (evCall Γ turns k) P wo K mg base k := by
  have mk : ∀ k, (∀ j, k = j + 1 → Lw T G (evCall Γ turns j) P wo K mg base j) → Lw T G (evCall Γ turns k) P wo K mg base k := fun k lw =>
    ⟨hK, fun f h => by
      obtain ⟨a, h1, B⟩ := (F.hf f h).ex
      obtain ⟨kp, fd, ps, h2, h3⟩ := body_ok F.lam hTB B k lw
      exact ⟨a, fd, ps, h1, kp, h2, h3⟩, F.rev, F.srt, F.blt, F.rng, F.zip, F.enu, F.isi, F.tys, F.con, fun f c m h => by
      obtain ⟨C, a, h1, h2, h3, B⟩ := (F.mth f c m h).ex
      obtain ⟨kp, fd, ps, h4, h5⟩ := body_ok F.lam hTB B k lw
      exact ⟨C, a, fd, ps, h1, h2, h3, h4, h5⟩, fun f c h => by
      obtain ⟨C, a, h0, h1, h2, h3, B⟩ := (F.mkd f c h).ex
      obtain ⟨kp, fd, ps, h4, h5⟩ := body_ok F.lam hTB B k lw
      exact ⟨C, a, fd, ps, h0, h1, h2, h3, h4, h5⟩, F.fld, F.dct⟩
  intro k
  induction k with
  | zero => exact mk 0 fun j h => by cases h
  | succ k ih => exact mk (k + 1) fun j h => by cases h; exact ih
end BX
set_option Elab.async false
set_option linter.all false
set_option maxRecDepth 100000
set_option maxHeartbeats 2000000
/-! BX8: from the evaluator to a law. -/
namespace BX
open PySem L2
open PyProof.Rows hiding St Binds

/-- the code object that holds a def's lambda -/
def CdvL (L : Option (Addr × Addr)) (cdv : Value) : Prop := ∀ c P, L = some (c, P) → cdv = .ref c
def LOk (cs : List (Addr × Addr)) (tabs : List (Addr × Str)) (qual : Str) (L : Option (Addr × Addr)) : Prop := ∀ c P, L = some (c, P) → (c, P) ∈ cs ∧ (P, lamQ qual) ∈ tabs ∧ ∀ p ∈ tabs, p.1 = P → p.2 = lamQ qual
theorem cdvL_none {cdv : Value} : CdvL none cdv := fun _ _ z => nomatch z
theorem cdvL_ref {c P : Addr} : CdvL (some (c, P)) (.ref c) := fun _ _ z => by cases z; rfl
theorem lOk_none {cs : List (Addr × Addr)} {tabs : List (Addr × Str)} {qual : Str} : LOk cs tabs qual none := fun _ _ z => nomatch z
theorem lOk_get {cs : List (Addr × Addr)} {tabs : List (Addr × Str)} {qual : Str} {L : Option (Addr × Addr)} {cdv : Value} (hc : CdvL L cdv) (hl : LOk cs tabs qual L) : L.isSome = true → ∃ c P, cdv = .ref c ∧ (c, P) ∈ cs ∧ (P, lamQ qual) ∈ tabs ∧ ∀ p ∈ tabs, p.1 = P → p.2 = lamQ qual := fun h => by
  obtain ⟨⟨c, P⟩, e⟩ := Option.isSome_iff_exists.mp h
  obtain ⟨h1, h2, h3⟩ := hl c P e
  exact ⟨c, P, hc c P e, h1, h2, h3⟩
/-- a def as the top has made it -/
def FnAt (K : PySem.W.Frag) (x : Str) (st : Stmt) (L : Option (Addr × Addr) := none) : Prop := ∃ (f : Addr) (oc : Value) (od an : Option Addr) (kV doc pm cdv ct : Value) (osl : Array (Option Value)),
  PySem.W.nsIn K mainGlobals x = some (some (.ref f)) ∧ K.lookup f = some ⟨oc, od, .func (PySem.W.fnOf x x (defArgs st) (defBody st) (defScope st) .none kV doc pm an cdv ct), osl⟩ ∧
    PySem.W.codeIn K cdv x = true ∧ PySem.W.keepIn K (.ref f) = true ∧ CdvL L cdv
theorem fnAt_mk {K : PySem.W.Frag} {x : Str} {st : Stmt} {f : Addr} {oc : Value} {od an : Option Addr} {kV doc pm cdv ct : Value} {osl : Array (Option Value)} (h1 : PySem.W.nsIn K mainGlobals x = some (some (.ref f)))
    (h2 : K.lookup f = some ⟨oc, od, .func (PySem.W.fnOf x x (defArgs st) (defBody st) (defScope st) .none kV doc pm an cdv ct), osl⟩) (h3 : PySem.W.codeIn K cdv x = true) (h4 : PySem.W.keepIn K (.ref f) = true) : FnAt K x st :=
  ⟨f, oc, od, an, kV, doc, pm, cdv, ct, osl, h1, h2, h3, h4, cdvL_none⟩
theorem fnAt_mkL {K : PySem.W.Frag} {x : Str} {st : Stmt} {f : Addr} {oc : Value} {od an : Option Addr} {kV doc pm ct : Value} {c P : Addr} {osl : Array (Option Value)} (h1 : PySem.W.nsIn K mainGlobals x = some (some (.ref f)))
    (h2 : K.lookup f = some ⟨oc, od, .func (PySem.W.fnOf x x (defArgs st) (defBody st) (defScope st) .none kV doc pm an (.ref c) ct), osl⟩) (h3 : PySem.W.codeIn K (.ref c) x = true) (h4 : PySem.W.keepIn K (.ref f) = true) : FnAt K x st (some (c, P)) :=
  ⟨f, oc, od, an, kV, doc, pm, _, ct, osl, h1, h2, h3, h4, cdvL_ref⟩
structure Blts (K : PySem.W.Frag) : Prop where
  h1 : PySem.W.nsIn K mainGlobals "len" = some none
  h2 : PySem.W.nsIn K mainGlobals "abs" = some none
  h3 : PySem.W.nsIn K mainGlobals "max" = some none
  h4 : PySem.W.nsIn K mainGlobals "min" = some none
  h5 : PySem.W.nsIn K mainGlobals "sum" = some none
  h6 : PySem.W.nsIn K mainGlobals "all" = some none
  h7 : PySem.W.nsIn K mainGlobals "any" = some none
  h8 : PySem.W.nsIn K mainGlobals "tuple" = some none
  h9 : PySem.W.nsIn K mainGlobals "list" = some none
  h10 : PySem.W.nsIn K mainGlobals "range" = some none
  h11 : PySem.W.nsIn K mainGlobals "zip" = some none
  h12 : PySem.W.nsIn K mainGlobals "isinstance" = some none
  h13 : PySem.W.nsIn K mainGlobals "int" = some none
  h14 : PySem.W.nsIn K mainGlobals "bool" = some none
  h15 : PySem.W.nsIn K mainGlobals "str" = some none
  h16 : PySem.W.nsIn K mainGlobals "dict" = some none
  h17 : PySem.W.nsIn K mainGlobals "reversed" = some none
  h18 : PySem.W.nsIn K mainGlobals "sorted" = some none
  h19 : PySem.W.nsIn K mainGlobals "enumerate" = some none
theorem funD_mk {K : PySem.W.Frag} {x qual : Str} {st : Stmt} {f : Addr} {oc : Value} {od an : Option Addr} {dV kV doc pm cdv ct : Value} {osl : Array (Option Value)} {dvs : List V} {kws : List (Str × V)}
    (h2 : K.lookup f = some ⟨oc, od, .func (PySem.W.fnOf x qual (defArgs st) (defBody st) (defScope st) dV kV doc pm an cdv ct), osl⟩) (h3 : PySem.W.codeIn K cdv qual = true) (h4 : PySem.W.keepIn K (.ref f) = true) (h5 : DflV K dV dvs) (h6 : KwdV K kV kws) :
    FunD K x qual (defArgs st) (defBody st) (defScope st) dvs kws f (PySem.W.fnOf x qual (defArgs st) (defBody st) (defScope st) dV kV doc pm an cdv ct) := ⟨⟨oc, od, dV, kV, doc, pm, an, cdv, ct, osl, rfl, h2, h3, h5, h6⟩, h4⟩
theorem body_of {T : Tb} {Γ : Tab} {cs : List (Addr × Addr)} {tabs : List (Addr × Str)} {L : Option (Addr × Addr)} {K : PySem.W.Frag} {f : Nat} {x qual : Str} {st : Stmt} {N ps : List Str} {body : List Sm} {a : Addr} {oc : Value} {od an : Option Addr} {kV doc pm cdv ct : Value} {osl : Array (Option Value)}
    (h2 : K.lookup a = some ⟨oc, od, .func (PySem.W.fnOf x qual (defArgs st) (defBody st) (defScope st) .none kV doc pm an cdv ct), osl⟩) (h3 : PySem.W.codeIn K cdv qual = true) (h4 : PySem.W.keepIn K (.ref a) = true) (hc : CdvL L cdv) (hl : LOk cs tabs qual L) (S : FnScope N ps (defScope st))
    (hΓ : Γ f = some ⟨ps.length, N.length, body⟩) (hch : chB (T.sub L.isSome) N (defScope st) (locB (defScope st)) body (defBody st) = true)
    (hb : ∀ (kV doc pm : Value) (an : Option Addr) (cdv ct : Value) (us : List Value), us.length = ps.length → bindArgs (PySem.W.fnOf x qual (defArgs st) (defBody st) (defScope st) .none kV doc pm an cdv ct) ⟨us, []⟩ = pure (ps.zip us))
    (hdv : ∀ n dv, T.dvB f n dv = true → dv = []) (hkw : ∀ n ks pm, T.kwB f n ks pm = false) : FnBody T Γ K cs tabs f a := by
  refine ⟨ps, N, st, x, qual, body, oc, od, an, .none, kV, doc, pm, cdv, ct, osl, L.isSome, h2, h3, h4, S, hΓ, hch, lOk_get hc hl, fun n dv hd => ?_, fun n ks pm hd => by rw [hkw] at hd; cases hd⟩
  obtain rfl := hdv n dv hd
  exact ⟨rfl, [], .nil, (fun_mk h2 h3 h4).binds hb⟩
theorem fact_of {T : Tb} {Γ : Tab} {cs : List (Addr × Addr)} {tabs : List (Addr × Str)} {L : Option (Addr × Addr)} {K : PySem.W.Frag} {mg : Str → Option Value} {h : Heap} {f : Nat} {x : Str} {st : Stmt} {N ps : List Str} {body : List Sm} (X : K.In h) (G : h.Ns mainGlobals mg) (A : FnAt K x st L) (hx : T.nm f = x) (S : FnScope N ps (defScope st))
    (hΓ : Γ f = some ⟨ps.length, N.length, body⟩) (hch : chB (T.sub L.isSome) N (defScope st) (locB (defScope st)) body (defBody st) = true)
    (hb : ∀ (kV doc pm : Value) (an : Option Addr) (cdv ct : Value) (us : List Value), us.length = ps.length → bindArgs (PySem.W.fnOf x x (defArgs st) (defBody st) (defScope st) .none kV doc pm an cdv ct) ⟨us, []⟩ = pure (ps.zip us))
    (hdv : ∀ n dv, T.dvB f n dv = true → dv = []) (hkw : ∀ n ks pm, T.kwB f n ks pm = false) (hl : LOk cs tabs x L := by exact lOk_none) : FnFact T Γ K cs tabs mg f := by
  obtain ⟨a, oc, od, an, kV, doc, pm, cdv, ct, osl, h1, h2, h3, h4, hc⟩ := A
  exact ⟨a, by rw [hx]; exact PySem.W.mg_of X G h1, body_of h2 h3 h4 hc hl S hΓ hch hb hdv hkw⟩
/-- a def with keyword-only defaults -/
def FnAtK (K : PySem.W.Frag) (x : Str) (st : Stmt) (kws : List (Str × V)) (L : Option (Addr × Addr) := none) : Prop := ∃ (f : Addr) (oc : Value) (od an : Option Addr) (kV doc pm cdv ct : Value) (osl : Array (Option Value)),
  PySem.W.nsIn K mainGlobals x = some (some (.ref f)) ∧ K.lookup f = some ⟨oc, od, .func (PySem.W.fnOf x x (defArgs st) (defBody st) (defScope st) .none kV doc pm an cdv ct), osl⟩ ∧
    PySem.W.codeIn K cdv x = true ∧ PySem.W.keepIn K (.ref f) = true ∧ KwdV K kV kws ∧ CdvL L cdv
theorem fnAtK_int {K : PySem.W.Frag} {x n1 : Str} {st : Stmt} {f D : Addr} {oc : Value} {od an : Option Addr} {doc pm cdv ct : Value} {osl : Array (Option Value)} {i : Int} {tk : Tok} (h1 : PySem.W.nsIn K mainGlobals x = some (some (.ref f)))
    (h2 : K.lookup f = some ⟨oc, od, .func (PySem.W.fnOf x x (defArgs st) (defBody st) (defScope st) .none (.ref D) doc pm an cdv ct), osl⟩) (h3 : PySem.W.codeIn K cdv x = true) (h4 : PySem.W.keepIn K (.ref f) = true)
    (h5 : PySem.W.nsIn K D n1 = some (some (.int i tk))) : FnAtK K x st [(n1, .int i)] :=
  ⟨f, oc, od, an, _, doc, pm, cdv, ct, osl, h1, h2, h3, h4, .inr ⟨D, rfl, fun q hq => by obtain rfl := List.mem_singleton.mp hq; exact ⟨_, h5, tk, rfl⟩⟩, cdvL_none⟩
theorem fnAtK_non {K : PySem.W.Frag} {x n1 : Str} {st : Stmt} {f D : Addr} {oc : Value} {od an : Option Addr} {doc pm cdv ct : Value} {osl : Array (Option Value)} (h1 : PySem.W.nsIn K mainGlobals x = some (some (.ref f)))
    (h2 : K.lookup f = some ⟨oc, od, .func (PySem.W.fnOf x x (defArgs st) (defBody st) (defScope st) .none (.ref D) doc pm an cdv ct), osl⟩) (h3 : PySem.W.codeIn K cdv x = true) (h4 : PySem.W.keepIn K (.ref f) = true)
    (h5 : PySem.W.nsIn K D n1 = some (some .none)) : FnAtK K x st [(n1, .non)] :=
  ⟨f, oc, od, an, _, doc, pm, cdv, ct, osl, h1, h2, h3, h4, .inr ⟨D, rfl, fun q hq => by obtain rfl := List.mem_singleton.mp hq; exact ⟨_, h5, rfl⟩⟩, cdvL_none⟩
theorem pmV_range {α : Type} {z : α} (l : List α) : (List.range l.length).map (fun j => l.getD j z) = l := by
  apply List.ext_getElem?
  intro i
  by_cases h : i < l.length
  · rw [List.getElem?_map, List.getElem?_range h]
    simp [h]
  · rw [List.getElem?_eq_none (by rw [List.length_map, List.length_range]; omega), List.getElem?_eq_none (by omega)]
theorem pmV_eq (l : List V) : ∀ js : List Nat, pmV l (js.map .inl) = js.map fun j => l.getD j .non
  | [] => rfl
  | j :: js => by simp only [List.map_cons, pmV, pmV_eq l js]
theorem vals_getD : ∀ {vs : List V} {us : List Value}, Vals vs us → ∀ j, RelV (vs.getD j .non) (us.getD j .none)
  | _, _, .nil, j => by simp; rfl
  | _, _, .cons r rs, 0 => by simpa using r
  | _, _, .cons r rs, j + 1 => by simpa using vals_getD rs j
theorem vals_map {α : Type} {f : α → V} {g : α → Value} (h : ∀ j, RelV (f j) (g j)) : ∀ js : List α, Vals (js.map f) (js.map g)
  | [] => .nil
  | j :: js => .cons (h j) (vals_map h js)
theorem body_ofK {T : Tb} {Γ : Tab} {cs : List (Addr × Addr)} {tabs : List (Addr × Str)} {L : Option (Addr × Addr)} {K : PySem.W.Frag} {f n0 : Nat} {x qual : Str} {st : Stmt} {N ps : List Str} {body : List Sm} {kws : List (Str × V)} {a : Addr} {oc : Value} {od an : Option Addr} {kV doc pm cdv ct : Value} {osl : Array (Option Value)}
    (h2 : K.lookup a = some ⟨oc, od, .func (PySem.W.fnOf x qual (defArgs st) (defBody st) (defScope st) .none kV doc pm an cdv ct), osl⟩) (h3 : PySem.W.codeIn K cdv qual = true) (h4 : PySem.W.keepIn K (.ref a) = true) (h5 : KwdV K kV kws) (hc : CdvL L cdv) (hl : LOk cs tabs qual L) (S : FnScope N ps (defScope st))
    (hΓ : Γ f = some ⟨ps.length, N.length, body⟩) (hch : chB (T.sub L.isSome) N (defScope st) (locB (defScope st)) body (defBody st) = true) (hk : kws ≠ []) (hn : n0 + kws.length = ps.length)
    (hb : ∀ (D : Addr) (doc pm : Value) (an : Option Addr) (cdv ct : Value) (us ks : List Value), us.length = n0 → ks.length = kws.length →
      KwChain D ((kws.map (·.1)).zip ks) (bindArgs (PySem.W.fnOf x qual (defArgs st) (defBody st) (defScope st) .none (.ref D) doc pm an cdv ct) ⟨us, []⟩) (ps.zip (us ++ ks)))
    (hbk : ∀ (kV doc pm : Value) (an : Option Addr) (cdv ct : Value) (us ws : List Value), us.length = n0 → ws.length = kws.length →
      bindArgs (PySem.W.fnOf x qual (defArgs st) (defBody st) (defScope st) .none kV doc pm an cdv ct) ⟨us, (kws.map (·.1)).zip ws⟩ = pure (ps.zip (us ++ ws)))
    (hdv : ∀ n dv, T.dvB f n dv = true → dv.all flatD = true ∧ dv.map vOf = kws.map (·.2)) (hkw : ∀ n ks pm, T.kwB f n ks pm = true → n = n0 ∧ ks = kws.map (·.1) ∧ pmFlat pm = true ∧ pm = (List.range ps.length).map .inl) : FnBody T Γ K cs tabs f a := by
  have FD := funD_mk (dvs := []) (st := st) h2 h3 h4 (.inl ⟨rfl, rfl⟩) h5
  refine ⟨ps, N, st, x, qual, body, oc, od, an, .none, kV, doc, pm, cdv, ct, osl, L.isSome, h2, h3, h4, S, hΓ, hch, lOk_get hc hl, fun n dv hd => ?_, fun n ks pmm hd => ?_⟩
  · obtain ⟨e1, e2⟩ := hdv n dv hd
    refine ⟨e1, ?_⟩
    rw [e2]
    exact FD.binds0 n0 hk hn hb
  · obtain ⟨rfl, rfl, e1, rfl⟩ := hkw n ks pmm hd
    refine ⟨e1, fun us ws => (List.range ps.length).map fun j => (us ++ ws).getD j .none, ⟨fun s us ws _ l1 l2 => ?_, fun {vs us zs ws} r1 r2 => ?_⟩⟩
    · have l3 : ws.length = kws.length := by rw [l2, List.length_map]
      have e3 : (List.range ps.length).map (fun j => (us ++ ws).getD j .none) = us ++ ws := by
        rw [show ps.length = (us ++ ws).length by rw [List.length_append, l1, l3, hn]]
        exact pmV_range _
      rw [e3]
      exact .of_eq (hbk _ _ _ _ _ _ us ws l1 l3)
    · rw [pmV_eq]
      exact vals_map (vals_getD (r1.append r2)) _
theorem fact_ofK {T : Tb} {Γ : Tab} {cs : List (Addr × Addr)} {tabs : List (Addr × Str)} {L : Option (Addr × Addr)} {K : PySem.W.Frag} {mg : Str → Option Value} {h : Heap} {f n0 : Nat} {x : Str} {st : Stmt} {N ps : List Str} {body : List Sm} {kws : List (Str × V)} (X : K.In h) (G : h.Ns mainGlobals mg) (A : FnAtK K x st kws L) (hx : T.nm f = x) (S : FnScope N ps (defScope st))
    (hΓ : Γ f = some ⟨ps.length, N.length, body⟩) (hch : chB (T.sub L.isSome) N (defScope st) (locB (defScope st)) body (defBody st) = true) (hk : kws ≠ []) (hn : n0 + kws.length = ps.length)
    (hb : ∀ (D : Addr) (doc pm : Value) (an : Option Addr) (cdv ct : Value) (us ks : List Value), us.length = n0 → ks.length = kws.length →
      KwChain D ((kws.map (·.1)).zip ks) (bindArgs (PySem.W.fnOf x x (defArgs st) (defBody st) (defScope st) .none (.ref D) doc pm an cdv ct) ⟨us, []⟩) (ps.zip (us ++ ks)))
    (hbk : ∀ (kV doc pm : Value) (an : Option Addr) (cdv ct : Value) (us ws : List Value), us.length = n0 → ws.length = kws.length →
      bindArgs (PySem.W.fnOf x x (defArgs st) (defBody st) (defScope st) .none kV doc pm an cdv ct) ⟨us, (kws.map (·.1)).zip ws⟩ = pure (ps.zip (us ++ ws)))
    (hdv : ∀ n dv, T.dvB f n dv = true → dv.all flatD = true ∧ dv.map vOf = kws.map (·.2)) (hkw : ∀ n ks pm, T.kwB f n ks pm = true → n = n0 ∧ ks = kws.map (·.1) ∧ pmFlat pm = true ∧ pm = (List.range ps.length).map .inl) (hl : LOk cs tabs x L := by exact lOk_none) : FnFact T Γ K cs tabs mg f := by
  obtain ⟨a, oc, od, an, kV, doc, pm, cdv, ct, osl, h1, h2, h3, h4, h5, hc⟩ := A
  exact ⟨a, by rw [hx]; exact PySem.W.mg_of X G h1, body_ofK h2 h3 h4 h5 hc hl S hΓ hch hk hn hb hbk hdv hkw⟩
/-! classes -/
def clsOf (K : PySem.W.Frag) (c : Str) : Option Addr := match PySem.W.nsIn K mainGlobals c with
  | some (some (.ref C)) => some C
  | _ => none
theorem clsOf_at {K : PySem.W.Frag} {c : Str} {C : Addr} (h : PySem.W.nsIn K mainGlobals c = some (some (.ref C))) : clsOf K c = some C := by unfold clsOf; rw [h]
/-- a class as the top has made it -/
def ClsAt (K : PySem.W.Frag) (c : Str) (fs : List Str) : Prop := ∃ C, PySem.W.nsIn K mainGlobals c = some (some (.ref C)) ∧ Cls K C ∧ PySem.W.makesIn K C = true ∧ PySem.W.keepIn K (.ref C) = true ∧ ∀ f ∈ fs, NoAttr K C f
theorem clsAt_mk {K : PySem.W.Frag} {c : Str} {C : Addr} (h : PySem.W.nsIn K mainGlobals c = some (some (.ref C))) (pg : PySem.W.plainGet K C Str.empty = true) (hd : PySem.W.hasDictIn K C = true) (po : PySem.W.plainOver K C = true) (sa : PySem.W.findIn K (.ref C) "__setattr__" = some (some (.builtin "object.__setattr__")))
    (mk : PySem.W.makesIn K C = true) (kc : PySem.W.keepIn K (.ref C) = true) : ClsAt K c [] := ⟨C, h, ⟨pg, hd, po, sa⟩, mk, kc, fun f hf => by simp at hf⟩
theorem clsAt_fld {K : PySem.W.Frag} {c f : Str} {fs : List Str} {C : Addr} (h : PySem.W.nsIn K mainGlobals c = some (some (.ref C))) (n : PySem.W.findIn K (.ref C) f = some none) (A : ClsAt K c fs) : ClsAt K c (f :: fs) := by
  obtain ⟨C', h1, h2, h3, h4, h5⟩ := A
  rw [h] at h1
  cases h1
  refine ⟨C, h, h2, h3, h4, fun g hg => ?_⟩
  rcases List.mem_cons.mp hg with rfl | hg
  · exact n
  · exact h5 g hg
theorem ClsAt.fld {K : PySem.W.Frag} {c : Str} {fs : List Str} {C : Addr} (A : ClsAt K c fs) (h : clsOf K c = some C) {f : Str} (hf : f ∈ fs) : NoAttr K C f := by
  obtain ⟨C', h1, _, _, _, h5⟩ := A
  rw [clsOf_at h1] at h
  cases h
  exact h5 f hf
/-- a method as the top has made it -/
def MthAt (K : PySem.W.Frag) (c m qual : Str) (st : Stmt) (kws : List (Str × V)) (L : Option (Addr × Addr) := none) : Prop := ∃ (C f : Addr) (oc : Value) (od an : Option Addr) (kV doc pm cdv ct : Value) (osl : Array (Option Value)), PySem.W.nsIn K mainGlobals c = some (some (.ref C)) ∧
  PySem.W.findIn K (.ref C) m = some (some (.ref f)) ∧ PySem.W.isFn K (.ref f) = true ∧ K.lookup f = some ⟨oc, od, .func (PySem.W.fnOf m qual (defArgs st) (defBody st) (defScope st) .none kV doc pm an cdv ct), osl⟩ ∧
    PySem.W.codeIn K cdv qual = true ∧ PySem.W.keepIn K (.ref f) = true ∧ KwdV K kV kws ∧ CdvL L cdv
theorem mthAt_mk {K : PySem.W.Frag} {c m qual : Str} {st : Stmt} {C f : Addr} {oc : Value} {od an : Option Addr} {doc pm cdv ct : Value} {osl : Array (Option Value)} (h0 : PySem.W.nsIn K mainGlobals c = some (some (.ref C))) (h1 : PySem.W.findIn K (.ref C) m = some (some (.ref f))) (hi : PySem.W.isFn K (.ref f) = true)
    (h2 : K.lookup f = some ⟨oc, od, .func (PySem.W.fnOf m qual (defArgs st) (defBody st) (defScope st) .none .none doc pm an cdv ct), osl⟩) (h3 : PySem.W.codeIn K cdv qual = true) (h4 : PySem.W.keepIn K (.ref f) = true) : MthAt K c m qual st [] :=
  ⟨C, f, oc, od, an, _, doc, pm, cdv, ct, osl, h0, h1, hi, h2, h3, h4, .inl rfl, cdvL_none⟩
theorem mthAt_mkL {K : PySem.W.Frag} {c m qual : Str} {st : Stmt} {C f : Addr} {oc : Value} {od an : Option Addr} {doc pm ct : Value} {cc P : Addr} {osl : Array (Option Value)} (h0 : PySem.W.nsIn K mainGlobals c = some (some (.ref C))) (h1 : PySem.W.findIn K (.ref C) m = some (some (.ref f))) (hi : PySem.W.isFn K (.ref f) = true)
    (h2 : K.lookup f = some ⟨oc, od, .func (PySem.W.fnOf m qual (defArgs st) (defBody st) (defScope st) .none .none doc pm an (.ref cc) ct), osl⟩) (h3 : PySem.W.codeIn K (.ref cc) qual = true) (h4 : PySem.W.keepIn K (.ref f) = true) : MthAt K c m qual st [] (some (cc, P)) :=
  ⟨C, f, oc, od, an, _, doc, pm, _, ct, osl, h0, h1, hi, h2, h3, h4, .inl rfl, cdvL_ref⟩
theorem mthAt_int {K : PySem.W.Frag} {c m qual n1 : Str} {st : Stmt} {C f D : Addr} {oc : Value} {od an : Option Addr} {doc pm cdv ct : Value} {osl : Array (Option Value)} {i : Int} {tk : Tok} (h0 : PySem.W.nsIn K mainGlobals c = some (some (.ref C))) (h1 : PySem.W.findIn K (.ref C) m = some (some (.ref f))) (hi : PySem.W.isFn K (.ref f) = true)
    (h2 : K.lookup f = some ⟨oc, od, .func (PySem.W.fnOf m qual (defArgs st) (defBody st) (defScope st) .none (.ref D) doc pm an cdv ct), osl⟩) (h3 : PySem.W.codeIn K cdv qual = true) (h4 : PySem.W.keepIn K (.ref f) = true) (h5 : PySem.W.nsIn K D n1 = some (some (.int i tk))) : MthAt K c m qual st [(n1, .int i)] :=
  ⟨C, f, oc, od, an, _, doc, pm, cdv, ct, osl, h0, h1, hi, h2, h3, h4, .inr ⟨D, rfl, fun q hq => by obtain rfl := List.mem_singleton.mp hq; exact ⟨_, h5, tk, rfl⟩⟩, cdvL_none⟩
theorem mthAt_non {K : PySem.W.Frag} {c m qual n1 : Str} {st : Stmt} {C f D : Addr} {oc : Value} {od an : Option Addr} {doc pm cdv ct : Value} {osl : Array (Option Value)} (h0 : PySem.W.nsIn K mainGlobals c = some (some (.ref C))) (h1 : PySem.W.findIn K (.ref C) m = some (some (.ref f))) (hi : PySem.W.isFn K (.ref f) = true)
    (h2 : K.lookup f = some ⟨oc, od, .func (PySem.W.fnOf m qual (defArgs st) (defBody st) (defScope st) .none (.ref D) doc pm an cdv ct), osl⟩) (h3 : PySem.W.codeIn K cdv qual = true) (h4 : PySem.W.keepIn K (.ref f) = true) (h5 : PySem.W.nsIn K D n1 = some (some .none)) : MthAt K c m qual st [(n1, .non)] :=
  ⟨C, f, oc, od, an, _, doc, pm, cdv, ct, osl, h0, h1, hi, h2, h3, h4, .inr ⟨D, rfl, fun q hq => by obtain rfl := List.mem_singleton.mp hq; exact ⟨_, h5, rfl⟩⟩, cdvL_none⟩
/-- a constant of the module -/
def ConAt (K : PySem.W.Frag) (x : Str) (v : V) : Prop := ∃ u, PySem.W.nsIn K mainGlobals x = some (some u) ∧ RelV v u
theorem conAt_int {K : PySem.W.Frag} {x : Str} {i : Int} {t : Tok} (h : PySem.W.nsIn K mainGlobals x = some (some (.int i t))) : ConAt K x (.int i) := ⟨_, h, t, rfl⟩
theorem conAt_str {K : PySem.W.Frag} {x y : Str} {t : Tok} (h : PySem.W.nsIn K mainGlobals x = some (some (.str y t))) : ConAt K x (.str y) := ⟨_, h, t, rfl⟩
theorem ConAt.mg {K : PySem.W.Frag} {mg : Str → Option Value} {h : Heap} {x : Str} {v : V} (X : K.In h) (G : h.Ns mainGlobals mg) (c : ConAt K x v) : ∃ u, mg x = some u ∧ RelV v u := by
  obtain ⟨u, h1, h2⟩ := c
  exact ⟨u, PySem.W.mg_of X G h1, h2⟩
def gx (K : PySem.W.Frag) (T : List (Addr × Str) := []) : Gx := ⟨K, clsOf K, fun _ _ _ _ _ => False, T⟩
theorem mth_of {T : Tb} {Γ : Tab} {cs : List (Addr × Addr)} {tabs : List (Addr × Str)} {L : Option (Addr × Addr)} {K : PySem.W.Frag} {f : Nat} {c m qual : Str} {st : Stmt} {N ps fs : List Str} {body : List Sm} (A : MthAt K c m qual st [] L) (B : ClsAt K c fs) (S : FnScope N ps (defScope st))
    (hΓ : Γ f = some ⟨ps.length, N.length, body⟩) (hch : chB (T.sub L.isSome) N (defScope st) (locB (defScope st)) body (defBody st) = true)
    (hb : ∀ (kV doc pm : Value) (an : Option Addr) (cdv ct : Value) (us : List Value), us.length = ps.length → bindArgs (PySem.W.fnOf m qual (defArgs st) (defBody st) (defScope st) .none kV doc pm an cdv ct) ⟨us, []⟩ = pure (ps.zip us))
    (hdv : ∀ n dv, T.dvB f n dv = true → dv = []) (hkw : ∀ n ks pm, T.kwB f n ks pm = false) (hl : LOk cs tabs qual L := by exact lOk_none) : MthFact T Γ (gx K tabs) K cs tabs f c m := by
  obtain ⟨C, a, oc, od, an, kV, doc, pm, cdv, ct, osl, h0, h1, hi, h2, h3, h4, h5, hc⟩ := A
  obtain ⟨C', g0, g1, _⟩ := B
  rw [h0] at g0
  cases g0
  exact ⟨C, a, clsOf_at h0, g1, ⟨h1, hi, h4⟩, body_of h2 h3 h4 hc hl S hΓ hch hb hdv hkw⟩
theorem mth_ofK {T : Tb} {Γ : Tab} {cs : List (Addr × Addr)} {tabs : List (Addr × Str)} {L : Option (Addr × Addr)} {K : PySem.W.Frag} {f n0 : Nat} {c m qual : Str} {st : Stmt} {N ps fs : List Str} {body : List Sm} {kws : List (Str × V)} (A : MthAt K c m qual st kws L) (B : ClsAt K c fs) (S : FnScope N ps (defScope st))
    (hΓ : Γ f = some ⟨ps.length, N.length, body⟩) (hch : chB (T.sub L.isSome) N (defScope st) (locB (defScope st)) body (defBody st) = true) (hk : kws ≠ []) (hn : n0 + kws.length = ps.length)
    (hb : ∀ (D : Addr) (doc pm : Value) (an : Option Addr) (cdv ct : Value) (us ks : List Value), us.length = n0 → ks.length = kws.length →
      KwChain D ((kws.map (·.1)).zip ks) (bindArgs (PySem.W.fnOf m qual (defArgs st) (defBody st) (defScope st) .none (.ref D) doc pm an cdv ct) ⟨us, []⟩) (ps.zip (us ++ ks)))
    (hbk : ∀ (kV doc pm : Value) (an : Option Addr) (cdv ct : Value) (us ws : List Value), us.length = n0 → ws.length = kws.length →
      bindArgs (PySem.W.fnOf m qual (defArgs st) (defBody st) (defScope st) .none kV doc pm an cdv ct) ⟨us, (kws.map (·.1)).zip ws⟩ = pure (ps.zip (us ++ ws)))
    (hdv : ∀ n dv, T.dvB f n dv = true → dv.all flatD = true ∧ dv.map vOf = kws.map (·.2)) (hkw : ∀ n ks pm, T.kwB f n ks pm = true → n = n0 ∧ ks = kws.map (·.1) ∧ pmFlat pm = true ∧ pm = (List.range ps.length).map .inl) (hl : LOk cs tabs qual L := by exact lOk_none) : MthFact T Γ (gx K tabs) K cs tabs f c m := by
  obtain ⟨C, a, oc, od, an, kV, doc, pm, cdv, ct, osl, h0, h1, hi, h2, h3, h4, h5, hc⟩ := A
  obtain ⟨C', g0, g1, _⟩ := B
  rw [h0] at g0
  cases g0
  exact ⟨C, a, clsOf_at h0, g1, ⟨h1, hi, h4⟩, body_ofK h2 h3 h4 h5 hc hl S hΓ hch hk hn hb hbk hdv hkw⟩
/-- the class's maker: its __init__ is a method of it -/
theorem mk_of {T : Tb} {Γ : Tab} {cs : List (Addr × Addr)} {tabs : List (Addr × Str)} {K : PySem.W.Frag} {mg : Str → Option Value} {h : Heap} {f : Nat} {c : Str} {fs : List Str} (X : K.In h) (G : h.Ns mainGlobals mg) (A : MthFact T Γ (gx K tabs) K cs tabs f c "__init__") (B : ClsAt K c fs) : MkFact T Γ (gx K tabs) K cs tabs mg f c := by
  obtain ⟨C, a, h1, h2, h3, h4⟩ := A.ex
  obtain ⟨C', g0, g1, g2, g3, _⟩ := B
  have : clsOf K c = some C := h1
  rw [clsOf_at g0] at this
  cases this
  exact ⟨_, a, PySem.W.mg_of X G g0, h1, h2, ⟨g2, h3.at_, h3.fn, g3⟩, h4⟩
/-- what is known of the classes -/
structure CFacts (T : Tb) (Γ : Tab) (K : PySem.W.Frag) (cs : List (Addr × Addr)) (tabs : List (Addr × Str)) (mg : Str → Option Value) : Prop where
  mth : ∀ f c m, T.mthB f c m = true → MthFact T Γ (gx K tabs) K cs tabs f c m
  mkd : ∀ f c, T.mkB f c = true → MkFact T Γ (gx K tabs) K cs tabs mg f c
  fld : ∀ c f C, T.fldB c f = true → clsOf K c = some C → NoAttr K C f
theorem script_ok {K : PySem.W.Frag} {H : Hp} {a : Addr} {ns : List Int} {c : List D → Sto → R D} (hS : SqL K H a (ns.map V.int)) (h : ∃ S', c [.scr (ns.map .int)] [] = .ok (.bl true) S') {T : List (Addr × Str)} (hT : LamX.Tabs T H) : spOf (gx K T) c [.ref a] H (fun v _ => v = .bl true) fun _ _ _ => False := by
  obtain ⟨S', h⟩ := h
  have ri : ∀ (w : Wd) (l : List Int), RVs K w H (l.map V.int) (l.map D.int) := fun w l => by
    induction l with
    | nil => simp [RVs]
    | cons i l ih => simp only [List.map_cons, RVs]; exact ⟨_, _, rfl, by simp [RV], ih⟩
  refine ⟨⟨[], fun b => H b ≠ none ∧ NT (H b), fun _ z => by simp at z, List.nodup_nil⟩, [], [.scr (ns.map .int)], ⟨rfl, fun n o z => by simp at z, fun a h => h, hT⟩, ?_, ?_⟩
  · simp only [RVs, RV]
    refine ⟨_, [], rfl, ⟨a, ns.map V.int, rfl, ?_, ri _ _⟩, rfl⟩
    rcases hS with hS | hS
    · refine .inl ⟨⟨Rd.ne hS, ?_⟩, hS⟩
      rcases hS with hS | ⟨o, hS⟩ <;> rw [hS]
      · exact nt_lst
      · exact nt_frz
    · exact .inr hS
  · rw [h]
    intro w' H' v e hS' r
    simpa only [RV] using r
theorem blts_lw {T : Tb} {Γ : Tab} {K : PySem.W.Frag} {mg : Str → Option Value} {h : Heap} {cs : List (Addr × Addr)} {tabs : List (Addr × Str)} (KX : K.In h) (G : h.Ns mainGlobals mg) (h1 : ∀ f, T.isF f = true → FnFact T Γ K cs tabs mg f) (C : CFacts T Γ K cs tabs mg) (B : Blts K)
    (h3 : ∀ x d, T.conB x d = true → flatD d = true ∧ ∃ u, mg x = some u ∧ RelV (vOf d) u) (ok : LamOk T) : Facts T (gx K tabs) Γ K cs mg := by
  have mz : ∀ {y : Str}, PySem.W.nsIn K mainGlobals y = some none → mg y = none := fun z => PySem.W.mg_none_of KX G z
  exact ⟨h1, mz B.h17, mz B.h18,
    (fun b => by cases b <;> first | exact mz B.h1 | exact mz B.h2 | exact mz B.h3 | exact mz B.h4 | exact mz B.h5 | exact mz B.h6 | exact mz B.h7 | exact mz B.h8 | exact mz B.h9),
    mz B.h10, mz B.h11, mz B.h19, mz B.h12, (fun t => by cases t <;> first | exact mz B.h13 | exact mz B.h14 | exact mz B.h15 | exact mz B.h8 | exact mz B.h9 | exact mz B.h16), h3, C.mth, C.mkd, C.fld, mz B.h16, ok⟩
/-- the law itself holds no lambda -/
theorem fn_okD {T : Tb} {G : Gx} {Γ : Tab} {turns k : Nat} {P : Program} {wo : World} {K : PySem.W.Frag} {mg : Str → Option Value} {base : Heap} {f : Nat} {x qual : Str} {st : Stmt} {a : Addr} {N ps : List Str} {body : List Sm} {fd : FuncData}
    (F : FunD K x qual (defArgs st) (defBody st) (defScope st) [] [] a fd) (S : FnScope N ps (defScope st)) (lw : Lw T G (evCall Γ turns k) P wo K mg base k) (ok : LamOk T)
    (hΓ : Γ f = some ⟨ps.length, N.length, body⟩) (hch : chB (T.sub false) N (defScope st) (locB (defScope st)) body (defBody st) = true) : FnOk P wo K mg base (L2.CX P wo) (4 * (k + 1)) a fd ps (spOf G (evCall Γ turns (k + 1) f)) := by
  obtain ⟨⟨oc, od, dV, kV, doc, pm, an, cdv, ct, osl, rfl, h2, h3, _⟩, _⟩ := F
  exact fn_ok (b := false) h2 h3 S lw ok (fun z => nomatch z) hΓ hch
theorem law_walkC {l : PySem.W.OpenLaw} {q : Program} {loose : List Str} {XP : (Str → Option Value) → Heap → Prop} {YP : World → Heap → Prop} {d : DefRec} {K : Params → PySem.W.Frag} {T : Tb} {Γ : Tab} {turns kk fL : Nat} {x : Str}
    (hn : l.most = some 63) (hdf : d.params.defaults = []) (hr : Room (4 * (kk + 1)) callerA) (hY : ∀ (w : World) (h : Heap), YP w h → (K w.params).In h)
    (main : ∀ ns : List Int, ns.length ≤ 63 → ∃ S', evCall Γ turns (kk + 1) fL [.scr (ns.map .int)] [] = .ok (.bl true) S')
    (F : ∀ (w : World) (mg : Str → Option Value) (fa : Addr) (h : Heap), (K w.params).In h → h.Ns mainGlobals mg → mg d.name = some (.ref fa) →
      (∀ f, T.isF f = true → FnFact T Γ (K w.params) [] [] mg f) ∧ CFacts T Γ (K w.params) [] [] mg ∧ Blts (K w.params) ∧ (∀ x d, T.conB x d = true → flatD d = true ∧ ∃ u, mg x = some u ∧ RelV (vOf d) u) ∧
      ∃ (fd : FuncData) (N : List Str) (st : Stmt) (y qual : Str) (body : List Sm), FunD (K w.params) y qual (defArgs st) (defBody st) (defScope st) [] [] fa fd ∧ FnScope N [x] (defScope st) ∧ Γ fL = some ⟨1, N.length, body⟩ ∧ chB (T.sub false) N (defScope st) (locB (defScope st)) body (defBody st) = true ∧
        ∀ (s : Shared) (u : Value), BindsTo s fd ⟨[u], []⟩ [(x, u)]) (ok : LamOk T) :
    PySem.W.WalkO q loose XP YP l.row.toRowW d [] (fun f vs => PySem.call f vs) := by
  refine L2.walk_of (n := 63) (k := 4 * (kk + 1)) (x := x) (CX := fun w => L2.CX l.prog w) (sp := fun w => spOf (gx (K w.params)) (evCall Γ turns (kk + 1) fL)) hn (by decide) hdf hr hY (fun w mg fa h KX G hmg => ?_) (fun w H a ns hl _ hS => script_ok hS (main ns hl) (fun _ z => nomatch z)) fun w H s e s' ⟨_, _, _, _, _, _, _, _, _, _, _, _, z⟩ => z
  obtain ⟨h1, C, B, h3, fd, N, st, y, qual, body, h4, h5, h6, h7, h8⟩ := F w mg fa h KX G hmg
  refine ⟨fd, h8, fun base KB GB => ?_⟩
  have lw := lw_all (T := T) (G := gx (K w.params)) (Γ := Γ) (turns := turns) (P := l.prog) (wo := w) (K := K w.params) (cs := []) (mg := mg) (base := base) rfl (blts_lw KX G h1 C B h3 ok) (fun _ z => nomatch z) kk
  exact fn_okD h4 h5 lw ok h6 h7
/-- a law whose calls hold lambdas -/
theorem law_walkT {l : PySem.W.OpenLaw} {q : Program} {loose : List Str} {XP : (Str → Option Value) → Heap → Prop} {YP : World → Heap → Prop} {d : DefRec} {K : Params → PySem.W.Frag} {T : Tb} {Γ : Tab} {turns kk fL : Nat} {x : Str}
    (hn : l.most = some 63) (hdf : d.params.defaults = []) (hr : Room (4 * (kk + 1)) callerA) (hY : ∀ (w : World) (h : Heap), YP w h → (K w.params).In h)
    (main : ∀ ns : List Int, ns.length ≤ 63 → ∃ S', evCall Γ turns (kk + 1) fL [.scr (ns.map .int)] [] = .ok (.bl true) S')
    (F : ∀ (w : World) (mg : Str → Option Value) (fa : Addr) (h : Heap), YP w h → (K w.params).In h → h.Ns mainGlobals mg → mg d.name = some (.ref fa) → ∃ (cs : List (Addr × Addr)) (tabs : List (Addr × Str)),
      ((∀ p ∈ cs, h.get? p.2 = some { cls := .none, data := .fields #[] }) ∧ (∀ p ∈ cs, (K w.params).lookup p.2 = none) ∧ (∀ p ∈ cs, PySem.W.CodeHd h p.1 p.2) ∧ ∀ p ∈ tabs, ∃ z ∈ cs, z.2 = p.1) ∧
      (∀ f, T.isF f = true → FnFact T Γ (K w.params) cs tabs mg f) ∧ CFacts T Γ (K w.params) cs tabs mg ∧ Blts (K w.params) ∧ (∀ x d, T.conB x d = true → flatD d = true ∧ ∃ u, mg x = some u ∧ RelV (vOf d) u) ∧
      ∃ (fd : FuncData) (N : List Str) (st : Stmt) (y qual : Str) (body : List Sm), FunD (K w.params) y qual (defArgs st) (defBody st) (defScope st) [] [] fa fd ∧ FnScope N [x] (defScope st) ∧ Γ fL = some ⟨1, N.length, body⟩ ∧ chB (T.sub false) N (defScope st) (locB (defScope st)) body (defBody st) = true ∧
        ∀ (s : Shared) (u : Value), BindsTo s fd ⟨[u], []⟩ [(x, u)]) (ok : LamOk T) :
    PySem.W.WalkO q loose XP YP l.row.toRowW d [] (fun f vs => PySem.call f vs) := by
  refine _root_.LamX.walk_ofTs (n := 63) (k := 4 * (kk + 1)) (x := x) (CX := fun w => L2.CX l.prog w) hn (by decide) hdf hr hY (fun w mg fa h hYw KX G hmg => ?_) fun w H s e s' ⟨_, _, _, _, _, _, _, _, _, _, _, _, z⟩ => z
  obtain ⟨cs, tabs, ⟨t1, t2, t3, t4⟩, h1, C, B, h3, fd, N, st, y, qual, body, h4, h5, h6, h7, h8⟩ := F w mg fa h hYw KX G hmg
  refine ⟨fd, cs, spOf (gx (K w.params) tabs) (evCall Γ turns (kk + 1) fL), t1, t2, t3, h8, fun H a ns hl _ hH hS => script_ok hS (main ns hl) fun p hp => ?_, fun base KB GB hTB => ?_⟩
  · obtain ⟨z, hz, e⟩ := t4 p hp
    exact _root_.LamX.TabS.nil (by rw [← e]; exact hH z hz)
  · have lw := lw_all (T := T) (G := gx (K w.params) tabs) (Γ := Γ) (turns := turns) (P := l.prog) (wo := w) (K := K w.params) (cs := cs) (mg := mg) (base := base) rfl (blts_lw KX G h1 C B h3 ok) hTB kk
    exact fn_okD h4 h5 lw ok h6 h7
/-- a law without classes -/
theorem law_walk {l : PySem.W.OpenLaw} {q : Program} {loose : List Str} {XP : (Str → Option Value) → Heap → Prop} {YP : World → Heap → Prop} {d : DefRec} {K : Params → PySem.W.Frag} {T : Tb} {Γ : Tab} {turns kk fL : Nat} {x : Str}
    (hn : l.most = some 63) (hdf : d.params.defaults = []) (hr : Room (4 * (kk + 1)) callerA) (hY : ∀ (w : World) (h : Heap), YP w h → (K w.params).In h)
    (hm : T.mthB = fun _ _ _ => false) (hk : T.mkB = fun _ _ => false) (hf : T.fldB = fun _ _ => false)
    (main : ∀ ns : List Int, ns.length ≤ 63 → ∃ S', evCall Γ turns (kk + 1) fL [.scr (ns.map .int)] [] = .ok (.bl true) S')
    (F : ∀ (w : World) (mg : Str → Option Value) (fa : Addr) (h : Heap), (K w.params).In h → h.Ns mainGlobals mg → mg d.name = some (.ref fa) →
      (∀ f, T.isF f = true → FnFact T Γ (K w.params) [] [] mg f) ∧ Blts (K w.params) ∧ (∀ x d, T.conB x d = true → flatD d = true ∧ ∃ u, mg x = some u ∧ RelV (vOf d) u) ∧
      ∃ (fd : FuncData) (N : List Str) (st : Stmt) (y qual : Str) (body : List Sm), FunD (K w.params) y qual (defArgs st) (defBody st) (defScope st) [] [] fa fd ∧ FnScope N [x] (defScope st) ∧ Γ fL = some ⟨1, N.length, body⟩ ∧ chB (T.sub false) N (defScope st) (locB (defScope st)) body (defBody st) = true ∧
        ∀ (s : Shared) (u : Value), BindsTo s fd ⟨[u], []⟩ [(x, u)]) (ok : LamOk T) :
    PySem.W.WalkO q loose XP YP l.row.toRowW d [] (fun f vs => PySem.call f vs) := by
  refine law_walkC (T := T) (x := x) hn hdf hr hY main (fun w mg fa h KX G hmg => ?_) ok
  obtain ⟨h1, B, h3⟩ := F w mg fa h KX G hmg
  exact ⟨h1, ⟨fun f c m z => (by rw [hm] at z; cases z), fun f c z => (by rw [hk] at z; cases z), fun c f C z => (by rw [hf] at z; cases z)⟩, B, h3⟩
theorem lamOk_none {T : Tb} (h : T.lam = fun _ _ _ _ => false) : LamOk T := fun N key sc body z => by rw [h] at z; cases z
end BX
set_option Elab.async false
set_option linter.all false
set_option maxRecDepth 100000
/-! BX9: running the evaluator by simp. -/
namespace BX
open PySem L2
open PyProof.Rows hiding St Binds

theorem bd_congr {α β : Type} {r r' : R α} {f : α → Sto → R β} (h : r = r') : r.bd f = r'.bd f := by rw [h]
theorem lf_congr {α : Type} {r r' : R α} {ε : Env} {f : α → Sto → R Fl} (h : r = r') : r.lf ε f = r'.lf ε f := by rw [h]
def ifk {α : Type} (k : Bool) (a b : α) : α := if k = true then a else b
@[simp] theorem ifk_true {α : Type} {a b : α} : ifk true a b = a := (rfl)
@[simp] theorem ifk_false {α : Type} {a b : α} : ifk false a b = b := (rfl)
theorem ifk_congr {α : Type} {k k' : Bool} {a b : α} (h : k = k') : ifk k a b = ifk k' a b := by rw [h]
/-- an option's answer -/
def opk {α β : Type} (o : Option α) (f : α → R β) : R β := match o with
  | some a => f a
  | none => .stuck
@[simp] theorem opk_some {α β : Type} {a : α} {f : α → R β} : opk (some a) f = f a := (rfl)
theorem opk_congr {α β : Type} {o o' : Option α} {f : α → R β} (h : o = o') : opk o f = opk o' f := by rw [h]
/-- what comes behind a statement -/
def thn {β : Type} (r : R Fl) (k : Env → Sto → R Fl) : R Fl := r.bd fun f S1 => match f with
  | .nx ε' => k ε' S1
  | f => .ok f S1
@[simp] theorem thn_nx {ε : Env} {S : Sto} {k : Env → Sto → R Fl} : thn (β := Unit) (.ok (.nx ε) S) k = k ε S := (rfl)
@[simp] theorem thn_rt {d : D} {S : Sto} {k : Env → Sto → R Fl} : thn (β := Unit) (.ok (.rt d) S) k = .ok (.rt d) S := (rfl)
@[simp] theorem thn_bk {ε : Env} {S : Sto} {k : Env → Sto → R Fl} : thn (β := Unit) (.ok (.bk ε) S) k = .ok (.bk ε) S := (rfl)
@[simp] theorem thn_ct {ε : Env} {S : Sto} {k : Env → Sto → R Fl} : thn (β := Unit) (.ok (.ct ε) S) k = .ok (.ct ε) S := (rfl)
@[simp] theorem thn_ex {x : Exc} {ε : Env} {S : Sto} {k : Env → Sto → R Fl} : thn (β := Unit) (.ok (.ex x ε) S) k = .ok (.ex x ε) S := (rfl)
theorem thn_congr {r r' : R Fl} {k : Env → Sto → R Fl} (h : r = r') : thn (β := Unit) r k = thn (β := Unit) r' k := by rw [h]
@[simp] theorem flOut_rt {d : D} {S : Sto} : flOut (.ok (.rt d) S) = .ok d S := (rfl)
@[simp] theorem flOut_nx {ε : Env} {S : Sto} : flOut (.ok (.nx ε) S) = .ok .non S := (rfl)
@[simp] theorem flOut_ex {x : Exc} {ε : Env} {S : Sto} : flOut (.ok (.ex x ε) S) = .exc x S := (rfl)
@[simp] theorem getV_val {ε : Env} {i : Nat} {S : Sto} {d : D} (h : ε[i]? = some (.val d)) : getV ε i S = .ok d S := by simp [getV, h]
@[simp] theorem opd_val {ε : Env} {i : Nat} {S : Sto} {d : D} {r : R D} (h : ε[i]? = some (.val d)) : opd ε (.var i) S r = r := by simp [opd, h]
@[simp] theorem opd_own {ε : Env} {i : Nat} {S : Sto} {d : D} {r : R D} (h : ε[i]? = some (.own d)) : opd ε (.var i) S r = .ok d S := by simp [opd, h]
@[simp] theorem opd_cst {ε : Env} {S : Sto} {r : R D} {d : D} : opd ε (.cst d) S r = r := (rfl)
@[simp] theorem opd_callK {ε : Env} {S : Sto} {r : R D} {f : Nat} {es kes : List Ex} {ks : List Str} {pm : List (Nat ⊕ D)} : opd ε (.callK f es ks kes pm) S r = r := (rfl)
@[simp] theorem opd_op1 {ε : Env} {S : Sto} {r : R D} {o : Op1} {a : Ex} : opd ε (.op1 o a) S r = r := (rfl)
@[simp] theorem opd_op2 {ε : Env} {S : Sto} {r : R D} {o : Op2} {a b : Ex} : opd ε (.op2 o a b) S r = r := (rfl)
@[simp] theorem opd_glb {ε : Env} {S : Sto} {r : R D} {x : Str} {d : D} : opd ε (.glb x d) S r = r := (rfl)
@[simp] theorem opd_bin {ε : Env} {S : Sto} {r : R D} {o : BOp} {a : Ex} {b : Ex} : opd ε (.bin o a b) S r = r := (rfl)
@[simp] theorem opd_neg {ε : Env} {S : Sto} {r : R D} {a : Ex} : opd ε (.neg a) S r = r := (rfl)
@[simp] theorem opd_cmp {ε : Env} {S : Sto} {r : R D} {o : COp} {a : Ex} {b : Ex} : opd ε (.cmp o a b) S r = r := (rfl)
@[simp] theorem opd_chn {ε : Env} {S : Sto} {r : R D} {o : COp} {o2 : COp} {a : Ex} {b : Ex} {c : Ex} : opd ε (.chn o o2 a b c) S r = r := (rfl)
@[simp] theorem opd_and {ε : Env} {S : Sto} {r : R D} {a : Ex} {b : Ex} : opd ε (.and a b) S r = r := (rfl)
@[simp] theorem opd_or {ε : Env} {S : Sto} {r : R D} {a : Ex} {b : Ex} : opd ε (.or a b) S r = r := (rfl)
@[simp] theorem opd_not {ε : Env} {S : Sto} {r : R D} {a : Ex} : opd ε (.not a) S r = r := (rfl)
@[simp] theorem opd_ite {ε : Env} {S : Sto} {r : R D} {c : Ex} {a : Ex} {b : Ex} : opd ε (.ite c a b) S r = r := (rfl)
@[simp] theorem opd_tup {ε : Env} {S : Sto} {r : R D} {es : List Ex} : opd ε (.tup es) S r = r := (rfl)
@[simp] theorem opd_lst {ε : Env} {S : Sto} {r : R D} {es : List Ex} : opd ε (.lst es) S r = r := (rfl)
@[simp] theorem opd_nlst {ε : Env} {S : Sto} {r : R D} {es : List Ex} : opd ε (.nlst es) S r = r := (rfl)
@[simp] theorem opd_ix {ε : Env} {S : Sto} {r : R D} {a : Ex} {b : Ex} : opd ε (.ix a b) S r = r := (rfl)
@[simp] theorem opd_sl {ε : Env} {S : Sto} {r : R D} {a : Ex} {lo : Option Ex} {hi : Option Ex} : opd ε (.sl a lo hi) S r = r := (rfl)
@[simp] theorem opd_call {ε : Env} {S : Sto} {r : R D} {f : Nat} {es : List Ex} {dv : List D} : opd ε (.call f es dv) S r = r := (rfl)
@[simp] theorem opd_blt {ε : Env} {S : Sto} {r : R D} {b : Blt} {es : List Ex} : opd ε (.blt b es) S r = r := (rfl)
@[simp] theorem opd_isi {ε : Env} {S : Sto} {r : R D} {a : Ex} {t : Ty} : opd ε (.isi a t) S r = r := (rfl)
@[simp] theorem opd_prim {ε : Env} {S : Sto} {r : R D} {p : Pr} {es : List Ex} : opd ε (.prim p es) S r = r := (rfl)
@[simp] theorem opd_mth {ε : Env} {S : Sto} {r : R D} {f : Nat} {c m : Str} {o : Ex} {es : List Ex} {dv : List D} : opd ε (.mth f c m o es dv) S r = r := (rfl)
@[simp] theorem opd_mthK {ε : Env} {S : Sto} {r : R D} {f : Nat} {c m : Str} {o : Ex} {es kes : List Ex} {ks : List Str} {pm : List (Nat ⊕ D)} : opd ε (.mthK f c m o es ks kes pm) S r = r := (rfl)
@[simp] theorem opd_mk {ε : Env} {S : Sto} {r : R D} {f : Nat} {c : Str} {es : List Ex} {dv : List D} : opd ε (.mk f c es dv) S r = r := (rfl)
@[simp] theorem opd_mkK {ε : Env} {S : Sto} {r : R D} {f : Nat} {c : Str} {es kes : List Ex} {ks : List Str} {pm : List (Nat ⊕ D)} : opd ε (.mkK f c es ks kes pm) S r = r := (rfl)
@[simp] theorem opd_lc {ε : Env} {S : Sto} {r : R D} {el : Ex} {tg : Tg} {it : Itx} {cond : Option Ex} {own : List Nat} : opd ε (.lc el tg it cond own) S r = r := (rfl)
section
variable {call : Call} {ε : Env} {S : Sto}
@[simp] theorem evE_prim {p : Pr} {es : List Ex} : evE call (.prim p es) ε S = (evOs call es ε S).bd fun ds S1 => prF p ds S1 := by simp only [evE]
@[simp] theorem evT_prim {p : Pr} {es : List Ex} : evT call (.prim p es) ε S = ((evOs call es ε S).bd fun ds S1 => prF p ds S1).bd fun x S1 => R.of S1 (truF x) := by simp only [evT]
/-- which object a method is called of -/
def objAt (S : Sto) (c m : Str) : D → Option Nat
  | .ref n => match S[n]? with
    | some (.ins c' fs) => if c' = c ∧ fs.lookup m = none then some n else none
    | _ => none
  | _ => none
theorem objAt_ref {c m : Str} {n : Nat} {fs : List (Str × D)} (h : S[n]? = some (.ins c fs)) (l : fs.lookup m = none) : objAt S c m (.ref n) = some n := by simp [objAt, h, l]
@[simp] theorem evE_mth {f : Nat} {c m : Str} {o : Ex} {es : List Ex} {dv : List D} : evE call (.mth f c m o es dv) ε S = (evE call o ε S).bd fun x S1 => opk (objAt S1 c m x) fun n => (evEs call es ε S1).bd fun ds S2 => call f (.ref n :: (ds ++ dv)) S2 := by
  simp only [evE]; congr 1; funext x S1
  cases x <;> try rfl
  rename_i n
  simp only [objAt]
  cases S1[n]? with
  | none => rfl
  | some o =>
    cases o <;> try rfl
    dsimp only
    split <;> rfl
@[simp] theorem evT_mth {f : Nat} {c m : Str} {o : Ex} {es : List Ex} {dv : List D} : evT call (.mth f c m o es dv) ε S = (evE call (.mth f c m o es dv) ε S).bd fun x S1 => R.of S1 (truF x) := by simp only [evT, evE]
@[simp] theorem evE_mthK {f : Nat} {c m : Str} {o : Ex} {es kes : List Ex} {ks : List Str} {pm : List (Nat ⊕ D)} : evE call (.mthK f c m o es ks kes pm) ε S = (evE call o ε S).bd fun x S1 => opk (objAt S1 c m x) fun n => (evEs call es ε S1).bd fun ds S2 => (evEs call kes ε S2).bd fun zs S3 => call f (pmF (.ref n :: (ds ++ zs)) pm) S3 := by
  simp only [evE]; congr 1; funext x S1
  cases x <;> try rfl
  rename_i n
  simp only [objAt]
  cases S1[n]? with
  | none => rfl
  | some o =>
    cases o <;> try rfl
    dsimp only
    split <;> rfl
/-- a maker answers none -/
def isNon : D → Option Unit
  | .non => some ()
  | _ => none
@[simp] theorem isNon_non : isNon .non = some () := (rfl)
@[simp] theorem evE_mk {f : Nat} {c : Str} {es : List Ex} {dv : List D} : evE call (.mk f c es dv) ε S = (evEs call es ε S).bd fun ds S1 => (call f (.ref S1.length :: (ds ++ dv)) (S1 ++ [.ins c []])).bd fun x S2 => opk (isNon x) fun _ => .ok (.ref S1.length) S2 := by
  simp only [evE]; congr 1; funext ds S1; congr 1; funext x S2; cases x <;> rfl
@[simp] theorem evE_mkK {f : Nat} {c : Str} {es kes : List Ex} {ks : List Str} {pm : List (Nat ⊕ D)} : evE call (.mkK f c es ks kes pm) ε S = (evEs call es ε S).bd fun ds S1 => (evEs call kes ε S1).bd fun zs S2 => (call f (pmF (.ref S2.length :: (ds ++ zs)) pm) (S2 ++ [.ins c []])).bd fun x S3 => opk (isNon x) fun _ => .ok (.ref S2.length) S3 := by
  simp only [evE]; congr 1; funext ds S1; congr 1; funext zs S2; congr 1; funext x S3; cases x <;> rfl
@[simp] theorem evE_cst {d : D} : evE call (.cst d) ε S = .ok d S := by simp only [evE]
@[simp] theorem evE_var {i : Nat} : evE call (.var i) ε S = getV ε i S := by simp only [evE]
@[simp] theorem evE_glb {x : Str} {d : D} : evE call (.glb x d) ε S = .ok d S := by simp only [evE]
@[simp] theorem evE_bin {o : BOp} {a b : Ex} : evE call (.bin o a b) ε S = (opd ε a S (evE call a ε S)).bd fun x S1 => (opd ε b S1 (evE call b ε S1)).bd fun y S2 => R.of S2 (binF o x y) := by simp only [evE]
@[simp] theorem evE_neg {a : Ex} : evE call (.neg a) ε S = (evE call a ε S).bd fun x S1 => opk (match x with | .int i => some (D.int (-i)) | _ => none) fun d => .ok d S1 := by
  simp only [evE]; congr 1; funext x S1; cases x <;> rfl
@[simp] theorem evE_cmp {o : COp} {a b : Ex} : evE call (.cmp o a b) ε S = (opd ε a S (evE call a ε S)).bd fun x S1 => (opd ε b S1 (evE call b ε S1)).bd fun y S2 => R.of S2 ((cmpF o x y).map .bl) := by simp only [evE]
@[simp] theorem evE_chn {o o' : COp} {a b c : Ex} : evE call (.chn o o' a b c) ε S = (opd ε a S (evE call a ε S)).bd fun x S1 => (opd ε b S1 (evE call b ε S1)).bd fun y S2 => (R.of S2 (cmpF o x y)).bd fun k S3 =>
      ifk k ((opd ε c S3 (evE call c ε S3)).bd fun z S4 => R.of S4 ((cmpF o' y z).map .bl)) (.ok (.bl false) S3) := by simp only [evE]; rfl
@[simp] theorem evE_and {a b : Ex} : evE call (.and a b) ε S = (evE call a ε S).bd fun x S1 => opk (match x with | .bl k => some k | _ => none) fun k => ifk k (evE call b ε S1) (.ok (.bl false) S1) := by
  simp only [evE]; congr 1; funext x S1; cases x <;> try rfl
  rename_i k; cases k <;> rfl
@[simp] theorem evE_or {a b : Ex} : evE call (.or a b) ε S = (evE call a ε S).bd fun x S1 => opk (match x with | .bl k => some k | _ => none) fun k => ifk k (.ok (.bl true) S1) (evE call b ε S1) := by
  simp only [evE]; congr 1; funext x S1; cases x <;> try rfl
  rename_i k; cases k <;> rfl
@[simp] theorem evE_not {a : Ex} : evE call (.not a) ε S = (opd ε a S (evE call a ε S)).bd fun x S1 => R.of S1 ((truF x).map fun k => .bl (!k)) := by simp only [evE]
@[simp] theorem evE_ite {c a b : Ex} : evE call (.ite c a b) ε S = (evT call c ε S).bd fun k S1 => ifk k (evE call a ε S1) (evE call b ε S1) := by simp only [evE]; rfl
@[simp] theorem evE_tup {es : List Ex} : evE call (.tup es) ε S = (evEs call es ε S).bd fun ds S1 => ifk (decide (ds.length ≤ sizeLine)) (.ok (.tup ds) S1) .stuck := by
  simp only [evE]; congr 1; funext x S1; unfold ifk; simp only [decide_eq_true_eq]
@[simp] theorem evE_lst {es : List Ex} : evE call (.lst es) ε S = (evEs call es ε S).bd fun ds S1 => ifk (decide (ds.length ≤ sizeLine)) (.ok (.lst ds) S1) .stuck := by
  simp only [evE]; congr 1; funext x S1; unfold ifk; simp only [decide_eq_true_eq]
@[simp] theorem evE_nlst {es : List Ex} : evE call (.nlst es) ε S = (evEs call es ε S).bd fun ds S1 => ifk (decide (ds.length ≤ sizeLine)) (.ok (.ref S1.length) (S1 ++ [.lst ds])) .stuck := by
  simp only [evE]; congr 1; funext x S1; unfold ifk; simp only [decide_eq_true_eq]
@[simp] theorem evE_ix {a b : Ex} : evE call (.ix a b) ε S = (opd ε a S (evE call a ε S)).bd fun x S1 => (evE call b ε S1).bd fun y S2 => R.of S2 (ixS S2 x y) := by
  simp only [evE]; congr 1; funext x S1; congr 1; funext y S2
  cases x <;> try rfl
  simp only [ixS]
  rename_i n
  cases S2[n]? with
  | none => rfl
  | some o => cases o <;> rfl
@[simp] theorem evE_sl {a : Ex} {lo hi : Option Ex} : evE call (.sl a lo hi) ε S = (opd ε a S (evE call a ε S)).bd fun x S1 => (evP call lo ε S1).bd fun l S2 => (evP call hi ε S2).bd fun h S3 => R.of S3 (slF x l h) := by simp only [evE]
@[simp] theorem evE_call {f : Nat} {es : List Ex} {dv : List D} : evE call (.call f es dv) ε S = (evEs call es ε S).bd fun ds S1 => call f (ds ++ dv) S1 := by simp only [evE]
@[simp] theorem evE_callK {f : Nat} {es kes : List Ex} {ks : List Str} {pm : List (Nat ⊕ D)} : evE call (.callK f es ks kes pm) ε S = (evEs call es ε S).bd fun ds S1 => (evEs call kes ε S1).bd fun zs S2 => call f (pmF (ds ++ zs) pm) S2 := by simp only [evE]
@[simp] theorem evE_op1 {o : Op1} {a : Ex} : evE call (.op1 o a) ε S = (evE call a ε S).bd fun x S1 => R.of S1 (op1F o x) := by simp only [evE]
@[simp] theorem evE_op2 {o : Op2} {a b : Ex} : evE call (.op2 o a b) ε S = (evE call a ε S).bd fun x S1 => (evE call b ε S1).bd fun y S2 => R.of S2 (op2F o x y) := by simp only [evE]
@[simp] theorem evE_blt {b : Blt} {es : List Ex} : evE call (.blt b es) ε S = (evOs call es ε S).bd fun ds S1 => R.of S1 (bltF b ds) := by simp only [evE]
@[simp] theorem evE_isi {a : Ex} {t : Ty} : evE call (.isi a t) ε S = (opd ε a S (evE call a ε S)).bd fun x S1 => R.of S1 ((kindIs x t).map .bl) := by simp only [evE]
/-- a comprehension's element -/
noncomputable def lcF (call : Call) (el : Ex) (tg : Tg) (cond : Option Ex) (own : List Nat) (ε : Env) : D → Sto → R (Option D) := fun d S => opk (setT tg d (wipeE ε own)) fun ε' => (evC call cond ε' S).bd fun k S2 => ifk k ((evE call el ε' S2).bd fun x S3 => .ok (some x) S3) (.ok none S2)
/-- the list of a comprehension -/
def lcR (r : R (List D)) : R D := match r with
  | .ok xs S2 => if xs.length ≤ sizeLine then .ok (.lst xs) S2 else .stuck
  | _ => .stuck
theorem lcR_congr {r r' : R (List D)} (h : r = r') : lcR r = lcR r' := by rw [h]
@[simp] theorem evE_lc {el : Ex} {tg : Tg} {it : Itx} {cond : Option Ex} {own : List Nat} : evE call (.lc el tg it cond own) ε S = (evI call it ε S).bd fun ds S1 => lcR (lcL (lcF call el tg cond own ε) ds S1) := by
  simp only [evE]
  congr 1
  funext ds S1
  show lcR (lcL _ ds S1) = lcR (lcL _ ds S1)
  congr 2
  funext d S
  unfold lcF
  cases setT tg d (wipeE ε own) <;> rfl
/-- the items of a two-clause comprehension -/
noncomputable def lc2F (call : Call) (el : Ex) (tg1 : Tg) (own1 : List Nat) (ε : Env) : D → Sto → R (Option D) := fun d S => opk (setT tg1 d (wipeE ε own1)) fun ε2 => (evE call el ε2 S).bd fun x S4 => .ok (some x) S4
noncomputable def lcMF (call : Call) (el : Ex) (tg : Tg) (cond : Option Ex) (tg1 : Tg) (it1 : Itx) (own own1 : List Nat) (ε : Env) : D → Sto → R (List D) := fun d S => opk (setT tg d (wipeE ε own)) fun ε' => (evC call cond ε' S).bd fun k S2 => ifk k ((evI call it1 ε' S2).bd fun ds1 S3 => lcL (lc2F call el tg1 own1 ε') ds1 S3) (.ok [] S2)
@[simp] theorem opd_lc2 {r : R D} {el : Ex} {tg tg1 : Tg} {it it1 : Itx} {cond : Option Ex} {own own1 : List Nat} : opd ε (.lc2 el tg it cond tg1 it1 own own1) S r = r := (rfl)
@[simp] theorem evE_lc2 {el : Ex} {tg tg1 : Tg} {it it1 : Itx} {cond : Option Ex} {own own1 : List Nat} : evE call (.lc2 el tg it cond tg1 it1 own own1) ε S = (evI call it ε S).bd fun ds S1 => lcR (lcM (lcMF call el tg cond tg1 it1 own own1 ε) ds S1) := by
  simp only [evE]
  congr 1
  funext ds S1
  show lcR (lcM _ ds S1) = lcR (lcM _ ds S1)
  congr 2
  funext d S
  unfold lcMF
  cases setT tg d (wipeE ε own) with
  | none => rfl
  | some ε' =>
    refine congrArg (R.bd (evC call cond ε' S)) ?_
    funext k S2
    cases k with
    | false => rfl
    | true =>
      refine congrArg (R.bd (evI call it1 ε' S2)) ?_
      funext ds1 S3
      refine congrArg (fun f => lcL f ds1 S3) ?_
      funext d1 S
      unfold lc2F
      cases setT tg1 d1 (wipeE ε' own1) <;> rfl
@[simp] theorem evT_and {a b : Ex} : evT call (.and a b) ε S = (evT call a ε S).bd fun k S1 => ifk k (evT call b ε S1) (.ok false S1) := by simp only [evT]; rfl
@[simp] theorem evT_or {a b : Ex} : evT call (.or a b) ε S = (evT call a ε S).bd fun k S1 => ifk k (.ok true S1) (evT call b ε S1) := by simp only [evT]; rfl
@[simp] theorem evT_not {a : Ex} : evT call (.not a) ε S = (evT call a ε S).bd fun k S1 => .ok (!k) S1 := by simp only [evT]
@[simp] theorem evT_var {i : Nat} : evT call (.var i) ε S = (opd ε (.var i) S (evE call (.var i) ε S)).bd fun x S1 => R.of S1 (truF x) := by simp only [evT]
@[simp] theorem evT_cst {d : D} : evT call (.cst d) ε S = R.of S (truF d) := by simp only [evT]
@[simp] theorem evT_glb {x : Str} {d : D} : evT call (.glb x d) ε S = R.of S (truF d) := by simp only [evT]
@[simp] theorem evT_cmp {o : COp} {a b : Ex} : evT call (.cmp o a b) ε S = (opd ε a S (evE call a ε S)).bd fun x S1 => (opd ε b S1 (evE call b ε S1)).bd fun y S2 => R.of S2 (cmpF o x y) := by simp only [evT]
@[simp] theorem evT_chn {o o' : COp} {a b c : Ex} : evT call (.chn o o' a b c) ε S = (opd ε a S (evE call a ε S)).bd fun x S1 => (opd ε b S1 (evE call b ε S1)).bd fun y S2 => (R.of S2 (cmpF o x y)).bd fun k S3 =>
      ifk k ((opd ε c S3 (evE call c ε S3)).bd fun z S4 => R.of S4 (cmpF o' y z)) (.ok false S3) := by simp only [evT]; rfl
@[simp] theorem evT_chn3 {o o' o2 : COp} {a b c d : Ex} : evT call (.chn3 o o' o2 a b c d) ε S = (opd ε a S (evE call a ε S)).bd fun x S1 => (opd ε b S1 (evE call b ε S1)).bd fun y S2 => (R.of S2 (cmpF o x y)).bd fun k S3 =>
      ifk k ((opd ε c S3 (evE call c ε S3)).bd fun z S4 => (R.of S4 (cmpF o' y z)).bd fun k2 S5 => ifk k2 ((opd ε d S5 (evE call d ε S5)).bd fun v S6 => R.of S6 (cmpF o2 z v)) (.ok false S5)) (.ok false S3) := by simp only [evT]; rfl
@[simp] theorem evT_callK {f : Nat} {es kes : List Ex} {ks : List Str} {pm : List (Nat ⊕ D)} : evT call (.callK f es ks kes pm) ε S = ((evEs call es ε S).bd fun ds S1 => (evEs call kes ε S1).bd fun zs S2 => call f (pmF (ds ++ zs) pm) S2).bd fun x S1 => R.of S1 (truF x) := by simp only [evT]
@[simp] theorem evT_call {f : Nat} {es : List Ex} {dv : List D} : evT call (.call f es dv) ε S = ((evEs call es ε S).bd fun ds S1 => call f (ds ++ dv) S1).bd fun x S1 => R.of S1 (truF x) := by simp only [evT]
@[simp] theorem evT_blt {b : Blt} {es : List Ex} : evT call (.blt b es) ε S = ((evOs call es ε S).bd fun ds S1 => R.of S1 (bltF b ds)).bd fun x S1 => R.of S1 (truF x) := by simp only [evT]
@[simp] theorem evT_isi {a : Ex} {t : Ty} : evT call (.isi a t) ε S = (opd ε a S (evE call a ε S)).bd fun x S1 => R.of S1 (kindIs x t) := by simp only [evT]
@[simp] theorem evT_ix {a b : Ex} : evT call (.ix a b) ε S = (evE call (.ix a b) ε S).bd fun x S1 => R.of S1 (truF x) := by simp only [evT, evE]
@[simp] theorem evEs_nil : evEs call [] ε S = .ok [] S := by simp only [evEs]
@[simp] theorem evEs_cons {e : Ex} {es : List Ex} : evEs call (e :: es) ε S = (evE call e ε S).bd fun d S1 => (evEs call es ε S1).bd fun ds S2 => .ok (d :: ds) S2 := by simp only [evEs]
@[simp] theorem evOs_nil : evOs call [] ε S = .ok [] S := by simp only [evOs]
@[simp] theorem evOs_cons {e : Ex} {es : List Ex} : evOs call (e :: es) ε S = (opd ε e S (evE call e ε S)).bd fun d S1 => (evOs call es ε S1).bd fun ds S2 => .ok (d :: ds) S2 := by simp only [evOs]
@[simp] theorem evP_none : evP call none ε S = .ok none S := by simp only [evP]
@[simp] theorem evP_some {e : Ex} : evP call (some e) ε S = (evE call e ε S).bd fun d S1 => opk (match d with | .int i => some i | _ => none) fun i => .ok (some i) S1 := by
  simp only [evP]; congr 1; funext d S1; cases d <;> rfl
@[simp] theorem evC_none : evC call none ε S = .ok true S := by simp only [evC]
@[simp] theorem evC_some {e : Ex} : evC call (some e) ε S = evT call e ε S := by simp only [evC]
@[simp] theorem evI_seq {e : Ex} : evI call (.seq e) ε S = (evE call e ε S).bd fun x S1 => R.of S1 (seqOf x) := by simp only [evI]
@[simp] theorem evI_rng {a : Ex} : evI call (.rng a) ε S = (evE call a ε S).bd fun x S1 => R.of S1 (rng1F x) := by simp only [evI]
@[simp] theorem evI_rng2 {a b : Ex} : evI call (.rng2 a b) ε S = (evE call a ε S).bd fun x S1 => (evE call b ε S1).bd fun y S2 => R.of S2 (rng2F x y) := by simp only [evI]
@[simp] theorem evI_zip {a b : Ex} : evI call (.zip a b) ε S = (evE call a ε S).bd fun x S1 => (evE call b ε S1).bd fun y S2 => R.of S2 (zipF x y) := by simp only [evI]
@[simp] theorem evI_rrng {a : Ex} : evI call (.rrng a) ε S = (evE call a ε S).bd fun x S1 => R.of S1 ((rng1F x).map List.reverse) := by simp only [evI]
@[simp] theorem evI_rev {a : Ex} : evI call (.rev a) ε S = (evE call a ε S).bd fun x S1 => opk (match x with | .lst l => some l.reverse | .tup l => some l.reverse | _ => none) fun l => .ok l S1 := by
  simp only [evI]; congr 1; funext x S1; cases x <;> rfl
variable {turns : Nat}
/-- one turn of a for -/
noncomputable def forF (call : Call) (turns : Nat) (t : Tg) (b : List Sm) : D → Env → Sto → R Fl := fun d ε S => opk (setT t d ε) fun ε' => evB call turns b ε' S
@[simp] theorem evS_asg {t : Tg} {e : Ex} : evS call turns (.asg t e) ε S = (evE call e ε S).lf ε fun d S1 => opk (setT t d ε) fun ε' => .ok (.nx ε') S1 := by
  simp only [evS]; congr 1; funext d S1; cases setT t d ε <;> rfl
@[simp] theorem evS_par {i j : Nat} {a b : Ex} : evS call turns (.par i j a b) ε S = (evE call a ε S).lf ε fun x S1 => (evE call b ε S1).lf ε fun y S2 => .ok (.nx ((ε.set i (.val x)).set j (.val y))) S2 := by simp only [evS]
@[simp] theorem evS_own {i : Nat} {e : Ex} : evS call turns (.own i e) ε S = (evE call e ε S).lf ε fun d S1 => .ok (.nx (ε.set i (.own d))) S1 := by simp only [evS]
@[simp] theorem evS_frz {i : Nat} {s : Sm} {d : D} (h : ε[i]? = some (.own d)) : evS call turns (.frz i s) ε S = evS call turns s (ε.set i (.val d)) S := by simp only [evS, h]
@[simp] theorem evS_frz0 {i : Nat} {s : Sm} {d : D} (h : ε[i]? = some (.val d)) : evS call turns (.frz i s) ε S = evS call turns s ε S := by simp only [evS, h]
@[simp] theorem evS_aug {i : Nat} {o : BOp} {e : Ex} {x : Int} (h : ε[i]? = some (.val (.int x))) : evS call turns (.aug i o e) ε S = (evE call e ε S).lf ε fun y S1 => opk (match y with | .int y => binF o (.int x) (.int y) | _ => none) fun z => .ok (.nx (ε.set i (.val z))) S1 := by
  simp only [evS, h]; congr 1; funext y S1
  cases y <;> try rfl
  rename_i y
  show (match binF o (.int x) (.int y) with | some z => _ | none => _) = opk (binF o (.int x) (.int y)) _
  cases binF o (.int x) (.int y) <;> rfl
/-- x, *y of a value: what the two become -/
def starF : D → Option (D × List D)
  | .lst (x :: l) => if l.length < sizeLine then some (x, l) else none
  | .tup (x :: l) => if l.length < sizeLine then some (x, l) else none
  | _ => none
@[simp] theorem evS_star {i j : Nat} {e : Ex} : evS call turns (.star i j e) ε S = (evE call e ε S).lf ε fun d S1 => opk (starF d) fun p => .ok (.nx ((ε.set i (.val p.1)).set j (.val (.lst p.2)))) S1 := by
  simp only [evS]; congr 1; funext d S1
  cases d with
  | lst l => cases l with
    | nil => rfl
    | cons x l => by_cases h : l.length < sizeLine <;> simp [starF, h, opk]
  | tup l => cases l with
    | nil => rfl
    | cons x l => by_cases h : l.length < sizeLine <;> simp [starF, h, opk]
  | _ => rfl
@[simp] theorem evS_set {a i e : Ex} : evS call turns (.set a i e) ε S = (evE call e ε S).lf ε fun v S1 => (evE call a ε S1).lf ε fun o S2 => (evE call i ε S2).lf ε fun k S3 => opk (setL o k v S3) fun S4 => .ok (.nx ε) S4 := by
  simp only [evS]; congr 1; funext v S1; congr 1; funext o S2; congr 1; funext k S3; cases setL o k v S3 <;> rfl
@[simp] theorem evS_app {i : Nat} {e : Ex} {l : List D} (h : ε[i]? = some (.own (.lst l))) : evS call turns (.app i e) ε S = (evE call e ε S).lf ε fun y S1 => ifk (decide (l.length < sizeLine)) (.ok (.nx (ε.set i (.own (.lst (l ++ [y]))))) S1) .stuck := by
  simp only [evS, h]; congr 1; funext y S1; unfold ifk; simp only [decide_eq_true_eq]
@[simp] theorem evS_setO {i : Nat} {k e : Ex} {l : List D} (h : ε[i]? = some (.own (.lst l))) : evS call turns (.setO i k e) ε S = (evE call e ε S).lf ε fun v S1 => (evE call k ε S1).lf ε fun kk S2 => opk (match kk with | .int q => ixN l.length q | _ => none) fun j => .ok (.nx (ε.set i (.own (.lst (l.set j v))))) S2 := by
  simp only [evS, h]; congr 1; funext v S1; congr 1; funext kk S2
  cases kk <;> try rfl
  rename_i q
  show (match ixN l.length q with | some j => _ | none => _) = opk (ixN l.length q) _
  cases ixN l.length q <;> rfl
/-- where an item stands, and which int it is -/
def augAt (l : List D) : D → Option (Int × Nat)
  | .int q => match atI l q, ixN l.length q with
    | some (.int x), some j => some (x, j)
    | _, _ => none
  | _ => none
@[simp] theorem evS_augO {i : Nat} {k e : Ex} {o : BOp} {l : List D} (h : ε[i]? = some (.own (.lst l))) : evS call turns (.augO i k o e) ε S = (evE call k ε S).lf ε fun kk S1 => opk (augAt l kk) fun p => (evE call e ε S1).lf ε fun y S2 =>
    opk (match y with | .int y => binF o (.int p.1) (.int y) | _ => none) fun z => .ok (.nx (ε.set i (.own (.lst (l.set p.2 z))))) S2 := by
  simp only [evS, h]; congr 1; funext kk S1
  cases kk with
  | int q =>
    simp only [augAt]
    cases atI l q with
    | none => rfl
    | some d =>
      cases ixN l.length q with
      | none => cases d <;> rfl
      | some j =>
        cases d <;> try rfl
        rename_i x
        show (evE call e ε S1).lf ε _ = (evE call e ε S1).lf ε _
        congr 1
        funext y S2
        cases y <;> try rfl
        rename_i y
        show (match binF o (.int x) (.int y) with | some z => _ | none => _) = opk (binF o (.int x) (.int y)) _
        cases binF o (.int x) (.int y) <;> rfl
  | _ => rfl
@[simp] theorem evS_setOD {i : Nat} {k e : Ex} {ks : List Key} {vs : List D} (h : ε[i]? = some (.own (.dct ks vs))) : evS call turns (.setOD i k e) ε S = (evE call e ε S).lf ε fun v S1 => (evE call k ε S1).lf ε fun kk S2 => opk (keyD kk) fun q =>
    ifk (decide (ks.length < sizeLine)) (.ok (.nx (ε.set i (.own (.dct (putKs ks q) (putVs ks vs q v))))) S2) .stuck := by
  simp only [evS, h]; congr 1; funext v S1; congr 1; funext kk S2
  cases keyD kk <;> try rfl
  simp only [opk_some, ifk, decide_eq_true_eq]
@[simp] theorem evS_setD {a k e : Ex} : evS call turns (.setD a k e) ε S = (evE call e ε S).lf ε fun v S1 => (evE call a ε S1).lf ε fun o S2 => (evE call k ε S2).lf ε fun kk S3 => opk (setDS o kk v S3) fun S4 => .ok (.nx ε) S4 := by
  simp only [evS]; congr 1; funext v S1; congr 1; funext o S2; congr 1; funext kk S3; cases setDS o kk v S3 <;> rfl
@[simp] theorem evS_setF {a e : Ex} {c f : Str} : evS call turns (.setF a c f e) ε S = (evE call e ε S).lf ε fun v S1 => (evE call a ε S1).lf ε fun o S2 => opk (setFS o c f v S2) fun S3 => .ok (.nx ε) S3 := by
  simp only [evS]; congr 1; funext v S1; congr 1; funext o S2; cases setFS o c f v S2 <;> rfl
@[simp] theorem evS_popD {a k : Ex} : evS call turns (.popD a k) ε S = (evE call a ε S).lf ε fun o S1 => ifk (isDct o S1) ((evE call k ε S1).lf ε fun kk S2 => opk (popDS o kk S2) fun S3 => .ok (.nx ε) S3) .stuck := by
  simp only [evS]; congr 1; funext o S1
  unfold ifk
  split
  · congr 1; funext kk S2; cases popDS o kk S2 <;> rfl
  · rfl
@[simp] theorem evS_popO {t : Tg} {i : Nat} {l : List D} (h : ε[i]? = some (.own (.lst l))) : evS call turns (.popO t i) ε S = opk l.getLast? fun d => opk (setT t d (ε.set i (.own (.lst l.dropLast)))) fun ε' => .ok (.nx ε') S := by
  simp only [evS, h]
  cases l.getLast? with
  | none => rfl
  | some d => rw [opk_some]; dsimp only; cases setT t d (ε.set i (.own (.lst l.dropLast))) <;> rfl
def lstOf : D → Option (List D)
  | .lst l => some l
  | _ => none
@[simp] theorem lstOf_lst {l : List D} : lstOf (.lst l) = some l := (rfl)
@[simp] theorem evS_extO {i : Nat} {e : Ex} {l : List D} (h : ε[i]? = some (.own (.lst l))) : evS call turns (.extO i e) ε S = (evE call e ε S).lf ε fun y S1 => opk (lstOf y) fun m => ifk (decide (l.length + m.length ≤ sizeLine)) (.ok (.nx (ε.set i (.own (.lst (l ++ m))))) S1) .stuck := by
  simp only [evS, h]; congr 1; funext y S1
  cases y <;> try rfl
  simp only [lstOf_lst, opk_some, ifk, decide_eq_true_eq]
@[simp] theorem evS_exp {e : Ex} : evS call turns (.exp e) ε S = (evE call e ε S).lf ε fun _ S1 => .ok (.nx ε) S1 := by simp only [evS]
@[simp] theorem evS_ret {e : Ex} : evS call turns (.ret e) ε S = (evE call e ε S).lf ε fun d S1 => .ok (.rt d) S1 := by simp only [evS]
@[simp] theorem evS_retN : evS call turns .retN ε S = .ok (.rt .non) S := by simp only [evS]
@[simp] theorem evS_ite {c : Ex} {a b : List Sm} : evS call turns (.ite c a b) ε S = (evT call c ε S).lf ε fun k S1 => ifk k (evB call turns a ε S1) (evB call turns b ε S1) := by simp only [evS]; rfl
@[simp] theorem evS_for {t : Tg} {it : Itx} {b : List Sm} : evS call turns (.for t it b) ε S = (evI call it ε S).lf ε fun ds S1 => forL (forF call turns t b) ds ε S1 := by
  simp only [evS]; congr 1; funext ds S1; congr 1; funext d ε S; unfold forF; cases setT t d ε <;> rfl
@[simp] theorem evS_whl {c : Ex} {b : List Sm} : evS call turns (.whl c b) ε S = whlL (fun ε S => evT call c ε S) (fun ε S => evB call turns b ε S) turns ε S := by simp only [evS]
@[simp] theorem evS_brk : evS call turns .brk ε S = .ok (.bk ε) S := by simp only [evS]
@[simp] theorem evS_cnt : evS call turns .cnt ε S = .ok (.ct ε) S := by simp only [evS]
@[simp] theorem evS_pass : evS call turns .pass ε S = .ok (.nx ε) S := by simp only [evS]
@[simp] theorem evB_nil : evB call turns [] ε S = .ok (.nx ε) S := by simp only [evB]
@[simp] theorem evB_cons {s : Sm} {ss : List Sm} : evB call turns (s :: ss) ε S = thn (β := Unit) (evS call turns s ε S) fun ε' S' => evB call turns ss ε' S' := by simp only [evB]; rfl
end
/-! values -/
section
variable {i j : Int} {x y : Str} {l m : List D} {S : Sto}
@[simp] theorem bin_add : binF .add (.int i) (.int j) = some (.int (i + j)) := (rfl)
@[simp] theorem bin_sub : binF .sub (.int i) (.int j) = some (.int (i - j)) := (rfl)
@[simp] theorem mulOk_l (h : -(2 ^ 64) < i ∧ i < 2 ^ 64) : binF .mul (.int i) (.int j) = some (.int (i * j)) := by simp only [binF]; rw [if_pos]; unfold mulOk; exact decide_eq_true (.inl h)
@[simp] theorem mulOk_r (h : -(2 ^ 64) < j ∧ j < 2 ^ 64) : binF .mul (.int i) (.int j) = some (.int (i * j)) := by simp only [binF]; rw [if_pos]; unfold mulOk; exact decide_eq_true (.inr (.inl h))
theorem mulOk_w {a b : Nat} (ha : i.natAbs < 2 ^ a) (hb : j.natAbs < 2 ^ b) (h0 : 0 < a) (h1 : 0 < b) (h : a + b ≤ 1000000) : binF .mul (.int i) (.int j) = some (.int (i * j)) := by
  simp only [binF]; rw [if_pos]; unfold mulOk; exact decide_eq_true (.inr (.inr (wide_mul ha hb h0 h1 h)))
theorem fdiv_ok {b : Nat} (h : 0 < j) (hb : j.natAbs < 2 ^ b) (h0 : 0 < b) (h9 : b ≤ 9000) : binF .fdiv (.int i) (.int j) = some (.int (i / j)) := by
  simp only [binF]; rw [if_pos]; exact wide_div (i := 0) h hb h0 h9
@[simp] theorem fdiv_s (h : 0 < j ∧ j < 2 ^ 64) : binF .fdiv (.int i) (.int j) = some (.int (i / j)) := fdiv_ok (b := 64) h.1 (by omega) (by decide) (by decide)
@[simp] theorem mod_ok (h : 0 < j) : binF .mod (.int i) (.int j) = some (.int (i % j)) := by simp only [binF]; rw [if_pos h]
@[simp] theorem pow_ok (h : 0 ≤ j ∧ j ≤ 1000000 ∧ i.natAbs < 2 ^ 64) : binF .pow (.int i) (.int j) = some (.int (i ^ j.toNat)) := by
  simp only [binF]; rw [if_pos]; exact ⟨h.1, h.2.1, PyProof.Rows.bits_mul_le h.2.2 h.1 h.2.1⟩
@[simp] theorem cmp_lt : cmpF .lt (.int i) (.int j) = some (decide (i < j)) := (rfl)
@[simp] theorem cmp_le : cmpF .le (.int i) (.int j) = some (decide (i ≤ j)) := (rfl)
@[simp] theorem cmp_gt : cmpF .gt (.int i) (.int j) = some (decide (j < i)) := (rfl)
@[simp] theorem cmp_ge : cmpF .ge (.int i) (.int j) = some (decide (j ≤ i)) := (rfl)
@[simp] theorem cmp_eq {a b : D} : cmpF .eq a b = eqF a b := by cases a <;> cases b <;> rfl
@[simp] theorem cmp_ne {a b : D} : cmpF .ne a b = (eqF a b).map (!·) := by cases a <;> cases b <;> rfl
@[simp] theorem cmp_is {a b : D} : cmpF .is a b = isF a b := by cases a <;> cases b <;> rfl
@[simp] theorem cmp_isnot {a b : D} : cmpF .isnot a b = (isF a b).map (!·) := by cases a <;> cases b <;> rfl
@[simp] theorem is_non {a : D} : isF a .non = some (match a with | .non => true | _ => false) := (rfl)
@[simp] theorem is_bl {a b : Bool} : isF (.bl a) (.bl b) = some (decide (a = b)) := (rfl)
@[simp] theorem ixS_lst : ixS S (.lst l) (.int i) = atI l i := (rfl)
@[simp] theorem ixS_tup : ixS S (.tup l) (.int i) = atI l i := (rfl)
@[simp] theorem ixS_scr : ixS S (.scr l) (.int i) = atI l i := (rfl)
theorem ixS_ref {n : Nat} (h : S[n]? = some (.lst l)) : ixS S (.ref n) (.int i) = atI l i := by simp only [ixS, h]; rfl
theorem setL_ref {n : Nat} {v : D} (h : S[n]? = some (.lst l)) : setL (.ref n) (.int i) v S = (ixN l.length i).map fun j => S.set n (.lst (l.set j v)) := by simp only [setL, h]
@[simp] theorem ixS_set {b : Nat} (h : b < S.length) : ixS (S.set b (.lst l)) (.ref b) (.int i) = atI l i := ixS_ref (List.getElem?_set_self h)
@[simp] theorem setL_set {b : Nat} {v : D} (h : b < S.length) : setL (.ref b) (.int i) v (S.set b (.lst l)) = (ixN l.length i).map fun j => S.set b (.lst (l.set j v)) := by
  rw [setL_ref (List.getElem?_set_self h)]; simp only [List.set_set]
@[simp] theorem blt_len_scr : bltF .len [.scr l] = some (.int l.length) := (rfl)
@[simp] theorem blt_len_lst : bltF .len [.lst l] = some (.int l.length) := (rfl)
@[simp] theorem blt_len_tup : bltF .len [.tup l] = some (.int l.length) := (rfl)
@[simp] theorem blt_abs : bltF .abs [.int i] = some (.int (if i < 0 then -i else i)) := (rfl)
@[simp] theorem blt_max : bltF .max [.int i, .int j] = some (.int (if j > i then j else i)) := (rfl)
@[simp] theorem blt_min : bltF .min [.int i, .int j] = some (.int (if j < i then j else i)) := (rfl)
@[simp] theorem blt_tup : bltF .tuple [.lst l] = some (.tup l) := (rfl)
@[simp] theorem blt_tup2 : bltF .tuple [.tup l] = some (.tup l) := (rfl)
@[simp] theorem blt_list : bltF .list [.lst l] = some (.lst l) := (rfl)
@[simp] theorem blt_list2 : bltF .list [.tup l] = some (.lst l) := (rfl)
theorem blsOf_map {l : List Bool} : blsOf (l.map D.bl) = some l := by
  induction l with
  | nil => rfl
  | cons b l ih => simp [blsOf, ih]
theorem intsOf_map {l : List Int} : intsOf (l.map D.int) = some l := by
  induction l with
  | nil => rfl
  | cons b l ih => simp [intsOf, ih]
@[simp] theorem blt_all {l : List Bool} : bltF .all [.lst (l.map D.bl)] = some (.bl (l.all id)) := by simp [bltF, blsOf_map]
@[simp] theorem blt_any {l : List Bool} : bltF .any [.lst (l.map D.bl)] = some (.bl (l.any id)) := by simp [bltF, blsOf_map]
@[simp] theorem blt_sum {l : List Int} : bltF .sum [.lst (l.map D.int)] = some (.int l.sum) := by simp [bltF, intsOf_map]
@[simp] theorem pr_dnew : prF .dnew [] S = .ok (.dct [] []) S := (rfl)
@[simp] theorem pr_ndnew : prF .ndnew [] S = .ok (.ref S.length) (S ++ [.dct [] []]) := (rfl)
@[simp] theorem pr_fld {f : Str} {d : D} : prF (.fld f) [d] S = R.of S (fldF S f d) := (rfl)
@[simp] theorem pr_lemp : prF .lemp [.lst l] S = .ok (.bl l.isEmpty) S := (rfl)
@[simp] theorem pr_lnemp : prF .lnemp [.lst l] S = .ok (.bl (!l.isEmpty)) S := (rfl)
@[simp] theorem pr_llen : prF .llen [.lst l] S = .ok (.int l.length) S := (rfl)
@[simp] theorem pr_lcopy : prF .lcopy [.lst l] S = .ok (.lst l) S := (rfl)
@[simp] theorem pr_nlcopy : prF .nlcopy [.lst l] S = .ok (.ref S.length) (S ++ [.lst l]) := (rfl)
@[simp] theorem pr_dlen {ks : List Key} {vs : List D} : prF .dlen [.dct ks vs] S = .ok (.int ks.length) S := (rfl)
@[simp] theorem pr_dcopy {ks : List Key} {vs : List D} : prF .dcopy [.dct ks vs] S = .ok (.dct ks vs) S := (rfl)
@[simp] theorem pr_dlist {ks : List Key} {vs : List D} : prF .dlist [.dct ks vs] S = .ok (.lst (keysL ks)) S := (rfl)
@[simp] theorem pr_dget {ks : List Key} {vs : List D} {k : D} {q : Key} (h : keyD k = some q) : prF .dget [.dct ks vs, k] S = R.of S (getK ks vs q) := by simp [prF, dr, h]
@[simp] theorem pr_din {ks : List Key} {vs : List D} {k : D} {q : Key} (h : keyD k = some q) : prF .din [k, .dct ks vs] S = .ok (.bl (hasK ks vs q)) S := by simp [prF, dr, h]
@[simp] theorem pr_dnin {ks : List Key} {vs : List D} {k : D} {q : Key} (h : keyD k = some q) : prF .dnin [k, .dct ks vs] S = .ok (.bl (!hasK ks vs q)) S := by simp [prF, dr, h]
@[simp] theorem pr_dget1 {ks : List Key} {vs : List D} {k : D} {q : Key} (h : keyD k = some q) : prF .dget1 [.dct ks vs, k] S = .ok ((getK ks vs q).getD .non) S := by simp [prF, dr, h]
@[simp] theorem pr_dget2 {ks : List Key} {vs : List D} {k x : D} {q : Key} (h : keyD k = some q) : prF .dget2 [.dct ks vs, k, x] S = .ok ((getK ks vs q).getD x) S := by simp [prF, dr, h]
@[simp] theorem keyD_int {i : Int} : keyD (.int i) = some (.inl i) := (rfl)
@[simp] theorem keyD_str {x : Str} : keyD (.str x) = some (.inr x) := (rfl)
/-- a looked-at dict of the store -/
theorem dr_ref {n : Nat} {ks : List Key} {vs : List D} (h : S[n]? = some (.dct ks vs)) : dr S (.ref n) = .dct ks vs := by simp only [dr, h]
theorem dr_refL {n : Nat} (h : S[n]? = some (.lst l)) : dr S (.ref n) = .lst l := by simp only [dr, h]
theorem strsOf_map {xs : List Str} : strsOf (xs.map D.str) = some xs := by
  induction xs with
  | nil => rfl
  | cons x xs ih => simp [strsOf, ih]
theorem pr_join {y : Str} {xs : List Str} (h : (xs.map (·.length)).sum + xs.length * y.length ≤ 16777216) : prF (.join y) [.lst (xs.map .str)] S = .ok (.str (Txt.join y xs)) S := by
  simp only [prF, dr, strsOf_map, Option.bind_some]
  rw [if_pos h]
  rfl
@[simp] theorem cmp_ltS {x y : Str} : cmpF .lt (.str x) (.str y) = some (decide (x.cps.toList < y.cps.toList)) := (rfl)
@[simp] theorem cmp_leS {x y : Str} : cmpF .le (.str x) (.str y) = some (!decide (y.cps.toList < x.cps.toList)) := (rfl)
@[simp] theorem cmp_gtS {x y : Str} : cmpF .gt (.str x) (.str y) = some (decide (y.cps.toList < x.cps.toList)) := (rfl)
@[simp] theorem cmp_geS {x y : Str} : cmpF .ge (.str x) (.str y) = some (!decide (x.cps.toList < y.cps.toList)) := (rfl)
@[simp] theorem op1_lrev : op1F .lrev (.lst l) = some (.lst l.reverse) := (rfl)
@[simp] theorem pmF_nil : pmF l [] = [] := (rfl)
@[simp] theorem pmF_inl {n : Nat} {r : List (Nat ⊕ D)} : pmF l (.inl n :: r) = l.getD n .non :: pmF l r := (rfl)
@[simp] theorem pmF_inr {d : D} {r : List (Nat ⊕ D)} : pmF l (.inr d :: r) = d :: pmF l r := (rfl)
theorem star_lst {d : D} (h : l.length < 16777216) : starF (.lst (d :: l)) = some (d, l) := by simp only [starF]; rw [if_pos]; rw [sizeLine_eq]; exact h
theorem star_tup' {d : D} (h : l.length < 16777216) : starF (.tup (d :: l)) = some (d, l) := by simp only [starF]; rw [if_pos]; rw [sizeLine_eq]; exact h
@[simp] theorem seqOf_lst : seqOf (.lst l) = some l := (rfl)
@[simp] theorem seqOf_tup : seqOf (.tup l) = some l := (rfl)
@[simp] theorem tru_bl {b : Bool} : truF (.bl b) = some b := (rfl)
@[simp] theorem tru_non : truF .non = some false := (rfl)
@[simp] theorem tru_lst : truF (.lst l) = some (!l.isEmpty) := (rfl)
@[simp] theorem tru_tup : truF (.tup l) = some (!l.isEmpty) := (rfl)
@[simp] theorem setT_nm {k : Nat} {d : D} {ε : Env} : setT (.nm k) d ε = some (ε.set k (.val d)) := by simp only [setT]
@[simp] theorem setT_tp {ts : List Tg} {ε : Env} : setT (.tp ts) (.tup l) ε = setTs ts l ε := by simp only [setT]
@[simp] theorem setT_tpl {ts : List Tg} {ε : Env} : setT (.tp ts) (.lst l) ε = setTs ts l ε := by simp only [setT]
@[simp] theorem setTs_nil {ε : Env} : setTs [] [] ε = some ε := by simp only [setTs]
@[simp] theorem setTs_cons {t : Tg} {ts : List Tg} {d : D} {ε : Env} : setTs (t :: ts) (d :: l) ε = (setT t d ε).bind fun ε' => setTs ts l ε' := by
  simp only [setTs]; cases setT t d ε <;> rfl
@[simp] theorem wipeE_nil {ε : Env} : wipeE ε [] = ε := (rfl)
@[simp] theorem wipeE_cons {ε : Env} {v : Nat} {vs : List Nat} : wipeE ε (v :: vs) = (wipeE ε vs).set v .un := (rfl)
theorem lcR_ok {xs : List D} {S : Sto} (h : xs.length ≤ sizeLine) : lcR (.ok xs S) = .ok (.lst xs) S := by simp [lcR, h]
theorem line_ge : 16777216 = sizeLine := by rw [sizeLine_eq]
@[simp] theorem ifk_line {α : Type} {n : Nat} {a b : α} (h : n ≤ 16777216) : ifk (decide (n ≤ sizeLine)) a b = a := by unfold ifk; rw [if_pos]; exact decide_eq_true (by rw [← line_ge]; exact h)
@[simp] theorem ifk_line2 {α : Type} {n : Nat} {a b : α} (h : n < 16777216) : ifk (decide (n < sizeLine)) a b = a := by unfold ifk; rw [if_pos]; exact decide_eq_true (by rw [← line_ge]; exact h)
theorem call_unf {Γ : Tab} {t k f : Nat} {ds : List D} {F : Fn} (h : Γ f = some F) (hl : ds.length = F.par) : evCall Γ t (k + 1) f ds S = flOut (evB (evCall Γ t k) t F.body (startE F.slots ds) S) := by simp only [evCall, h, hl, if_true]
end
@[simp] theorem ixN_0 {n : Nat} : ixN (n + 1) 0 = some 0 := by unfold ixN; rw [if_pos (by omega), if_pos (by omega)]; rfl
@[simp] theorem ixN_1 {n : Nat} : ixN (n + 1 + 1) 1 = some 1 := by unfold ixN; rw [if_pos (by omega), if_pos (by omega)]; rfl
theorem atI_int {α : Type} {l : List α} {i : Int} {x : α} (h0 : 0 ≤ i) (h : l[i.toNat]? = some x) : atI l i = some x := by
  have := atI_nat (xs := l) (j := i.toNat) h
  rwa [show ((i.toNat : Nat) : Int) = i by omega] at this
@[simp] theorem atI_0 {α : Type} {x : α} {l : List α} : atI (x :: l) 0 = some x := atI_int (by omega) rfl
@[simp] theorem atI_1 {α : Type} {x y : α} {l : List α} : atI (x :: y :: l) 1 = some y := atI_int (by omega) rfl
@[simp] theorem atI_2 {α : Type} {x y z : α} {l : List α} : atI (x :: y :: z :: l) 2 = some z := atI_int (by omega) rfl
/-- a comprehension without effects -/
theorem lcL_map {α : Type} {F : D → Sto → R (Option D)} {S : Sto} {f g : α → D} : ∀ {l : List α}, (∀ p ∈ l, F (f p) S = .ok (some (g p)) S) → lcL F (l.map f) S = .ok (l.map g) S
  | [], _ => rfl
  | p :: l, h => by
    simp only [List.map_cons, lcL, h p (List.mem_cons_self ..), lcL_map (l := l) fun q hq => h q (List.mem_cons_of_mem _ hq)]
theorem lcM_map {α : Type} {F : D → Sto → R (List D)} {S : Sto} {f : α → D} {g : α → List D} : ∀ {l : List α}, (∀ p ∈ l, F (f p) S = .ok (g p) S) → lcM F (l.map f) S = .ok (l.flatMap g) S
  | [], _ => by simp [lcM]
  | p :: l, h => by simp only [List.map_cons, lcM, h p (List.mem_cons_self ..), lcM_map fun q hq => h q (List.mem_cons_of_mem _ hq), List.flatMap_cons]
theorem lcL_filter {α : Type} {F : D → Sto → R (Option D)} {S : Sto} {f g : α → D} {t : α → Bool} : ∀ {l : List α}, (∀ p ∈ l, F (f p) S = .ok (if t p = true then some (g p) else none) S) → lcL F (l.map f) S = .ok ((l.filter t).map g) S
  | [], _ => rfl
  | p :: l, h => by
    have ih := lcL_filter (F := F) (S := S) (f := f) (g := g) (t := t) (l := l) fun q hq => h q (List.mem_cons_of_mem _ hq)
    have h0 := h p (List.mem_cons_self ..)
    simp only [List.map_cons, lcL, List.filter_cons]
    cases e : t p with
    | true => rw [e] at h0; simp only [if_true] at h0 ⊢; simp only [h0, ih, List.map_cons]
    | false => rw [e] at h0; simp only [Bool.false_eq_true, if_false] at h0 ⊢; simp only [h0, ih]
/-! loops -/
@[simp] theorem forL_nil {F : D → Env → Sto → R Fl} {ε : Env} {S : Sto} : forL F [] ε S = .ok (.nx ε) S := (rfl)
/-- what a turn's end leads to -/
def fork (r : R Fl) (k : Env → Sto → R Fl) : R Fl := r.bd fun f S' => match f with
  | .nx ε' => k ε' S'
  | .ct ε' => k ε' S'
  | .bk ε' => .ok (.nx ε') S'
  | f => .ok f S'
theorem fork_congr {r r' : R Fl} {k : Env → Sto → R Fl} (h : r = r') : fork r k = fork r' k := by rw [h]
@[simp] theorem fork_nx {ε : Env} {S : Sto} {k : Env → Sto → R Fl} : fork (.ok (.nx ε) S) k = k ε S := (rfl)
@[simp] theorem fork_ct {ε : Env} {S : Sto} {k : Env → Sto → R Fl} : fork (.ok (.ct ε) S) k = k ε S := (rfl)
@[simp] theorem fork_bk {ε : Env} {S : Sto} {k : Env → Sto → R Fl} : fork (.ok (.bk ε) S) k = .ok (.nx ε) S := (rfl)
@[simp] theorem fork_rt {d : D} {S : Sto} {k : Env → Sto → R Fl} : fork (.ok (.rt d) S) k = .ok (.rt d) S := (rfl)
@[simp] theorem fork_ex {x : Exc} {ε : Env} {S : Sto} {k : Env → Sto → R Fl} : fork (.ok (.ex x ε) S) k = .ok (.ex x ε) S := (rfl)
@[simp] theorem forL_cons {F : D → Env → Sto → R Fl} {d : D} {ds : List D} {ε : Env} {S : Sto} : forL F (d :: ds) ε S = fork (F d ε S) fun ε' S' => forL F ds ε' S' := (rfl)
theorem whlL_succ {c : Env → Sto → R Bool} {F : Env → Sto → R Fl} {n : Nat} {ε : Env} {S : Sto} : whlL c F (n + 1) ε S = (c ε S).lf ε fun k S1 => ifk k (fork (F ε S1) fun ε' S' => whlL c F n ε' S') (.ok (.nx ε) S1) := rfl
/-- a for that ends every turn in a next one: by an invariant -/
theorem forL_inv {F : D → Env → Sto → R Fl} (P : Nat → Env → Sto → Prop) {ds : List D} (step : ∀ i d ε S, ds[i]? = some d → P i ε S → ∃ ε' S', F d ε S = .ok (.nx ε') S' ∧ P (i + 1) ε' S') :
    ∀ {ε : Env} {S : Sto}, P 0 ε S → ∃ ε' S', forL F ds ε S = .ok (.nx ε') S' ∧ P ds.length ε' S' := by
  have key : ∀ (n i : Nat) (ε : Env) (S : Sto), n = ds.length - i → i ≤ ds.length → P i ε S → ∃ ε' S', forL F (ds.drop i) ε S = .ok (.nx ε') S' ∧ P ds.length ε' S' := by
    intro n
    induction n with
    | zero =>
      intro i ε S hn hi hp
      obtain rfl : i = ds.length := by omega
      exact ⟨ε, S, by simp, hp⟩
    | succ n ih =>
      intro i ε S hn hi hp
      have hlt : i < ds.length := by omega
      obtain ⟨ε', S', h1, h2⟩ := step i ds[i] ε S (by simp [hlt]) hp
      obtain ⟨ε'', S'', h3, h4⟩ := ih (i + 1) ε' S' (by omega) (by omega) h2
      refine ⟨ε'', S'', ?_, h4⟩
      rw [List.drop_eq_getElem_cons hlt, forL_cons, h1, fork_nx, h3]
  intro ε S h0
  have := key ds.length 0 ε S rfl (Nat.zero_le _) h0
  simpa using this

/-! == -/
mutual
def okD : Nat → D → Bool
  | _, .non => true
  | _, .bl _ => true
  | _, .int _ => true
  | _, .str x => PyData.canLay0 (.str x)
  | n, .tup l => decide (0 < n) && okDs (n - 1) l
  | n, .lst l => decide (0 < n) && okDs (n - 1) l
  | _, .ref _ => false
  | _, .scr _ => false
  | _, .dct _ _ => false
  | _, .obj _ _ => false
def okDs : Nat → List D → Bool
  | _, [] => true
  | n, d :: ds => okD n d && okDs n ds
end
mutual
def eqvD : D → D → Bool
  | .non, .non => true
  | .bl a, .bl b => a == b
  | .bl a, .int j => (if a then 1 else 0) == j
  | .int i, .bl b => i == (if b then 1 else 0)
  | .int i, .int j => i == j
  | .str x, .str y => x == y
  | .tup x, .tup y => eqvDs x y
  | .lst x, .lst y => eqvDs x y
  | _, _ => false
def eqvDs : List D → List D → Bool
  | [], [] => true
  | x :: xs, y :: ys => eqvD x y && eqvDs xs ys
  | _, _ => false
end
mutual
theorem okD_py : ∀ (d : D) (n : Nat), okD n d = true → ∃ p, toPy d = some p ∧ p.canLay0 = true ∧ p.depth ≤ n
  | .non, n, h => ⟨.none, by simp only [toPy], rfl, Nat.zero_le _⟩
  | .bl b, n, h => ⟨.bool b, by simp only [toPy], rfl, Nat.zero_le _⟩
  | .int b, n, h => ⟨.int b, by simp only [toPy], rfl, Nat.zero_le _⟩
  | .str b, n, h => ⟨.str b, by simp only [toPy], by simpa only [okD] using h, Nat.zero_le _⟩
  | .tup l, n, h => by
    simp only [okD, Bool.and_eq_true, decide_eq_true_eq] at h
    obtain ⟨ps, h1, h2, h3⟩ := okDs_py l (n - 1) h.2
    exact ⟨.tuple ps, by simp only [toPy, h1]; rfl, by simpa only [PyData.canLay0] using h2, by simp only [PyData.depth]; omega⟩
  | .lst l, n, h => by
    simp only [okD, Bool.and_eq_true, decide_eq_true_eq] at h
    obtain ⟨ps, h1, h2, h3⟩ := okDs_py l (n - 1) h.2
    exact ⟨.list ps, by simp only [toPy, h1]; rfl, by simpa only [PyData.canLay0] using h2, by simp only [PyData.depth]; omega⟩
  | .ref _, n, h => by simp [okD] at h
  | .scr _, n, h => by simp [okD] at h
  | .dct _ _, n, h => by simp [okD] at h
  | .obj _ _, n, h => by simp [okD] at h
theorem okDs_py : ∀ (ds : List D) (n : Nat), okDs n ds = true → ∃ ps, toPys ds = some ps ∧ PyData.canLayAll0 ps = true ∧ PyData.depthAll ps ≤ n
  | [], n, h => ⟨[], by simp only [toPys], rfl, Nat.zero_le _⟩
  | d :: ds, n, h => by
    simp only [okDs, Bool.and_eq_true] at h
    obtain ⟨p, h1, h2, h3⟩ := okD_py d n h.1
    obtain ⟨ps, h4, h5, h6⟩ := okDs_py ds n h.2
    exact ⟨p :: ps, by simp only [toPys, h1, h4], by simp only [PyData.canLayAll0, h2, h5, Bool.and_self], by simp only [PyData.depthAll]; omega⟩
end
mutual
theorem eqv_py : ∀ (a b : D) (p q : PyData), toPy a = some p → toPy b = some q → PyData.eqv p q = eqvD a b := by
  intro a b p q ha hb
  cases a with
  | tup x =>
    simp only [toPy] at ha
    cases hx : toPys x with
    | none => rw [hx] at ha; cases ha
    | some ps =>
      rw [hx] at ha; cases ha
      cases b with
      | tup y =>
        simp only [toPy] at hb
        cases hy : toPys y with
        | none => rw [hy] at hb; cases hb
        | some qs =>
          rw [hy] at hb; cases hb
          simp only [PyData.eqv, eqvD]
          exact eqvs_py x y ps qs hx hy
      | lst y =>
        simp only [toPy] at hb
        cases hy : toPys y with
        | none => rw [hy] at hb; cases hb
        | some qs => rw [hy] at hb; cases hb; rfl
      | ref _ => simp [toPy] at hb
      | scr _ => simp [toPy] at hb
      | dct _ _ => simp [toPy] at hb
      | obj _ _ => simp [toPy] at hb
      | _ => simp only [toPy] at hb; cases hb; rfl
  | lst x =>
    simp only [toPy] at ha
    cases hx : toPys x with
    | none => rw [hx] at ha; cases ha
    | some ps =>
      rw [hx] at ha; cases ha
      cases b with
      | lst y =>
        simp only [toPy] at hb
        cases hy : toPys y with
        | none => rw [hy] at hb; cases hb
        | some qs =>
          rw [hy] at hb; cases hb
          simp only [PyData.eqv, eqvD]
          exact eqvs_py x y ps qs hx hy
      | tup y =>
        simp only [toPy] at hb
        cases hy : toPys y with
        | none => rw [hy] at hb; cases hb
        | some qs => rw [hy] at hb; cases hb; rfl
      | ref _ => simp [toPy] at hb
      | scr _ => simp [toPy] at hb
      | dct _ _ => simp [toPy] at hb
      | obj _ _ => simp [toPy] at hb
      | _ => simp only [toPy] at hb; cases hb; rfl
  | ref _ => simp [toPy] at ha
  | scr _ => simp [toPy] at ha
  | dct _ _ => simp [toPy] at ha
  | obj _ _ => simp [toPy] at ha
  | _ =>
    simp only [toPy] at ha
    cases ha
    cases b with
    | tup y =>
      simp only [toPy] at hb
      cases hy : toPys y with
      | none => rw [hy] at hb; cases hb
      | some qs => rw [hy] at hb; cases hb; rfl
    | lst y =>
      simp only [toPy] at hb
      cases hy : toPys y with
      | none => rw [hy] at hb; cases hb
      | some qs => rw [hy] at hb; cases hb; rfl
    | ref _ => simp [toPy] at hb
    | scr _ => simp [toPy] at hb
    | dct _ _ => simp [toPy] at hb
    | obj _ _ => simp [toPy] at hb
    | _ => simp only [toPy] at hb; cases hb; simp only [PyData.eqv, eqvD]
theorem eqvs_py : ∀ (xs ys : List D) (ps qs : List PyData), toPys xs = some ps → toPys ys = some qs → PyData.eqvAll ps qs = eqvDs xs ys
  | [], [], ps, qs, h, g => by simp only [toPys] at h g; cases h; cases g; rfl
  | [], y :: ys, ps, qs, h, g => by
    simp only [toPys] at h g
    cases h
    split at g
    · cases g; rfl
    · cases g
  | x :: xs, [], ps, qs, h, g => by
    simp only [toPys] at h g
    cases g
    split at h
    · cases h; rfl
    · cases h
  | x :: xs, y :: ys, ps, qs, h, g => by
    simp only [toPys] at h g
    split at h
    · rename_i p1 p2 e1 e2
      cases h
      split at g
      · rename_i q1 q2 e3 e4
        cases g
        simp only [PyData.eqvAll, eqvDs]
        rw [eqv_py x y p1 q1 e1 e3, eqvs_py xs ys p2 q2 e2 e4]
      · cases g
    · cases h
end
theorem eqF_ok {a b : D} (ha : okD 60 a = true) (hb : okD 60 b = true) : eqF a b = some (eqvD a b) := by
  obtain ⟨p, h1, h2, h3⟩ := okD_py a 60 ha
  obtain ⟨q, h4, h5, h6⟩ := okD_py b 60 hb
  unfold eqF
  rw [h1, h4]
  dsimp only
  have sh : ∀ r : PyData, r.canLay0 = true → r.depth ≤ 60 → SeqAt.shaped r = true := fun r e1 e2 => by unfold SeqAt.shaped; rw [e1, Bool.true_and]; exact decide_eq_true (by omega)
  rw [if_pos ⟨sh p h2 h3, sh q h5 h6⟩, eqv_py a b p q h1 h4]
theorem okDs_map {α : Type} {n : Nat} {f : α → D} : ∀ {l : List α}, (∀ x ∈ l, okD n (f x) = true) → okDs n (l.map f) = true
  | [], _ => rfl
  | x :: l, h => by simp only [List.map_cons, okDs, h x (List.mem_cons_self ..), okDs_map (l := l) fun y hy => h y (List.mem_cons_of_mem _ hy), Bool.and_self]
theorem eqvDs_map {α : Type} [DecidableEq α] {f : α → D} (hf : ∀ a b, eqvD (f a) (f b) = decide (a = b)) : ∀ {l m : List α}, eqvDs (l.map f) (m.map f) = decide (l = m)
  | [], [] => rfl
  | [], y :: m => by simp [eqvDs]
  | x :: l, [] => by simp [eqvDs]
  | x :: l, y :: m => by
    simp only [List.map_cons, eqvDs, hf, eqvDs_map hf (l := l) (m := m)]
    by_cases h1 : x = y <;> by_cases h2 : l = m <;> simp [h1, h2]
/-! boxes -/
def dS (s : Int × Int) : D := .tup [.int s.1, .int s.2]
def dB (b : List (Int × Int)) : D := .tup (b.map dS)
theorem okD_dS {n : Nat} {s : Int × Int} (h : 0 < n) : okD n (dS s) = true := by simp [dS, okD, okDs, h]
theorem okD_dB {n : Nat} {b : List (Int × Int)} (h : 1 < n) : okD n (dB b) = true := by
  simp only [dB, okD, Bool.and_eq_true, decide_eq_true_eq]
  exact ⟨by omega, okDs_map fun s _ => okD_dS (by omega)⟩
theorem eqvD_dS (s t : Int × Int) : eqvD (dS s) (dS t) = decide (s = t) := by
  obtain ⟨a, b⟩ := s
  obtain ⟨c, d⟩ := t
  by_cases h1 : a = c <;> by_cases h2 : b = d <;> simp [dS, eqvD, eqvDs, h1, h2]
theorem eqvD_dB (s t : List (Int × Int)) : eqvD (dB s) (dB t) = decide (s = t) := by
  simp only [dB, eqvD, eqvDs_map eqvD_dS]
@[simp] theorem eqF_dB (s t : List (Int × Int)) : eqF (dB s) (dB t) = some (decide (s = t)) := by rw [eqF_ok (okD_dB (by omega)) (okD_dB (by omega)), eqvD_dB]
@[simp] theorem zip_dB (s t : List (Int × Int)) : zipF (dB s) (dB t) = some ((s.zip t).map fun p => D.tup [dS p.1, dS p.2]) := by
  simp only [dB, zipF, Option.some.injEq]
  induction s generalizing t with
  | nil => simp
  | cons a s ih => cases t with
    | nil => simp
    | cons b t => simp [ih]
end BX
set_option Elab.async false
set_option linter.all false
set_option maxRecDepth 100000
set_option maxHeartbeats 2000000
/-! BX9b: sorted and min by a key. -/
namespace BX
open PySem L2
open PyProof.Rows hiding St Binds
open PySem.W (dataLt dataLe rowLt alike alikeAll)

/-- the key of one item -/
noncomputable def keyT (call : Call) (key : Ex) (i : Nat) (ε : Env) : D → Sto → R (Option D) := fun d S => (evE call key (ε.set i (.val d)) S).bd fun k S' => .ok (some k) S'
def lstO : D → Option (List D)
  | .lst ds => some ds
  | _ => none
def okL (r : R (List D)) (f : List D → Sto → R D) : R D := match r with
  | .ok ks S => f ks S
  | _ => .stuck
@[simp] theorem lstO_lst {l : List D} : lstO (.lst l) = some l := (rfl)
@[simp] theorem okL_ok {l : List D} {S : Sto} {f : List D → Sto → R D} : okL (.ok l S) f = f l S := (rfl)
section
variable {call : Call} {ε : Env} {S : Sto}
@[simp] theorem opd_srtK {r : R D} {l key : Ex} {i : Nat} : opd ε (.srtK l i key) S r = r := (rfl)
@[simp] theorem opd_minK {r : R D} {l key : Ex} {i : Nat} : opd ε (.minK l i key) S r = r := (rfl)
@[simp] theorem evE_srtK {l key : Ex} {i : Nat} : evE call (.srtK l i key) ε S = (evE call l ε S).bd fun x S1 => opk (lstO x) fun ds => okL (lcL (keyT call key i ε) ds S1) fun ks S2 => R.of S2 ((keyPy ks).map fun kz => .lst (sortV ds kz)) := by
  simp only [evE]
  congr 1
  funext x S1
  cases x <;> rfl
@[simp] theorem evE_minK {l key : Ex} {i : Nat} : evE call (.minK l i key) ε S = (evE call l ε S).bd fun x S1 => opk (lstO x) fun ds => okL (lcL (keyT call key i ε) ds S1) fun ks S2 => R.of S2 ((keyPy ks).bind fun kz => ds[argBest (btK kz) (ds.length - 1)]?) := by
  simp only [evE]
  congr 1
  funext x S1
  cases x <;> rfl
end
/-- a key of whole numbers -/
def tI (l : List Int) : D := .tup (l.map .int)
def pI (l : List Int) : PyData := .tuple (l.map .int)
theorem toPys_ints : ∀ l : List Int, toPys (l.map D.int) = some (l.map PyData.int)
  | [] => by simp only [List.map_nil, toPys]
  | i :: l => by simp only [List.map_cons, toPys, toPy, toPys_ints l]
theorem toPys_tI : ∀ ks : List (List Int), toPys (ks.map tI) = some (ks.map pI)
  | [] => by simp only [List.map_nil, toPys]
  | k :: ks => by simp only [List.map_cons, toPys, tI, toPy, toPys_ints, Option.map_some, pI]; rw [show (ks.map tI) = ks.map tI from rfl, toPys_tI ks]
theorem alike_ints : ∀ a b : List Int, alikeAll (a.map PyData.int) (b.map PyData.int) = true
  | [], _ => by simp only [List.map_nil, alikeAll]
  | _ :: _, [] => by simp only [List.map_cons, List.map_nil, alikeAll]
  | x :: a, y :: b => by simp only [List.map_cons, alikeAll, alike, alike_ints a b, Bool.and_self]
theorem depth_ints : ∀ l : List Int, PyData.depthAll (l.map PyData.int) ≤ 1
  | [] => by simp only [List.map_nil, PyData.depthAll]; omega
  | i :: l => by
    have := depth_ints l
    simp only [List.map_cons, PyData.depthAll, PyData.depth]
    omega
theorem keyPy_tI {ks : List (List Int)} (h : ∀ k ∈ ks, k ≠ []) : keyPy (ks.map tI) = some (ks.map pI) := by
  unfold keyPy
  rw [toPys_tI]
  simp only
  rw [if_pos]
  refine ⟨?_, .inl ?_, ?_, ?_⟩
  · simp only [List.all_map, List.all_eq_true, Function.comp]
    intro a _ b _
    simp only [pI, alike, alike_ints]
  · simp only [List.all_map, List.all_eq_true, Function.comp]
    intro a ha
    cases a with
    | nil => exact absurd rfl (h _ ha)
    | cons x a => rfl
  · intro d hd
    obtain ⟨a, _, rfl⟩ := List.mem_map.mp hd
    have := depth_ints a
    simp only [pI, PyData.depth]
    omega
  · simp only [List.all_map, List.all_eq_true, Function.comp]
    intro a _
    rfl
theorem lt_pI (a b : List Int) : dataLt (pI a) (pI b) = decide (a < b) := by
  unfold pI
  rw [PySem.W.dataLt_tuple]
  exact PySem.W.dataLt_ints a b
/-- < of two tuples of whole numbers -/
theorem cmp_ltI (a b : List Int) : cmpF .lt (.tup (a.map .int)) (.tup (b.map .int)) = some (decide (a < b)) := by
  show ltT _ _ = _
  unfold ltT
  rw [toPys_ints, toPys_ints]
  simp only
  rw [if_pos ⟨by simp only [alike, alike_ints], by have := depth_ints a; simp only [PyData.depth]; omega⟩]
  exact congrArg some (lt_pI a b)
theorem le_pI {β : Type} (k : β → List Int) : dataLe false (fun b => pI (k b)) = fun p q => decide (k p ≤ k q) := by
  funext p q
  show (!dataLt (pI (k q)) (pI (k p))) = _
  rw [lt_pI]
  by_cases h : k q < k p
  · have h' : ¬ k p ≤ k q := fun r => List.not_lt.mpr r h
    simp [h, h']
  · have h' : k p ≤ k q := List.not_lt.mp h
    simp [h, h']
theorem sortV_map {α : Type} (l : List α) (f : α → D) (k : α → PyData) : sortV (l.map f) (l.map k) = (l.mergeSort (dataLe false k)).map f := by
  unfold sortV
  rw [show (l.map f).zip (l.map k) = l.map fun x => (f x, k x) from by rw [List.zip_map', ]]
  rw [← List.map_mergeSort (r := dataLe false k) (f := fun x => (f x, k x)) (fun a _ b _ => rfl), List.map_map]
  rfl
/-- sorted by a key of whole numbers -/
theorem srt_tI {α : Type} {l : List α} {f : α → D} {k : α → List Int} (h : ∀ x ∈ l, k x ≠ []) : (keyPy (l.map fun x => tI (k x))).map (fun kz => D.lst (sortV (l.map f) kz)) = some (.lst ((l.mergeSort fun p q => decide (k p ≤ k q)).map f)) := by
  have e : (l.map fun x => tI (k x)) = (l.map k).map tI := by rw [List.map_map]; rfl
  rw [e, keyPy_tI fun z hz => by obtain ⟨x, hx, rfl⟩ := List.mem_map.mp hz; exact h x hx]
  simp only [Option.map_some, List.map_map]
  rw [show (l.map (pI ∘ k)) = l.map fun x => pI (k x) from rfl, sortV_map, le_pI]
/-- the first of the least -/
theorem argBest_tI (ks : List (List Int)) : ∀ n, n < ks.length → argBest (btK (ks.map pI)) n ≤ n ∧ (∀ j ≤ n, ¬ ks.getD j [] < ks.getD (argBest (btK (ks.map pI)) n) []) ∧ ∀ j < argBest (btK (ks.map pI)) n, ks.getD (argBest (btK (ks.map pI)) n) [] < ks.getD j []
  | 0, h => ⟨Nat.le_refl _, fun j hj => by obtain rfl : j = 0 := by omega
                                           exact List.lt_irrefl _, fun j hj => absurd hj (Nat.not_lt_zero _)⟩
  | n + 1, h => by
    obtain ⟨h1, h2, h3⟩ := argBest_tI ks n (by omega)
    have eb : btK (ks.map pI) (n + 1) (argBest (btK (ks.map pI)) n) = decide (ks.getD (n + 1) [] < ks.getD (argBest (btK (ks.map pI)) n) []) := by
      have g : ∀ j, j < ks.length → (ks.map pI).getD j .none = pI (ks.getD j []) := fun j hj => by simp [hj]
      generalize argBest (btK (ks.map pI)) n = b at h1
      show dataLt _ _ = _
      rw [g _ h, g _ (by omega), lt_pI]
    simp only [argBest]
    rw [eb]
    by_cases c : ks.getD (n + 1) [] < ks.getD (argBest (btK (ks.map pI)) n) []
    · rw [if_pos (decide_eq_true c)]
      have key : ∀ j ≤ n, ks.getD (n + 1) [] < ks.getD j [] := fun j hj => by
        have := h2 j hj
        rcases Std.lt_trichotomy (ks.getD (n + 1) []) (ks.getD j []) with z | z | z
        · exact z
        · exact absurd (z ▸ c) this
        · exact absurd (List.lt_trans z c) this
      refine ⟨Nat.le_refl _, fun j hj => ?_, fun j hj => key j (by omega)⟩
      rcases Nat.lt_or_ge j (n + 1) with hj2 | hj2
      · exact fun z => List.lt_irrefl _ (List.lt_trans z (key j (by omega)))
      · obtain rfl : j = n + 1 := by omega
        exact List.lt_irrefl _
    · rw [if_neg (by simpa using c)]
      refine ⟨by omega, fun j hj => ?_, h3⟩
      rcases Nat.lt_or_ge j (n + 1) with hj2 | hj2
      · exact h2 j (by omega)
      · obtain rfl : j = n + 1 := by omega
        exact c
theorem pw_int {ns : List Int} : (sortI ns).Pairwise (fun a b : Int => a ≤ b) := by
  have h := List.pairwise_mergeSort (le := fun a b : Int => decide (a ≤ b)) (by intro a b c; simp only [decide_eq_true_eq]; omega) (by intro a b; simp only [Bool.or_eq_true, decide_eq_true_eq]; omega) ns
  exact h.imp fun z => by simpa using z
theorem sortI_of {a b : List Int} (h : a.Perm b) (hb : b.Pairwise (fun a b : Int => a ≤ b)) : sortI a = b := by
  have h1 : (sortI a).Perm b := (List.mergeSort_perm a _).trans h
  exact h1.eq_of_pairwise (fun a b _ _ h1 h2 => Int.le_antisymm h1 h2) pw_int hb
theorem sortI_idem (ns : List Int) : sortI (sortI ns) = sortI ns := sortI_of (List.Perm.refl _) pw_int
theorem range_pw (n : Nat) : ((List.range n).map Int.ofNat).Pairwise (fun a b : Int => a ≤ b) := by
  rw [List.pairwise_map]
  exact List.pairwise_lt_range.imp fun h => by simp only [Int.ofNat_eq_natCast]; omega
def dI (l : List Int) : D := .lst (l.map .int)
theorem okD_dI {n : Nat} {l : List Int} (h : 0 < n) : okD n (dI l) = true := by
  simp only [dI, okD, Bool.and_eq_true, decide_eq_true_eq]
  exact ⟨h, okDs_map fun s _ => rfl⟩
theorem eqv_dI (l m : List Int) : eqvD (dI l) (dI m) = decide (l = m) := by
  simp only [dI, eqvD]
  exact eqvDs_map fun a b => by simp only [eqvD]; rfl
@[simp] theorem eqF_dI (l m : List Int) : eqF (dI l) (dI m) = some (decide (l = m)) := by rw [eqF_ok (okD_dI (by omega)) (okD_dI (by omega)), eqv_dI]
theorem srt_dI (l : List Int) : op1F .srt (dI l) = some (dI (sortI l)) := by
  show (intsOf _).map _ = _
  rw [intsOf_map]
  rfl
/-! slices -/
theorem cut_to {α : Type} {l : List α} {f : α → D} {e : Nat} : cutD (l.map f) none (some (e : Int)) = (l.take e).map f := by
  unfold cutD
  rw [HT.sIx_none, HT.sIx_nat]
  simp only [List.length_map, List.drop_zero, Nat.sub_zero, List.map_take]
  rw [show min e l.length = min e (l.map f).length by rw [List.length_map], ← List.take_eq_take_min]
theorem cut_from {α : Type} {l : List α} {f : α → D} {e : Nat} : cutD (l.map f) (some (e : Int)) none = (l.drop e).map f := by
  unfold cutD
  rw [HT.sIx_none, HT.sIx_nat, List.length_map]
  by_cases h : e ≤ l.length
  · rw [Nat.min_eq_left h, List.take_of_length_le (by simp), List.map_drop]
  · rw [Nat.min_eq_right (by omega), List.drop_eq_nil_of_le (by simp), List.drop_eq_nil_of_le (by omega)]
    simp
theorem cut_mid {α : Type} {l : List α} {f : α → D} {a e : Nat} : cutD (l.map f) (some (a : Int)) (some (e : Int)) = ((l.take e).drop a).map f := by
  unfold cutD
  rw [HT.sIx_nat, HT.sIx_nat, List.length_map, List.map_drop, List.map_take, List.drop_take]
  by_cases h : a ≤ l.length
  · rw [Nat.min_eq_left h]
    by_cases h2 : e ≤ l.length
    · rw [Nat.min_eq_left h2]
    · rw [Nat.min_eq_right (by omega)]
      apply List.ext_getElem?
      intro i
      simp only [List.getElem?_take, List.getElem?_drop, List.getElem?_map]
      by_cases h3 : i < e - a
      · rw [if_pos h3]
        by_cases h4 : i < l.length - a
        · rw [if_pos h4]
        · rw [if_neg h4, List.getElem?_eq_none (by omega)]
          rfl
      · rw [if_neg h3, if_neg (by omega)]
  · have e1 : (l.map f).drop l.length = [] := by simp
    have e2 : (l.map f).drop a = [] := by simp; omega
    rw [Nat.min_eq_right (show l.length ≤ a by omega), e1, e2]
    simp
/-! a block in two parts; a law's loop -/
theorem evB_app {call : Call} {turns : Nat} : ∀ {l1 l2 : List Sm} {ε : Env} {S : Sto}, evB call turns (l1 ++ l2) ε S = thn (β := Unit) (evB call turns l1 ε S) fun ε' S' => evB call turns l2 ε' S'
  | [], l2, ε, S => by simp
  | s :: l1, l2, ε, S => by
    rw [List.cons_append, evB_cons, evB_cons]
    cases e : evS call turns s ε S with
    | ok f S1 => cases f <;> simp [evB_app]
    | exc x S1 => rfl
    | stuck => rfl
theorem evB_cut {call : Call} {turns : Nat} (n : Nat) {l : List Sm} {ε : Env} {S : Sto} : evB call turns l ε S = thn (β := Unit) (evB call turns (l.take n) ε S) fun ε' S' => evB call turns (l.drop n) ε' S' := by
  rw [← evB_app, List.take_append_drop]
theorem law_loop {F : D → Env → Sto → R Fl} {n m : Nat} {x : Sl} (h : ∀ i < n, ∀ (ps : List Sl) (S : Sto), ps.length = m → ∃ ps' S', F (.int i) (x :: ps) S = .ok (.nx (x :: ps')) S' ∧ ps'.length = m) {ps : List Sl} {S : Sto} (hp : ps.length = m) :
    ∃ ps' S', forL F (rngL 0 n) (x :: ps) S = .ok (.nx (x :: ps')) S' ∧ ps'.length = m := by
  obtain ⟨ε', S2, e2, ps', rfl, h2⟩ := forL_inv (F := F) (fun i ε S => ∃ ps' : List Sl, ε = x :: ps' ∧ ps'.length = m) (ds := rngL 0 n)
    (by
      rintro i d ε S hd ⟨ps', rfl, hl⟩
      have hi : i < n := by
        have := (List.getElem?_eq_some_iff.mp hd).1
        simpa [rngL] using this
      have e : d = .int i := by
        unfold rngL at hd
        rw [List.getElem?_map, List.getElem?_range hi] at hd
        simpa using hd.symm
      subst e
      obtain ⟨ps2, S', e1, e2⟩ := h i hi ps' S hl
      exact ⟨_, S', e1, ps2, rfl, e2⟩) (ε := x :: ps) (S := S) ⟨ps, rfl, hp⟩
  exact ⟨ps', S2, e2, h2⟩
/-! ### the lambdas' tables at the end of a law -/
/-- what the end shows of a code object's table -/
def LamTab (K : PySem.W.Frag) (h : Heap) (c P : Addr) : Prop := PySem.W.codeHdIn K c P = true ∧ K.lookup P = none ∧ h.get? P = some { cls := .none, data := .fields #[] }
theorem lamTab_mk {K : PySem.W.Frag} {h : Heap} {c P : Addr} {e : Value} {dd : Option Addr} {vs : Array Value} {sl : Array (Option Value)} (h1 : K.lookup c = some ⟨e, dd, .fields vs, sl⟩) (h2 : vs[11]? = some (.ref P)) (h3 : PySem.W.codeHdIn K c P = true) (h4 : K.lookup P = none) (h5 : h.get? P = some { cls := .none, data := .fields #[] }) : LamTab K h c P := ⟨h3, h4, h5⟩
theorem key_uniq {α β : Type} : ∀ {l : List (α × β)}, (l.map (·.1)).Nodup → ∀ {a : α} {b b' : β}, (a, b) ∈ l → (a, b') ∈ l → b = b'
  | [], _, _, _, _, h, _ => by simp at h
  | (x, y) :: l, nd, a, b, b', h1, h2 => by
    simp only [List.map_cons, List.nodup_cons] at nd
    rcases List.mem_cons.mp h1 with h1 | h1 <;> rcases List.mem_cons.mp h2 with h2 | h2
    · cases h1; cases h2; rfl
    · cases h1; exact absurd (List.mem_map.mpr ⟨_, h2, rfl⟩) nd.1
    · cases h2; exact absurd (List.mem_map.mpr ⟨_, h1, rfl⟩) nd.1
    · exact key_uniq nd.2 h1 h2
theorem lOk_of {cs : List (Addr × Addr)} {tabs : List (Addr × Str)} {qual : Str} {c P : Addr} (h1 : (c, P) ∈ cs) (h2 : (P, lamQ qual) ∈ tabs) (h3 : (tabs.map (·.1)).Nodup) : LOk cs tabs qual (some (c, P)) := fun c' P' z => by
  cases z
  exact ⟨h1, h2, fun p hp e => by obtain ⟨a, b⟩ := p; cases e; exact key_uniq h3 hp h2⟩
theorem cFacts_none {T : Tb} {Γ : Tab} {K : PySem.W.Frag} {cs : List (Addr × Addr)} {tabs : List (Addr × Str)} {mg : Str → Option Value} (hm : T.mthB = fun _ _ _ => false) (hk : T.mkB = fun _ _ => false) (hf : T.fldB = fun _ _ => false) : CFacts T Γ K cs tabs mg :=
  ⟨fun f c m z => (by rw [hm] at z; cases z), fun f c z => (by rw [hk] at z; cases z), fun c f C z => (by rw [hf] at z; cases z)⟩
theorem lamTabs_ok {K : PySem.W.Frag} {h : Heap} {cs : List (Addr × Addr)} {tabs : List (Addr × Str)} (t : ∀ p ∈ cs, LamTab K h p.1 p.2) (e : tabs.map (·.1) = cs.map (·.2)) :
    (∀ p ∈ cs, h.get? p.2 = some { cls := .none, data := .fields #[] }) ∧ (∀ p ∈ cs, K.lookup p.2 = none) ∧ (K.In h → ∀ p ∈ cs, PySem.W.CodeHd h p.1 p.2) ∧ ∀ p ∈ tabs, ∃ z ∈ cs, z.2 = p.1 :=
  ⟨fun p hp => (t p hp).2.2, fun p hp => (t p hp).2.1, fun X p hp => PySem.W.codeHd_of_K X (t p hp).1, fun p hp => by
    have : p.1 ∈ cs.map (·.2) := by rw [← e]; exact List.mem_map.mpr ⟨p, hp, rfl⟩
    obtain ⟨z, hz, h⟩ := List.mem_map.mp this
    exact ⟨z, hz, h⟩⟩
/-- a def with lambdas, and its table -/
def FnAtT (K : PySem.W.Frag) (h : Heap) (x : Str) (st : Stmt) (c P : Addr) : Prop := FnAt K x st (some (c, P)) ∧ LamTab K h c P
theorem fnAtT_mk {K : PySem.W.Frag} {h : Heap} {x : Str} {st : Stmt} {f c P : Addr} {oc : Value} {od an : Option Addr} {kV doc pm ct : Value} {osl : Array (Option Value)} {e : Value} {dd : Option Addr} {vs : Array Value} {sl : Array (Option Value)} (h1 : PySem.W.nsIn K mainGlobals x = some (some (.ref f)))
    (h2 : K.lookup f = some ⟨oc, od, .func (PySem.W.fnOf x x (defArgs st) (defBody st) (defScope st) .none kV doc pm an (.ref c) ct), osl⟩) (h3 : PySem.W.codeIn K (.ref c) x = true) (h4 : PySem.W.keepIn K (.ref f) = true)
    (g1 : K.lookup c = some ⟨e, dd, .fields vs, sl⟩) (g2 : vs[11]? = some (.ref P)) (g3 : PySem.W.codeHdIn K c P = true) (g4 : K.lookup P = none) (g5 : h.get? P = some { cls := .none, data := .fields #[] }) : FnAtT K h x st c P := ⟨fnAt_mkL h1 h2 h3 h4, g3, g4, g5⟩
end BX
set_option Elab.async false
set_option linter.all false
set_option maxRecDepth 100000
/-! BX9c: equations of the later forms. -/
namespace BX
open PySem L2
section
variable {call : Call} {ε : Env} {S : Sto} {r : R D}
@[simp] theorem opd_lidx {a b : Ex} : opd ε (.lidx a b) S r = r := (rfl)
@[simp] theorem opd_orV {a b : Ex} : opd ε (.orV a b) S r = r := (rfl)
@[simp] theorem opd_mkV {f : Nat} {c : Str} {fs : List Str} {es : List Ex} : opd ε (.mkV f c fs es) S r = r := (rfl)
@[simp] theorem opd_dsp {es : List Ex} : opd ε (.dsp es) S r = r := (rfl)
@[simp] theorem opd_dc {kx vx : Ex} {tg : Tg} {it : Itx} {cond : Option Ex} {own : List Nat} : opd ε (.dc kx vx tg it cond own) S r = r := (rfl)
@[simp] theorem evE_lidx {a b : Ex} : evE call (.lidx a b) ε S = (evE call a ε S).bd fun x S1 => opk (lstOf x) fun l => (evE call b ε S1).bd fun y S2 => R.of S2 (idxF l y) := by
  simp only [evE]; congr 1; funext x S1; cases x <;> rfl
@[simp] theorem evE_orV {a b : Ex} : evE call (.orV a b) ε S = (evE call a ε S).bd fun x S1 => (R.of S1 (truF x)).bd fun k S2 => ifk k (.ok x S2) (evE call b ε S2) := by
  simp only [evE]; congr 1
@[simp] theorem evE_mkV {f : Nat} {c : Str} {fs : List Str} {es : List Ex} : evE call (.mkV f c fs es) ε S = (evEs call es ε S).bd fun ds S1 => mkvR c fs ds S1 (call f (.ref S1.length :: ds) (S1 ++ [.ins c []])) := by simp only [evE]
theorem mkvR_ok {c : Str} {fs : List Str} {ds : List D} {r : R D} (h : r = .ok .non (S ++ [.ins c (fs.zip ds)])) (hl : ds.length = fs.length) (hn : fs.Nodup) : mkvR c fs ds S r = .ok (.obj fs ds) S := by
  unfold mkvR
  exact if_pos ⟨h, hl, hn⟩
@[simp] theorem evE_dsp {es : List Ex} : evE call (.dsp es) ε S = (evEs call es ε S).bd fun ds S1 => R.of S1 ((dspF ds [] []).map fun p => .dct p.1 p.2) := by simp only [evE]
/-- a dict comprehension's entry -/
noncomputable def dcF (call : Call) (kx vx : Ex) (tg : Tg) (cond : Option Ex) (own : List Nat) (ε : Env) : D → Sto → R (Option (D × D)) := fun d S => opk (setT tg d (wipeE ε own)) fun ε' => (evC call cond ε' S).bd fun k S2 => ifk k ((evE call kx ε' S2).bd fun y S3 => (evE call vx ε' S3).bd fun z S4 => .ok (some (y, z)) S4) (.ok none S2)
def dcR (r : R (List Key × List D)) : R D := match r with
  | .ok p S2 => .ok (.dct p.1 p.2) S2
  | _ => .stuck
@[simp] theorem dcR_ok {p : List Key × List D} : dcR (.ok p S) = .ok (.dct p.1 p.2) S := (rfl)
@[simp] theorem evE_dc {kx vx : Ex} {tg : Tg} {it : Itx} {cond : Option Ex} {own : List Nat} : evE call (.dc kx vx tg it cond own) ε S = (evI call it ε S).bd fun ds S1 => dcR (lcD (dcF call kx vx tg cond own ε) ds [] [] S1) := by
  simp only [evE]
  congr 1
  funext ds S1
  show dcR (lcD _ ds [] [] S1) = dcR (lcD _ ds [] [] S1)
  congr 2
  funext d S
  unfold dcF
  cases setT tg d (wipeE ε own) <;> rfl
/-- entries put one after the other -/
def putAll : List (Key × D) → List Key → List D → List Key × List D
  | [], ks, vs => (ks, vs)
  | p :: r, ks, vs => putAll r (putKs ks p.1) (putVs ks vs p.1 p.2)
theorem putKs_len {ks : List Key} {k : Key} : (putKs ks k).length ≤ ks.length + 1 := by
  unfold putKs
  split
  · omega
  · simp
theorem lcD_map {α : Type} {F : D → Sto → R (Option (D × D))} {f : α → D} {g : α → Key} {v : α → D} : ∀ {l : List α} {ks : List Key} {vs : List D}, (∀ p ∈ l, F (f p) S = .ok (some (dOfKey (g p), v p)) S) → ks.length + l.length ≤ 16777216 →
    lcD F (l.map f) ks vs S = .ok (putAll (l.map fun p => (g p, v p)) ks vs) S
  | [], ks, vs, _, _ => rfl
  | a :: l, ks, vs, h, hz => by
    simp only [List.map_cons, lcD, h a (by simp)]
    have hk : keyD (dOfKey (g a)) = some (g a) := by cases g a <;> rfl
    simp only [hk]
    simp only [List.length_cons] at hz
    rw [if_pos (by rw [sizeLine_eq]; omega)]
    exact lcD_map (fun p hp => h p (by simp [hp])) (by have := putKs_len (ks := ks) (k := g a); omega)
@[simp] theorem evI_dk {a : Ex} : evI call (.dk a) ε S = (evE call a ε S).bd fun x S1 => R.of S1 ((dctW S1 x).map fun p => keysL p.1) := by simp only [evI]
@[simp] theorem evI_dit {a : Ex} : evI call (.dit a) ε S = (evE call a ε S).bd fun x S1 => R.of S1 ((dctW S1 x).map fun p => List.zipWith (fun k v => .tup [dOfKey k, v]) p.1 p.2) := by simp only [evI]
@[simp] theorem evI_dvl {a : Ex} : evI call (.dvl a) ε S = (evE call a ε S).bd fun x S1 => R.of S1 ((dctW S1 x).map (·.2)) := by simp only [evI]
@[simp] theorem evI_enu {a : Ex} : evI call (.enu a) ε S = (evE call a ε S).bd fun x S1 => R.of S1 (enuF x) := by simp only [evI]
@[simp] theorem dctW_dct {ks : List Key} {vs : List D} : dctW S (.dct ks vs) = some (ks, vs) := (rfl)
theorem dctW_ref {n : Nat} {ks : List Key} {vs : List D} (h : S[n]? = some (.fdct ks vs)) : dctW S (.ref n) = some (ks, vs) := by simp only [dctW, h]
@[simp] theorem enuF_lst {l : List D} : enuF (.lst l) = some (l.zipIdx.map fun p => .tup [.int (p.2 : Nat), p.1]) := (rfl)
theorem dr_refF {n : Nat} {ks : List Key} {vs : List D} (h : S[n]? = some (.fdct ks vs)) : dr S (.ref n) = .dct ks vs := by simp only [dr, h]
variable {turns : Nat}
@[simp] theorem evS_slO {i : Nat} {lo hi e : Ex} {l : List D} (h : ε[i]? = some (.own (.lst l))) : evS call turns (.slO i lo hi e) ε S = (evE call e ε S).lf ε fun v S1 => (evE call lo ε S1).lf ε fun a S2 => (evE call hi ε S2).lf ε fun c S3 => opk (slPut l v a c) fun l' => .ok (.nx (ε.set i (.own (.lst l')))) S3 := by
  simp only [evS, h]; congr 1; funext v S1; congr 1; funext a S2; congr 1; funext c S3; cases slPut l v a c <;> rfl
def insF (l : List D) (y : D) : D → Option (List D)
  | .int q => if l.length < sizeLine ∧ 0 ≤ q ∧ q < 2 ^ 63 then some (l.take q.toNat ++ [y] ++ l.drop q.toNat) else none
  | _ => none
@[simp] theorem evS_insO {i : Nat} {kk e : Ex} {l : List D} (h : ε[i]? = some (.own (.lst l))) : evS call turns (.insO i kk e) ε S = (evE call kk ε S).lf ε fun q S1 => (evE call e ε S1).lf ε fun y S2 => opk (insF l y q) fun l' => .ok (.nx (ε.set i (.own (.lst l')))) S2 := by
  simp only [evS, h]; congr 1; funext q S1; congr 1; funext y S2
  cases q <;> first | rfl | (simp only [insF]; split <;> rfl)
@[simp] theorem evS_starO {i j : Nat} {e : Ex} : evS call turns (.starO i j e) ε S = (evE call e ε S).lf ε fun d S1 => opk (starF d) fun p => ifk (decide (i ≠ j)) (.ok (.nx ((ε.set i (.val p.1)).set j (.own (.lst p.2)))) S1) .stuck := by
  simp only [evS]; congr 1; funext d S1
  have go : ∀ (x : D) (l : List D), (if l.length < sizeLine ∧ i ≠ j then (R.ok (Fl.nx ((ε.set i (.val x)).set j (.own (.lst l)))) S1 : R Fl) else .stuck) = opk (if l.length < sizeLine then some (x, l) else none) fun p => ifk (decide (i ≠ j)) (.ok (.nx ((ε.set i (.val p.1)).set j (.own (.lst p.2)))) S1) .stuck := fun x l => by
    by_cases h1 : l.length < sizeLine <;> by_cases h2 : i = j <;> simp [h1, h2, opk, ifk]
  cases d with
  | lst l => cases l with
    | nil => rfl
    | cons x l => exact go x l
  | tup l => cases l with
    | nil => rfl
    | cons x l => exact go x l
  | _ => rfl
@[simp] theorem evS_augF {a e : Ex} {c f : Str} {o : BOp} : evS call turns (.augF a c f o e) ε S = (evE call a ε S).lf ε fun x S1 => opk (fldI S1 c f x) fun i => (evE call e ε S1).lf ε fun y S2 => opk (match y with | .int j => binF o (.int i) (.int j) | _ => none) fun z => opk (setFS x c f z S2) fun S3 => .ok (.nx ε) S3 := by
  simp only [evS]; congr 1; funext x S1
  cases fldI S1 c f x with
  | none => rfl
  | some i =>
    simp only [opk_some]
    congr 1; funext y S2
    cases y <;> first
      | rfl
      | (dsimp only
         cases binF o (.int i) _ with
         | none => rfl
         | some z => simp only [opk_some]; cases setFS x c f z S2 <;> rfl)
/-- the items of a tuple, of a list -/
def itemsOf : D → Option (List D)
  | .tup l => some l
  | .lst l => some l
  | _ => none
@[simp] theorem itemsOf_tup {l : List D} : itemsOf (.tup l) = some l := (rfl)
@[simp] theorem itemsOf_lst {l : List D} : itemsOf (.lst l) = some l := (rfl)
@[simp] theorem evS_parF {j : Nat} {c : Str} {ts : List (Nat ⊕ Str)} {e : Ex} : evS call turns (.parF j c ts e) ε S = (evE call e ε S).lf ε fun d S1 => opk (itemsOf d) fun ds => opk (putTs j c ts ds ε S1) fun p => .ok (.nx p.1) p.2 := by
  simp only [evS]; congr 1; funext d S1
  cases d <;> first | rfl | (rename_i ds; simp only [itemsOf, opk_some]; cases putTs j c ts ds ε S1 <;> rfl)
@[simp] theorem evS_chnF {j : Nat} {c f1 f2 : Str} {e : Ex} : evS call turns (.chnF j c f1 f2 e) ε S = (evE call e ε S).lf ε fun d S1 => opk (putTs j c [.inr f1, .inr f2] [d, d] ε S1) fun p => .ok (.nx p.1) p.2 := by
  simp only [evS]; congr 1; funext d S1
  cases putTs j c [.inr f1, .inr f2] [d, d] ε S1 <;> rfl
/-- a list of the store -/
def lstAt2 (S : Sto) : D → Option (List D)
  | .ref n => match S[n]? with
    | some (.lst l) => some l
    | _ => none
  | _ => none
theorem lstAt2_ref {n : Nat} {l : List D} (h : S[n]? = some (.lst l)) : lstAt2 S (.ref n) = some l := by simp only [lstAt2, h]
def refNo : D → Nat
  | .ref n => n
  | _ => 0
@[simp] theorem evS_appR {a e : Ex} : evS call turns (.appR a e) ε S = (evE call a ε S).lf ε fun o S1 => opk (lstAt2 S1 o) fun _ => (evE call e ε S1).lf ε fun y S2 => opk (lstAt2 S2 o) fun l => ifk (decide (l.length < sizeLine)) (.ok (.nx ε) (S2.set (refNo o) (.lst (l ++ [y])))) .stuck := by
  simp only [evS]; congr 1; funext o S1
  cases o <;> first | rfl | skip
  rename_i n
  cases h : S1[n]? with
  | none => simp only [lstAt2, h]; rfl
  | some ob =>
    cases ob <;> first
      | (simp only [lstAt2, h]; rfl)
      | (simp only [lstAt2, h, opk_some]
         congr 1; funext y S2
         cases h2 : S2[n]? with
         | none => rfl
         | some ob2 => cases ob2 <;> first | rfl | (simp only [opk_some, ifk, refNo, decide_eq_true_eq]))
theorem evS_lk {p : Ex} {s : Sm} {n : Nat} {ks : List Key} {vs : List D} (h : lkAt S (evE call p ε S) = some (n, ks, vs)) : evS call turns (.lk p s) ε S = unlk n ks vs (evS call turns s ε (S.set n (.fdct ks vs))) := by
  simp only [evS, h]
theorem evS_lk0 {p : Ex} {s : Sm} (h : lkAt S (evE call p ε S) = none) : evS call turns (.lk p s) ε S = evS call turns s ε S := by
  simp only [evS, h]
theorem lkAt_ref {n : Nat} {S1 : Sto} {ks : List Key} {vs : List D} (h : S[n]? = some (.dct ks vs)) : lkAt S (.ok (.ref n) S1) = some (n, ks, vs) := by simp only [lkAt, h]
@[simp] theorem lkAt_dct {S1 : Sto} {ks : List Key} {vs : List D} : lkAt S (.ok (.dct ks vs) S1) = none := (rfl)
@[simp] theorem unlk_nx {n : Nat} {ks : List Key} {vs : List D} : unlk n ks vs (.ok (.nx ε) S) = .ok (.nx ε) (S.set n (.dct ks vs)) := (rfl)
@[simp] theorem unlk_rt {n : Nat} {ks : List Key} {vs : List D} {d : D} : unlk n ks vs (.ok (.rt d) S) = .ok (.rt d) (S.set n (.dct ks vs)) := (rfl)
@[simp] theorem putTs_nil {j : Nat} {c : Str} : putTs j c [] [] ε S = some (ε, S) := (rfl)
@[simp] theorem putTs_cons {j : Nat} {c : Str} {t : Nat ⊕ Str} {ts : List (Nat ⊕ Str)} {d : D} {ds : List D} : putTs j c (t :: ts) (d :: ds) ε S = (putT j c t d ε S).bind fun p => putTs j c ts ds p.1 p.2 := by
  simp only [putTs]
  cases putT j c t d ε S <;> rfl
@[simp] theorem putT_inl {j i : Nat} {c : Str} {d : D} : putT j c (.inl i) d ε S = some (ε.set i (.val d), S) := (rfl)
theorem putT_inr {j : Nat} {c f : Str} {d o : D} (h : ε[j]? = some (.val o)) : putT j c (.inr f) d ε S = (setFS o c f d S).map fun S' => (ε, S') := by simp only [putT, h]
theorem setFS_ref {n : Nat} {c f : Str} {d : D} {fs : List (Str × D)} (h : S[n]? = some (.ins c fs)) (hl : fs.length < 1000) : setFS (.ref n) c f d S = some (S.set n (.ins c (putFD f d fs))) := by simp [setFS, h, hl]
@[simp] theorem op1_srtD {l : List D} : op1F .srtD (.lst l) = (keyPy l).map fun kz => .lst (sortV l kz) := (rfl)
end
end BX
set_option Elab.async false
set_option linter.all false
set_option maxRecDepth 100000
set_option maxHeartbeats 1000000
/-! LDraw: the draws of the laws. -/
namespace BX
open PySem L2
open PyProof.Rows hiding St Binds
abbrev i_l_take : Nat := 4
abbrev i_l_bag : Nat := 3
abbrev i_l_place : Nat := 5
def fn_l_take : Fn := ⟨2, 3, [(.ite (.cmp .gt (.ix (.var 0) (.cst (.int 0))) (.cst (.int 0))) [(.asg (.nm 2) (.bin .mod (.ix (.var 0) (.cst (.int 0))) (.var 1))), (.set (.var 0) (.cst (.int 0)) (.bin .fdiv (.ix (.var 0) (.cst (.int 0))) (.var 1))), (.ret (.var 2))] []),
  (.set (.var 0) (.cst (.int 1)) (.bin .mod (.bin .mul (.ix (.var 0) (.cst (.int 1))) (.cst (.int 48271))) (.cst (.int 2147483647)))),
  (.ret (.bin .mod (.bin .fdiv (.bin .mod (.bin .mul (.bin .fdiv (.ix (.var 0) (.cst (.int 1))) (.cst (.int 13))) (.bin .add (.bin .mod (.ix (.var 0) (.cst (.int 1))) (.cst (.int 32749))) (.cst (.int 17)))) (.cst (.int 2147483629))) (.cst (.int 32))) (.var 1)))]⟩
def fn_l_bag : Fn := ⟨2, 4, [(.asg (.nm 2) (.cst (.int 0))),
  (.ite (.cmp .lt (.var 1) (.blt .len [(.var 0)])) [(.asg (.nm 2) (.bin .mod (.ix (.var 0) (.var 1)) (.bin .pow (.cst (.int 10)) (.cst (.int 60)))))] []),
  (.asg (.nm 3) (.bin .add (.cst (.int 1)) (.bin .mod (.bin .add (.bin .add (.bin .add (.bin .mul (.bin .mod (.var 2) (.cst (.int 2147483629))) (.cst (.int 16807))) (.bin .mul (.bin .mul (.cst (.int 40009)) (.var 1)) (.var 1))) (.bin .mul (.cst (.int 7919)) (.var 1))) (.cst (.int 1009))) (.cst (.int 2147483645))))),
  (.ite (.cmp .lt (.var 2) (.bin .pow (.cst (.int 10)) (.cst (.int 18)))) [(.ret (.nlst [(.cst (.int 0)), (.var 3)]))] []),
  (.ret (.nlst [(.var 2), (.var 3)]))]⟩
def b_l_place_1 : List Sm := [(.asg (.nm 2) (.bin .add (.bin .mul (.var 2) (.bin .pow (.cst (.int 10)) (.cst (.int 6)))) (.call i_l_take [(.var 0), (.bin .pow (.cst (.int 10)) (.cst (.int 6)))] [])))]
def fn_l_place : Fn := ⟨1, 4, [(.asg (.nm 1) (.call i_l_take [(.var 0), (.cst (.int 12))] [])),
  (.ite (.cmp .lt (.var 1) (.cst (.int 9))) [(.ret (.bin .sub (.call i_l_take [(.var 0), (.cst (.int 14))] []) (.cst (.int 4))))] []),
  (.ite (.cmp .lt (.var 1) (.cst (.int 11))) [(.ret (.bin .sub (.call i_l_take [(.var 0), (.cst (.int 2001))] []) (.cst (.int 1000))))] []),
  (.asg (.nm 2) (.cst (.int 0))),
  (.for (.nm 3) (.rng (.cst (.int 5))) b_l_place_1),
  (.ret (.ix (.lst [(.var 2), (.neg (.var 2)), (.bin .pow (.cst (.int 10)) (.cst (.int 30))), (.neg (.bin .pow (.cst (.int 10)) (.cst (.int 30))))]) (.call i_l_take [(.var 0), (.cst (.int 4))] [])))]⟩
/-- a bag stands at b -/
def Bag (S : Sto) (b : Nat) : Prop := ∃ x y : Int, S[b]? = some (.lst [.int x, .int y])
/-- only the bag has changed -/
def Bg (S : Sto) (b : Nat) (S' : Sto) : Prop := ∃ x y : Int, S' = S.set b (.lst [.int x, .int y])
theorem Bg.bag {S S' : Sto} {b : Nat} (h : Bg S b S') (hb : Bag S b) : Bag S' b := by
  obtain ⟨x, y, rfl⟩ := h
  obtain ⟨u, v, e⟩ := hb
  exact ⟨x, y, List.getElem?_set_self (List.getElem?_eq_some_iff.mp e).1⟩
theorem Bg.trans {S S' S'' : Sto} {b : Nat} (h : Bg S b S') (g : Bg S' b S'') : Bg S b S'' := by
  obtain ⟨x, y, rfl⟩ := h
  obtain ⟨u, v, rfl⟩ := g
  exact ⟨u, v, by rw [List.set_set]⟩
theorem Bag.refl {S : Sto} {b : Nat} (h : Bag S b) : Bg S b S := by
  obtain ⟨x, y, e⟩ := h
  refine ⟨x, y, ?_⟩
  apply List.ext_getElem?
  intro n
  by_cases hn : b = n
  · subst hn
    rw [List.getElem?_set_self (List.getElem?_eq_some_iff.mp e).1, e]
  · rw [List.getElem?_set_ne hn]
structure HDraw (Γ : Tab) : Prop where
  take : Γ i_l_take = some fn_l_take
  bag : Γ i_l_bag = some fn_l_bag
  place : Γ i_l_place = some fn_l_place
section
variable {Γ : Tab} (hΓ : HDraw Γ) {t k b : Nat} {S : Sto}
include hΓ
omit hΓ in
theorem take2_ok (hT : Γ i_l_take = some fn_l_take) (hb : Bag S b) (m : Int) (hm : 0 < m ∧ m < 2 ^ 64) :
    ∃ r S', evCall Γ t (k + 1) i_l_take [.ref b, .int m] S = .ok (.int r) S' ∧ (0 ≤ r ∧ r < m) ∧ Bg S b S' ∧ Bag S' b := by
  obtain ⟨x, y, e⟩ := id hb
  obtain ⟨hm1, hm2⟩ := hm
  have hm3 : m < 18446744073709551616 := by omega
  have hl : b < S.length := (List.getElem?_eq_some_iff.mp e).1
  rw [call_unf hT rfl]
  by_cases hx : 0 < x
  · have g : Bg S b (S.set b (.lst [.int (x / m), .int y])) := ⟨_, _, rfl⟩
    refine ⟨x % m, _, ?_, ⟨Int.emod_nonneg _ (by omega), Int.emod_lt_of_pos _ hm1⟩, g, g.bag hb⟩
    simp [fn_l_take, startE, ixS_ref e, setL_ref e, hm1, hm3, hx]
  · have g : Bg S b (S.set b (.lst [.int x, .int (y * 48271 % 2147483647)])) := ⟨_, _, rfl⟩
    refine ⟨y * 48271 % 2147483647 / 13 * (y * 48271 % 2147483647 % 32749 + 17) % 2147483629 / 32 % m, _, ?_, ⟨Int.emod_nonneg _ (by omega), Int.emod_lt_of_pos _ hm1⟩, g, g.bag hb⟩
    have h1 : -18446744073709551616 < y * 48271 % 2147483647 % 32749 + 17 := by omega
    have h2 : y * 48271 % 2147483647 % 32749 + 17 < 18446744073709551616 := by omega
    simp [fn_l_take, startE, ixS_ref e, setL_ref e, hm1, hm3, hx, hl, h1, h2]
omit hΓ in
theorem bag2_ok (hT : Γ i_l_bag = some fn_l_bag) (ns : List Int) (i : Int) (hi : 0 ≤ i ∧ i < 1000) :
    ∃ x y : Int, evCall Γ t (k + 1) i_l_bag [.scr (ns.map .int), .int i] S = .ok (.ref S.length) (S ++ [.lst [.int x, .int y]]) := by
  obtain ⟨h0, h1⟩ := hi
  have h2 : -18446744073709551616 < i := by omega
  have h3 : i < 18446744073709551616 := by omega
  rw [call_unf hT rfl]
  have key : ∀ c : Int, ∃ x y : Int, flOut (evB (evCall Γ t k) t (fn_l_bag.body.drop 2) [.val (.scr (ns.map .int)), .val (.int i), .val (.int c), .un] S) = .ok (.ref S.length) (S ++ [.lst [.int x, .int y]]) := by
    intro c
    by_cases hc : c < 1000000000000000000
    · refine ⟨0, 1 + (c % 2147483629 * 16807 + 40009 * i * i + 7919 * i + 1009) % 2147483645, ?_⟩
      simp [fn_l_bag, h2, h3, hc]
    · refine ⟨c, 1 + (c % 2147483629 * 16807 + 40009 * i * i + 7919 * i + 1009) % 2147483645, ?_⟩
      simp [fn_l_bag, h2, h3, hc]
  by_cases hl : i < (ns.length : Int)
  · obtain ⟨z, hz⟩ : ∃ z, ns[i.toNat]? = some z := ⟨ns[i.toNat]'(by omega), by simp⟩
    have ha : atI (ns.map D.int) i = some (.int z) := atI_int h0 (by rw [List.getElem?_map, hz]; rfl)
    obtain ⟨x, y, h⟩ := key (z % 10 ^ 60)
    refine ⟨x, y, ?_⟩
    rw [← h]
    simp [fn_l_bag, startE, hl, ha]
  · obtain ⟨x, y, h⟩ := key 0
    refine ⟨x, y, ?_⟩
    rw [← h]
    simp [fn_l_bag, startE, hl]
theorem take_ok (hb : Bag S b) (m : Int) (hm : 0 < m ∧ m < 2 ^ 64) :
    ∃ r S', evCall Γ t (k + 1) i_l_take [.ref b, .int m] S = .ok (.int r) S' ∧ (0 ≤ r ∧ r < m) ∧ Bg S b S' ∧ Bag S' b := take2_ok hΓ.take hb m hm
theorem bag_ok (ns : List Int) (i : Int) (hi : 0 ≤ i ∧ i < 1000) :
    ∃ x y : Int, evCall Γ t (k + 1) i_l_bag [.scr (ns.map .int), .int i] S = .ok (.ref S.length) (S ++ [.lst [.int x, .int y]]) := bag2_ok hΓ.bag ns i hi
theorem place_ok (hb : Bag S b) : ∃ p S', evCall Γ t (k + 2) i_l_place [.ref b] S = .ok (.int p) S' ∧ (-10 ^ 30 ≤ p ∧ p ≤ 10 ^ 30) ∧ Bg S b S' ∧ Bag S' b := by
  obtain ⟨r1, S1, e1, ⟨h1, h2⟩, g1, b1⟩ := take_ok hΓ (t := t) (k := k) hb 12 (by omega)
  rw [call_unf hΓ.place rfl]
  by_cases h9 : r1 < 9
  · obtain ⟨r2, S2, e2, ⟨h3, h4⟩, g2, b2⟩ := take_ok hΓ (t := t) (k := k) b1 14 (by omega)
    refine ⟨r2 - 4, S2, ?_, by omega, g1.trans g2, b2⟩
    simp [fn_l_place, startE, e1, h9, e2]
  by_cases h11 : r1 < 11
  · obtain ⟨r2, S2, e2, ⟨h3, h4⟩, g2, b2⟩ := take_ok hΓ (t := t) (k := k) b1 2001 (by omega)
    refine ⟨r2 - 1000, S2, ?_, by omega, g1.trans g2, b2⟩
    simp [fn_l_place, startE, e1, h9, h11, e2]
  let P : Nat → Env → Sto → Prop := fun i ε S' => ∃ (f : Int) (p : Sl), ε = [.val (.ref b), .val (.int r1), .val (.int f), p] ∧ 0 ≤ f ∧ f < 10 ^ (6 * i) ∧ Bg S b S' ∧ Bag S' b
  obtain ⟨ε', S2, e2, f, p, rfl, h3, h4, g2, b2⟩ := forL_inv (F := forF (evCall Γ t (k + 1)) t (.nm 3) b_l_place_1) P (ds := rngL 0 5)
    (by
      rintro i d ε S' hd ⟨f, p, rfl, h3, h4, g, b'⟩
      obtain ⟨r2, S2, e2, ⟨h5, h6⟩, g2, b2⟩ := take_ok hΓ (t := t) (k := k) b' 1000000 (by omega)
      refine ⟨_, S2, ?_, f * 1000000 + r2, .val d, rfl, by omega, ?_, g.trans g2, b2⟩
      · simp [forF, b_l_place_1, e2]
      · have : (10 : Int) ^ (6 * (i + 1)) = 10 ^ (6 * i) * 1000000 := by rw [Nat.mul_add, Int.pow_add]; rfl
        rw [this]
        omega) (ε := [.val (.ref b), .val (.int r1), .val (.int 0), .un]) (S := S1) ⟨0, .un, rfl, by omega, by simp, g1, b1⟩
  obtain ⟨r3, S3, e3, ⟨h5, h6⟩, g3, b3⟩ := take_ok hΓ (t := t) (k := k) b2 4 (by omega)
  have hr : (rngL 0 5).length = 5 := rfl
  rw [hr] at h4
  have h7 : f < 1000000000000000000000000000000 := by simpa using h4
  have hl : ∃ q : Int, atI [D.int f, .int (-f), .int 1000000000000000000000000000000, .int (-1000000000000000000000000000000)] r3 = some (.int q) ∧ -10 ^ 30 ≤ q ∧ q ≤ 10 ^ 30 := by
    have : r3 = 0 ∨ r3 = 1 ∨ r3 = 2 ∨ r3 = 3 := by omega
    rcases this with rfl | rfl | rfl | rfl
    · exact ⟨f, atI_int (by omega) rfl, by omega, by omega⟩
    · exact ⟨-f, atI_int (by omega) rfl, by omega, by omega⟩
    · exact ⟨_, atI_int (by omega) rfl, by omega, by omega⟩
    · exact ⟨_, atI_int (by omega) rfl, by omega, by omega⟩
  obtain ⟨q, hq, h8, h9'⟩ := hl
  refine ⟨q, S3, ?_, ⟨h8, h9'⟩, g2.trans g3, b3⟩
  simp [fn_l_place, startE, e1, h9, h11, e2, e3, hq, rng1F]
end
end BX
set_option Elab.async false
set_option linter.all false
set_option maxRecDepth 100000
set_option maxHeartbeats 1000000
/-! LBox: drawn boxes; meets, common. -/
namespace BX
open PySem L2
open PyProof.Rows hiding St Binds
abbrev i_l_same : Nat := 2
abbrev i_l_box : Nat := 6
abbrev i_l_spot : Nat := 7
abbrev i_l_beside : Nat := 8
abbrev i_meets : Nat := 0
abbrev i_common : Nat := 1
def fn_l_same : Fn := ⟨2, 2, [(.ret (.and (.isi (.var 0) .bool) (.cmp .eq (.var 0) (.var 1))))]⟩
def b_l_box_1 : List Sm := [(.asg (.nm 4) (.call i_l_place [(.var 0)] [])), (.asg (.nm 5) (.var 4)), (.ite (.cmp .gt (.call i_l_take [(.var 0), (.cst (.int 4))] []) (.cst (.int 0))) [(.asg (.nm 5) (.ix (.lst [(.bin .add (.bin .add (.var 4) (.cst (.int 1))) (.call i_l_take [(.var 0), (.cst (.int 5))] [])), (.call i_l_place [(.var 0)] [])]) (.call i_l_take [(.var 0), (.cst (.int 2))] [])))] []), (.ite (.cmp .gt (.var 5) (.bin .pow (.cst (.int 10)) (.cst (.int 30)))) [(.asg (.nm 5) (.var 4))] []), (.app 2 (.tup [(.blt .min [(.var 4), (.var 5)]), (.blt .max [(.var 4), (.var 5)])]))]
def fn_l_box : Fn := ⟨2, 6, [(.own 2 (.lst [])),
  (.for (.nm 3) (.rng (.var 1)) b_l_box_1),
  (.ret (.blt .tuple [(.var 2)]))]⟩
def e_l_spot_1 : Ex := (.call i_l_place [(.var 0)] [])
def fn_l_spot : Fn := ⟨2, 3, [(.ret (.blt .tuple [(.lc e_l_spot_1 (.nm 2) (.rng (.var 1)) none [2])]))]⟩
def fn_l_beside : Fn := ⟨2, 6, [(.asg (.nm 2) (.call i_l_take [(.var 0), (.blt .len [(.var 1)])] [])),
  (.asg (.tp [(.nm 3), (.nm 4)]) (.ix (.var 1) (.var 2))),
  (.asg (.nm 5) (.bin .add (.var 4) (.ix (.lst [(.cst (.int 0)), (.cst (.int 1)), (.neg (.cst (.int 1)))]) (.call i_l_take [(.var 0), (.cst (.int 3))] [])))),
  (.ite (.or (.cmp .gt (.bin .add (.var 5) (.cst (.int 3))) (.bin .pow (.cst (.int 10)) (.cst (.int 30)))) (.cmp .lt (.var 5) (.neg (.bin .pow (.cst (.int 10)) (.cst (.int 30)))))) [(.ret (.var 1))] []),
  (.ret (.bin .add (.bin .add (.sl (.var 1) none (some (.var 2))) (.tup [(.tup [(.var 5), (.bin .add (.var 5) (.call i_l_take [(.var 0), (.cst (.int 4))] []))])])) (.sl (.var 1) (some (.bin .add (.var 2) (.cst (.int 1)))) none)))]⟩
def e_meets_1 : Ex := (.and (.cmp .le (.ix (.var 2) (.cst (.int 0))) (.ix (.var 3) (.cst (.int 1)))) (.cmp .le (.ix (.var 3) (.cst (.int 0))) (.ix (.var 2) (.cst (.int 1)))))
def fn_meets : Fn := ⟨2, 4, [(.ret (.blt .all [(.lc e_meets_1 (.tp [(.nm 2), (.nm 3)]) (.zip (.var 0) (.var 1)) none [2, 3])]))]⟩
def e_common_1 : Ex := (.tup [(.blt .max [(.ix (.var 2) (.cst (.int 0))), (.ix (.var 3) (.cst (.int 0)))]), (.blt .min [(.ix (.var 2) (.cst (.int 1))), (.ix (.var 3) (.cst (.int 1)))])])
def fn_common : Fn := ⟨2, 4, [(.ite (.not (.call i_meets [(.var 0), (.var 1)] [])) [(.ret (.cst (.non)))] []),
  (.ret (.blt .tuple [(.lc e_common_1 (.tp [(.nm 2), (.nm 3)]) (.zip (.var 0) (.var 1)) none [2, 3])]))]⟩
structure OkS (s : Int × Int) : Prop where
  lo : -10 ^ 30 ≤ s.1
  le : s.1 ≤ s.2
  hi : s.2 ≤ 10 ^ 30
structure OkB (n : Nat) (b : List (Int × Int)) : Prop where
  len : b.length = n
  s : ∀ s ∈ b, OkS s
structure HBox (Γ : Tab) : Prop extends HDraw Γ where
  box : Γ i_l_box = some fn_l_box
structure HMeets (Γ : Tab) : Prop where
  meets : Γ i_meets = some fn_meets
  common : Γ i_common = some fn_common
section
variable {Γ : Tab} {t k b : Nat} {S : Sto}
theorem same_ok (h : Γ i_l_same = some fn_l_same) {x y : Bool} : evCall Γ t (k + 1) i_l_same [.bl x, .bl y] S = .ok (.bl (x == y)) S := by
  rw [call_unf h rfl]
  simp [fn_l_same, startE, kindIs, eqF_ok (a := .bl x) (b := .bl y) rfl rfl, eqvD]
theorem box_turn (hΓ : HBox Γ) {n i : Nat} {l : List (Int × Int)} {p q r : Sl} {d : D} {x r1 : Int} {S' S2 S3 : Sto} (h3 : OkB i l) (hi : i < 1000) (e2 : evCall Γ t (k + 2) i_l_place [.ref b] S' = .ok (.int x) S2) (h5 : -10 ^ 30 ≤ x) (h6 : x ≤ 10 ^ 30)
    (e3 : evCall Γ t (k + 1 + 1) i_l_take [.ref b, .int 4] S2 = .ok (.int r1) S3) (g3 : Bg S2 b S3) (b3 : Bag S3 b) :
    ∃ (y : Int) (S6 : Sto), forF (evCall Γ t (k + 2)) t (.nm 3) b_l_box_1 d [.val (.ref b), .val (.int n), .own (.lst (l.map dS)), p, q, r] S' =
      .ok (.nx [.val (.ref b), .val (.int n), .own (.lst (l.map dS ++ [.tup [.int (if y < x then y else x), .int (if y > x then y else x)]])), .val d, .val (.int x), .val (.int y)]) S6 ∧ -10 ^ 30 ≤ y ∧ y ≤ 10 ^ 30 ∧ Bg S2 b S6 ∧ Bag S6 b := by
  have h1030 : ¬ 1000000000000000000000000000000 < x := by omega
  have hlen : l.length < 16777216 := by rw [h3.len]; omega
  by_cases hr : 0 < r1
  · obtain ⟨r2, S4, e4, ⟨h9, h10⟩, g4, b4⟩ := take_ok hΓ.toHDraw (t := t) (k := k + 1) b3 5 (by omega)
    obtain ⟨z, S5, e5, ⟨h11, h12⟩, g5, b5⟩ := place_ok hΓ.toHDraw (t := t) (k := k) b4
    obtain ⟨r3, S6, e6, ⟨h13, h14⟩, g6, b6⟩ := take_ok hΓ.toHDraw (t := t) (k := k + 1) b5 2 (by omega)
    have gg := g3.trans (g4.trans (g5.trans g6))
    have hy : ∃ y : Int, atI [D.int (x + 1 + r2), .int z] r3 = some (.int y) ∧ -10 ^ 30 ≤ y := by
      have : r3 = 0 ∨ r3 = 1 := by omega
      rcases this with rfl | rfl
      · exact ⟨_, atI_int (by omega) rfl, by omega⟩
      · exact ⟨_, atI_int (by omega) rfl, by omega⟩
    obtain ⟨y, hy, hy2⟩ := hy
    by_cases hbig : 1000000000000000000000000000000 < y
    · exact ⟨x, S6, by simp [forF, b_l_box_1, e2, e3, hr, e4, e5, e6, hy, hbig, hlen], by omega, by omega, gg, b6⟩
    · exact ⟨y, S6, by simp [forF, b_l_box_1, e2, e3, hr, e4, e5, e6, hy, hbig, hlen], by omega, by omega, gg, b6⟩
  · exact ⟨x, S3, by simp [forF, b_l_box_1, e2, e3, hr, h1030, hlen], by omega, by omega, g3, b3⟩
theorem box_loop (hΓ : HBox Γ) (hb : Bag S b) (n : Nat) (hn : n < 1000) : ∃ (l : List (Int × Int)) (p q r : Sl) (S2 : Sto), forL (forF (evCall Γ t (k + 2)) t (.nm 3) b_l_box_1) (rngL 0 n) [.val (.ref b), .val (.int n), .own (.lst []), .un, .un, .un] S = .ok (.nx [.val (.ref b), .val (.int n), .own (.lst (l.map dS)), p, q, r]) S2 ∧ OkB n l ∧ Bg S b S2 ∧ Bag S2 b := by
  let P : Nat → Env → Sto → Prop := fun i ε S' => ∃ (l : List (Int × Int)) (p q r : Sl), ε = [.val (.ref b), .val (.int n), .own (.lst (l.map dS)), p, q, r] ∧ OkB i l ∧ Bg S b S' ∧ Bag S' b
  obtain ⟨ε', S2, e2, l, p, q, r, rfl, h3, g2, b2⟩ := forL_inv (F := forF (evCall Γ t (k + 2)) t (.nm 3) b_l_box_1) P (ds := rngL 0 n)
    (by
      rintro i d ε S' hd ⟨l, p, q, r, rfl, h3, g, b'⟩
      have hi : i < n := by
        have := (List.getElem?_eq_some_iff.mp hd).1
        simpa [rngL] using this
      obtain ⟨x, S2, e2, ⟨h5, h6⟩, g2, b2⟩ := place_ok hΓ.toHDraw (t := t) (k := k) b'
      obtain ⟨r1, S3, e3, ⟨h7, h8⟩, g3, b3⟩ := take_ok hΓ.toHDraw (t := t) (k := k + 1) b2 4 (by omega)
      obtain ⟨y, S6, e6, h15, h16, g6, b6⟩ := box_turn hΓ (p := p) (q := q) (r := r) (n := n) (d := d) h3 (by omega) e2 h5 h6 e3 g3 b3
      refine ⟨_, S6, e6, l ++ [((if y < x then y else x), (if y > x then y else x))], .val d, .val (.int x), .val (.int y), by simp [dS], ⟨by simp [h3.len], fun s hs => ?_⟩, g.trans (g2.trans g6), b6⟩
      rcases List.mem_append.mp hs with hs | hs
      · exact h3.s s hs
      · obtain rfl := List.mem_singleton.mp hs
        refine ⟨?_, ?_, ?_⟩ <;> simp only [] <;> split <;> (try split) <;> omega) (ε := [.val (.ref b), .val (.int n), .own (.lst []), .un, .un, .un]) (S := S) ⟨[], .un, .un, .un, rfl, ⟨rfl, by simp⟩, hb.refl, hb⟩
  have hr : (rngL 0 n).length = n := by simp [rngL]
  rw [hr] at h3
  exact ⟨l, p, q, r, S2, e2, h3, g2, b2⟩
theorem box_ok (hΓ : HBox Γ) (hb : Bag S b) (n : Nat) (hn : n < 1000) : ∃ l S', evCall Γ t (k + 3) i_l_box [.ref b, .int n] S = .ok (dB l) S' ∧ OkB n l ∧ Bg S b S' ∧ Bag S' b := by
  obtain ⟨l, p, q, r, S2, e2, h3, g2, b2⟩ := box_loop hΓ (t := t) (k := k) hb n hn
  rw [call_unf hΓ.box rfl]
  refine ⟨l, S2, ?_, h3, g2, b2⟩
  have h62 : rng1F (.int n) = some (rngL 0 n) := by
    simp only [rng1F]
    rw [if_pos (by omega)]
    rfl
  simp [fn_l_box, startE, h62, e2, dB]

/-! meets, common -/
theorem tup_dB {l : List (Int × Int)} : D.tup (l.map dS) = dB l := rfl
def meetsM (a b : List (Int × Int)) : Bool := ((a.zip b).map fun p => decide (p.1.1 ≤ p.2.2) && decide (p.2.1 ≤ p.1.2)).all id
def cutM (a b : List (Int × Int)) : List (Int × Int) := (a.zip b).map fun p => ((if p.2.1 > p.1.1 then p.2.1 else p.1.1), (if p.2.2 < p.1.2 then p.2.2 else p.1.2))
theorem meets_ok (h : Γ i_meets = some fn_meets) {a c : List (Int × Int)} (ha : a.length ≤ 1000) : evCall Γ t (k + 1) i_meets [dB a, dB c] S = .ok (.bl (meetsM a c)) S := by
  rw [call_unf h rfl]
  have e := lcL_map (F := lcF (evCall Γ t k) e_meets_1 (.tp [(.nm 2), (.nm 3)]) none [2, 3] [.val (dB a), .val (dB c), .un, .un])
    (S := S) (f := fun p : (Int × Int) × (Int × Int) => D.tup [dS p.1, dS p.2]) (g := fun p => D.bl (decide (p.1.1 ≤ p.2.2) && decide (p.2.1 ≤ p.1.2))) (l := a.zip c) (by
      rintro ⟨⟨x1, x2⟩, ⟨y1, y2⟩⟩ _
      by_cases h1 : x1 ≤ y2 <;> simp [lcF, e_meets_1, dS, h1])
  have hl : ((a.zip c).map fun p : (Int × Int) × (Int × Int) => D.bl (decide (p.1.1 ≤ p.2.2) && decide (p.2.1 ≤ p.1.2))).length ≤ sizeLine := by
    have := line_ge
    rw [List.length_map, List.length_zip]
    omega
  have em : ((a.zip c).map fun p : (Int × Int) × (Int × Int) => D.bl (decide (p.1.1 ≤ p.2.2) && decide (p.2.1 ≤ p.1.2))) = (((a.zip c).map fun p => decide (p.1.1 ≤ p.2.2) && decide (p.2.1 ≤ p.1.2))).map D.bl := by rw [List.map_map]; rfl
  simp only [fn_meets, startE, List.map_cons, List.map_nil, List.length_cons, List.length_nil]
  simp [e, lcR_ok hl]
  rw [em, blt_all]
  simp [meetsM]
theorem cut_ok {call : Call} {el : Ex} {a c : List (Int × Int)} {x1 x2 i j : Nat} {ε : Env} (ha : a.length ≤ 1000)
    (hF : ∀ p : (Int × Int) × (Int × Int), lcF call el (.tp [(.nm i), (.nm j)]) none [i, j] ε (.tup [dS p.1, dS p.2]) S = .ok (some (dS ((if p.2.1 > p.1.1 then p.2.1 else p.1.1), (if p.2.2 < p.1.2 then p.2.2 else p.1.2)))) S) :
    lcR (lcL (lcF call el (.tp [(.nm i), (.nm j)]) none [i, j] ε) ((a.zip c).map fun p => D.tup [dS p.1, dS p.2]) S) = .ok (.lst ((cutM a c).map dS)) S := by
  have e := lcL_map (F := lcF call el (.tp [(.nm i), (.nm j)]) none [i, j] ε) (S := S) (f := fun p : (Int × Int) × (Int × Int) => D.tup [dS p.1, dS p.2])
    (g := fun p => dS ((if p.2.1 > p.1.1 then p.2.1 else p.1.1), (if p.2.2 < p.1.2 then p.2.2 else p.1.2))) (l := a.zip c) fun p _ => hF p
  have hl : ((a.zip c).map fun p : (Int × Int) × (Int × Int) => dS ((if p.2.1 > p.1.1 then p.2.1 else p.1.1), (if p.2.2 < p.1.2 then p.2.2 else p.1.2))).length ≤ sizeLine := by
    have := line_ge
    rw [List.length_map, List.length_zip]
    omega
  rw [e, lcR_ok hl, cutM, List.map_map]
  rfl
theorem common_ok (h : HMeets Γ) {a c : List (Int × Int)} (ha : a.length ≤ 1000) : evCall Γ t (k + 2) i_common [dB a, dB c] S = .ok (if meetsM a c then dB (cutM a c) else .non) S := by
  rw [call_unf h.common rfl]
  have e1 := meets_ok h.meets (t := t) (k := k) (S := S) (a := a) (c := c) ha
  cases hm : meetsM a c with
  | false => rw [hm] at e1; simp [fn_common, startE, e1]
  | true =>
    rw [hm] at e1
    have e := cut_ok (call := evCall Γ t (k + 1)) (S := S) (el := e_common_1) (i := 2) (j := 3) (ε := [.val (dB a), .val (dB c), .un, .un]) (c := c) ha (by
      rintro ⟨⟨x1, x2⟩, ⟨y1, y2⟩⟩
      simp [lcF, e_common_1, dS]) (x1 := 0) (x2 := 0)
    simp only [fn_common, startE, List.map_cons, List.map_nil, List.length_cons, List.length_nil]
    simp [e1, e, tup_dB]
theorem cut_comm (a c : List (Int × Int)) : cutM a c = cutM c a := by
  induction a generalizing c with
  | nil => simp [cutM]
  | cons x a ih =>
    cases c with
    | nil => simp [cutM]
    | cons y c =>
      have := ih c
      simp only [cutM, List.zip_cons_cons, List.map_cons] at this ⊢
      rw [this]
      congr 1
      ext <;> simp only [] <;> (repeat' split) <;> omega
theorem meets_comm (a c : List (Int × Int)) : meetsM a c = meetsM c a := by
  induction a generalizing c with
  | nil => simp [meetsM]
  | cons x a ih =>
    cases c with
    | nil => simp [meetsM]
    | cons y c =>
      have := ih c
      simp only [meetsM, List.zip_cons_cons, List.map_cons, List.all_cons, id] at this ⊢
      rw [this, Bool.and_comm (decide (x.1 ≤ y.2))]
/-- the two share a spot just where their cut is a box -/
theorem meets_cut {a c : List (Int × Int)} (ha : ∀ s ∈ a, s.1 ≤ s.2) (hc : ∀ s ∈ c, s.1 ≤ s.2) : ((cutM a c).filter fun s => decide (s.2 < s.1)) = [] ↔ meetsM a c = true := by
  induction a generalizing c with
  | nil => simp [meetsM, cutM]
  | cons x a ih =>
    cases c with
    | nil => simp [meetsM, cutM]
    | cons y c =>
      have := ih (c := c) (fun s h => ha s (List.mem_cons_of_mem _ h)) (fun s h => hc s (List.mem_cons_of_mem _ h))
      have h1 := ha x (List.mem_cons_self ..)
      have h2 := hc y (List.mem_cons_self ..)
      simp only [meetsM, cutM, List.zip_cons_cons, List.map_cons, List.all_cons, id, List.filter_cons] at this ⊢
      by_cases hh : x.1 ≤ y.2 ∧ y.1 ≤ x.2
      · have e1 : decide ((if y.2 < x.2 then y.2 else x.2) < (if y.1 > x.1 then y.1 else x.1)) = false := by
          apply decide_eq_false
          repeat' split
          all_goals omega
        rw [e1]
        simp [hh.1, hh.2, this]
      · have e1 : decide ((if y.2 < x.2 then y.2 else x.2) < (if y.1 > x.1 then y.1 else x.1)) = true := by
          apply decide_eq_true
          repeat' split
          all_goals omega
        rw [e1]
        have : ¬ (x.1 ≤ y.2 ∧ y.1 ≤ x.2) := hh
        simp only [if_true, reduceCtorEq, false_iff, Bool.and_eq_true, decide_eq_true_eq, not_and]
        intro h3
        exact absurd h3 hh
end
end BX
set_option Elab.async false
set_option linter.all false
set_option maxRecDepth 100000
set_option maxHeartbeats 1000000
/-! LRow: rows of things drawn. -/
namespace BX
open PySem L2
open PyProof.Rows hiding St Binds


/-- a comprehension whose items may change the store -/
theorem lcL_inv {F : D → Sto → R (Option D)} : ∀ {ds : List D} (P : Nat → List D → Sto → Prop) {xs0 : List D} {S : Sto}, (∀ i d xs S, ds[i]? = some d → P i xs S → ∃ x S', F d S = .ok (some x) S' ∧ P (i + 1) (xs ++ [x]) S') → P 0 xs0 S →
    ∃ xs S', lcL F ds S = .ok xs S' ∧ P ds.length (xs0 ++ xs) S'
  | [], P, xs0, S, _, h0 => ⟨[], S, rfl, by simpa using h0⟩
  | d :: ds, P, xs0, S, step, h0 => by
    obtain ⟨x, S1, e1, h1⟩ := step 0 d xs0 S rfl h0
    obtain ⟨xs, S2, e2, h2⟩ := lcL_inv (ds := ds) (fun i => P (i + 1)) (xs0 := xs0 ++ [x]) (S := S1) (fun i d' xs S hd hp => step (i + 1) d' xs S (by simpa using hd) hp) h1
    refine ⟨x :: xs, S2, ?_, by simpa using h2⟩
    simp only [lcL, e1, e2]
section
variable {Γ : Tab} {t k b : Nat} {S : Sto}
/-- items drawn one behind another -/
theorem lc_draw {α : Type} {F : D → Sto → R (Option D)} {f : α → D} {Ok : α → Prop} (hF : ∀ (d : D) (S : Sto), Bag S b → ∃ x S', F d S = .ok (some (f x)) S' ∧ Ok x ∧ Bg S b S' ∧ Bag S' b) (hb : Bag S b) (ds : List D) :
    ∃ (l : List α) (S' : Sto), lcL F ds S = .ok (l.map f) S' ∧ l.length = ds.length ∧ (∀ x ∈ l, Ok x) ∧ Bg S b S' ∧ Bag S' b := by
  obtain ⟨xs, S', e, l, h1, h2, h3, h4, h5⟩ := lcL_inv (F := F) (ds := ds) (fun i xs S' => ∃ l : List α, xs = l.map f ∧ l.length = i ∧ (∀ x ∈ l, Ok x) ∧ Bg S b S' ∧ Bag S' b) (xs0 := []) (S := S)
    (by
      rintro i d xs S' hd ⟨l, rfl, h2, h3, h4, h5⟩
      obtain ⟨x, S2, e2, o2, g2, b2⟩ := hF d S' h5
      refine ⟨f x, S2, e2, l ++ [x], by simp, by simp [h2], fun y hy => ?_, h4.trans g2, b2⟩
      rcases List.mem_append.mp hy with hy | hy
      · exact h3 y hy
      · obtain rfl := List.mem_singleton.mp hy
        exact o2) ⟨[], rfl, rfl, by simp, hb.refl, hb⟩
  simp only [List.nil_append] at h1
  exact ⟨l, S', by rw [e, h1], h2, h3, h4, h5⟩
theorem rng_len {n : Nat} : (rngL 0 n).length = n := by simp [rngL]
theorem rng1_ok {n : Nat} (hn : n < 1000000) : rng1F (.int n) = some (rngL 0 n) := by
  simp only [rng1F]
  rw [if_pos (by omega)]
  rfl
def InF (p : Int) : Prop := -10 ^ 30 ≤ p ∧ p ≤ 10 ^ 30
def dP (l : List Int) : D := .tup (l.map D.int)
theorem spot_ok (hΓ : HBox Γ) (hs : Γ i_l_spot = some fn_l_spot) (hb : Bag S b) (n : Nat) (hn : n < 1000) : ∃ l S', evCall Γ t (k + 3) i_l_spot [.ref b, .int n] S = .ok (dP l) S' ∧ l.length = n ∧ (∀ p ∈ l, InF p) ∧ Bg S b S' ∧ Bag S' b := by
  rw [call_unf hs rfl]
  obtain ⟨l, S', e, h1, h2, h3, h4⟩ := lc_draw (F := lcF (evCall Γ t (k + 2)) e_l_spot_1 (.nm 2) none [2] [.val (.ref b), .val (.int n), .un]) (f := D.int) (Ok := InF) (b := b) (S := S)
    (by
      intro d S hb
      obtain ⟨x, S2, e2, h, g2, b2⟩ := place_ok hΓ.toHDraw (t := t) (k := k) hb
      exact ⟨x, S2, by simp [lcF, e_l_spot_1, e2], h, g2, b2⟩) hb (rngL 0 n)
  rw [rng_len] at h1
  have hl : (l.map D.int).length ≤ sizeLine := by
    have := line_ge
    rw [List.length_map, h1]
    omega
  refine ⟨l, S', ?_, h1, h2, h3, h4⟩
  simp [fn_l_spot, startE, rng1_ok (n := n) (by omega), e, lcR_ok hl, dP]
end
theorem line_map {α β : Type} {l : List α} {f : α → β} (h : l.length ≤ 1000000) : (l.map f).length ≤ sizeLine := by
  have := line_ge
  rw [List.length_map]
  omega
@[simp] theorem eqF_int {i j : Int} : eqF (.int i) (.int j) = some (decide (i = j)) := by
  rw [eqF_ok rfl rfl]
  simp only [eqvD]
  rfl
@[simp] theorem len_dB {l : List (Int × Int)} : bltF .len [dB l] = some (.int l.length) := by simp [dB]
@[simp] theorem seq_dB {l : List (Int × Int)} : seqOf (dB l) = some (l.map dS) := (rfl)
@[simp] theorem seq_dP {l : List Int} : seqOf (dP l) = some (l.map D.int) := (rfl)
theorem bag_new {S : Sto} {x y : Int} : Bag (S ++ [.lst [.int x, .int y]]) S.length := ⟨x, y, by simp⟩
theorem turn_i {n i : Nat} {d : D} (hd : (rngL 0 n)[i]? = some d) : i < n ∧ d = .int i := by
  have hi : i < n := by
    have := (List.getElem?_eq_some_iff.mp hd).1
    simpa [rngL] using this
  refine ⟨hi, ?_⟩
  unfold rngL at hd
  rw [List.getElem?_map, List.getElem?_range hi] at hd
  simpa using hd.symm
end BX
set_option Elab.async false
set_option linter.all false
set_option maxRecDepth 100000
set_option maxHeartbeats 1000000
/-! LCov: holds, cover. -/
namespace BX
open PySem L2
open PyProof.Rows hiding St Binds
abbrev i_holds : Nat := 10
abbrev i_cover : Nat := 11
def e_holds_1 : Ex := (.and (.cmp .le (.ix (.var 2) (.cst (.int 0))) (.ix (.var 3) (.cst (.int 0)))) (.cmp .le (.ix (.var 3) (.cst (.int 1))) (.ix (.var 2) (.cst (.int 1)))))
def fn_holds : Fn := ⟨2, 4, [(.ret (.blt .all [(.lc e_holds_1 (.tp [(.nm 2), (.nm 3)]) (.zip (.var 0) (.var 1)) none [2, 3])]))]⟩
def e_cover_1 : Ex := (.tup [(.blt .min [(.ix (.var 5) (.cst (.int 0))), (.ix (.var 6) (.cst (.int 0)))]), (.blt .max [(.ix (.var 5) (.cst (.int 1))), (.ix (.var 6) (.cst (.int 1)))])])
def b_cover_1 : List Sm := [(.asg (.nm 3) (.blt .tuple [(.lc e_cover_1 (.tp [(.nm 5), (.nm 6)]) (.zip (.var 3) (.var 4)) none [5, 6])]))]
def fn_cover : Fn := ⟨1, 7, [(.star 1 2 (.var 0)),
  (.asg (.nm 3) (.var 1)),
  (.for (.nm 4) (.seq (.var 2)) b_cover_1),
  (.ret (.var 3))]⟩
structure HCov (Γ : Tab) : Prop where
  holds : Γ i_holds = some fn_holds
  cover : Γ i_cover = some fn_cover
abbrev Bx := List (Int × Int)
def covM (a c : Bx) : Bx := (a.zip c).map fun p => ((if p.2.1 < p.1.1 then p.2.1 else p.1.1), (if p.2.2 > p.1.2 then p.2.2 else p.1.2))
def coverM : List Bx → Bx
  | [] => []
  | b :: bs => bs.foldl covM b
def holdsM (a c : Bx) : Bool := ((a.zip c).map fun p => decide (p.1.1 ≤ p.2.1) && decide (p.2.2 ≤ p.1.2)).all id
def dL (l : List Bx) : D := .lst (l.map dB)
section
variable {Γ : Tab} {t k b : Nat} {S : Sto}
theorem holds_ok (h : Γ i_holds = some fn_holds) {a c : Bx} (ha : a.length ≤ 1000) : evCall Γ t (k + 1) i_holds [dB a, dB c] S = .ok (.bl (holdsM a c)) S := by
  rw [call_unf h rfl]
  have e := lcL_map (F := lcF (evCall Γ t k) e_holds_1 (.tp [(.nm 2), (.nm 3)]) none [2, 3] [.val (dB a), .val (dB c), .un, .un])
    (S := S) (f := fun p : (Int × Int) × (Int × Int) => D.tup [dS p.1, dS p.2]) (g := fun p => D.bl (decide (p.1.1 ≤ p.2.1) && decide (p.2.2 ≤ p.1.2))) (l := a.zip c) (by
      rintro ⟨⟨x1, x2⟩, ⟨y1, y2⟩⟩ _
      by_cases h1 : x1 ≤ y1 <;> simp [lcF, e_holds_1, dS, h1])
  have hl : ((a.zip c).map fun p : (Int × Int) × (Int × Int) => D.bl (decide (p.1.1 ≤ p.2.1) && decide (p.2.2 ≤ p.1.2))).length ≤ sizeLine := line_map (by rw [List.length_zip]; omega)
  have em : ((a.zip c).map fun p : (Int × Int) × (Int × Int) => D.bl (decide (p.1.1 ≤ p.2.1) && decide (p.2.2 ≤ p.1.2))) = (((a.zip c).map fun p => decide (p.1.1 ≤ p.2.1) && decide (p.2.2 ≤ p.1.2))).map D.bl := by rw [List.map_map]; rfl
  simp only [fn_holds, startE, List.map_cons, List.map_nil, List.length_cons, List.length_nil]
  simp [e, lcR_ok hl]
  rw [em, blt_all]
  simp [holdsM]
theorem cov_lc {call : Call} {ε : Env} {a c : Bx} (h0 : ε.length = 7) (ha : a.length ≤ 1000) : lcR (lcL (lcF call e_cover_1 (.tp [(.nm 5), (.nm 6)]) none [5, 6] ε) ((a.zip c).map fun p => D.tup [dS p.1, dS p.2]) S) = .ok (.lst ((covM a c).map dS)) S := by
  have e := lcL_map (F := lcF call e_cover_1 (.tp [(.nm 5), (.nm 6)]) none [5, 6] ε) (S := S) (f := fun p : (Int × Int) × (Int × Int) => D.tup [dS p.1, dS p.2])
    (g := fun p => dS ((if p.2.1 < p.1.1 then p.2.1 else p.1.1), (if p.2.2 > p.1.2 then p.2.2 else p.1.2))) (l := a.zip c) (by
      rintro ⟨⟨x1, x2⟩, ⟨y1, y2⟩⟩ _
      match ε, h0 with
      | [a0, a1, a2, a3, a4, a5, a6], _ => simp [lcF, e_cover_1, dS])
  rw [e, lcR_ok (line_map (by rw [List.length_zip]; omega)), covM, List.map_map]
  rfl
theorem covM_len {n : Nat} {a c : Bx} (ha : a.length = n) (hc : c.length = n) : (covM a c).length = n := by
  unfold covM
  rw [List.length_map, List.length_zip, ha, hc]
  omega
theorem cover_ok (h : Γ i_cover = some fn_cover) {n : Nat} {x : Bx} {L : List Bx} (hx : x.length = n) (hL : ∀ y ∈ L, y.length = n) (hn : n ≤ 1000) (hl : L.length ≤ 1000) : evCall Γ t (k + 1) i_cover [dL (x :: L)] S = .ok (dB (coverM (x :: L))) S := by
  rw [call_unf h rfl]
  let P : Nat → Env → Sto → Prop := fun i ε S' => ∃ p4 p5 p6 : Sl, ε = [.val (dL (x :: L)), .val (dB x), .val (dL L), .val (dB ((L.take i).foldl covM x)), p4, p5, p6] ∧ ((L.take i).foldl covM x).length = n ∧ S' = S
  obtain ⟨ε', S2, e2, p4, p5, p6, rfl, hln, rfl⟩ := forL_inv (F := forF (evCall Γ t k) t (.nm 4) b_cover_1) P (ds := L.map dB)
    (by
      rintro i d ε S' hd ⟨p4, p5, p6, rfl, hln, rfl⟩
      rw [List.getElem?_map] at hd
      cases ey : L[i]? with
      | none => rw [ey] at hd; cases hd
      | some y =>
        rw [ey] at hd
        cases hd
        have hy := hL y (List.mem_of_getElem? ey)
        have et : L.take (i + 1) = L.take i ++ [y] := by rw [List.take_add_one, ey]; rfl
        have ef : (L.take (i + 1)).foldl covM x = covM ((L.take i).foldl covM x) y := by rw [et, List.foldl_append]; rfl
        show ∃ ε' S'_1, _ ∧ ∃ p4 p5 p6 : Sl, ε' = [.val (dL (x :: L)), .val (dB x), .val (dL L), .val (dB ((L.take (i + 1)).foldl covM x)), p4, p5, p6] ∧ ((L.take (i + 1)).foldl covM x).length = n ∧ S'_1 = S'
        rw [ef]
        generalize (L.take i).foldl covM x = A at hln ⊢
        have e := cov_lc (call := evCall Γ t k) (S := S') (ε := [.val (dL (x :: L)), .val (dB x), .val (dL L), .val (dB A), .val (dB y), p5, p6]) (a := A) (c := y) rfl (by omega)
        have tb : D.tup ((covM A y).map dS) = dB (covM A y) := rfl
        refine ⟨_, _, ?_, .val (dB y), p5, p6, rfl, covM_len hln hy, rfl⟩
        generalize covM A y = B at e tb ⊢
        simp [forF, b_cover_1, e, tb]) (ε := [.val (dL (x :: L)), .val (dB x), .val (dL L), .val (dB x), .un, .un, .un]) (S := S) ⟨_, _, _, rfl, hx, rfl⟩
  rw [List.length_map, List.take_length] at e2
  have st : starF (dL (x :: L)) = some (dB x, L.map dB) := star_lst (by rw [List.length_map]; omega)
  have sq : seqOf (.lst (L.map dB)) = some (L.map dB) := rfl
  have dl : D.lst (L.map dB) = dL L := rfl
  have sq2 : seqOf (dL L) = some (L.map dB) := rfl
  simp [fn_cover, startE, st, dl, sq2, e2, coverM]
end
/-! what a cover is -/
theorem covM_at {a c : Bx} {i : Nat} {s u : Int × Int} (ha : a[i]? = some s) (hc : c[i]? = some u) : (covM a c)[i]? = some ((if u.1 < s.1 then u.1 else s.1), (if u.2 > s.2 then u.2 else s.2)) := by
  unfold covM
  rw [List.getElem?_map]
  have : (a.zip c)[i]? = some (s, u) := List.getElem?_zip_eq_some.mpr ⟨ha, hc⟩
  rw [this]
  rfl
theorem fold_at {i : Nat} : ∀ {L : List Bx} {x : Bx} {s : Int × Int} {f : Bx → Int × Int}, x[i]? = some s → (∀ y ∈ L, y[i]? = some (f y)) → (L.foldl covM x)[i]? = some (minI (L.map fun y => (f y).1) s.1, maxI (L.map fun y => (f y).2) s.2)
  | [], x, s, f, h, _ => h
  | y :: L, x, s, f, h, hf => by
    have h1 := covM_at h (hf y (List.mem_cons_self ..))
    have := fold_at (L := L) (f := f) h1 fun z hz => hf z (List.mem_cons_of_mem _ hz)
    simpa [minI, maxI] using this
def atD (i : Nat) (y : Bx) : Int × Int := y.getD i (0, 0)
theorem atD_some {i n : Nat} {y : Bx} (h : y.length = n) (hi : i < n) : y[i]? = some (atD i y) := by
  unfold atD
  simp [h, hi]
theorem cover_at {n i : Nat} {x : Bx} {L : List Bx} (hx : x.length = n) (hL : ∀ y ∈ L, y.length = n) (hi : i < n) :
    (coverM (x :: L))[i]? = some (minI (L.map fun y => (atD i y).1) (atD i x).1, maxI (L.map fun y => (atD i y).2) (atD i x).2) :=
  fold_at (atD_some hx hi) fun y hy => atD_some (hL y hy) hi
theorem cover_len {n : Nat} : ∀ {L : List Bx} {x : Bx}, x.length = n → (∀ y ∈ L, y.length = n) → (coverM (x :: L)).length = n
  | [], x, hx, _ => hx
  | y :: L, x, hx, hL => by
    show (L.foldl covM (covM x y)).length = n
    exact cover_len (covM_len hx (hL y (List.mem_cons_self ..))) fun z hz => hL z (List.mem_cons_of_mem _ hz)
theorem minI_eq {r r' : List Int} {m m' : Int} (h : ∀ y, y ∈ m :: r ↔ y ∈ m' :: r') : minI r m = minI r' m' := by
  obtain ⟨a1, a2⟩ := minI_spec r m
  obtain ⟨b1, b2⟩ := minI_spec r' m'
  have := a2 _ ((h _).mpr b1)
  have := b2 _ ((h _).mp a1)
  omega
theorem maxI_eq {r r' : List Int} {m m' : Int} (h : ∀ y, y ∈ m :: r ↔ y ∈ m' :: r') : maxI r m = maxI r' m' := by
  obtain ⟨a1, a2⟩ := maxI_spec r m
  obtain ⟨b1, b2⟩ := maxI_spec r' m'
  have := a2 _ ((h _).mpr b1)
  have := b2 _ ((h _).mp a1)
  omega
/-- a cover asks for no order -/
theorem cover_eq {n : Nat} {x x' : Bx} {L L' : List Bx} (hx : x.length = n) (hL : ∀ y ∈ L, y.length = n) (h : ∀ y, y ∈ x :: L ↔ y ∈ x' :: L') : coverM (x :: L) = coverM (x' :: L') := by
  have hh : ∀ y ∈ x :: L, y.length = n := fun y hy => by rcases List.mem_cons.mp hy with rfl | hy; exact hx; exact hL y hy
  have hx' : x'.length = n := hh x' ((h x').mpr (List.mem_cons_self ..))
  have hL' : ∀ y ∈ L', y.length = n := fun y hy => hh y ((h y).mpr (List.mem_cons_of_mem _ hy))
  apply List.ext_getElem?
  intro i
  by_cases hi : i < n
  · rw [cover_at hx hL hi, cover_at hx' hL' hi]
    have key : ∀ (f : Bx → Int) (z : Int), z ∈ f x :: L.map f ↔ z ∈ f x' :: L'.map f := fun f z => by
      rw [← List.map_cons, ← List.map_cons, List.mem_map, List.mem_map]
      exact ⟨fun ⟨y, hy, e⟩ => ⟨y, (h y).mp hy, e⟩, fun ⟨y, hy, e⟩ => ⟨y, (h y).mpr hy, e⟩⟩
    rw [minI_eq (key fun y => (atD i y).1), maxI_eq (key fun y => (atD i y).2)]
  · rw [List.getElem?_eq_none (by rw [cover_len hx hL]; omega), List.getElem?_eq_none (by rw [cover_len hx' hL']; omega)]
/-- it holds each -/
theorem cover_le {n i : Nat} {x y : Bx} {L : List Bx} {p s : Int × Int} (hx : x.length = n) (hL : ∀ y ∈ L, y.length = n) (hy : y ∈ x :: L) (hp : (coverM (x :: L))[i]? = some p) (hs : y[i]? = some s) : p.1 ≤ s.1 ∧ s.2 ≤ p.2 := by
  have hi : i < n := by
    have := (List.getElem?_eq_some_iff.mp hp).1
    rw [cover_len hx hL] at this
    exact this
  rw [cover_at hx hL hi] at hp
  cases hp
  have hyl : y.length = n := by rcases List.mem_cons.mp hy with rfl | hy; exact hx; exact hL y hy
  rw [atD_some hyl hi] at hs
  cases hs
  have key : ∀ f : Bx → Int, f y ∈ f x :: L.map f := fun f => by rw [← List.map_cons]; exact List.mem_map_of_mem hy
  exact ⟨(minI_spec _ _).2 _ (key fun y => (atD i y).1), (maxI_spec _ _).2 _ (key fun y => (atD i y).2)⟩
theorem holdsM_iff {a c : Bx} : holdsM a c = true ↔ ∀ (i : Nat) (s u : Int × Int), a[i]? = some s → c[i]? = some u → s.1 ≤ u.1 ∧ u.2 ≤ s.2 := by
  unfold holdsM
  simp only [List.all_map, List.all_eq_true, Function.comp, id, Bool.and_eq_true, decide_eq_true_eq]
  constructor
  · intro h i s u h1 h2
    exact h (s, u) (List.mem_of_getElem? (List.getElem?_zip_eq_some.mpr ⟨h1, h2⟩))
  · intro h p hp
    obtain ⟨i, hi⟩ := List.mem_iff_getElem?.mp hp
    obtain ⟨h1, h2⟩ := List.getElem?_zip_eq_some.mp hi
    exact h i _ _ h1 h2
theorem cover_holds {n : Nat} {x y : Bx} {L : List Bx} (hx : x.length = n) (hL : ∀ y ∈ L, y.length = n) (hy : y ∈ x :: L) : holdsM (coverM (x :: L)) y = true :=
  holdsM_iff.mpr fun i s u h1 h2 => cover_le hx hL hy h1 h2
theorem holds_refl (a : Bx) : holdsM a a = true := holdsM_iff.mpr fun i s u h1 h2 => by rw [h1] at h2; cases h2; exact ⟨Int.le_refl _, Int.le_refl _⟩
end BX
set_option Elab.async false
set_option linter.all false
set_option maxRecDepth 100000
set_option maxHeartbeats 1000000
/-! LRm: room, edge. -/
namespace BX
open PySem L2
open PyProof.Rows hiding St Binds
abbrev i_room : Nat := 17
abbrev i_edge : Nat := 18
def b_room_1 : List Sm := [(.aug 1 .mul (.bin .sub (.var 3) (.var 2)))]
def fn_room : Fn := ⟨1, 4, [(.asg (.nm 1) (.cst (.int 1))),
  (.for (.tp [(.nm 2), (.nm 3)]) (.seq (.var 0)) b_room_1),
  (.ret (.var 1))]⟩
def e_edge_1 : Ex := (.bin .sub (.var 2) (.var 1))
def fn_edge : Fn := ⟨1, 3, [(.ret (.blt .sum [(.lc e_edge_1 (.tp [(.nm 1), (.nm 2)]) (.seq (.var 0)) none [1, 2])]))]⟩
structure HRm (Γ : Tab) : Prop where
  room : Γ i_room = some fn_room
  edge : Γ i_edge = some fn_edge
def prodM (l : List (Int × Int)) : Int := l.foldl (fun a s => a * (s.2 - s.1)) 1
def sumM (l : List (Int × Int)) : Int := (l.map fun s => s.2 - s.1).sum
structure OkW (s : Int × Int) : Prop where
  lo : -10 ^ 31 ≤ s.1
  hi : s.1 ≤ 10 ^ 31
  lo2 : -10 ^ 31 ≤ s.2
  hi2 : s.2 ≤ 10 ^ 31
theorem OkS.w {s : Int × Int} (h : OkS s) : OkW s := by
  obtain ⟨h1, h2, h3⟩ := h
  exact ⟨by omega, by omega, by omega, by omega⟩
theorem prod_snoc (l : List (Int × Int)) (s : Int × Int) : prodM (l ++ [s]) = prodM l * (s.2 - s.1) := by simp [prodM]
theorem sum_snoc (l : List (Int × Int)) (s : Int × Int) : sumM (l ++ [s]) = sumM l + (s.2 - s.1) := by simp [sumM]
theorem len_lt {s : Int × Int} (h : OkW s) : (s.2 - s.1).natAbs < 2 ^ 110 := by
  obtain ⟨h1, h2, h3, h4⟩ := h
  omega
theorem prod_lt : ∀ (n : Nat) (l : List (Int × Int)), l.length = n → (∀ s ∈ l, OkW s) → (prodM l).natAbs < 2 ^ (110 * n + 1) := by
  intro n
  induction n with
  | zero =>
    intro l hl _
    obtain rfl := List.length_eq_zero_iff.mp hl
    decide
  | succ n ih =>
    intro l hl h
    have hne : l ≠ [] := by intro z; subst z; simp at hl
    have e := List.dropLast_concat_getLast hne
    rw [← e, prod_snoc, Int.natAbs_mul]
    have h1 := ih l.dropLast (by simp [hl]) fun s hs => h s (List.dropLast_subset l hs)
    have h2 := len_lt (h _ (List.getLast_mem hne))
    rw [show 110 * (n + 1) + 1 = (110 * n + 1) + 110 by omega, Nat.pow_add]
    exact Nat.mul_lt_mul'' h1 h2
theorem mul_pr {l : List (Int × Int)} {s : Int × Int} (hl : ∀ s ∈ l, OkW s) (hs : OkW s) (hn : l.length ≤ 1000) : binF .mul (.int (prodM l)) (.int (s.2 - s.1)) = some (.int (prodM l * (s.2 - s.1))) :=
  mulOk_w (a := 110 * l.length + 1) (b := 110) (prod_lt _ l rfl hl) (len_lt hs) (by omega) (by decide) (by omega)
section
variable {Γ : Tab} {t k b : Nat} {S : Sto}
theorem take_at {l : List (Int × Int)} {i : Nat} {d : D} (hd : (l.map dS)[i]? = some d) : ∃ s, s ∈ l ∧ i < l.length ∧ d = .tup [.int s.1, .int s.2] ∧ l.take (i + 1) = l.take i ++ [s] := by
  rw [List.getElem?_map] at hd
  cases e : l[i]? with
  | none => rw [e] at hd; cases hd
  | some s =>
    rw [e] at hd
    cases hd
    exact ⟨s, List.mem_of_getElem? e, (List.getElem?_eq_some_iff.mp e).1, rfl, by rw [List.take_add_one, e]; rfl⟩
theorem room_ok (h : HRm Γ) {l : List (Int × Int)} (hl : ∀ s ∈ l, OkW s) (hn : l.length ≤ 1000) : evCall Γ t (k + 1) i_room [dB l] S = .ok (.int (prodM l)) S := by
  rw [call_unf h.room rfl]
  let P : Nat → Env → Sto → Prop := fun i ε S' => ∃ p q : Sl, ε = [.val (dB l), .val (.int (prodM (l.take i))), p, q] ∧ S' = S
  obtain ⟨ε', S2, e2, p, q, rfl, rfl⟩ := forL_inv (F := forF (evCall Γ t k) t (.tp [(.nm 2), (.nm 3)]) b_room_1) P (ds := l.map dS)
    (by
      rintro i d ε S' hd ⟨p, q, rfl, rfl⟩
      obtain ⟨s, hs, hi, rfl, e⟩ := take_at hd
      have hm := mul_pr (l := l.take i) (fun s hs => hl s (List.mem_of_mem_take hs)) (hl s hs) (by rw [List.length_take]; omega)
      refine ⟨_, _, ?_, .val (.int s.1), .val (.int s.2), rfl, rfl⟩
      rw [e, prod_snoc]
      simp [forF, b_room_1, hm]) (ε := [.val (dB l), .val (.int 1), .un, .un]) (S := S) ⟨.un, .un, rfl, rfl⟩
  rw [List.length_map, List.take_length] at e2
  simp [fn_room, startE, e2]
theorem edge_ok (h : HRm Γ) {l : List (Int × Int)} (hn : l.length ≤ 1000) : evCall Γ t (k + 1) i_edge [dB l] S = .ok (.int (sumM l)) S := by
  rw [call_unf h.edge rfl]
  have e := lcL_map (F := lcF (evCall Γ t k) e_edge_1 (.tp [(.nm 1), (.nm 2)]) none [1, 2] [.val (dB l), .un, .un]) (S := S) (f := dS) (g := fun s => D.int (s.2 - s.1)) (l := l) (by
      intro p _
      simp [lcF, e_edge_1, dS])
  have em : (l.map fun s : Int × Int => D.int (s.2 - s.1)) = (l.map fun s => s.2 - s.1).map D.int := by rw [List.map_map]; rfl
  simp only [fn_edge, startE, List.map_cons, List.map_nil, List.length_cons, List.length_nil]
  simp [e, lcR_ok (line_map (l := l) (by omega))]
  rw [em, blt_sum]
  rfl
end
end BX
set_option Elab.async false
set_option linter.all false
set_option maxRecDepth 100000
set_option maxHeartbeats 1000000
/-! LSpl: splits. -/
namespace BX
open PySem L2
open PyProof.Rows hiding St Binds
abbrev i_orders : Nat := 71
abbrev i_cuts : Nat := 72
abbrev i_covers : Nat := 73
abbrev i_edges : Nat := 74
abbrev i_rank : Nat := 75
abbrev i_split : Nat := 76
def k_orders_1 : Ex := (.tup [(.ix (.ix (.ix (.var 0) (.var 4)) (.var 1)) (.cst (.int 0))), (.ix (.ix (.ix (.var 0) (.var 4)) (.var 1)) (.cst (.int 1))), (.var 4)])
def k_orders_2 : Ex := (.tup [(.ix (.ix (.ix (.var 0) (.var 4)) (.var 1)) (.cst (.int 1))), (.ix (.ix (.ix (.var 0) (.var 4)) (.var 1)) (.cst (.int 0))), (.var 4)])
def fn_orders : Fn := ⟨2, 6, [(.asg (.nm 2) (.op1 .lrg (.blt .len [(.var 0)]))),
  (.asg (.nm 3) (.srtK (.var 2) 4 k_orders_1)),
  (.asg (.nm 5) (.srtK (.var 2) 4 k_orders_2)),
  (.ret (.lst [(.var 3), (.var 5)]))]⟩
def e_cuts_1 : Ex := (.tup [(.sl (.var 4) none (some (.var 5))), (.sl (.var 4) (some (.var 5)) none)])
def fn_cuts : Fn := ⟨3, 6, [(.asg (.nm 3) (.op2 .lrg2 (.var 2) (.bin .add (.bin .sub (.blt .len [(.var 0)]) (.var 2)) (.cst (.int 1))))),
  (.ret (.lc2 e_cuts_1 (.nm 4) (.seq (.call i_orders [(.var 0), (.var 1)] [])) none (.nm 5) (.seq (.var 3)) [4, 5] [5]))]⟩
def e_covers_1 : Ex := (.ix (.var 0) (.var 3))
def e_covers_2 : Ex := (.call i_cover [(.lc e_covers_1 (.nm 3) (.seq (.var 2)) none [3])] [])
def fn_covers : Fn := ⟨2, 4, [(.ret (.lc e_covers_2 (.nm 2) (.seq (.var 1)) none [2]))]⟩
def e_edges_1 : Ex := (.call i_edge [(.var 4)] [])
def fn_edges : Fn := ⟨3, 5, [(.ret (.blt .sum [(.lc2 e_edges_1 (.nm 3) (.seq (.call i_cuts [(.var 0), (.var 1), (.var 2)] [])) none (.nm 4) (.seq (.call i_covers [(.var 0), (.var 3)] [])) [3, 4] [4])]))]⟩
def fn_rank : Fn := ⟨2, 6, [(.asg (.tp [(.nm 2), (.nm 3)]) (.call i_covers [(.var 0), (.var 1)] [])),
  (.asg (.nm 4) (.call i_common [(.var 2), (.var 3)] [])),
  (.asg (.nm 5) (.ite (.cmp .is (.var 4) (.cst (.non))) (.cst (.int 0)) (.call i_room [(.var 4)] []))),
  (.ret (.tup [(.var 5), (.bin .add (.call i_room [(.var 2)] []) (.call i_room [(.var 3)] []))]))]⟩
def e_split_1 : Ex := (.call i_edges [(.var 0), (.var 4), (.var 1)] [])
def k_split_2 : Ex := (.tup [(.ix (.var 3) (.var 5)), (.var 5)])
def b_split_1 : List Sm := [(.asg (.nm 10) (.call i_rank [(.var 0), (.var 9)] [])), (.ite (.cmp .lt (.var 10) (.var 8)) [(.par 6 8 (.var 9) (.var 10))] [])]
def fn_split : Fn := ⟨2, 11, [(.asg (.nm 2) (.op1 .lrg (.blt .len [(.ix (.var 0) (.cst (.int 0)))]))),
  (.asg (.nm 3) (.lc e_split_1 (.nm 4) (.seq (.var 2)) none [4])),
  (.asg (.nm 4) (.minK (.var 2) 5 k_split_2)),
  (.star 6 7 (.call i_cuts [(.var 0), (.var 4), (.var 1)] [])),
  (.asg (.nm 8) (.call i_rank [(.var 0), (.var 6)] [])),
  (.for (.nm 9) (.seq (.var 7)) b_split_1),
  (.ret (.tup [(.op1 .srt (.ix (.var 6) (.cst (.int 0)))), (.op1 .srt (.ix (.var 6) (.cst (.int 1))))]))]⟩
structure HSpl (Γ : Tab) : Prop where
  cov : Γ i_cover = some fn_cover
  mt : HMeets Γ
  rm : HRm Γ
  orders : Γ i_orders = some fn_orders
  cuts : Γ i_cuts = some fn_cuts
  covers : Γ i_covers = some fn_covers
  edges : Γ i_edges = some fn_edges
  rank : Γ i_rank = some fn_rank
  split : Γ i_split = some fn_split
def dN (i : Nat) : D := .int i
def dNs (l : List Nat) : D := .lst (l.map dN)
abbrev Cut := List Nat × List Nat
def dCut (c : Cut) : D := .tup [dNs c.1, dNs c.2]
def bxAt (bs : List Bx) (i : Nat) : Bx := bs.getD i []
def sd (bs : List Bx) (ax i : Nat) : Int × Int := atD ax (bxAt bs i)
def lowK (bs : List Bx) (ax i : Nat) : List Int := [(sd bs ax i).1, (sd bs ax i).2, i]
def highK (bs : List Bx) (ax i : Nat) : List Int := [(sd bs ax i).2, (sd bs ax i).1, i]
def ordM (k : Nat → List Int) (n : Nat) : List Nat := (List.range n).mergeSort fun p q => decide (k p ≤ k q)
def ordsM (bs : List Bx) (ax : Nat) : List (List Nat) := [ordM (lowK bs ax) bs.length, ordM (highK bs ax) bs.length]
def endsM (n least : Nat) : List Nat := (List.range (n + 1 - 2 * least)).map (least + ·)
def cutsM (bs : List Bx) (ax least : Nat) : List Cut := (ordsM bs ax).flatMap fun o => (endsM bs.length least).map fun e => (o.take e, o.drop e)
def pickM (bs : List Bx) (l : List Nat) : List Bx := l.map (bxAt bs)
def covM2 (bs : List Bx) (l : List Nat) : Bx := coverM (pickM bs l)
def edgesM (bs : List Bx) (ax least : Nat) : Int := ((cutsM bs ax least).flatMap fun c => [sumM (covM2 bs c.1), sumM (covM2 bs c.2)]).sum
def rankM (bs : List Bx) (c : Cut) : List Int := [if meetsM (covM2 bs c.1) (covM2 bs c.2) = true then prodM (cutM (covM2 bs c.1) (covM2 bs c.2)) else 0, prodM (covM2 bs c.1) + prodM (covM2 bs c.2)]
def bestM (bs : List Bx) (c : Cut) (cs : List Cut) : Cut := cs.foldl (fun b c => if rankM bs c < rankM bs b then c else b) c
def axK (bs : List Bx) (least a : Nat) : List Int := [edgesM bs a least, a]
def axM (bs : List Bx) (n least : Nat) : Nat := argBest (btK ((List.range n).map fun a => pI (axK bs least a))) (n - 1)
def cutOf (bs : List Bx) (n least : Nat) : Cut := match cutsM bs (axM bs n least) least with
  | [] => ([], [])
  | c :: cs => bestM bs c cs
def sortN (l : List Nat) : List Int := sortI (l.map Int.ofNat)
/-- a cut of the places -/
structure OkC (n least : Nat) (c : Cut) : Prop where
  perm : (c.1 ++ c.2).Perm (List.range n)
  a : least ≤ c.1.length
  b : least ≤ c.2.length
theorem OkC.lt1 {n least i : Nat} {c : Cut} (h : OkC n least c) (hi : i ∈ c.1) : i < n := List.mem_range.mp (h.perm.subset (List.mem_append_left _ hi))
theorem OkC.lt2 {n least i : Nat} {c : Cut} (h : OkC n least c) (hi : i ∈ c.2) : i < n := List.mem_range.mp (h.perm.subset (List.mem_append_right _ hi))
theorem ord_perm (k : Nat → List Int) (n : Nat) : (ordM k n).Perm (List.range n) := List.mergeSort_perm _ _
theorem ord_len (k : Nat → List Int) (n : Nat) : (ordM k n).length = n := by rw [(ord_perm k n).length_eq, List.length_range]
theorem cuts_ok {bs : List Bx} {ax least : Nat} {c : Cut} (hl : 2 * least ≤ bs.length) (h : c ∈ cutsM bs ax least) : OkC bs.length least c := by
  unfold cutsM at h
  obtain ⟨o, ho, h⟩ := List.mem_flatMap.mp h
  obtain ⟨e, he, rfl⟩ := List.mem_map.mp h
  obtain ⟨x, hx, rfl⟩ := List.mem_map.mp he
  have hx := List.mem_range.mp hx
  have po : o.Perm (List.range bs.length) ∧ o.length = bs.length := by
    simp only [ordsM, List.mem_cons, List.not_mem_nil, or_false] at ho
    rcases ho with rfl | rfl
    · exact ⟨ord_perm _ _, ord_len _ _⟩
    · exact ⟨ord_perm _ _, ord_len _ _⟩
  refine ⟨?_, ?_, ?_⟩
  · show (o.take _ ++ o.drop _).Perm _
    rw [List.take_append_drop]
    exact po.1
  · show _ ≤ (o.take _).length
    rw [List.length_take, po.2]
    omega
  · show _ ≤ (o.drop _).length
    rw [List.length_drop, po.2]
    omega
theorem cuts_ne {bs : List Bx} {ax least : Nat} (hl : 2 * least ≤ bs.length) : cutsM bs ax least ≠ [] := by
  unfold cutsM ordsM endsM
  intro z
  have h := congrArg List.length z
  simp at h
  omega
theorem cover_okB {n : Nat} {x : Bx} {L : List Bx} (h : ∀ y ∈ x :: L, OkB n y) : OkB n (coverM (x :: L)) := by
  have hx := (h x (List.mem_cons_self ..)).len
  have hL : ∀ y ∈ L, y.length = n := fun y hy => (h y (List.mem_cons_of_mem _ hy)).len
  refine ⟨cover_len hx hL, fun s hs => ?_⟩
  obtain ⟨i, hi⟩ := List.mem_iff_getElem?.mp hs
  have hin : i < n := by
    have := (List.getElem?_eq_some_iff.mp hi).1
    rw [cover_len hx hL] at this
    exact this
  have e := cover_at hx hL hin
  rw [hi] at e
  cases e
  have key : ∀ y ∈ x :: L, OkS (atD i y) := fun y hy => by
    have e := atD_some (h y hy).len hin
    exact (h y hy).s _ (List.mem_of_getElem? e)
  obtain ⟨a1, a2⟩ := minI_spec (L.map fun y => (atD i y).1) (atD i x).1
  obtain ⟨b1, b2⟩ := maxI_spec (L.map fun y => (atD i y).2) (atD i x).2
  rw [← List.map_cons (f := fun y => (atD i y).1), List.mem_map] at a1
  rw [← List.map_cons (f := fun y => (atD i y).2), List.mem_map] at b1
  obtain ⟨y, hy, e1⟩ := a1
  obtain ⟨z, hz, e2⟩ := b1
  have k1 := key y hy
  have k2 := key z hz
  have k3 := key x (List.mem_cons_self ..)
  have a3 := a2 _ (List.mem_cons_self ..)
  have b3 := b2 _ (List.mem_cons_self ..)
  exact ⟨by rw [← e1]; exact k1.lo, Int.le_trans a3 (Int.le_trans k3.le b3), by rw [← e2]; exact k2.hi⟩
theorem cover_okL {n : Nat} {L : List Bx} (h : ∀ y ∈ L, OkB n y) (hn : L ≠ []) : OkB n (coverM L) := by
  cases L with
  | nil => exact absurd rfl hn
  | cons x L => exact cover_okB h
theorem cut_okW {n : Nat} {a c : Bx} (ha : OkB n a) (hc : OkB n c) : (cutM a c).length = n ∧ ∀ s ∈ cutM a c, OkW s := by
  unfold cutM
  refine ⟨by rw [List.length_map, List.length_zip, ha.len, hc.len]; omega, fun s hs => ?_⟩
  obtain ⟨⟨p, q⟩, hp, rfl⟩ := List.mem_map.mp hs
  have h1 := ha.s _ (List.of_mem_zip hp).1
  have h2 := hc.s _ (List.of_mem_zip hp).2
  obtain ⟨a1, a2, a3⟩ := h1
  obtain ⟨b1, b2, b3⟩ := h2
  refine ⟨?_, ?_, ?_, ?_⟩ <;> simp only [] <;> split <;> omega
theorem bxAt_ok {n i : Nat} {bs : List Bx} (h : ∀ y ∈ bs, OkB n y) (hi : i < bs.length) : bs[i]? = some (bxAt bs i) ∧ OkB n (bxAt bs i) := by
  have e : bs[i]? = some (bxAt bs i) := by unfold bxAt; simp [hi]
  exact ⟨e, h _ (List.mem_of_getElem? e)⟩
theorem pick_ok {n : Nat} {bs : List Bx} {l : List Nat} (h : ∀ y ∈ bs, OkB n y) (hl : ∀ i ∈ l, i < bs.length) : ∀ y ∈ pickM bs l, OkB n y := fun y hy => by
  obtain ⟨i, hi, rfl⟩ := List.mem_map.mp hy
  exact (bxAt_ok h (hl i hi)).2
theorem cov2_ok {n : Nat} {bs : List Bx} {l : List Nat} (h : ∀ y ∈ bs, OkB n y) (hl : ∀ i ∈ l, i < bs.length) (hn : l ≠ []) : OkB n (covM2 bs l) :=
  cover_okL (pick_ok h hl) fun z => hn (List.map_eq_nil_iff.mp z)
theorem nn_of {l : List Nat} {k : Nat} (h : k ≤ l.length) (hk : 1 ≤ k) : l ≠ [] := by
  intro z
  subst z
  simp at h
  omega
section
variable {Γ : Tab} {t k : Nat} {S : Sto}
theorem ix_bs {n i : Nat} {bs : List Bx} (h : ∀ y ∈ bs, OkB n y) (hi : i < bs.length) : ixS S (dL bs) (dN i) = some (dB (bxAt bs i)) := by
  have e := (bxAt_ok h hi).1
  unfold dL dN
  rw [ixS_lst]
  exact atI_nat (by rw [List.getElem?_map, e]; rfl)
theorem ix_bsL {n i : Nat} {bs : List Bx} (h : ∀ y ∈ bs, OkB n y) (hi : i < bs.length) : ixS S (dL bs) (.int i) = some (dB (bxAt bs i)) := ix_bs h hi
theorem ix_sd {n i ax : Nat} {bs : List Bx} (h : ∀ y ∈ bs, OkB n y) (hi : i < bs.length) (hax : ax < n) : ixS S (dB (bxAt bs i)) (.int ax) = some (dS (sd bs ax i)) := by
  have e := atD_some (bxAt_ok h hi).2.len hax
  unfold dB
  rw [ixS_tup]
  exact atI_nat (by rw [List.getElem?_map, e]; rfl)
theorem key1_ok {n i ax : Nat} {bs : List Bx} {p2 p3 p4 p5 : Sl} (h : ∀ y ∈ bs, OkB n y) (hi : i < bs.length) (hax : ax < n) :
    keyT (evCall Γ t k) k_orders_1 4 [.val (dL bs), .val (.int ax), p2, p3, p4, p5] (dN i) S = .ok (some (tI (lowK bs ax i))) S := by
  simp [keyT, k_orders_1, ix_bs h hi, ix_sd h hi hax]
  simp [dS, tI, lowK, dN]
theorem key2_ok {n i ax : Nat} {bs : List Bx} {p2 p3 p4 p5 : Sl} (h : ∀ y ∈ bs, OkB n y) (hi : i < bs.length) (hax : ax < n) :
    keyT (evCall Γ t k) k_orders_2 4 [.val (dL bs), .val (.int ax), p2, p3, p4, p5] (dN i) S = .ok (some (tI (highK bs ax i))) S := by
  simp [keyT, k_orders_2, ix_bs h hi, ix_sd h hi hax]
  simp [dS, tI, highK, dN]
theorem rng0_dN {n : Nat} : rngL0 0 n = (List.range n).map dN := by
  simp [rngL0, dN]
theorem lrg_ok {n : Nat} (h : n ≤ 1000000) : op1F .lrg (.int n) = some (dNs (List.range n)) := by
  simp only [op1F]
  rw [if_pos (by omega), rng0_dN]
  rfl
theorem len_dL {bs : List Bx} : bltF .len [dL bs] = some (.int bs.length) := by simp [dL]
theorem lst_dNs {l : List Nat} : lstO (dNs l) = some (l.map dN) := rfl
theorem orders_ok (h : HSpl Γ) {n ax : Nat} {bs : List Bx} (hb : ∀ y ∈ bs, OkB n y) (hax : ax < n) (hl : bs.length ≤ 1000) : evCall Γ t (k + 1) i_orders [dL bs, .int ax] S = .ok (.lst ((ordsM bs ax).map dNs)) S := by
  rw [call_unf h.orders rfl]
  have e1 := lcL_map (F := keyT (evCall Γ t k) k_orders_1 4 [.val (dL bs), .val (.int ax), .val (dNs (List.range bs.length)), .un, .un, .un]) (S := S) (f := dN) (g := fun i => tI (lowK bs ax i)) (l := List.range bs.length) fun i hi => key1_ok hb (List.mem_range.mp hi) hax
  have e2 : ∀ o : D, lcL (keyT (evCall Γ t k) k_orders_2 4 [.val (dL bs), .val (.int ax), .val (dNs (List.range bs.length)), .val o, .un, .un]) ((List.range bs.length).map dN) S = _ := fun o => lcL_map (f := dN) (g := fun i => tI (highK bs ax i)) (l := List.range bs.length) fun i hi => key2_ok hb (List.mem_range.mp hi) hax
  have s1 := srt_tI (l := List.range bs.length) (f := dN) (k := lowK bs ax) fun x _ z => by simp [lowK] at z
  have s2 := srt_tI (l := List.range bs.length) (f := dN) (k := highK bs ax) fun x _ z => by simp [highK] at z
  have hr := lrg_ok (n := bs.length) (by omega)
  generalize hR : List.range bs.length = R at e1 e2 s1 s2 hr
  simp [fn_orders, startE, len_dL, hr, lst_dNs, e1, e2, s1, s2]
  rw [← hR]
  rfl
theorem ends_ok {n least : Nat} (h : n ≤ 1000000) (hl : 2 * least ≤ n) : op2F .lrg2 (.int least) (.int (n - least + 1)) = some (dNs (endsM n least)) := by
  simp only [op2F]
  rw [if_pos (by omega)]
  unfold rngL0 dNs endsM
  rw [show ((n : Int) - least + 1 - least).toNat = n + 1 - 2 * least by omega, List.map_map]
  congr 2
  try (apply List.map_congr_left; intro x _; simp [dN])
theorem cuts_run (h : HSpl Γ) {n ax least : Nat} {bs : List Bx} (hb : ∀ y ∈ bs, OkB n y) (hax : ax < n) (hl : bs.length ≤ 1000) (h2 : 2 * least ≤ bs.length) : evCall Γ t (k + 2) i_cuts [dL bs, .int ax, .int least] S = .ok (.lst ((cutsM bs ax least).map dCut)) S := by
  rw [call_unf h.cuts rfl]
  have eo := orders_ok h (t := t) (k := k) (S := S) hb hax hl
  have el := ends_ok (n := bs.length) (least := least) (by omega) h2
  have inner : ∀ (o : List Nat) (ε : Env), ε.length = 6 → lcL (lc2F (evCall Γ t (k + 1)) e_cuts_1 (.nm 5) [5] (ε.set 4 (.val (dNs o)))) ((endsM bs.length least).map dN) S = .ok ((endsM bs.length least).map fun e => dCut (o.take e, o.drop e)) S := fun o ε he => lcL_map (f := dN) fun e _ => by
    match ε, he with
    | [a0, a1, a2, a3, a4, a5], _ =>
      simp [lc2F, e_cuts_1, dNs, dN, slF, cut_to, cut_from]
      simp [dCut, dNs]
  have outer := lcM_map (F := lcMF (evCall Γ t (k + 1)) e_cuts_1 (.nm 4) none (.nm 5) (.seq (.var 3)) [4, 5] [5] [.val (dL bs), .val (.int ax), .val (.int least), .val (dNs (endsM bs.length least)), .un, .un]) (S := S) (f := dNs)
    (g := fun o => (endsM bs.length least).map fun e => dCut (o.take e, o.drop e)) (l := ordsM bs ax) fun o _ => by
      have i1 := inner o [.val (dL bs), .val (.int ax), .val (.int least), .val (dNs (endsM bs.length least)), .un, .un] rfl
      have sq : seqOf (dNs (endsM bs.length least)) = some ((endsM bs.length least).map dN) := rfl
      generalize endsM bs.length least = L at i1 sq ⊢
      simp at i1
      simp [lcMF, sq, i1]
  have em : ((ordsM bs ax).flatMap fun o => (endsM bs.length least).map fun e => dCut (o.take e, o.drop e)) = (cutsM bs ax least).map dCut := by
    unfold cutsM
    rw [List.map_flatMap]
    congr 1
    funext o
    rw [List.map_map]
    rfl
  have hln : (cutsM bs ax least).length ≤ 1000000 := by
    unfold cutsM ordsM endsM
    simp
    omega
  rw [em] at outer
  generalize endsM bs.length least = L at el outer
  generalize cutsM bs ax least = C at outer hln ⊢
  simp [fn_cuts, startE, len_dL, el, eo, outer, lcR_ok (line_map hln)]
theorem covers_run (h : HSpl Γ) {n least : Nat} {bs : List Bx} {c : Cut} (hb : ∀ y ∈ bs, OkB n y) (hn : n ≤ 1000) (hl : bs.length ≤ 1000) (hc : OkC bs.length least c) (h1 : 1 ≤ least) : evCall Γ t (k + 2) i_covers [dL bs, dCut c] S = .ok (.lst [dB (covM2 bs c.1), dB (covM2 bs c.2)]) S := by
  rw [call_unf h.covers rfl]
  have one : ∀ l : List Nat, (∀ i ∈ l, i < bs.length) → l ≠ [] → l.length ≤ 1000 → lcF (evCall Γ t (k + 1)) e_covers_2 (.nm 2) none [2] [.val (dL bs), .val (dCut c), .un, .un] (dNs l) S = .ok (some (dB (covM2 bs l))) S := fun l hi hne hll => by
    have e := lcL_map (F := lcF (evCall Γ t (k + 1)) e_covers_1 (.nm 3) none [3] [.val (dL bs), .val (dCut c), .val (dNs l), .un]) (S := S) (f := dN) (g := fun i => dB (bxAt bs i)) (l := l) fun i hil => by
      simp [lcF, e_covers_1, ix_bs hb (hi i hil)]
    have em : (l.map fun i => dB (bxAt bs i)) = (pickM bs l).map dB := by unfold pickM; rw [List.map_map]; rfl
    have pk := pick_ok hb hi
    have hll2 : (pickM bs l).length ≤ 1000 := by unfold pickM; rw [List.length_map]; exact hll
    have hne2 : pickM bs l ≠ [] := fun z => hne (List.map_eq_nil_iff.mp z)
    rw [em] at e
    have sq : seqOf (dNs l) = some (l.map dN) := rfl
    have cv : evCall Γ t (k + 1) i_cover [dL (pickM bs l)] S = .ok (dB (covM2 bs l)) S := by
      unfold covM2
      cases hp : pickM bs l with
      | nil => exact absurd hp hne2
      | cons x L =>
        rw [hp] at pk hll2
        exact cover_ok h.cov (n := n) (pk x (List.mem_cons_self ..)).len (fun y hy => (pk y (List.mem_cons_of_mem _ hy)).len) hn (by simp at hll2; omega)
    generalize pickM bs l = L at e cv hll2
    have hd : D.lst (L.map dB) = dL L := rfl
    simp [lcF, e_covers_2] at e ⊢
    simp [sq, e, lcR_ok (line_map (l := L) (f := dB) (by omega)), hd, cv]
  have len : ∀ l : List Nat, l.length ≤ (c.1 ++ c.2).length → l.length ≤ 1000 := fun l hl2 => by
    rw [hc.perm.length_eq, List.length_range] at hl2
    omega
  have e1 := one c.1 (fun i hi => hc.lt1 hi) (nn_of hc.a h1) (len _ (by simp))
  have e2 := one c.2 (fun i hi => hc.lt2 hi) (nn_of hc.b h1) (len _ (by simp))
  have sq : seqOf (dCut c) = some [dNs c.1, dNs c.2] := rfl
  have hl2 : [dB (covM2 bs c.1), dB (covM2 bs c.2)].length ≤ sizeLine := by rw [sizeLine_eq]; simp
  simp [fn_covers, startE, sq, lcL, e1, e2, lcR_ok hl2]
theorem flat2_len {α β : Type} {f : α → List β} : ∀ {l : List α}, (∀ x, (f x).length = 2) → (l.flatMap f).length = 2 * l.length
  | [], _ => rfl
  | x :: l, h => by
    rw [List.flatMap_cons, List.length_append, h x, flat2_len h, List.length_cons]
    omega
theorem cuts_len {bs : List Bx} {ax least : Nat} : (cutsM bs ax least).length ≤ 2 * (bs.length + 1) := by
  unfold cutsM ordsM endsM
  simp
  omega
theorem edges_run (h : HSpl Γ) {n ax least : Nat} {bs : List Bx} (hb : ∀ y ∈ bs, OkB n y) (hn : n ≤ 1000) (hax : ax < n) (hl : bs.length ≤ 1000) (h1 : 1 ≤ least) (h2 : 2 * least ≤ bs.length) : evCall Γ t (k + 3) i_edges [dL bs, .int ax, .int least] S = .ok (.int (edgesM bs ax least)) S := by
  rw [call_unf h.edges rfl]
  have ec := cuts_run h (t := t) (k := k) (S := S) hb hax hl h2
  have outer := lcM_map (F := lcMF (evCall Γ t (k + 2)) e_edges_1 (.nm 3) none (.nm 4) (.seq (.call i_covers [(.var 0), (.var 3)] [])) [3, 4] [4] [.val (dL bs), .val (.int ax), .val (.int least), .un, .un]) (S := S) (f := dCut)
    (g := fun c => [sumM (covM2 bs c.1), sumM (covM2 bs c.2)].map .int) (l := cutsM bs ax least) fun c hc => by
      have oc := cuts_ok h2 hc
      have ev := covers_run h (t := t) (k := k) (S := S) hb hn hl oc h1
      have o1 := cov2_ok hb (fun i hi => oc.lt1 hi) (nn_of oc.a h1)
      have o2 := cov2_ok hb (fun i hi => oc.lt2 hi) (nn_of oc.b h1)
      have g1 := edge_ok h.rm (t := t) (k := k + 1) (S := S) (l := covM2 bs c.1) (by rw [o1.len]; omega)
      have g2 := edge_ok h.rm (t := t) (k := k + 1) (S := S) (l := covM2 bs c.2) (by rw [o2.len]; omega)
      simp [lcMF, ev, lcL, lc2F, e_edges_1, g1, g2]
  have em : ((cutsM bs ax least).flatMap fun c => [sumM (covM2 bs c.1), sumM (covM2 bs c.2)].map D.int) = ((cutsM bs ax least).flatMap fun c => [sumM (covM2 bs c.1), sumM (covM2 bs c.2)]).map D.int := by
    rw [List.map_flatMap]
  have hln : ((cutsM bs ax least).flatMap fun c => [sumM (covM2 bs c.1), sumM (covM2 bs c.2)]).length ≤ 1000000 := by
    rw [flat2_len fun _ => rfl]
    have := cuts_len (bs := bs) (ax := ax) (least := least)
    omega
  rw [em] at outer
  unfold edgesM
  generalize ((cutsM bs ax least).flatMap fun c => [sumM (covM2 bs c.1), sumM (covM2 bs c.2)]) = L at outer hln ⊢
  simp [fn_edges, startE, ec, outer, lcR_ok (line_map hln)]
theorem rank_run (h : HSpl Γ) {n least : Nat} {bs : List Bx} {c : Cut} (hb : ∀ y ∈ bs, OkB n y) (hn : n ≤ 1000) (hl : bs.length ≤ 1000) (hc : OkC bs.length least c) (h1 : 1 ≤ least) : evCall Γ t (k + 3) i_rank [dL bs, dCut c] S = .ok (tI (rankM bs c)) S := by
  rw [call_unf h.rank rfl]
  have ev := covers_run h (t := t) (k := k) (S := S) hb hn hl hc h1
  have o1 := cov2_ok hb (fun i hi => hc.lt1 hi) (nn_of hc.a h1)
  have o2 := cov2_ok hb (fun i hi => hc.lt2 hi) (nn_of hc.b h1)
  have r1 := room_ok h.rm (t := t) (k := k + 1) (S := S) (l := covM2 bs c.1) (fun s hs => (o1.s s hs).w) (by rw [o1.len]; omega)
  have r2 := room_ok h.rm (t := t) (k := k + 1) (S := S) (l := covM2 bs c.2) (fun s hs => (o2.s s hs).w) (by rw [o2.len]; omega)
  have ec := common_ok h.mt (t := t) (k := k) (S := S) (a := covM2 bs c.1) (c := covM2 bs c.2) (by rw [o1.len]; omega)
  have ok3 := cut_okW o1 o2
  have r3 := room_ok h.rm (t := t) (k := k + 1) (S := S) (l := cutM (covM2 bs c.1) (covM2 bs c.2)) ok3.2 (by rw [ok3.1]; omega)
  unfold rankM
  generalize covM2 bs c.1 = A at *
  generalize covM2 bs c.2 = B at *
  have nb : ∀ l : Bx, isF (dB l) .non = some false := fun l => rfl
  cases hm : meetsM A B with
  | false =>
    rw [hm] at ec
    simp at ec
    simp [fn_rank, startE, ev, ec, r1, r2, tI]
  | true =>
    rw [hm] at ec
    simp at ec
    simp [-is_non, fn_rank, startE, ev, ec, r1, r2, r3, tI, nb]
theorem srt_N {l : List Nat} : op1F .srt (dNs l) = some (.lst ((sortN l).map .int)) := by
  unfold dNs sortN
  rw [show l.map dN = (l.map Int.ofNat).map D.int by rw [List.map_map]; rfl]
  show (intsOf _).map _ = _
  rw [intsOf_map]
  rfl
theorem split_run (h : HSpl Γ) {n least : Nat} {bs : List Bx} (hb : ∀ y ∈ bs, OkB n y) (hn : n ≤ 1000) (hn1 : 1 ≤ n) (hl : bs.length ≤ 1000) (h1 : 1 ≤ least) (h2 : 2 * least ≤ bs.length) :
    ∃ c, cutOf bs n least = c ∧ OkC bs.length least c ∧ evCall Γ t (k + 4) i_split [dL bs, .int least] S = .ok (.tup [.lst ((sortN c.1).map .int), .lst ((sortN c.2).map .int)]) S := by
  have h0 : 0 < bs.length := by omega
  have b0 := bxAt_ok hb h0
  have ix0 : ixS S (dL bs) (.int 0) = some (dB (bxAt bs 0)) := ix_bsL (S := S) hb h0
  have hr := lrg_ok (n := n) (by omega)
  have es := lcL_map (F := lcF (evCall Γ t (k + 3)) e_split_1 (.nm 4) none [4] [.val (dL bs), .val (.int least), .val (dNs (List.range n)), .un, .un, .un, .un, .un, .un, .un, .un]) (S := S) (f := dN) (g := fun a => D.int (edgesM bs a least)) (l := List.range n) fun a ha => by
    have e := edges_run h (t := t) (k := k) (S := S) hb hn (List.mem_range.mp ha) hl h1 h2
    simp [lcF, e_split_1, dN, e]
  have ek := lcL_map (F := keyT (evCall Γ t (k + 3)) k_split_2 5 [.val (dL bs), .val (.int least), .val (dNs (List.range n)), .val (.lst ((List.range n).map fun a => D.int (edgesM bs a least))), .un, .un, .un, .un, .un, .un, .un]) (S := S) (f := dN) (g := fun a => tI (axK bs least a)) (l := List.range n) fun a ha => by
    have e : atI ((List.range n).map fun a => D.int (edgesM bs a least)) (a : Int) = some (.int (edgesM bs a least)) := atI_nat (by rw [List.getElem?_map, List.getElem?_range (List.mem_range.mp ha)]; rfl)
    generalize (List.range n).map (fun a => D.int (edgesM bs a least)) = E at e ⊢
    simp [keyT, k_split_2, dN, e]
    simp [tI, axK]
  have ekp : keyPy ((List.range n).map fun a => tI (axK bs least a)) = some (((List.range n).map (axK bs least)).map pI) := by
    have := keyPy_tI (ks := (List.range n).map (axK bs least)) fun z hz => by
      obtain ⟨a, _, rfl⟩ := List.mem_map.mp hz
      simp [axK]
    rw [List.map_map] at this
    exact this
  have hax : axM bs n least < n := by
    have := (argBest_tI ((List.range n).map (axK bs least)) (n - 1) (by simp; omega)).1
    rw [List.map_map] at this
    have e : axM bs n least = argBest (btK ((List.range n).map (pI ∘ axK bs least))) (n - 1) := rfl
    omega
  have eax : ((List.range n).map dN)[argBest (btK (((List.range n).map (axK bs least)).map pI)) (n - 1)]? = some (dN (axM bs n least)) := by
    rw [List.map_map]
    show ((List.range n).map dN)[axM bs n least]? = _
    rw [List.getElem?_map, List.getElem?_range hax]
    rfl
  have ec := cuts_run h (t := t) (k := k + 1) (S := S) hb hax hl h2
  have hne := cuts_ne (ax := axM bs n least) h2
  have hok : ∀ c ∈ cutsM bs (axM bs n least) least, OkC bs.length least c := fun c hc => cuts_ok h2 hc
  have hlen : (cutsM bs (axM bs n least) least).length ≤ 1000000 := by
    unfold cutsM ordsM endsM
    simp
    omega
  have nlen : bltF .len [dB (bxAt bs 0)] = some (.int n) := by rw [len_dB, b0.2.len]
  have rlen : ((List.range n).map dN).length = n := by simp
  have rl2 : ((List.range n).map fun a => D.int (edgesM bs a least)).length ≤ sizeLine := line_map (by simp; omega)
  have lst1 := lst_dNs (l := List.range n)
  have sq1 : seqOf (dNs (List.range n)) = some ((List.range n).map dN) := rfl
  refine ⟨_, rfl, ?_⟩
  unfold cutOf
  cases hc : cutsM bs (axM bs n least) least with
  | nil => exact absurd hc hne
  | cons c cs =>
    rw [hc] at hok hlen ec
    have okc := hok c (List.mem_cons_self ..)
    have rk := rank_run h (t := t) (k := k) (S := S) hb hn hl okc h1
    let P : Nat → Env → Sto → Prop := fun i ε S' => ∃ (b : Cut) (p9 p10 : Sl), bestM bs c (cs.take i) = b ∧ OkC bs.length least b ∧ (∃ v2 v3, ε = [.val (dL bs), .val (.int least), v2, v3, .val (dN (axM bs n least)), .un, .val (dCut b), .val (.lst (cs.map dCut)), .val (tI (rankM bs b)), p9, p10]) ∧ S' = S
    obtain ⟨ε', S2, e2, b, p9, p10, hbst, okb, ⟨v2, v3, rfl⟩, hS2⟩ := forL_inv (F := forF (evCall Γ t (k + 3)) t (.nm 9) b_split_1) P (ds := cs.map dCut)
      (by
        rintro i d ε S' hd ⟨b, p9, p10, hbst, okb, ⟨v2, v3, rfl⟩, rfl⟩
        rw [List.getElem?_map] at hd
        cases ey : cs[i]? with
        | none => rw [ey] at hd; cases hd
        | some y =>
          rw [ey] at hd
          cases hd
          have oky := hok y (List.mem_cons_of_mem _ (List.mem_of_getElem? ey))
          have et : cs.take (i + 1) = cs.take i ++ [y] := by rw [List.take_add_one, ey]; rfl
          have ef : bestM bs c (cs.take (i + 1)) = if rankM bs y < rankM bs b then y else b := by
            rw [et, ← hbst]
            unfold bestM
            rw [List.foldl_append]
            rfl
          have ry := rank_run h (t := t) (k := k) (S := S') hb hn hl oky h1
          have cm : cmpF .lt (tI (rankM bs y)) (tI (rankM bs b)) = some (decide (rankM bs y < rankM bs b)) := cmp_ltI _ _
          by_cases hlt : rankM bs y < rankM bs b
          · rw [if_pos hlt] at ef
            rw [decide_eq_true hlt] at cm
            exact ⟨_, _, by simp [forF, b_split_1, ry, cm], y, .val (dCut y), .val (tI (rankM bs y)), ef, oky, ⟨v2, v3, rfl⟩, rfl⟩
          · rw [if_neg hlt] at ef
            rw [decide_eq_false hlt] at cm
            exact ⟨_, _, by simp [forF, b_split_1, ry, cm], b, .val (dCut y), .val (tI (rankM bs y)), ef, okb, ⟨v2, v3, rfl⟩, rfl⟩)
      (ε := [.val (dL bs), .val (.int least), .val (dNs (List.range n)), .val (.lst ((List.range n).map fun a => D.int (edgesM bs a least))), .val (dN (axM bs n least)), .un, .val (dCut c), .val (.lst (cs.map dCut)), .val (tI (rankM bs c)), .un, .un]) (S := S) ⟨c, .un, .un, rfl, okc, ⟨_, _, rfl⟩, rfl⟩
    rw [List.length_map, List.take_length] at hbst
    rw [hS2] at e2
    show OkC _ _ (bestM bs c cs) ∧ evCall Γ t (k + 4) i_split [dL bs, .int least] S = .ok (.tup [.lst ((sortN (bestM bs c cs).1).map .int), .lst ((sortN (bestM bs c cs).2).map .int)]) S
    rw [hbst]
    refine ⟨okb, ?_⟩
    rw [call_unf h.split rfl]
    have st : starF (.lst (dCut c :: cs.map dCut)) = some (dCut c, cs.map dCut) := star_lst (by rw [List.length_map]; simp at hlen; omega)
    have i0 : ixS S (dCut b) (.int 0) = some (dNs b.1) := by unfold dCut; rw [ixS_tup]; simp
    have i1 : ixS S (dCut b) (.int 1) = some (dNs b.2) := by unfold dCut; rw [ixS_tup]; simp
    have dn : ∀ i : Nat, dN i = .int i := fun i => rfl
    generalize hE : ((List.range n).map fun a => D.int (edgesM bs a least)) = E at es rl2 ek e2
    generalize hR : dNs (List.range n) = R at *
    generalize hKZ : List.map pI (List.map (axK bs least) (List.range n)) = KZ at ekp eax
    generalize hKS : (List.range n).map (fun a => tI (axK bs least a)) = KS at ekp ek
    generalize hRN : (List.range n).map dN = RN at *
    simp only [dn] at e2 eax
    simp only [List.map_cons] at ec
    generalize hCS : cs.map dCut = CS at *
    have sqC : seqOf (.lst CS) = some CS := rfl
    have g1 := srt_N (l := b.1)
    have g2 := srt_N (l := b.2)
    generalize (sortN b.1).map D.int = s1 at *
    generalize (sortN b.2).map D.int = s2 at *
    simp [fn_split, startE, ix0, nlen, hr, sq1, es, lcR_ok rl2, lst1, ek, ekp, rlen, eax, ec, st, rk, e2, i0, i1, g1, g2]
end
end BX
set_option Elab.async false
set_option linter.all false
set_option maxRecDepth 100000
set_option maxHeartbeats 2000000
/-! LCut: the cuts as the law tells them. -/
namespace BX
open PySem L2
open PyProof.Rows hiding St Binds
abbrev i_l_cover : Nat := 14
abbrev i_l_orders : Nat := 78
abbrev i_l_cuts : Nat := 79
abbrev i_l_both : Nat := 80
abbrev i_l_edges : Nat := 81
abbrev i_l_room : Nat := 82
abbrev i_l_rank : Nat := 83
def e_l_cover_1 : Ex := (.ix (.ix (.var 3) (.var 2)) (.cst (.int 0)))
def e_l_cover_2 : Ex := (.ix (.ix (.var 3) (.var 2)) (.cst (.int 1)))
def b_l_cover_1 : List Sm := [(.app 1 (.tup [(.blt .min [(.lc e_l_cover_1 (.nm 3) (.seq (.var 0)) none [3])]), (.blt .max [(.lc e_l_cover_2 (.nm 3) (.seq (.var 0)) none [3])])]))]
def fn_l_cover : Fn := ⟨1, 4, [(.own 1 (.lst [])),
  (.for (.nm 2) (.rng (.blt .len [(.ix (.var 0) (.cst (.int 0)))])) b_l_cover_1),
  (.ret (.blt .tuple [(.var 1)]))]⟩
def e_l_orders_1 : Ex := (.tup [(.ix (.ix (.ix (.var 0) (.var 3)) (.var 1)) (.cst (.int 0))), (.ix (.ix (.ix (.var 0) (.var 3)) (.var 1)) (.cst (.int 1))), (.var 3)])
def e_l_orders_2 : Ex := (.tup [(.var 6), (.var 5), (.var 3)])
def e_l_orders_3 : Ex := (.ix (.var 7) (.cst (.int 2)))
def e_l_orders_4 : Ex := (.ix (.var 7) (.cst (.int 2)))
def fn_l_orders : Fn := ⟨2, 8, [(.asg (.nm 2) (.lc e_l_orders_1 (.nm 3) (.rng (.blt .len [(.var 0)])) none [3])),
  (.asg (.nm 4) (.lc e_l_orders_2 (.tp [(.nm 5), (.nm 6), (.nm 3)]) (.seq (.var 2)) none [5, 6, 3])),
  (.ret (.lst [(.lc e_l_orders_3 (.nm 7) (.seq (.op1 .srtD (.var 2))) none [7]), (.lc e_l_orders_4 (.nm 7) (.seq (.op1 .srtD (.var 4))) none [7])]))]⟩
def b_l_cuts_1 : List Sm := [(.app 3 (.tup [(.sl (.var 4) none (some (.var 5))), (.sl (.var 4) (some (.var 5)) none)]))]
def b_l_cuts_2 : List Sm := [(.for (.nm 5) (.rng2 (.var 2) (.bin .add (.bin .sub (.blt .len [(.var 0)]) (.var 2)) (.cst (.int 1)))) b_l_cuts_1)]
def fn_l_cuts : Fn := ⟨3, 6, [(.own 3 (.lst [])),
  (.for (.nm 4) (.seq (.call i_l_orders [(.var 0), (.var 1)] [])) b_l_cuts_2),
  (.frz 3 (.ret (.var 3)))]⟩
def e_l_both_1 : Ex := (.ix (.var 0) (.var 3))
def e_l_both_2 : Ex := (.call i_l_cover [(.lc e_l_both_1 (.nm 3) (.seq (.var 2)) none [3])] [])
def fn_l_both : Fn := ⟨2, 4, [(.ret (.lc e_l_both_2 (.nm 2) (.seq (.var 1)) none [2]))]⟩
def e_l_edges_1 : Ex := (.bin .sub (.var 7) (.var 6))
def b_l_edges_1 : List Sm := [(.asg (.nm 3) (.bin .add (.var 3) (.blt .sum [(.lc e_l_edges_1 (.tp [(.nm 6), (.nm 7)]) (.seq (.var 5)) none [6, 7])])))]
def b_l_edges_2 : List Sm := [(.for (.nm 5) (.seq (.call i_l_both [(.var 0), (.var 4)] [])) b_l_edges_1)]
def fn_l_edges : Fn := ⟨3, 8, [(.asg (.nm 3) (.cst (.int 0))),
  (.for (.nm 4) (.seq (.call i_l_cuts [(.var 0), (.var 1), (.var 2)] [])) b_l_edges_2),
  (.ret (.var 3))]⟩
def b_l_room_1 : List Sm := [(.asg (.nm 1) (.bin .mul (.var 1) (.blt .max [(.cst (.int 0)), (.bin .sub (.var 3) (.var 2))])))]
def fn_l_room : Fn := ⟨1, 4, [(.asg (.nm 1) (.cst (.int 1))),
  (.for (.tp [(.nm 2), (.nm 3)]) (.seq (.var 0)) b_l_room_1),
  (.ret (.var 1))]⟩
def e_l_rank_1 : Ex := (.tup [(.blt .max [(.ix (.var 5) (.cst (.int 0))), (.ix (.var 6) (.cst (.int 0)))]), (.blt .min [(.ix (.var 5) (.cst (.int 1))), (.ix (.var 6) (.cst (.int 1)))])])
def fn_l_rank : Fn := ⟨2, 7, [(.asg (.tp [(.nm 2), (.nm 3)]) (.call i_l_both [(.var 0), (.var 1)] [])),
  (.asg (.nm 4) (.lc e_l_rank_1 (.tp [(.nm 5), (.nm 6)]) (.zip (.var 2) (.var 3)) none [5, 6])),
  (.ret (.tup [(.call i_l_room [(.var 4)] []), (.bin .add (.call i_l_room [(.var 2)] []) (.call i_l_room [(.var 3)] []))]))]⟩
structure HCut (Γ : Tab) : Prop where
  lcover : Γ i_l_cover = some fn_l_cover
  lorders : Γ i_l_orders = some fn_l_orders
  lcuts : Γ i_l_cuts = some fn_l_cuts
  lboth : Γ i_l_both = some fn_l_both
  ledges : Γ i_l_edges = some fn_l_edges
  lroom : Γ i_l_room = some fn_l_room
  lrank : Γ i_l_rank = some fn_l_rank
section
variable {Γ : Tab} {t k b : Nat} {S : Sto}
theorem ix_dL0 {x : Bx} {L : List Bx} : ixS S (dL (x :: L)) (.int 0) = some (dB x) := atI_0
theorem seq_dL {L : List Bx} : seqOf (dL L) = some (L.map dB) := rfl
theorem ix_at {i n : Nat} {y : Bx} (h : y.length = n) (hi : i < n) : ixS S (dB y) (.int i) = some (dS (atD i y)) := by
  show atI (y.map dS) (i : Int) = _
  exact atI_int (by omega) (by simp [atD_some h hi])
theorem min_list {m : Int} {r : List Int} : bltF .min [.lst ((m :: r).map D.int)] = some (.int (minI r m)) := by simp only [bltF, intsOf_map]
theorem max_list {m : Int} {r : List Int} : bltF .max [.lst ((m :: r).map D.int)] = some (.int (maxI r m)) := by simp only [bltF, intsOf_map]
theorem lcover_ok (h8 : HCut Γ) {n : Nat} {x : Bx} {L : List Bx} (hx : x.length = n) (hL : ∀ y ∈ L, y.length = n) (hn : n ≤ 1000) (hl : L.length ≤ 1000) : evCall Γ t (k + 1) i_l_cover [dL (x :: L)] S = .ok (dB (coverM (x :: L))) S := by
  rw [call_unf h8.lcover rfl]
  let lo : Nat → Int := fun i => minI (L.map fun y => (atD i y).1) (atD i x).1
  let hi : Nat → Int := fun i => maxI (L.map fun y => (atD i y).2) (atD i x).2
  let P : Nat → Env → Sto → Prop := fun i ε S' => ∃ p q : Sl, ε = [.val (dL (x :: L)), .own (.lst ((List.range i).map fun i => dS (lo i, hi i))), p, q] ∧ S' = S
  obtain ⟨ε', S2, e2, p, q, rfl, rfl⟩ := forL_inv (F := forF (evCall Γ t k) t (.nm 2) b_l_cover_1) P (ds := rngL 0 n)
    (by
      rintro i d ε S' hd ⟨p, q, rfl, rfl⟩
      obtain ⟨hi', rfl⟩ := turn_i hd
      generalize hown : (List.range i).map (fun i => dS (lo i, hi i)) = own
      have hall : ∀ y ∈ x :: L, y.length = n := fun y hy => by rcases List.mem_cons.mp hy with rfl | hy; exact hx; exact hL y hy
      have l1 := lcL_map (F := lcF (evCall Γ t k) e_l_cover_1 (.nm 3) none [3] [.val (dL (x :: L)), .own (.lst own), .val (.int i), q]) (S := S') (f := dB) (g := fun y => D.int (atD i y).1) (l := x :: L) (by
        intro y hy
        have e := ix_at (S := S') (hall y hy) hi'
        simp [lcF, e_l_cover_1, e, dS])
      have l2 := lcL_map (F := lcF (evCall Γ t k) e_l_cover_2 (.nm 3) none [3] [.val (dL (x :: L)), .own (.lst own), .val (.int i), q]) (S := S') (f := dB) (g := fun y => D.int (atD i y).2) (l := x :: L) (by
        intro y hy
        have e := ix_at (S := S') (hall y hy) hi'
        simp [lcF, e_l_cover_2, e, dS])
      have k1 := line_map (l := x :: L) (f := fun y => D.int (atD i y).1) (by simp; omega)
      have k2 := line_map (l := x :: L) (f := fun y => D.int (atD i y).2) (by simp; omega)
      have m1 : ((x :: L).map fun y => D.int (atD i y).1) = ((atD i x).1 :: L.map fun y => (atD i y).1).map D.int := by simp
      have m2 : ((x :: L).map fun y => D.int (atD i y).2) = ((atD i x).2 :: L.map fun y => (atD i y).2).map D.int := by simp
      have ho : own.length < 16777216 := by rw [← hown]; simp; omega
      refine ⟨[.val (dL (x :: L)), .own (.lst (own ++ [dS (lo i, hi i)])), .val (.int i), q], S', ?_, .val (.int i), q, by rw [List.range_succ, List.map_append, hown]; rfl, rfl⟩
      rw [m1] at l1 k1
      rw [m2] at l2 k2
      have q1 := min_list (m := (atD i x).1) (r := L.map fun y => (atD i y).1)
      have q2 := max_list (m := (atD i x).2) (r := L.map fun y => (atD i y).2)
      have r1 : dS (lo i, hi i) = .tup [.int (minI (L.map fun y => (atD i y).1) (atD i x).1), .int (maxI (L.map fun y => (atD i y).2) (atD i x).2)] := rfl
      rw [r1]
      clear m1 m2 r1
      generalize D.int (minI (L.map fun y => (atD i y).1) (atD i x).1) = A at q1 ⊢
      generalize D.int (maxI (L.map fun y => (atD i y).2) (atD i x).2) = B at q2 ⊢
      generalize ((atD i x).1 :: L.map fun y => (atD i y).1).map D.int = A1 at l1 k1 q1 ⊢
      generalize ((atD i x).2 :: L.map fun y => (atD i y).2).map D.int = B1 at l2 k2 q2 ⊢
      have sq := seq_dL (L := x :: L)
      generalize (x :: L).map dB = DL at l1 l2 sq
      simp [forF, b_l_cover_1, sq, l1, lcR_ok k1, q1, l2, lcR_ok k2, q2, ho]) (ε := [.val (dL (x :: L)), .own (.lst []), .un, .un]) (S := S) ⟨_, _, rfl, rfl⟩
  rw [rng_len] at e2
  have ef : D.tup ((List.range n).map fun i => dS (lo i, hi i)) = dB (coverM (x :: L)) := by
    unfold dB
    congr 1
    apply List.ext_getElem?
    intro i
    rw [List.getElem?_map, List.getElem?_map]
    by_cases h : i < n
    · rw [List.getElem?_range h, cover_at hx hL h]
      rfl
    · rw [List.getElem?_eq_none (by simp; omega), List.getElem?_eq_none (by rw [cover_len hx hL]; omega)]
      rfl
  generalize ((List.range n).map fun i => dS (lo i, hi i)) = O at e2 ef
  simp [fn_l_cover, startE, ix_dL0, hx, rng1_ok (n := n) (by omega), e2, ef]
/-- a list of boxes, none of them missing -/
theorem lcover2_ok (h8 : HCut Γ) {n : Nat} {L : List Bx} (h : ∀ y ∈ L, OkB n y) (hne : L ≠ []) (hn : n ≤ 1000) (hl : L.length ≤ 1000) : evCall Γ t (k + 1) i_l_cover [dL L] S = .ok (dB (coverM L)) S := by
  cases L with
  | nil => exact absurd rfl hne
  | cons x L => exact lcover_ok h8 (h x (List.mem_cons_self ..)).len (fun y hy => (h y (List.mem_cons_of_mem _ hy)).len) hn (by simp at hl; omega)
theorem row_ok {n i ax : Nat} {bs : List Bx} {p2 p3 p4 p5 p6 p7 : Sl} (h : ∀ y ∈ bs, OkB n y) (hi : i < bs.length) (hax : ax < n) :
    lcF (evCall Γ t k) e_l_orders_1 (.nm 3) none [3] [.val (dL bs), .val (.int ax), p2, p3, p4, p5, p6, p7] (dN i) S = .ok (some (tI (lowK bs ax i))) S := by
  simp [lcF, e_l_orders_1, ix_bs h hi, ix_sd h hi hax]
  simp [dS, tI, lowK, dN]
theorem srtD_tI {α : Type} {l : List α} {f : α → List Int} (h : ∀ x ∈ l, f x ≠ []) : op1F .srtD (.lst (l.map fun x => tI (f x))) = some (.lst ((l.mergeSort fun p q => decide (f p ≤ f q)).map fun x => tI (f x))) := by
  rw [op1_srtD]
  exact srt_tI h
theorem lorders_ok (h8 : HCut Γ) {n ax : Nat} {bs : List Bx} (hb : ∀ y ∈ bs, OkB n y) (hax : ax < n) (hl : bs.length ≤ 1000) : evCall Γ t (k + 1) i_l_orders [dL bs, .int ax] S = .ok (.lst ((ordsM bs ax).map dNs)) S := by
  rw [call_unf h8.lorders rfl]
  have hr : rng1F (.int bs.length) = some ((List.range bs.length).map dN) := by
    rw [rng1_ok (by omega)]
    simp [rngL, dN]
  have e1 := lcL_map (F := lcF (evCall Γ t k) e_l_orders_1 (.nm 3) none [3] [.val (dL bs), .val (.int ax), .un, .un, .un, .un, .un, .un]) (S := S) (f := dN) (g := fun i => tI (lowK bs ax i)) (l := List.range bs.length) fun i hi => row_ok hb (List.mem_range.mp hi) hax
  have e2 : ∀ o : D, lcL (lcF (evCall Γ t k) e_l_orders_2 (.tp [(.nm 5), (.nm 6), (.nm 3)]) none [5, 6, 3] [.val (dL bs), .val (.int ax), .val o, .un, .un, .un, .un, .un]) ((List.range bs.length).map fun i => tI (lowK bs ax i)) S = .ok ((List.range bs.length).map fun i => tI (highK bs ax i)) S := fun o =>
    lcL_map (f := fun i => tI (lowK bs ax i)) (g := fun i => tI (highK bs ax i)) (l := List.range bs.length) fun i hi => by
      simp [lcF, e_l_orders_2, tI, lowK, highK]
  have s1 := srtD_tI (l := List.range bs.length) (f := lowK bs ax) fun x _ z => by simp [lowK] at z
  have s2 := srtD_tI (l := List.range bs.length) (f := highK bs ax) fun x _ z => by simp [highK] at z
  have e3 : ∀ o o2 : D, lcL (lcF (evCall Γ t k) e_l_orders_3 (.nm 7) none [7] [.val (dL bs), .val (.int ax), .val o, .un, .val o2, .un, .un, .un]) ((ordM (lowK bs ax) bs.length).map fun i => tI (lowK bs ax i)) S = .ok ((ordM (lowK bs ax) bs.length).map dN) S := fun o o2 =>
    lcL_map (f := fun i => tI (lowK bs ax i)) (g := dN) fun i hi => by
      simp [lcF, e_l_orders_3, tI, lowK, dN]
  have e4 : ∀ o o2 : D, lcL (lcF (evCall Γ t k) e_l_orders_4 (.nm 7) none [7] [.val (dL bs), .val (.int ax), .val o, .un, .val o2, .un, .un, .un]) ((ordM (highK bs ax) bs.length).map fun i => tI (highK bs ax i)) S = .ok ((ordM (highK bs ax) bs.length).map dN) S := fun o o2 =>
    lcL_map (f := fun i => tI (highK bs ax i)) (g := dN) fun i hi => by
      simp [lcF, e_l_orders_4, tI, highK, dN]
  have z1 := line_map (l := List.range bs.length) (f := fun i => tI (lowK bs ax i)) (by simp; omega)
  have z2 := line_map (l := List.range bs.length) (f := fun i => tI (highK bs ax i)) (by simp; omega)
  have z3 := line_map (l := ordM (lowK bs ax) bs.length) (f := dN) (by rw [ord_len]; omega)
  have z4 := line_map (l := ordM (highK bs ax) bs.length) (f := dN) (by rw [ord_len]; omega)
  have h1 : ((List.range bs.length).mergeSort fun p q => decide (lowK bs ax p ≤ lowK bs ax q)) = ordM (lowK bs ax) bs.length := rfl
  have h2 : ((List.range bs.length).mergeSort fun p q => decide (highK bs ax p ≤ highK bs ax q)) = ordM (highK bs ax) bs.length := rfl
  rw [h1] at s1
  rw [h2] at s2
  generalize hA : ((List.range bs.length).map fun i => tI (lowK bs ax i)) = A at *
  generalize hB : ((List.range bs.length).map fun i => tI (highK bs ax i)) = B at *
  generalize hC : ((ordM (lowK bs ax) bs.length).map fun i => tI (lowK bs ax i)) = C at *
  generalize hD : ((ordM (highK bs ax) bs.length).map fun i => tI (highK bs ax i)) = C2 at *
  simp [-op1_srtD, fn_l_orders, startE, len_dL, hr, e1, lcR_ok z1, e2, lcR_ok z2, s1, s2, e3, e4, lcR_ok z3, lcR_ok z4]
  rfl
/-- a loop that only appends to a list of its own -/
theorem forL_app {α γ : Type} {F : D → Env → Sto → R Fl} {f : α → D} {mk : List D → γ → Env} {g : α → List D} (hF : ∀ (a : α) (acc : List D) (p : γ), acc.length + (g a).length ≤ 1000000 → ∃ p', F (f a) (mk acc p) S = .ok (.nx (mk (acc ++ g a) p')) S) :
    ∀ (l : List α) (acc : List D) (p : γ), acc.length + (l.flatMap g).length ≤ 1000000 → ∃ p', forL F (l.map f) (mk acc p) S = .ok (.nx (mk (acc ++ l.flatMap g) p')) S
  | [], acc, p, _ => ⟨p, by simp⟩
  | a :: l, acc, p, h => by
    simp only [List.flatMap_cons, List.length_append] at h
    obtain ⟨p1, e1⟩ := hF a acc p (by omega)
    obtain ⟨p2, e2⟩ := forL_app hF l (acc ++ g a) p1 (by simp only [List.length_append]; omega)
    refine ⟨p2, ?_⟩
    rw [List.map_cons, forL_cons, e1, fork_nx, e2, List.flatMap_cons, List.append_assoc]
theorem flat_one {α β : Type} {f : α → β} : ∀ l : List α, (l.flatMap fun a => [f a]) = l.map f
  | [] => rfl
  | a :: l => by rw [List.flatMap_cons, flat_one l]; rfl
theorem lends_ok {n least : Nat} (h : n ≤ 1000000) (hl : 2 * least ≤ n) : rng2F (.int least) (.int (n - least + 1)) = some ((endsM n least).map dN) := by
  simp only [rng2F]
  rw [if_pos (by omega)]
  unfold rngL endsM
  rw [show ((n : Int) - least + 1 - least).toNat = n + 1 - 2 * least by omega, List.map_map]
  rfl
theorem ends_len {n least : Nat} : (endsM n least).length ≤ n + 1 := by
  unfold endsM
  rw [List.length_map, List.length_range]
  omega
theorem lcuts_ok (h8 : HCut Γ) {n ax least : Nat} {bs : List Bx} (hb : ∀ y ∈ bs, OkB n y) (hax : ax < n) (hl : bs.length ≤ 1000) (h2 : 2 * least ≤ bs.length) : evCall Γ t (k + 2) i_l_cuts [dL bs, .int ax, .int least] S = .ok (.lst ((cutsM bs ax least).map dCut)) S := by
  rw [call_unf h8.lcuts rfl]
  have eo := lorders_ok h8 (t := t) (k := k) (S := S) hb hax hl
  have el := lends_ok (n := bs.length) (least := least) (by omega) h2
  have zl := ends_len (n := bs.length) (least := least)
  have hcl := cuts_len (bs := bs) (ax := ax) (least := least)
  have em : ((ordsM bs ax).flatMap fun o => (endsM bs.length least).map fun e => dCut (o.take e, o.drop e)) = (cutsM bs ax least).map dCut := by
    simp only [cutsM, List.map_flatMap, List.map_map]
    rfl
  have hlen : ((ordsM bs ax).flatMap fun o => (endsM bs.length least).map fun e => dCut (o.take e, o.drop e)).length ≤ 1000000 := by
    rw [em, List.length_map]
    omega
  rw [← em]
  clear em hcl
  generalize endsM bs.length least = L at *
  obtain ⟨⟨p4, p5⟩, e2⟩ := forL_app (F := forF (evCall Γ t (k + 1)) t (.nm 4) b_l_cuts_2) (f := dNs) (mk := fun acc (p : Sl × Sl) => [.val (dL bs), .val (.int ax), .val (.int least), .own (.lst acc), p.1, p.2]) (S := S) (g := fun o => L.map fun e => dCut (o.take e, o.drop e)) (by
    rintro o acc ⟨p4, p5⟩ hz
    obtain ⟨p5', e1⟩ := forL_app (F := forF (evCall Γ t (k + 1)) t (.nm 5) b_l_cuts_1) (f := dN) (mk := fun acc (p : Sl) => [.val (dL bs), .val (.int ax), .val (.int least), .own (.lst acc), .val (dNs o), p]) (S := S) (g := fun e => [dCut (o.take e, o.drop e)]) (by
      intro e acc p hz
      have hz' : acc.length < 16777216 := by simp at hz; omega
      refine ⟨.val (dN e), ?_⟩
      simp [forF, b_l_cuts_1, dNs, dN, slF, cut_to, cut_from, hz']
      simp [dCut, dNs]) L acc p5 (by rw [flat_one]; exact hz)
    rw [flat_one] at e1
    refine ⟨(.val (dNs o), p5'), ?_⟩
    simp [forF, b_l_cuts_2, len_dL, el, e1]) (ordsM bs ax) [] (.un, .un) (by simpa using hlen)
  have sq : seqOf (.lst ((ordsM bs ax).map dNs)) = some ((ordsM bs ax).map dNs) := rfl
  generalize ((ordsM bs ax).flatMap fun o => L.map fun e => dCut (o.take e, o.drop e)) = C at *
  generalize (ordsM bs ax).map dNs = O at *
  simp [fn_l_cuts, startE, eo, sq] at e2 ⊢
  simp [e2]
theorem lboth_ok (h8 : HCut Γ) {n least : Nat} {bs : List Bx} {c : Cut} (hb : ∀ y ∈ bs, OkB n y) (hn : n ≤ 1000) (hl : bs.length ≤ 1000) (hc : OkC bs.length least c) (h1 : 1 ≤ least) : evCall Γ t (k + 2) i_l_both [dL bs, dCut c] S = .ok (.lst [dB (covM2 bs c.1), dB (covM2 bs c.2)]) S := by
  rw [call_unf h8.lboth rfl]
  have one : ∀ l : List Nat, (∀ i ∈ l, i < bs.length) → l ≠ [] → l.length ≤ 1000 → lcF (evCall Γ t (k + 1)) e_l_both_2 (.nm 2) none [2] [.val (dL bs), .val (dCut c), .un, .un] (dNs l) S = .ok (some (dB (covM2 bs l))) S := fun l hi hne hll => by
    have e := lcL_map (F := lcF (evCall Γ t (k + 1)) e_l_both_1 (.nm 3) none [3] [.val (dL bs), .val (dCut c), .val (dNs l), .un]) (S := S) (f := dN) (g := fun i => dB (bxAt bs i)) (l := l) fun i hil => by
      simp [lcF, e_l_both_1, ix_bs hb (hi i hil)]
    have em : (l.map fun i => dB (bxAt bs i)) = (pickM bs l).map dB := by unfold pickM; rw [List.map_map]; rfl
    have pk := pick_ok hb hi
    have hll2 : (pickM bs l).length ≤ 1000 := by unfold pickM; rw [List.length_map]; exact hll
    have hne2 : pickM bs l ≠ [] := fun z => hne (List.map_eq_nil_iff.mp z)
    rw [em] at e
    have sq : seqOf (dNs l) = some (l.map dN) := rfl
    have cv : evCall Γ t (k + 1) i_l_cover [dL (pickM bs l)] S = .ok (dB (covM2 bs l)) S := lcover2_ok h8 pk hne2 hn hll2
    generalize pickM bs l = L at e cv hll2
    have hd : D.lst (L.map dB) = dL L := rfl
    simp [lcF, e_l_both_2] at e ⊢
    simp [sq, e, lcR_ok (line_map (l := L) (f := dB) (by omega)), hd, cv]
  have len : ∀ l : List Nat, l.length ≤ (c.1 ++ c.2).length → l.length ≤ 1000 := fun l hl2 => by
    rw [hc.perm.length_eq, List.length_range] at hl2
    omega
  have e1 := one c.1 (fun i hi => hc.lt1 hi) (nn_of hc.a h1) (len _ (by simp))
  have e2 := one c.2 (fun i hi => hc.lt2 hi) (nn_of hc.b h1) (len _ (by simp))
  have sq : seqOf (dCut c) = some [dNs c.1, dNs c.2] := rfl
  have hl2 : [dB (covM2 bs c.1), dB (covM2 bs c.2)].length ≤ sizeLine := by rw [sizeLine_eq]; simp
  simp [fn_l_both, startE, sq, lcL, e1, e2, lcR_ok hl2]
/-- a loop that adds to one number -/
theorem forL_sum {α γ : Type} {F : D → Env → Sto → R Fl} {f : α → D} {mk : Int → γ → Env} {g : α → Int} : ∀ (l : List α) (_ : ∀ a ∈ l, ∀ (x : Int) (p : γ), ∃ p', F (f a) (mk x p) S = .ok (.nx (mk (x + g a) p')) S) (x : Int) (p : γ), ∃ p', forL F (l.map f) (mk x p) S = .ok (.nx (mk (x + (l.map g).sum) p')) S
  | [], _, x, p => ⟨p, by simp⟩
  | a :: l, h, x, p => by
    obtain ⟨p1, e1⟩ := h a (List.mem_cons_self ..) x p
    obtain ⟨p2, e2⟩ := forL_sum l (fun b hb => h b (List.mem_cons_of_mem _ hb)) (x + g a) p1
    refine ⟨p2, ?_⟩
    rw [List.map_cons, forL_cons, e1, fork_nx, e2, List.map_cons, List.sum_cons, Int.add_assoc]
theorem sum_flat {α : Type} {f : α → List Int} : ∀ l : List α, (l.flatMap f).sum = (l.map fun a => (f a).sum).sum
  | [] => rfl
  | a :: l => by rw [List.flatMap_cons, List.sum_append, sum_flat l]; simp
theorem ledges_ok (h8 : HCut Γ) {n ax least : Nat} {bs : List Bx} (hb : ∀ y ∈ bs, OkB n y) (hn : n ≤ 1000) (hax : ax < n) (hl : bs.length ≤ 1000) (h1 : 1 ≤ least) (h2 : 2 * least ≤ bs.length) : evCall Γ t (k + 3) i_l_edges [dL bs, .int ax, .int least] S = .ok (.int (edgesM bs ax least)) S := by
  rw [call_unf h8.ledges rfl]
  have ec := lcuts_ok h8 (t := t) (k := k) (S := S) hb hax hl h2
  obtain ⟨⟨p4, p5, p6, p7⟩, e2⟩ := forL_sum (F := forF (evCall Γ t (k + 2)) t (.nm 4) b_l_edges_2) (f := dCut) (mk := fun x (p : Sl × Sl × Sl × Sl) => [.val (dL bs), .val (.int ax), .val (.int least), .val (.int x), p.1, p.2.1, p.2.2.1, p.2.2.2]) (S := S) (g := fun c => [sumM (covM2 bs c.1), sumM (covM2 bs c.2)].sum) (cutsM bs ax least) (by
    rintro c hc x ⟨p4, p5, p6, p7⟩
    have oc := cuts_ok h2 hc
    have ev := lboth_ok h8 (t := t) (k := k) (S := S) hb hn hl oc h1
    have o1 := cov2_ok hb (fun i hi => oc.lt1 hi) (nn_of oc.a h1)
    have o2 := cov2_ok hb (fun i hi => oc.lt2 hi) (nn_of oc.b h1)
    obtain ⟨⟨q5, q6, q7⟩, e1⟩ := forL_sum (F := forF (evCall Γ t (k + 2)) t (.nm 5) b_l_edges_1) (f := dB) (mk := fun x (p : Sl × Sl × Sl) => [.val (dL bs), .val (.int ax), .val (.int least), .val (.int x), .val (dCut c), p.1, p.2.1, p.2.2]) (S := S) (g := sumM) [covM2 bs c.1, covM2 bs c.2] (by
      rintro a ha x ⟨p5, p6, p7⟩
      have hla : a.length ≤ 1000 := by
        simp only [List.mem_cons, List.not_mem_nil, or_false] at ha
        rcases ha with rfl | rfl
        · rw [o1.len]; exact hn
        · rw [o2.len]; exact hn
      have e := lcL_map (F := lcF (evCall Γ t (k + 2)) e_l_edges_1 (.tp [(.nm 6), (.nm 7)]) none [6, 7] [.val (dL bs), .val (.int ax), .val (.int least), .val (.int x), .val (dCut c), .val (dB a), p6, p7]) (S := S) (f := dS) (g := fun s => D.int (s.2 - s.1)) (l := a) (by
        intro p _
        simp [lcF, e_l_edges_1, dS])
      have em : (a.map fun s : Int × Int => D.int (s.2 - s.1)) = (a.map fun s => s.2 - s.1).map D.int := by rw [List.map_map]; rfl
      have z := line_map (l := a) (f := fun s : Int × Int => D.int (s.2 - s.1)) (by omega)
      rw [em] at e z
      have bs1 : bltF .sum [.lst ((a.map fun s => s.2 - s.1).map D.int)] = some (.int (sumM a)) := blt_sum
      generalize (a.map fun s => s.2 - s.1).map D.int = V at e z bs1
      refine ⟨(.val (dB a), p6, p7), ?_⟩
      simp [-blt_sum, forF, b_l_edges_1, e, lcR_ok z, bs1]) x (p5, p6, p7)
    refine ⟨(.val (dCut c), q5, q6, q7), ?_⟩
    rw [show [covM2 bs c.1, covM2 bs c.2].map dB = [dB (covM2 bs c.1), dB (covM2 bs c.2)] from rfl, show ([covM2 bs c.1, covM2 bs c.2].map sumM) = [sumM (covM2 bs c.1), sumM (covM2 bs c.2)] from rfl] at e1
    generalize [dB (covM2 bs c.1), dB (covM2 bs c.2)] = LL at e1 ev
    generalize [sumM (covM2 bs c.1), sumM (covM2 bs c.2)].sum = E at e1 ⊢
    have sq : seqOf (.lst LL) = some LL := rfl
    simp [forF, b_l_edges_2, ev, sq, e1]) 0 (.un, .un, .un, .un)
  have es : ((cutsM bs ax least).map fun c => [sumM (covM2 bs c.1), sumM (covM2 bs c.2)].sum).sum = edgesM bs ax least := by
    unfold edgesM
    rw [sum_flat]
  rw [es] at e2
  generalize edgesM bs ax least = E at *
  simp at e2
  simp [fn_l_edges, startE, ec, e2]
/-! rooms -/
def wM (s : Int × Int) : Int := if s.2 - s.1 > 0 then s.2 - s.1 else 0
def roomW (l : Bx) : Int := l.foldl (fun a s => a * wM s) 1
theorem roomW_snoc (l : Bx) (s : Int × Int) : roomW (l ++ [s]) = roomW l * wM s := by simp [roomW]
theorem wM_lt {s : Int × Int} (h : OkW s) : (wM s).natAbs < 2 ^ 110 := by
  obtain ⟨h1, h2, h3, h4⟩ := h
  unfold wM
  split <;> omega
theorem roomW_lt : ∀ (n : Nat) (l : Bx), l.length = n → (∀ s ∈ l, OkW s) → (roomW l).natAbs < 2 ^ (110 * n + 1) := by
  intro n
  induction n with
  | zero =>
    intro l hl _
    obtain rfl := List.length_eq_zero_iff.mp hl
    decide
  | succ n ih =>
    intro l hl h
    have hne : l ≠ [] := by intro z; subst z; simp at hl
    have e := List.dropLast_concat_getLast hne
    rw [← e, roomW_snoc, Int.natAbs_mul]
    have h1 := ih l.dropLast (by simp [hl]) fun s hs => h s (List.dropLast_subset l hs)
    have h2 := wM_lt (h _ (List.getLast_mem hne))
    rw [show 110 * (n + 1) + 1 = (110 * n + 1) + 110 by omega, Nat.pow_add]
    exact Nat.mul_lt_mul'' h1 h2
theorem roomW_eq {l : Bx} (h : ∀ s ∈ l, s.1 ≤ s.2) : roomW l = prodM l := by
  unfold roomW prodM
  have : ∀ (l : Bx) (a : Int), (∀ s ∈ l, s.1 ≤ s.2) → l.foldl (fun a s => a * wM s) a = l.foldl (fun a s => a * (s.2 - s.1)) a := by
    intro l
    induction l with
    | nil => intro a _; rfl
    | cons s l ih =>
      intro a h
      have e : wM s = s.2 - s.1 := by
        have := h s (List.mem_cons_self ..)
        unfold wM
        split <;> omega
      rw [List.foldl_cons, List.foldl_cons, e]
      exact ih _ fun s hs => h s (List.mem_cons_of_mem _ hs)
  exact this l 1 h
theorem roomW_zero {l : Bx} (h : ∃ s ∈ l, s.2 < s.1) : roomW l = 0 := by
  unfold roomW
  have z0 : ∀ l : Bx, l.foldl (fun a s => a * wM s) 0 = 0 := by
    intro l
    induction l with
    | nil => rfl
    | cons s l ih => rw [List.foldl_cons, Int.zero_mul]; exact ih
  have : ∀ (l : Bx) (a : Int), (∃ s ∈ l, s.2 < s.1) → l.foldl (fun a s => a * wM s) a = 0 := by
    intro l
    induction l with
    | nil => rintro a ⟨s, hs, _⟩; simp at hs
    | cons s l ih =>
      rintro a ⟨u, hu, hlt⟩
      rw [List.foldl_cons]
      rcases List.mem_cons.mp hu with rfl | hu
      · have e : wM u = 0 := by
          unfold wM
          split <;> omega
        rw [e, Int.mul_zero]
        exact z0 l
      · exact ih _ ⟨u, hu, hlt⟩
  exact this l 1 h
theorem meets_all {A B : Bx} : meetsM A B = (A.zip B).all fun p => decide (p.1.1 ≤ p.2.2) && decide (p.2.1 ≤ p.1.2) := by
  unfold meetsM
  rw [List.all_map]
  rfl
theorem room_shared {n : Nat} {A B : Bx} (ha : OkB n A) (hb : OkB n B) : roomW (cutM A B) = if meetsM A B = true then prodM (cutM A B) else 0 := by
  have key : ∀ p ∈ A.zip B, p.1.1 ≤ p.1.2 ∧ p.2.1 ≤ p.2.2 := fun p hp => ⟨(ha.s _ (List.of_mem_zip (a := p.1) (b := p.2) hp).1).le, (hb.s _ (List.of_mem_zip (a := p.1) (b := p.2) hp).2).le⟩
  split
  · rename_i hm
    rw [meets_all, List.all_eq_true] at hm
    refine roomW_eq fun s hs => ?_
    obtain ⟨p, hp, rfl⟩ := List.mem_map.mp hs
    have h1 := hm p hp
    obtain ⟨h2, h3⟩ := key p hp
    simp only [Bool.and_eq_true, decide_eq_true_eq] at h1
    simp only []
    split <;> split <;> omega
  · rename_i hm
    rw [meets_all] at hm
    have : ∃ p ∈ A.zip B, ¬ (p.1.1 ≤ p.2.2 ∧ p.2.1 ≤ p.1.2) := by
      rw [Bool.not_eq_true, List.all_eq_false] at hm
      obtain ⟨p, hp, h⟩ := hm
      exact ⟨p, hp, by simpa using h⟩
    obtain ⟨p, hp, h⟩ := this
    obtain ⟨h2, h3⟩ := key p hp
    refine roomW_zero ⟨_, List.mem_map.mpr ⟨p, hp, rfl⟩, ?_⟩
    simp only []
    split <;> split <;> omega
theorem lroom_ok (h8 : HCut Γ) {l : Bx} {d : D} (hd : seqOf d = some (l.map dS)) (hl : ∀ s ∈ l, OkW s) (hn : l.length ≤ 1000) : evCall Γ t (k + 1) i_l_room [d] S = .ok (.int (roomW l)) S := by
  rw [call_unf h8.lroom rfl]
  let P : Nat → Env → Sto → Prop := fun i ε S' => ∃ p q : Sl, ε = [.val d, .val (.int (roomW (l.take i))), p, q] ∧ S' = S
  obtain ⟨ε', S2, e2, p, q, rfl, rfl⟩ := forL_inv (F := forF (evCall Γ t k) t (.tp [(.nm 2), (.nm 3)]) b_l_room_1) P (ds := l.map dS)
    (by
      rintro i d ε S' hd ⟨p, q, rfl, rfl⟩
      obtain ⟨s, hs, hi, rfl, e⟩ := take_at hd
      have hm : binF .mul (.int (roomW (l.take i))) (.int (wM s)) = some (.int (roomW (l.take i) * wM s)) := mulOk_w (a := 110 * (l.take i).length + 1) (b := 110) (roomW_lt _ (l.take i) rfl fun s hs => hl s (List.mem_of_mem_take hs)) (wM_lt (hl s hs)) (by omega) (by decide) (by rw [List.length_take]; omega)
      refine ⟨_, _, ?_, .val (.int s.1), .val (.int s.2), rfl, rfl⟩
      rw [e, roomW_snoc]
      have hw : (if s.2 - s.1 > 0 then s.2 - s.1 else 0) = wM s := rfl
      simp only [gt_iff_lt] at hw
      generalize roomW (l.take i) = R at *
      simp [-Int.sub_pos, forF, b_l_room_1, hw, hm]) (ε := [.val d, .val (.int 1), .un, .un]) (S := S) ⟨.un, .un, rfl, rfl⟩
  rw [List.length_map, List.take_length] at e2
  simp [fn_l_room, startE, hd, e2]
theorem lrank_ok (h8 : HCut Γ) {n least : Nat} {bs : List Bx} {c : Cut} (hb : ∀ y ∈ bs, OkB n y) (hn : n ≤ 1000) (hl : bs.length ≤ 1000) (hc : OkC bs.length least c) (h1 : 1 ≤ least) : evCall Γ t (k + 3) i_l_rank [dL bs, dCut c] S = .ok (tI (rankM bs c)) S := by
  rw [call_unf h8.lrank rfl]
  have ev := lboth_ok h8 (t := t) (k := k) (S := S) hb hn hl hc h1
  have o1 := cov2_ok hb (fun i hi => hc.lt1 hi) (nn_of hc.a h1)
  have o2 := cov2_ok hb (fun i hi => hc.lt2 hi) (nn_of hc.b h1)
  have ok3 := cut_okW o1 o2
  have rs := room_shared o1 o2
  have q1 := roomW_eq fun s hs => (o1.s s hs).le
  have q2 := roomW_eq fun s hs => (o2.s s hs).le
  have r1 := lroom_ok h8 (t := t) (k := k + 1) (S := S) (l := covM2 bs c.1) seq_dB (fun s hs => (o1.s s hs).w) (by rw [o1.len]; omega)
  have r2 := lroom_ok h8 (t := t) (k := k + 1) (S := S) (l := covM2 bs c.2) seq_dB (fun s hs => (o2.s s hs).w) (by rw [o2.len]; omega)
  have r3 := lroom_ok h8 (t := t) (k := k + 1) (S := S) (l := cutM (covM2 bs c.1) (covM2 bs c.2)) (d := .lst ((cutM (covM2 bs c.1) (covM2 bs c.2)).map dS)) rfl ok3.2 (by rw [ok3.1]; omega)
  rw [q1] at r1
  rw [q2] at r2
  rw [rs] at r3
  unfold rankM
  have hz : (covM2 bs c.1).length ≤ 1000 := by rw [o1.len]; exact hn
  generalize covM2 bs c.1 = A at *
  generalize covM2 bs c.2 = B at *
  have e := lcL_map (F := lcF (evCall Γ t (k + 2)) e_l_rank_1 (.tp [(.nm 5), (.nm 6)]) none [5, 6] [.val (dL bs), .val (dCut c), .val (dB A), .val (dB B), .un, .un, .un]) (S := S) (f := fun p : (Int × Int) × (Int × Int) => D.tup [dS p.1, dS p.2]) (g := fun p => dS ((if p.2.1 > p.1.1 then p.2.1 else p.1.1), (if p.2.2 < p.1.2 then p.2.2 else p.1.2))) (l := A.zip B) (by
    rintro ⟨⟨x1, x2⟩, ⟨y1, y2⟩⟩ _
    simp [lcF, e_l_rank_1, dS])
  have em : ((A.zip B).map fun p => dS ((if p.2.1 > p.1.1 then p.2.1 else p.1.1), (if p.2.2 < p.1.2 then p.2.2 else p.1.2))) = (cutM A B).map dS := by
    unfold cutM
    rw [List.map_map]
    rfl
  have z := line_map (l := cutM A B) (f := dS) (by unfold cutM; rw [List.length_map, List.length_zip]; omega)
  rw [em] at e
  generalize (cutM A B).map dS = C at *
  generalize (if meetsM A B = true then prodM (cutM A B) else 0) = R at *
  simp [fn_l_rank, startE, ev, e, lcR_ok z, r1, r2, r3, tI]
/-! the axis -/
theorem idx_ok {bs : List Bx} {n least : Nat} (h : 1 ≤ n) : ∃ m : Int, bltF .min [.lst ((List.range n).map fun a => D.int (edgesM bs a least))] = some (.int m) ∧ idxF ((List.range n).map fun a => D.int (edgesM bs a least)) (.int m) = some (.int (axM bs n least)) ∧ axM bs n least < n := by
  have em : ((List.range n).map fun a => D.int (edgesM bs a least)) = ((List.range n).map fun a => edgesM bs a least).map D.int := by rw [List.map_map]; rfl
  rw [em]
  have hA := argBest_tI ((List.range n).map (axK bs least)) (n - 1) (by simp; omega)
  rw [List.map_map] at hA
  have e : axM bs n least = argBest (btK ((List.range n).map (pI ∘ axK bs least))) (n - 1) := rfl
  rw [← e] at hA
  obtain ⟨a1, a2, a3⟩ := hA
  generalize axM bs n least = x at *
  have gd : ∀ j, j < n → ((List.range n).map (axK bs least)).getD j [] = [edgesM bs j least, (j : Int)] := fun j hj => by
    simp [hj, axK]
  have b2 : ∀ j, j < n → edgesM bs x least ≤ edgesM bs j least := fun j hj => by
    have := a2 j (by omega)
    rw [gd j hj, gd x (by omega)] at this
    refine Int.not_lt.mp fun z => this ?_
    exact List.cons_lt_cons_iff.mpr (.inl z)
  have b3 : ∀ j, j < x → edgesM bs x least < edgesM bs j least := fun j hj => by
    have := a3 j hj
    rw [gd j (by omega), gd x (by omega)] at this
    rcases List.cons_lt_cons_iff.mp this with z | ⟨_, z⟩
    · exact z
    · rcases List.cons_lt_cons_iff.mp z with z | ⟨_, z⟩
      · omega
      · exact absurd z (List.lt_irrefl _)
  have hx : x < n := by omega
  cases hL : (List.range n).map fun a => edgesM bs a least with
  | nil =>
    have := congrArg List.length hL
    simp at this
    omega
  | cons m0 r =>
    refine ⟨minI r m0, ?_, ?_, hx⟩
    · simp only [bltF, intsOf_map]
    · obtain ⟨s1, s2⟩ := minI_spec r m0
      rw [← hL] at s1 s2
      have em2 : minI r m0 = edgesM bs x least := by
        obtain ⟨j, hj, e2⟩ := List.mem_map.mp s1
        have h3 := b2 j (List.mem_range.mp hj)
        have h4 := s2 (edgesM bs x least) (List.mem_map.mpr ⟨x, List.mem_range.mpr hx, rfl⟩)
        omega
      rw [em2, ← hL]
      simp only [idxF, intsOf_map, Option.bind_some]
      have : ((List.range n).map fun a => edgesM bs a least).findIdx? (fun n => decide (n = edgesM bs x least)) = some x := by
        rw [List.findIdx?_eq_some_iff_getElem]
        refine ⟨by simpa using hx, by simp, fun j hj => ?_⟩
        have := b3 j hj
        simp
        omega
      rw [this]
      rfl
end
end BX
set_option Elab.async false
set_option linter.all false
set_option maxRecDepth 100000
set_option maxHeartbeats 2000000
/-! BX8h: the end of a law by one run of the top: what its heap tells, read off by a Hook. -/
namespace BX
open PySem L2
open PyProof.Rows hiding St Binds
abbrev Fq := PySem.W.Frag
abbrev Pl := Str × Option Str

/-! ### lambdas' code objects and tables -/
def cdAt (K : Fq) (p : Pl) : Addr := match K.lookup (He.fAd K p) with
  | some ⟨_, _, .func fd, _⟩ => (match fd.code with
    | .ref c => c
    | _ => 0)
  | _ => 0
def tbAt (K : Fq) (p : Pl) : Addr := match K.lookup (cdAt K p) with
  | some ⟨_, _, .fields vs, _⟩ => (match (vs[11]? : Option Value) with
    | some (.ref q) => q
    | _ => 0)
  | _ => 0
def cdIs (K : Fq) (p : Pl) : Bool := match K.lookup (He.fAd K p) with
  | some ⟨_, _, .func fd, _⟩ => (match fd.code with
    | .ref _ => true
    | _ => false)
  | _ => false
def noneD : Data → Bool
  | .fields vs => vs.isEmpty
  | _ => false
theorem noneD_ok {d : Data} (h : noneD d = true) : d = .fields #[] := by
  cases d <;> try (cases h; done)
  rename_i vs
  have h2 : vs.isEmpty = true := h
  rw [Array.isEmpty_iff] at h2
  rw [h2]
def noneYet : Option Obj → Bool
  | some o => decide (o.cls = .none) && (o.dict.isNone && (noneD o.data && o.slots.isEmpty))
  | none => false
theorem noneYet_ok {o : Option Obj} (h : noneYet o = true) : o = some { cls := .none, data := .fields #[] } := by
  cases o with
  | none => cases h
  | some o =>
    obtain ⟨c, d, dt, sl⟩ := o
    simp only [noneYet, Bool.and_eq_true, decide_eq_true_eq, Option.isNone_iff_eq_none, Array.isEmpty_iff] at h
    obtain ⟨rfl, rfl, h3, rfl⟩ := h
    rw [noneD_ok h3]
def lmOk (K : Fq) (g : Addr → Option Obj) (p : Pl) : Bool := cdIs K p && (PySem.W.codeHdIn K (cdAt K p) (tbAt K p) && ((K.lookup (tbAt K p)).isNone && noneYet (g (tbAt K p))))
def ndB : List Addr → Bool
  | [] => true
  | a :: l => !(l.contains a) && ndB l
theorem ndB_ok : ∀ {l : List Addr}, ndB l = true → l.Nodup
  | [], _ => List.nodup_nil
  | a :: l, h => by
    simp only [ndB, Bool.and_eq_true, Bool.not_eq_true', List.contains_eq_mem] at h
    exact List.nodup_cons.mpr ⟨by simpa using h.1, ndB_ok h.2⟩
/-- what is said of a lambda's def -/
structure LmAt (K : Fq) (h : Heap) (p : Pl) : Prop where
  cd : cdIs K p = true
  hd : PySem.W.codeHdIn K (cdAt K p) (tbAt K p) = true
  no : K.lookup (tbAt K p) = none
  yet : h.get? (tbAt K p) = some { cls := .none, data := .fields #[] }
/-- the part of the heap that is looked at: no tables -/
def kCut (n : Nat) (lams : List Pl) (g : Addr → Option Obj) : Fq :=
  let as := He.asD g n
  let ts := lams.map (tbAt (He.frG g as))
  He.frG g (as.filter fun a => !(ts.contains a))
def obsL (n : Nat) (fa : List He.Fa) (fn : List He.DefD) (lams : List Pl) (g : Addr → Option Obj) : He.AlD × Bool :=
  let K := kCut n lams g
  (He.obsD fa fn K, (lams.all fun p => lmOk K g p) && ndB (lams.map (tbAt K)))
structure SaysL (fa : List He.Fa) (fn : List He.DefD) (lams : List Pl) (K : Fq) (h : Heap) : Prop where
  kin : K.In h
  s : He.SaysD fa fn K
  lm : ∀ p ∈ lams, LmAt K h p
  nd : (lams.map (tbAt K)).Nodup
def hookL (n : Nat) (fa : List He.Fa) (fn : List He.DefD) (lams : List Pl) : PySem.W.Hook where
  α := He.AlD × Bool
  obs := fun s => obsL n fa fn lams s.heap.get?
  val := fun _ => (He.valD fn, true)
  says := fun _ h => ∃ K : Fq, SaysL fa fn lams K h
  of := fun _ s e => by
    have e1 : He.obsD fa fn (kCut n lams s.heap.get?) = He.valD fn := congrArg Prod.fst e
    have e2 : ((lams.all fun p => lmOk (kCut n lams s.heap.get?) s.heap.get? p) && ndB (lams.map (tbAt (kCut n lams s.heap.get?)))) = true := congrArg Prod.snd e
    simp only [Bool.and_eq_true, List.all_eq_true] at e2
    refine ⟨_, He.frG_in, e1, fun p hp => ?_, ndB_ok e2.2⟩
    have := e2.1 p hp
    simp only [lmOk, Bool.and_eq_true, Option.isNone_iff_eq_none] at this
    exact ⟨this.1, this.2.1, this.2.2.1, noneYet_ok this.2.2.2⟩
  keeps := fun _ _ _ ⟨K, hK, c, l, nd⟩ k => ⟨K, PySem.W.Frag.In.keeps hK k, c, fun p hp => ⟨(l p hp).cd, (l p hp).hd, (l p hp).no, k _ _ (l p hp).yet⟩, nd⟩
theorem obsL_eq {n : Nat} {fa : List He.Fa} {fn : List He.DefD} {lams : List Pl} {g : Addr → Option Obj} {s : Shared} (h : ∀ a, g a = s.heap.get? a) : obsL n fa fn lams g = (hookL n fa fn lams).obs s := by
  have e : g = s.heap.get? := funext h
  rw [e]
  rfl
/-! ### the law's tables -/
abbrev Lmd := Pl × Str
def csOf (lams : List Lmd) (K : Fq) : List (Addr × Addr) := lams.map fun p => (cdAt K p.1, tbAt K p.1)
def tabsOf (lams : List Lmd) (K : Fq) : List (Addr × Str) := lams.map fun p => (tbAt K p.1, lamQ p.2)
theorem key_one {α β : Type} : ∀ {l : List (α × β)}, (l.map (·.1)).Nodup → ∀ {a : α} {b b' : β}, (a, b) ∈ l → (a, b') ∈ l → b = b'
  | [], _, _, _, _, h, _ => by simp at h
  | (x, y) :: l, nd, a, b, b', h1, h2 => by
    simp only [List.map_cons, List.nodup_cons] at nd
    rcases List.mem_cons.mp h1 with h1 | h1 <;> rcases List.mem_cons.mp h2 with h2 | h2
    · cases h1; cases h2; rfl
    · cases h1; exact absurd (List.mem_map.mpr ⟨_, h2, rfl⟩) nd.1
    · cases h2; exact absurd (List.mem_map.mpr ⟨_, h1, rfl⟩) nd.1
    · exact key_one nd.2 h1 h2
section
variable {fa : List He.Fa} {fn : List He.DefD} {lams : List Lmd} {K : Fq} {h : Heap} {mg : Str → Option Value} {T : Tb} {Γ : Tab}
/-! ### one def -/
structure Df where
  at_ : Pl
  name : Str
  qual : Str
  st : Stmt
  kws : List (Str × D) := []
def dvH : D → He.Dv
  | .bl b => .bl b
  | .int i => .int i
  | .str x => .str x
  | _ => .non
theorem dvH_v {d : D} (h : flatD d = true) : (dvH d).v K = vOf d := by
  cases d <;> simp [flatD] at h <;> rfl
def Df.dd (d : Df) : He.DefD := ⟨d.at_, d.name, d.qual, defArgs d.st, defBody d.st, defScope d.st, [], d.kws.map fun q => (q.1, dvH q.2)⟩
abbrev FnD (K : Fq) (d : Df) (a : Addr) (fd : FuncData) : Prop := FunD K d.name d.qual (defArgs d.st) (defBody d.st) (defScope d.st) [] (d.kws.map fun q => (q.1, vOf q.2)) a fd
theorem fnD_of (c : He.SaysD fa fn K) (i : Nat) {d : Df} (hi : fn[i]? = some d.dd) (hf : d.kws.all (fun q => flatD q.2) = true) : ∃ fd, FnD K d (He.fAd K d.at_) fd := by
  obtain ⟨fd, F⟩ := c.def_ i hi
  refine ⟨fd, ?_⟩
  have e : d.dd.kws K = d.kws.map fun q => (q.1, vOf q.2) := by
    unfold He.DefD.kws Df.dd
    rw [List.map_map]
    apply List.map_congr_left
    intro q hq
    simp only [Function.comp, dvH_v (List.all_eq_true.mp hf q hq)]
  have F2 : FunD K d.name d.qual (defArgs d.st) (defBody d.st) (defScope d.st) [] (d.dd.kws K) (He.fAd K d.at_) fd := F
  rw [e] at F2
  exact F2
/-- how a def is called -/
structure BindF (T : Tb) (K : Fq) (f : Nat) (ps : List Str) (fd : FuncData) : Prop where
  dv : ∀ n dv, T.dvB f n dv = true → dv.all flatD = true ∧ ∃ ds, Vals (dv.map vOf) ds ∧ Binds K fd ps ds
  kw : ∀ n ks pm, T.kwB f n ks pm = true → pmFlat pm = true ∧ ∃ g, KBn K fd ps n ks g fun vs zs => pmV (vs ++ zs) pm
theorem body_h {cs : List (Addr × Addr)} {tabs : List (Addr × Str)} {f : Nat} {d : Df} {N ps : List Str} {body : List Sm} {a : Addr} {fd : FuncData} {b : Bool} (F : FnD K d a fd) (S : FnScope N ps (defScope d.st)) (hΓ : Γ f = some ⟨ps.length, N.length, body⟩)
    (hch : chB (T.sub b) N (defScope d.st) (locB (defScope d.st)) body (defBody d.st) = true) (hl : b = true → ∃ c P, fd.code = .ref c ∧ (c, P) ∈ cs ∧ (P, lamQ d.qual) ∈ tabs ∧ ∀ p ∈ tabs, p.1 = P → p.2 = lamQ d.qual) (hb : BindF T K f ps fd) : FnBody T Γ K cs tabs f a := by
  obtain ⟨⟨oc, od, dV, kV, doc, pm, an, cdv, ct, osl, rfl, h2, h3, _, _⟩, kp⟩ := F
  exact ⟨ps, N, d.st, d.name, d.qual, body, oc, od, an, dV, kV, doc, pm, cdv, ct, osl, b, h2, h3, kp, S, hΓ, hch, hl, hb.dv, hb.kw⟩
theorem lam_h (c : SaysL fa fn (lams.map (·.1)) K h) {d : Df} {fd : FuncData} (F : FnD K d (He.fAd K d.at_) fd) (hm : (d.at_, d.qual) ∈ lams) : ∃ c P, fd.code = .ref c ∧ (c, P) ∈ csOf lams K ∧ (P, lamQ d.qual) ∈ tabsOf lams K ∧ ∀ p ∈ tabsOf lams K, p.1 = P → p.2 = lamQ d.qual := by
  have L := c.lm d.at_ (List.mem_map.mpr ⟨_, hm, rfl⟩)
  obtain ⟨oc, od, dV, kV, doc, pm, an, cdv, ct, osl, e, h2, _⟩ := F.ex
  have hcd := L.cd
  unfold cdIs at hcd
  rw [h2] at hcd
  have hc : fd.code = .ref (cdAt K d.at_) := by
    unfold cdAt
    rw [h2]
    dsimp only at hcd ⊢
    split at hcd
    · rename_i c' e'
      rw [e']
    · cases hcd
  refine ⟨_, tbAt K d.at_, hc, List.mem_map.mpr ⟨_, hm, rfl⟩, List.mem_map.mpr ⟨_, hm, rfl⟩, fun p hp e => ?_⟩
  have nd : ((tabsOf lams K).map (·.1)).Nodup := by
    have := c.nd
    rw [List.map_map] at this
    unfold tabsOf
    rw [List.map_map]
    exact this
  obtain ⟨x, y⟩ := p
  cases e
  exact key_one nd hp (List.mem_map.mpr ⟨(d.at_, d.qual), hm, rfl⟩)
/-! ### binding -/
theorem bind_0 {f : Nat} {d : Df} {ps : List Str} {a : Addr} {fd : FuncData} (F : FnD K d a fd) (hb : ∀ (kV doc pm : Value) (an : Option Addr) (cdv ct : Value) (us : List Value), us.length = ps.length → bindArgs (PySem.W.fnOf d.name d.qual (defArgs d.st) (defBody d.st) (defScope d.st) .none kV doc pm an cdv ct) ⟨us, []⟩ = pure (ps.zip us))
    (hdv : ∀ n dv, T.dvB f n dv = true → dv = []) (hkw : ∀ n ks pm, T.kwB f n ks pm = false) : BindF T K f ps fd :=
  ⟨fun n dv h => by
    obtain rfl := hdv n dv h
    exact ⟨rfl, [], .nil, F.bindsN hb⟩, fun n ks pm h => by rw [hkw] at h; cases h⟩
/-- a way to call a def with keywords: sh says for each parameter which written argument, or which of the defaults that are not written -/
structure Kf where
  n : Nat
  ks : List Str
  ms : List (Str × D)
  sh : List (Nat ⊕ Nat)
def Kf.pm (k : Kf) : List (Nat ⊕ D) := k.sh.map fun s => match s with
  | .inl j => .inl j
  | .inr i => .inr (k.ms.getD i ("", .non)).2
def pmW (us mv : List Value) : List (Nat ⊕ Nat) → List Value
  | [] => []
  | .inl j :: r => us.getD j .none :: pmW us mv r
  | .inr i :: r => mv.getD i .none :: pmW us mv r
theorem pm_vals {vs : List V} {us mv : List Value} {ms : List (Str × D)} (r : Vals vs us) (m : Vals (ms.map fun q => vOf q.2) mv) : ∀ sh : List (Nat ⊕ Nat), Vals (pmV vs (sh.map fun s => match s with
    | .inl j => .inl j
    | .inr i => .inr (ms.getD i ("", .non)).2)) (pmW us mv sh)
  | [] => .nil
  | .inl j :: r' => by simp only [List.map_cons, pmV, pmW]; exact .cons (vals_getD r j) (pm_vals r m r')
  | .inr i :: r' => by
    simp only [List.map_cons, pmV, pmW]
    refine .cons ?_ (pm_vals r m r')
    have e := vals_getD m i
    have e2 : (ms.map fun q => vOf q.2).getD i .non = vOf (ms.getD i ("", .non)).2 := by
      by_cases hi : i < ms.length
      · simp [hi]
      · have h1 : ms[i]? = none := List.getElem?_eq_none (by omega)
        simp [h1, vOf]
    rw [e2] at e
    exact e
/-- the keyword form holds: nothing lacks | some lack -/
def KfOk (d : Df) (ps : List Str) (k : Kf) : Prop :=
  (k.ms = [] ∧ ∀ (kV doc pm : Value) (an : Option Addr) (cdv ct : Value) (us ws : List Value), us.length = k.n → ws.length = k.ks.length →
    bindArgs (PySem.W.fnOf d.name d.qual (defArgs d.st) (defBody d.st) (defScope d.st) .none kV doc pm an cdv ct) ⟨us, k.ks.zip ws⟩ = pure (ps.zip (pmW (us ++ ws) [] k.sh))) ∨
  (d.kws ≠ [] ∧ (∀ q ∈ k.ms, q ∈ d.kws) ∧ ∀ (D : Addr) (doc pm : Value) (an : Option Addr) (cdv ct : Value) (us ws mv : List Value), us.length = k.n → ws.length = k.ks.length → mv.length = k.ms.length →
    KwChain D ((k.ms.map (·.1)).zip mv) (bindArgs (PySem.W.fnOf d.name d.qual (defArgs d.st) (defBody d.st) (defScope d.st) .none (.ref D) doc pm an cdv ct) ⟨us, k.ks.zip ws⟩) (ps.zip (pmW (us ++ ws) mv k.sh)))
theorem kf_kbn {d : Df} {ps : List Str} {a : Addr} {fd : FuncData} {k : Kf} (F : FnD K d a fd) (h : KfOk d ps k) : ∃ g, KBn K fd ps k.n k.ks g fun vs zs => pmV (vs ++ zs) k.pm := by
  obtain ⟨oc, od, dV, kV, doc, pm, an, cdv, ct, osl, rfl, h2, h3, hD, hK⟩ := F.ex
  have eD : dV = .none := by
    rcases hD with ⟨_, e⟩ | ⟨e, _⟩
    · exact e
    · exact absurd rfl e
  subst eD
  rcases h with ⟨e, h⟩ | ⟨e, hm, h⟩
  · refine ⟨fun us ws => pmW (us ++ ws) [] k.sh, ⟨fun s us ws X l1 l2 => .of_eq (h _ _ _ _ _ _ us ws l1 l2), fun r1 r2 => ?_⟩⟩
    have := pm_vals (r1.append r2) (ms := k.ms) (mv := []) (by rw [e]; exact .nil) k.sh
    exact this
  · rcases hK with e' | ⟨D, rfl, hq⟩
    · exact absurd (List.map_eq_nil_iff.mp e') e
    · obtain ⟨mv, hl, rk, hks⟩ := kwd_vals (K := K) (D := D) (ms := k.ms.map fun q => (q.1, vOf q.2)) fun q hq' => by
        obtain ⟨z, hz, rfl⟩ := List.mem_map.mp hq'
        exact hq _ (List.mem_map.mpr ⟨z, hm z hz, rfl⟩)
      rw [List.length_map] at hl
      rw [List.map_map] at rk hks
      refine ⟨fun us ws => pmW (us ++ ws) mv k.sh, ⟨fun s us ws X l1 l2 => BindsTo.of_looks fun M => KwChain.looks X hks (h D _ _ _ _ _ us ws mv l1 l2 hl), fun r1 r2 => pm_vals (r1.append r2) rk k.sh⟩⟩
/-- the call without keywords: all defaults -/
theorem bind_K {f n0 : Nat} {d : Df} {ps : List Str} {a : Addr} {fd : FuncData} (fs : List Kf) (F : FnD K d a fd) (hk : d.kws ≠ []) (hn : n0 + d.kws.length = ps.length)
    (hb : ∀ (D : Addr) (doc pm : Value) (an : Option Addr) (cdv ct : Value) (us ks : List Value), us.length = n0 → ks.length = d.kws.length →
      KwChain D ((d.kws.map (·.1)).zip ks) (bindArgs (PySem.W.fnOf d.name d.qual (defArgs d.st) (defBody d.st) (defScope d.st) .none (.ref D) doc pm an cdv ct) ⟨us, []⟩) (ps.zip (us ++ ks)))
    (hdv : ∀ n dv, T.dvB f n dv = true → dv.all flatD = true ∧ dv.map vOf = d.kws.map fun q => vOf q.2) (hkw : ∀ n ks pm, T.kwB f n ks pm = true → pmFlat pm = true ∧ ∃ k ∈ fs, n = k.n ∧ ks = k.ks ∧ pm = k.pm) (hfs : ∀ k ∈ fs, KfOk d ps k) : BindF T K f ps fd := by
  refine ⟨fun n dv h => ?_, fun n ks pm h => ?_⟩
  · obtain ⟨e1, e2⟩ := hdv n dv h
    refine ⟨e1, ?_⟩
    rw [e2]
    have := F.binds0 n0 (fun z => hk (List.map_eq_nil_iff.mp z)) (by rw [List.length_map]; exact hn) fun D doc pm an cdv ct us ks h1 h2 => by
      rw [List.map_map]
      exact hb D doc pm an cdv ct us ks h1 (by rw [h2, List.length_map])
    rw [List.map_map] at this
    exact this
  · obtain ⟨e1, k, hk', rfl, rfl, rfl⟩ := hkw n ks pm h
    exact ⟨e1, kf_kbn F (hfs k hk')⟩
/-! ### flat data compared -/
def flEq : D → D → Bool
  | .non, .non => true
  | .bl a, .bl b => a == b
  | .int a, .int b => a == b
  | .str a, .str b => a == b
  | _, _ => false
theorem flEq_ok {a b : D} (h : flEq a b = true) : a = b ∧ flatD a = true := by
  cases a <;> cases b <;> first | (cases h; done) | skip
  · exact ⟨rfl, rfl⟩
  · have := eq_of_beq (show (_ == _) = true from h); subst this; exact ⟨rfl, rfl⟩
  · have := eq_of_beq (show (_ == _) = true from h); subst this; exact ⟨rfl, rfl⟩
  · have := eq_of_beq (show (_ == _) = true from h); subst this; exact ⟨rfl, rfl⟩
def dlB : List D → List D → Bool
  | [], [] => true
  | a :: l, b :: m => flEq a b && dlB l m
  | _, _ => false
theorem dlB_ok : ∀ {l m : List D}, dlB l m = true → l = m ∧ l.all flatD = true
  | [], [], _ => ⟨rfl, rfl⟩
  | [], _ :: _, h => by cases h
  | _ :: _, [], h => by cases h
  | a :: l, b :: m, h => by
    simp only [dlB, Bool.and_eq_true] at h
    obtain ⟨rfl, e1⟩ := flEq_ok h.1
    obtain ⟨rfl, e2⟩ := dlB_ok h.2
    exact ⟨rfl, by simp [e1, e2]⟩
theorem dlB_nil {l : List D} (h : dlB l [] = true) : l = [] := (dlB_ok h).1
def pmB : List (Nat ⊕ D) → List (Nat ⊕ D) → Bool
  | [], [] => true
  | .inl a :: l, .inl b :: m => a == b && pmB l m
  | .inr a :: l, .inr b :: m => flEq a b && pmB l m
  | _, _ => false
theorem pmB_ok : ∀ {l m : List (Nat ⊕ D)}, pmB l m = true → l = m ∧ pmFlat l = true
  | [], [], _ => ⟨rfl, rfl⟩
  | [], _ :: _, h => by cases h
  | .inl _ :: _, [], h => by cases h
  | .inr _ :: _, [], h => by cases h
  | .inl a :: l, .inl b :: m, h => by
    simp only [pmB, Bool.and_eq_true, beq_iff_eq] at h
    obtain ⟨rfl, h2⟩ := h
    obtain ⟨rfl, e2⟩ := pmB_ok h2
    exact ⟨rfl, by simp only [pmFlat, e2]⟩
  | .inr a :: l, .inr b :: m, h => by
    simp only [pmB, Bool.and_eq_true] at h
    obtain ⟨rfl, e1⟩ := flEq_ok h.1
    obtain ⟨rfl, e2⟩ := pmB_ok h.2
    exact ⟨rfl, by simp only [pmFlat, e1, e2, Bool.and_self]⟩
  | .inl _ :: _, .inr _ :: _, h => by cases h
  | .inr _ :: _, .inl _ :: _, h => by cases h
def kfB (fs : List Kf) (n : Nat) (ks : List Str) (pm : List (Nat ⊕ D)) : Bool := fs.any fun k => n == k.n && (ks == k.ks && pmB pm k.pm)
theorem kfB_ok {fs : List Kf} {n : Nat} {ks : List Str} {pm : List (Nat ⊕ D)} (h : kfB fs n ks pm = true) : pmFlat pm = true ∧ ∃ k ∈ fs, n = k.n ∧ ks = k.ks ∧ pm = k.pm := by
  obtain ⟨k, hk, h⟩ := List.any_eq_true.mp h
  simp only [Bool.and_eq_true, beq_iff_eq] at h
  obtain ⟨h1, h2, h3⟩ := h
  obtain ⟨e1, e2⟩ := pmB_ok h3
  exact ⟨e2, k, hk, h1, h2, e1⟩
theorem dv_of {kws : List (Str × D)} {dv : List D} (h : dlB dv (kws.map (·.2)) = true) : dv.all flatD = true ∧ dv.map vOf = kws.map fun q => vOf q.2 := by
  obtain ⟨rfl, e⟩ := dlB_ok h
  exact ⟨e, by rw [List.map_map]; rfl⟩
/-- a class's body -/
def clsBody : Stmt → List Stmt
  | .ClassDef _ _ _ b .. => b
  | _ => []
/-! ### facts -/
theorem fact_h {cs : List (Addr × Addr)} {tabs : List (Addr × Str)} {f : Nat} {x : Str} (X : K.In h) (G : h.Ns mainGlobals mg) (c : He.SaysD fa fn K) (j : Nat) (hj : fa[j]? = some (.glo x)) (hx : T.nm f = x) (B : FnBody T Γ K cs tabs f (He.fAd K (x, none))) : FnFact T Γ K cs tabs mg f :=
  ⟨_, by rw [hx]; exact He.glo_ok X G (c.fact j hj), B⟩
theorem glo_ns {x : Str} (c : (He.Fa.glo x).ok K = true) : PySem.W.nsIn K mainGlobals x = some (some (.ref (He.ga K x))) := He.eqO_ok c
theorem mth_h {cs : List (Addr × Addr)} {tabs : List (Addr × Str)} {f : Nat} {x m : Str} (c : He.SaysD fa fn K) (j1 j2 j3 : Nat) (h1 : fa[j1]? = some (.glo x)) (h2 : fa[j2]? = some (.cls x)) (h3 : fa[j3]? = some (.meth x m)) (B : FnBody T Γ K cs tabs f (He.fAd K (x, some m))) : MthFact T Γ (gx K tabs) K cs tabs f x m :=
  ⟨He.ga K x, He.ma K (He.ga K x) m, clsOf_at (glo_ns (c.fact j1 h1)), He.cls_ok (c.fact j2 h2), He.meth_ok (c.fact j3 h3), B⟩
theorem mk_h {cs : List (Addr × Addr)} {tabs : List (Addr × Str)} {f : Nat} {x : Str} (X : K.In h) (G : h.Ns mainGlobals mg) (c : He.SaysD fa fn K) (j1 j2 j3 : Nat) (h1 : fa[j1]? = some (.glo x)) (h2 : fa[j2]? = some (.cls x)) (h3 : fa[j3]? = some (.mkr x)) (B : FnBody T Γ K cs tabs f (He.fAd K (x, some "__init__"))) : MkFact T Γ (gx K tabs) K cs tabs mg f x :=
  ⟨He.ga K x, He.ma K (He.ga K x) "__init__", He.glo_ok X G (c.fact j1 h1), clsOf_at (glo_ns (c.fact j1 h1)), He.cls_ok (c.fact j2 h2), He.mkr_ok (c.fact j3 h3), B⟩
theorem fld_h {x f : Str} (c : He.SaysD fa fn K) (j1 j2 : Nat) (h1 : fa[j1]? = some (.glo x)) (h2 : fa[j2]? = some (.noat x f)) : ∀ C, clsOf K x = some C → NoAttr K C f := fun C e => by
  rw [clsOf_at (glo_ns (c.fact j1 h1))] at e
  cases e
  exact He.noat_ok (c.fact j2 h2)
theorem con_int (X : K.In h) (G : h.Ns mainGlobals mg) (c : He.SaysD fa fn K) (j : Nat) {x : Str} {i : Int} (hj : fa[j]? = some (.int x i)) : flatD (.int i) = true ∧ ∃ u, mg x = some u ∧ RelV (vOf (.int i)) u := by
  obtain ⟨t, e⟩ := He.int_ok X G (c.fact j hj)
  exact ⟨rfl, _, e, t, rfl⟩
theorem con_str (X : K.In h) (G : h.Ns mainGlobals mg) (c : He.SaysD fa fn K) (j : Nat) {x z : Str} (hj : fa[j]? = some (.str x z)) : flatD (.str z) = true ∧ ∃ u, mg x = some u ∧ RelV (vOf (.str z)) u := by
  obtain ⟨t, e⟩ := He.str_ok X G (c.fact j hj)
  exact ⟨rfl, _, e, t, rfl⟩
end
/-- the built-ins whose names stay free -/
def bltFa : List He.Fa := [.free "len", .free "abs", .free "max", .free "min", .free "sum", .free "all", .free "any", .free "tuple", .free "list", .free "range", .free "zip", .free "isinstance", .free "int", .free "bool", .free "str", .free "dict", .free "reversed", .free "sorted", .free "enumerate"]
theorem facts_h {fa fa' : List He.Fa} {fn : List He.DefD} {K : Fq} {h : Heap} {mg : Str → Option Value} {T : Tb} {Γ : Tab} {cs : List (Addr × Addr)} {tabs : List (Addr × Str)} (X : K.In h) (G : h.Ns mainGlobals mg) (c : He.SaysD fa fn K) (hfa : fa = bltFa ++ fa') (h1 : ∀ f, T.isF f = true → FnFact T Γ K cs tabs mg f)
    (C : CFacts T Γ K cs tabs mg) (h3 : ∀ x d, T.conB x d = true → flatD d = true ∧ ∃ u, mg x = some u ∧ RelV (vOf d) u) (ok : LamOk T) : Facts T (gx K tabs) Γ K cs mg := by
  subst hfa
  have fr : ∀ (i : Nat) (x : Str), bltFa[i]? = some (.free x) → mg x = none := fun i x hi => He.free_ok X G (c.fact i (by
    rw [List.getElem?_append_left (List.getElem?_eq_some_iff.mp hi).1]
    exact hi))
  exact ⟨h1, fr 16 _ rfl, fr 17 _ rfl,
    (fun b => by cases b <;> first | exact fr 0 _ rfl | exact fr 1 _ rfl | exact fr 2 _ rfl | exact fr 3 _ rfl | exact fr 4 _ rfl | exact fr 5 _ rfl | exact fr 6 _ rfl | exact fr 7 _ rfl | exact fr 8 _ rfl),
    fr 9 _ rfl, fr 10 _ rfl, fr 18 _ rfl, fr 11 _ rfl, (fun t => by cases t <;> first | exact fr 12 _ rfl | exact fr 13 _ rfl | exact fr 14 _ rfl | exact fr 7 _ rfl | exact fr 8 _ rfl | exact fr 15 _ rfl), h3, C.mth, C.mkd, C.fld, fr 15 _ rfl, ok⟩
/-- the law's end -/
theorem law_walkH {l : PySem.W.OpenLaw} {q : Program} {loose : List Str} {XP : (Str → Option Value) → Heap → Prop} {dr : DefRec} {fa : List He.Fa} {fn : List He.DefD} {lams : List Lmd} {n : Nat} {T : Tb} {Γ : Tab} {turns kk fL i j : Nat} {x : Str} {d : Df} {N : List Str} {body : List Sm}
    (hn : l.most = some 63) (hdf : dr.params.defaults = []) (hr : Room (4 * (kk + 1)) callerA) (hnm : dr.name = "law")
    (main : ∀ ns : List Int, ns.length ≤ 63 → ∃ S', evCall Γ turns (kk + 1) fL [.scr (ns.map .int)] [] = .ok (.bl true) S')
    (F : ∀ (K : Fq) (mg : Str → Option Value) (h : Heap), h.Ns mainGlobals mg → SaysL fa fn (lams.map (·.1)) K h → Facts T (gx K (tabsOf lams K)) Γ K (csOf lams K) mg)
    (hi : fn[i]? = some d.dd) (hj : fa[j]? = some (.glo "law")) (hat : d.at_ = (("law" : Str), (none : Option Str))) (hk : d.kws = []) (S : FnScope N [x] (defScope d.st)) (hΓ : Γ fL = some ⟨1, N.length, body⟩) (hch : chB (T.sub false) N (defScope d.st) (locB (defScope d.st)) body (defBody d.st) = true)
    (hb : ∀ (kV doc pm : Value) (an : Option Addr) (cdv ct : Value) (us : List Value), us.length = [x].length → bindArgs (PySem.W.fnOf d.name d.qual (defArgs d.st) (defBody d.st) (defScope d.st) .none kV doc pm an cdv ct) ⟨us, []⟩ = pure ([x].zip us)) :
    PySem.W.WalkO q loose XP (hookL n fa fn (lams.map (·.1))).says l.row.toRowW dr [] (fun f vs => PySem.call f vs) := by
  refine _root_.LamX.walk_ofTsE (n := 63) (k := 4 * (kk + 1)) (x := x) (CX := fun w => L2.CX l.prog w) hn (by decide) hdf hr (fun w mg a h Y G hmg => ?_) fun w H s e s' ⟨_, _, _, _, _, _, _, _, _, _, _, _, z⟩ => z
  obtain ⟨K, c⟩ := Y
  have FA := F K mg h G c
  obtain ⟨fd, FD⟩ := fnD_of c.s i hi (by rw [hk]; rfl)
  have ea : He.fAd K d.at_ = a := by
    rw [hat]
    have e1 := He.glo_ok c.kin G (c.s.fact j hj)
    rw [hnm] at hmg
    rw [hmg] at e1
    cases e1
    rfl
  rw [ea] at FD
  have hk' : (d.kws.map fun q => (q.1, vOf q.2)) = [] := by rw [hk]; rfl
  unfold FnD at FD
  rw [hk'] at FD
  refine ⟨K, c.kin, fd, csOf lams K, spOf (gx K (tabsOf lams K)) (evCall Γ turns (kk + 1) fL), fun p hp => ?_, fun p hp => ?_, fun p hp => ?_, fun s u => ?_, fun H b ns hl _ hH hS => script_ok hS (main ns hl) fun p hp => ?_, fun base KB GB hTB => ?_⟩
  · obtain ⟨z, hz, rfl⟩ := List.mem_map.mp hp
    exact (c.lm z.1 (List.mem_map.mpr ⟨z, hz, rfl⟩)).yet
  · obtain ⟨z, hz, rfl⟩ := List.mem_map.mp hp
    exact (c.lm z.1 (List.mem_map.mpr ⟨z, hz, rfl⟩)).no
  · obtain ⟨z, hz, rfl⟩ := List.mem_map.mp hp
    exact PySem.W.codeHd_of_K c.kin (c.lm z.1 (List.mem_map.mpr ⟨z, hz, rfl⟩)).hd
  · exact FD.bindsA hb s [u] rfl
  · obtain ⟨z, hz, rfl⟩ := List.mem_map.mp hp
    exact _root_.LamX.TabS.nil (hH _ (List.mem_map.mpr ⟨z, hz, rfl⟩))
  · have lw := lw_all (T := T) (G := gx K (tabsOf lams K)) (Γ := Γ) (turns := turns) (P := l.prog) (wo := w) (K := K) (cs := csOf lams K) (mg := mg) (base := base) rfl FA hTB kk
    exact fn_okD FD S lw FA.lam hΓ hch
end BX
set_option Elab.async false
set_option linter.all false
set_option maxRecDepth 100000
set_option maxHeartbeats 2000000
/-! K08 -/
namespace BX
open PySem L2
open PyProof.Rows hiding St Binds
abbrev i_law_k08 : Nat := 84
def e_law_k08_1 : Ex := (.call i_l_box [(.var 2), (.var 3)] [])
def e_law_k08_2 : Ex := (.tup [(.ix (.var 7) (.cst (.int 0))), (.ix (.var 7) (.cst (.int 0)))])
def e_law_k08_3 : Ex := (.blt .tuple [(.lc e_law_k08_2 (.nm 7) (.seq (.var 6)) none [7])])
def e_law_k08_4 : Ex := (.call i_l_edges [(.var 4), (.var 10), (.var 8)] [])
def b_law_k08_1 : List Sm := [(.frz 4 (.ite (.or (.cmp .is (.var 11) (.cst (.non))) (.cmp .lt (.call i_l_rank [(.var 4), (.var 12)] []) (.call i_l_rank [(.var 4), (.var 11)] []))) [(.asg (.nm 11) (.var 12))] []))]
def b_law_k08_2 : List Sm := [(.asg (.nm 2) (.call i_l_bag [(.var 0), (.var 1)] [])), (.asg (.nm 3) (.bin .add (.cst (.int 1)) (.call i_l_take [(.var 2), (.cst (.int 4))] []))), (.own 4 (.lc e_law_k08_1 (.nm 5) (.rng (.bin .add (.cst (.int 4)) (.call i_l_take [(.var 2), (.cst (.int 7))] []))) none [5])), (.ite (.cmp .eq (.call i_l_take [(.var 2), (.cst (.int 5))] []) (.cst (.int 0))) [(.slO 4 (.cst (.int 1)) (.cst (.int 3)) (.lst [(.ix (.var 4) (.cst (.int 0))), (.ix (.var 4) (.cst (.int 0)))]))] []), (.ite (.cmp .eq (.call i_l_take [(.var 2), (.cst (.int 5))] []) (.cst (.int 0))) [(.frz 4 (.own 4 (.lc e_law_k08_3 (.nm 6) (.seq (.var 4)) none [6])))] []), (.asg (.nm 8) (.bin .add (.cst (.int 1)) (.call i_l_take [(.var 2), (.bin .fdiv (.blt .len [(.var 4)]) (.cst (.int 2)))] []))), (.frz 4 (.asg (.nm 9) (.lc e_law_k08_4 (.nm 10) (.rng (.var 3)) none [10]))), (.asg (.nm 10) (.lidx (.var 9) (.blt .min [(.var 9)]))), (.asg (.nm 11) (.cst (.non))), (.frz 4 (.for (.nm 12) (.seq (.call i_l_cuts [(.var 4), (.var 10), (.var 8)] [])) b_law_k08_1)), (.ite (.cmp .ne (.call i_split [(.blt .list [(.var 4)]), (.var 8)] []) (.tup [(.op1 .srt (.ix (.var 11) (.cst (.int 0)))), (.op1 .srt (.ix (.var 11) (.cst (.int 1))))])) [(.ret (.cst (.bl false)))] [])]
def fn_law_k08 : Fn := ⟨1, 13, [(.for (.nm 1) (.rng (.bin .add (.blt .min [(.blt .len [(.var 0)]), (.cst (.int 5))]) (.cst (.int 2)))) b_law_k08_2),
  (.ret (.cst (.bl true)))]⟩
def Γ : Tab := fun n => match n with
  | 0 => some fn_meets
  | 1 => some fn_common
  | 11 => some fn_cover
  | 17 => some fn_room
  | 18 => some fn_edge
  | 71 => some fn_orders
  | 72 => some fn_cuts
  | 73 => some fn_covers
  | 74 => some fn_edges
  | 75 => some fn_rank
  | 76 => some fn_split
  | 3 => some fn_l_bag
  | 4 => some fn_l_take
  | 5 => some fn_l_place
  | 6 => some fn_l_box
  | 14 => some fn_l_cover
  | 78 => some fn_l_orders
  | 79 => some fn_l_cuts
  | 80 => some fn_l_both
  | 81 => some fn_l_edges
  | 82 => some fn_l_room
  | 83 => some fn_l_rank
  | 84 => some fn_law_k08
  | _ => none
def nmT : Nat → Str := fun n => match n with
  | 0 => "meets"
  | 1 => "common"
  | 11 => "cover"
  | 17 => "room"
  | 18 => "edge"
  | 71 => "orders"
  | 72 => "cuts"
  | 73 => "covers"
  | 74 => "edges"
  | 75 => "rank"
  | 76 => "split"
  | 3 => "_law_bag"
  | 4 => "_law_take"
  | 5 => "_law_place"
  | 6 => "_law_box"
  | 14 => "_law_cover"
  | 78 => "_law_orders"
  | 79 => "_law_cuts"
  | 80 => "_law_both"
  | 81 => "_law_edges"
  | 82 => "_law_room"
  | 83 => "_law_rank"
  | 84 => "law"
  | _ => ""
def dvT : Nat → Nat → List D → Bool := fun f n dv => match f with
  | _ => dlB dv []
def kwT : Nat → Nat → List Str → List (Nat ⊕ D) → Bool := fun f n ks pm => match f with
  | _ => false
def conT : Str → D → Bool := fun x d => false
def mthT : Nat → Str → Str → Bool := fun f c m => false
def mkT : Nat → Str → Bool := fun f c => false
def fldT : Str → Str → Bool := fun c f => false
def T0 : Tb := { isF := fun n => [0, 1, 11, 17, 18, 71, 72, 73, 74, 75, 76, 3, 4, 5, 6, 14, 78, 79, 80, 81, 82, 83, 84].contains n, nm := nmT, dvB := dvT, conB := conT, kwB := kwT, mthB := mthT, mkB := mkT, fldB := fldT }
def T : Tb := { T0 with lam := fun N key sc body => chE T0 N key sc (fun _ => false) body }
theorem lam_ok : LamOk T := fun N key sc body h => h
def topS (i : Nat) : Stmt := PySem.Challenge.pw_boxgrove_k08_whole_splits_are_the_best_c.main.body.getD i (.Pass ⟨0, 0, 0, 0⟩)
theorem hdraw : HDraw Γ := ⟨rfl, rfl, rfl⟩
theorem hbox : HBox Γ := ⟨hdraw, rfl⟩
theorem hspl : HSpl Γ := ⟨rfl, ⟨rfl, rfl⟩, ⟨rfl, rfl⟩, rfl, rfl, rfl, rfl, rfl, rfl⟩
theorem hcut : HCut Γ := ⟨rfl, rfl, rfl, rfl, rfl, rfl, rfl⟩
section
variable {S : Sto} {b : Nat}
theorem three_ok {n w : Nat} {bs : List Bx} {v0 v1 v3 p5 p6 p7 p8 p9 p10 p11 p12 : Sl} (hb : ∀ y ∈ bs, OkB n y) (hl : bs.length = w) (h4 : 4 ≤ w) (h5 : w ≤ 1000) (bg : Bag S b) :
    ∃ (bs' : List Bx) (S' : Sto), evB (evCall Γ 1000 10) 1000 ((b_law_k08_2.drop 3).take 1) [v0, v1, .val (.ref b), v3, .own (.lst (bs.map dB)), p5, p6, p7, p8, p9, p10, p11, p12] S = .ok (.nx [v0, v1, .val (.ref b), v3, .own (.lst (bs'.map dB)), p5, p6, p7, p8, p9, p10, p11, p12]) S' ∧
      (∀ y ∈ bs', OkB n y) ∧ bs'.length = w ∧ Bag S' b := by
  obtain ⟨r, S1, e1, ⟨h1, h2⟩, g1, b1⟩ := take_ok hdraw (t := 1000) (k := 9) bg 5 (by omega)
  by_cases h0 : r = 0
  · have hb0 := bxAt_ok hb (show 0 < bs.length by omega)
    have ix0 : ∀ S, ixS S (.lst (bs.map dB)) (.int 0) = some (dB (bxAt bs 0)) := fun S => ix_bsL (i := 0) hb (show 0 < bs.length by omega)
    have li := line_ge
    have sp : slPut (bs.map dB) (.lst [dB (bxAt bs 0), dB (bxAt bs 0)]) (.int 1) (.int 3) = some ((bs.take 1 ++ [bxAt bs 0, bxAt bs 0] ++ bs.drop 3).map dB) := by
      simp only [slPut]
      rw [if_pos (by simp; omega)]
      simp
    refine ⟨bs.take 1 ++ [bxAt bs 0, bxAt bs 0] ++ bs.drop 3, S1, ?_, fun y hy => ?_, ?_, b1⟩
    · generalize (bs.take 1 ++ [bxAt bs 0, bxAt bs 0] ++ bs.drop 3).map dB = B at sp ⊢
      subst h0
      simp [b_law_k08_2, e1, ix0, sp]
    · rcases List.mem_append.mp hy with hy | hy
      · rcases List.mem_append.mp hy with hy | hy
        · exact hb y (List.mem_of_mem_take hy)
        · simp only [List.mem_cons, List.not_mem_nil, or_false, or_self] at hy
          subst hy
          exact hb0.2
      · exact hb y (List.mem_of_mem_drop hy)
    · simp
      omega
  · exact ⟨bs, S1, by simp [b_law_k08_2, e1, h0], hb, hl, b1⟩
def flatB (l : Bx) : Bx := l.map fun s => (s.1, s.1)
theorem flat_ok {n : Nat} {l : Bx} (h : OkB n l) : OkB n (flatB l) := by
  refine ⟨by unfold flatB; rw [List.length_map]; exact h.len, fun s hs => ?_⟩
  obtain ⟨u, hu, rfl⟩ := List.mem_map.mp hs
  have := h.s u hu
  exact ⟨this.lo, Int.le_refl _, Int.le_trans this.le this.hi⟩
theorem spots_ok {n w : Nat} {bs : List Bx} {v0 v1 v3 p5 p6 p7 p8 p9 p10 p11 p12 : Sl} (hb : ∀ y ∈ bs, OkB n y) (hn : n ≤ 1000) (hl : bs.length = w) (h5 : w ≤ 1000) (bg : Bag S b) :
    ∃ (bs' : List Bx) (S' : Sto), evB (evCall Γ 1000 10) 1000 ((b_law_k08_2.drop 4).take 1) [v0, v1, .val (.ref b), v3, .own (.lst (bs.map dB)), p5, p6, p7, p8, p9, p10, p11, p12] S = .ok (.nx [v0, v1, .val (.ref b), v3, .own (.lst (bs'.map dB)), p5, p6, p7, p8, p9, p10, p11, p12]) S' ∧
      (∀ y ∈ bs', OkB n y) ∧ bs'.length = w ∧ Bag S' b := by
  obtain ⟨r, S1, e1, ⟨h1, h2⟩, g1, b1⟩ := take_ok hdraw (t := 1000) (k := 9) bg 5 (by omega)
  by_cases h0 : r = 0
  · have e2 := lcL_map (F := lcF (evCall Γ 1000 10) e_law_k08_3 (.nm 6) none [6] [v0, v1, .val (.ref b), v3, .val (.lst (bs.map dB)), p5, p6, p7, p8, p9, p10, p11, p12]) (S := S1) (f := dB) (g := fun y => dB (flatB y)) (l := bs) (by
      intro y hy
      have e3 := lcL_map (F := lcF (evCall Γ 1000 10) e_law_k08_2 (.nm 7) none [7] [v0, v1, .val (.ref b), v3, .val (.lst (bs.map dB)), p5, .val (dB y), p7, p8, p9, p10, p11, p12]) (S := S1) (f := dS) (g := fun s => dS (s.1, s.1)) (l := y) (by
        intro s _
        simp [lcF, e_law_k08_2, dS])
      have em : (y.map fun s => dS (s.1, s.1)) = (flatB y).map dS := by unfold flatB; rw [List.map_map]; rfl
      have z := line_map (l := flatB y) (f := dS) (by rw [(flat_ok (hb y hy)).len]; omega)
      rw [em] at e3
      have tb : D.tup ((flatB y).map dS) = dB (flatB y) := rfl
      generalize flatB y = Y at *
      simp [lcF, e_law_k08_3, e3, lcR_ok z, tb])
    have em : (bs.map fun y => dB (flatB y)) = (bs.map flatB).map dB := by rw [List.map_map]; rfl
    have z := line_map (l := bs.map flatB) (f := dB) (by rw [List.length_map]; omega)
    rw [em] at e2
    refine ⟨bs.map flatB, S1, ?_, fun y hy => ?_, by rw [List.length_map]; exact hl, b1⟩
    · generalize (bs.map flatB).map dB = B at e2 z ⊢
      subst h0
      have sq : seqOf (.lst (bs.map dB)) = some (bs.map dB) := rfl
      generalize bs.map dB = A at e2 sq ⊢
      simp [b_law_k08_2, e1, sq, e2, lcR_ok z]
    · obtain ⟨u, hu, rfl⟩ := List.mem_map.mp hy
      exact flat_ok (hb u hu)
  · exact ⟨bs, S1, by simp [b_law_k08_2, e1, h0], hb, hl, b1⟩
theorem eqF_two (a c : List Int) : eqF (.tup [dI a, dI c]) (.tup [dI a, dI c]) = some true := by
  have ok : okD 60 (.tup [dI a, dI c]) = true := by
    simp [okD, okDs, okD_dI]
  rw [eqF_ok ok ok]
  simp [eqvD, eqvDs, eqv_dI]
theorem tail_ok {n : Nat} {bs : List Bx} {v0 v1 p5 p6 p7 p8 p9 p10 p11 p12 : Sl} (hb : ∀ y ∈ bs, OkB n y) (hn : n ≤ 1000) (hn1 : 1 ≤ n) (hl : bs.length ≤ 1000) (h4 : 4 ≤ bs.length) (bg : Bag S b) :
    ∃ q4 q8 q9 q10 q11 q12 S', evB (evCall Γ 1000 10) 1000 (b_law_k08_2.drop 5) [v0, v1, .val (.ref b), .val (.int n), .own (.lst (bs.map dB)), p5, p6, p7, p8, p9, p10, p11, p12] S = .ok (.nx [v0, v1, .val (.ref b), .val (.int n), q4, p5, p6, p7, q8, q9, q10, q11, q12]) S' := by
  obtain ⟨hf, ehf⟩ : ∃ hf : Nat, bs.length / 2 = hf := ⟨_, rfl⟩
  have dv : binF .fdiv (.int bs.length) (.int 2) = some (.int (hf : Int)) := by
    rw [fdiv_s (by omega)]
    congr 2
    omega
  obtain ⟨r, S1, e1, ⟨h1, h2⟩, g1, b1⟩ := take_ok hdraw (t := 1000) (k := 9) bg (hf : Int) (by omega)
  obtain ⟨m, hm⟩ : ∃ m : Nat, 1 + r = (m : Int) := ⟨(1 + r).toNat, by omega⟩
  have h2m : 2 * m ≤ bs.length := by omega
  have h1m : 1 ≤ m := by omega
  have es := lcL_map (F := lcF (evCall Γ 1000 10) e_law_k08_4 (.nm 10) none [10] [v0, v1, .val (.ref b), .val (.int n), .val (.lst (bs.map dB)), p5, p6, p7, .val (.int m), p9, p10, p11, p12]) (S := S1) (f := dN) (g := fun a => D.int (edgesM bs a m)) (l := List.range n) fun a ha => by
    have e := ledges_ok hcut (t := 1000) (k := 7) (S := S1) hb hn (List.mem_range.mp ha) hl h1m h2m
    have hd : D.lst (bs.map dB) = dL bs := rfl
    simp [lcF, e_law_k08_4, dN, hd, e]
  have rn : rng1F (.int n) = some ((List.range n).map dN) := by
    rw [rng1_ok (by omega)]
    simp [rngL, dN]
  have zl := line_map (l := List.range n) (f := fun a => D.int (edgesM bs a m)) (by simp; omega)
  obtain ⟨mn, i1, i2, hax⟩ := idx_ok (bs := bs) (n := n) (least := m) hn1
  have ec := lcuts_ok hcut (t := 1000) (k := 8) (S := S1) hb hax hl h2m
  have hne := cuts_ne (ax := axM bs n m) h2m
  have hok : ∀ c ∈ cutsM bs (axM bs n m) m, OkC bs.length m c := fun c hc => cuts_ok h2m hc
  obtain ⟨cc, hcc, oc, esp⟩ := split_run hspl (t := 1000) (k := 6) (S := S1) hb hn hn1 hl (least := m) h1m h2m
  unfold cutOf at hcc
  cases hc : cutsM bs (axM bs n m) m with
  | nil => exact absurd hc hne
  | cons c cs =>
    rw [hc] at hok ec hcc
    simp only at hcc
    let P : Nat → Env → Sto → Prop := fun i ε S' => ∃ (bb : Cut) (p12 : Sl), bestM bs c (cs.take i) = bb ∧ OkC bs.length m bb ∧ ε = [v0, v1, .val (.ref b), .val (.int n), .val (dL bs), p5, p6, p7, .val (.int m), .val (.lst ((List.range n).map fun a => D.int (edgesM bs a m))), .val (.int (axM bs n m)), .val (dCut bb), p12] ∧ S' = S1
    obtain ⟨ε', S2, e2, bb, q12, hbst, okb, rfl, hS2⟩ := forL_inv (F := forF (evCall Γ 1000 10) 1000 (.nm 12) b_law_k08_1) P (ds := cs.map dCut)
      (by
        rintro i d ε S' hd ⟨bb, p12, hbst, okb, rfl, rfl⟩
        rw [List.getElem?_map] at hd
        cases ey : cs[i]? with
        | none => rw [ey] at hd; cases hd
        | some y =>
          rw [ey] at hd
          cases hd
          have oky := hok y (List.mem_cons_of_mem _ (List.mem_of_getElem? ey))
          have et : cs.take (i + 1) = cs.take i ++ [y] := by rw [List.take_add_one, ey]; rfl
          have ef : bestM bs c (cs.take (i + 1)) = if rankM bs y < rankM bs bb then y else bb := by
            rw [et, ← hbst]
            unfold bestM
            rw [List.foldl_append]
            rfl
          have ry := lrank_ok hcut (t := 1000) (k := 7) (S := S') hb hn hl oky h1m
          have rb := lrank_ok hcut (t := 1000) (k := 7) (S := S') hb hn hl okb h1m
          have cm : cmpF .lt (tI (rankM bs y)) (tI (rankM bs bb)) = some (decide (rankM bs y < rankM bs bb)) := cmp_ltI _ _
          have nn : isF (dCut bb) .non = some false := rfl
          by_cases hlt : rankM bs y < rankM bs bb
          · rw [if_pos hlt] at ef
            rw [decide_eq_true hlt] at cm
            exact ⟨_, _, by simp [-is_non, forF, b_law_k08_1, nn, ry, rb, cm], y, .val (dCut y), ef, oky, rfl, rfl⟩
          · rw [if_neg hlt] at ef
            rw [decide_eq_false hlt] at cm
            exact ⟨_, _, by simp [-is_non, forF, b_law_k08_1, nn, ry, rb, cm], bb, .val (dCut y), ef, okb, rfl, rfl⟩)
      (ε := [v0, v1, .val (.ref b), .val (.int n), .val (dL bs), p5, p6, p7, .val (.int m), .val (.lst ((List.range n).map fun a => D.int (edgesM bs a m))), .val (.int (axM bs n m)), .val (dCut c), .val (dCut c)]) (S := S1) ⟨c, _, rfl, hok c (List.mem_cons_self ..), rfl, rfl⟩
    rw [List.length_map, List.take_length] at hbst
    rw [hS2] at e2
    obtain rfl : bb = cc := by rw [← hbst, ← hcc]
    have f1 : forF (evCall Γ 1000 10) 1000 (.nm 12) b_law_k08_1 (dCut c) [v0, v1, .val (.ref b), .val (.int n), .val (dL bs), p5, p6, p7, .val (.int m), .val (.lst ((List.range n).map fun a => D.int (edgesM bs a m))), .val (.int (axM bs n m)), .val .non, p12] S1 = .ok (.nx [v0, v1, .val (.ref b), .val (.int n), .val (dL bs), p5, p6, p7, .val (.int m), .val (.lst ((List.range n).map fun a => D.int (edgesM bs a m))), .val (.int (axM bs n m)), .val (dCut c), .val (dCut c)]) S1 := by
      simp [forF, b_law_k08_1]
    have hd : D.lst (bs.map dB) = dL bs := rfl
    have hln : bltF .len [.lst (bs.map dB)] = some (.int bs.length) := by simp
    have ix0 : ixS S1 (dCut bb) (.int 0) = some (dNs bb.1) := by unfold dCut; rw [ixS_tup]; simp
    have ix1 : ixS S1 (dCut bb) (.int 1) = some (dNs bb.2) := by unfold dCut; rw [ixS_tup]; simp
    have g1 := srt_N (l := bb.1)
    have g2 := srt_N (l := bb.2)
    have dl : ∀ l : List Int, D.lst (l.map .int) = dI l := fun _ => rfl
    rw [dl] at g1 g2
    rw [dl, dl] at esp
    have eq2 := eqF_two (sortN bb.1) (sortN bb.2)
    have ls : bltF .list [dL bs] = some (dL bs) := rfl
    have lf : lstOf (.lst ((List.range n).map fun a => D.int (edgesM bs a m))) = some ((List.range n).map fun a => D.int (edgesM bs a m)) := rfl
    rw [hd] at es hln ⊢
    simp only [List.map_cons] at ec
    have fl : forL (forF (evCall Γ 1000 10) 1000 (.nm 12) b_law_k08_1) (dCut c :: cs.map dCut) [v0, v1, .val (.ref b), .val (.int n), .val (dL bs), p5, p6, p7, .val (.int m), .val (.lst ((List.range n).map fun a => D.int (edgesM bs a m))), .val (.int (axM bs n m)), .val .non, p12] S1 = .ok (.nx [v0, v1, .val (.ref b), .val (.int n), .val (dL bs), p5, p6, p7, .val (.int m), .val (.lst ((List.range n).map fun a => D.int (edgesM bs a m))), .val (.int (axM bs n m)), .val (dCut bb), q12]) S1 := by
      rw [forL_cons, f1, fork_nx]
      exact e2
    clear e2 f1
    generalize dCut c :: cs.map dCut = CS at fl ec
    have sqC : seqOf (.lst CS) = some CS := rfl
    generalize ((List.range n).map fun a => D.int (edgesM bs a m)) = E at *
    generalize (List.range n).map dN = RN at *
    generalize dI (sortN bb.1) = s1 at *
    generalize dI (sortN bb.2) = s2 at *
    refine ⟨.val (dL bs), .val (.int m), .val (.lst E), .val (.int (axM bs n m)), .val (dCut bb), q12, S1, ?_⟩
    simp [-fdiv_s, b_law_k08_2, hln, dv, e1, hm, rn, es, lcR_ok zl, i1, i2, lf, ec, sqC, fl, ls, esp, ix0, ix1, g1, g2, eq2]
end
theorem main_law : ∀ ns : List Int, ns.length ≤ 63 → ∃ S', evCall Γ 1000 11 i_law_k08 [.scr (ns.map .int)] [] = .ok (.bl true) S' := by
  intro ns hns
  rw [call_unf (show Γ i_law_k08 = some fn_law_k08 from rfl) rfl]
  obtain ⟨n, hn, hn2⟩ : ∃ n : Nat, (if 5 < (ns.length : Int) then 5 else (ns.length : Int)) + 2 = (n : Int) ∧ n ≤ 14 := by
    split
    · exact ⟨7, rfl, by omega⟩
    · exact ⟨ns.length + 2, by omega, by omega⟩
  obtain ⟨ps, S2, e2, _⟩ := law_loop (F := forF (evCall Γ 1000 10) 1000 (.nm 1) b_law_k08_2) (n := n) (m := 12) (x := .val (.scr (ns.map .int))) (by
    intro i hi ps S hps
    match ps, hps with
    | [p1, p2, p3, p4, p5, p6, p7, p8, p9, p10, p11, p12], _ =>
      obtain ⟨x, y, eb⟩ := bag_ok hdraw (t := 1000) (k := 9) (S := S) ns (i : Int) (by omega)
      obtain ⟨r, S1, e1, ⟨h1, h2⟩, g1, b1⟩ := take_ok hdraw (t := 1000) (k := 9) (bag_new (S := S) (x := x) (y := y)) 4 (by omega)
      obtain ⟨m, hm⟩ : ∃ m : Nat, 1 + r = (m : Int) := ⟨(1 + r).toNat, by omega⟩
      obtain ⟨r2, S2, e2, ⟨h3, h4⟩, g2, b2⟩ := take_ok hdraw (t := 1000) (k := 9) b1 7 (by omega)
      obtain ⟨w, hw⟩ : ∃ w : Nat, 4 + r2 = (w : Int) := ⟨(4 + r2).toNat, by omega⟩
      obtain ⟨bs, S3, e3, hbl, hbo, g3, b3⟩ := lc_draw (F := lcF (evCall Γ 1000 10) e_law_k08_1 (.nm 5) none [5] [.val (.scr (ns.map .int)), .val (.int i), .val (.ref S.length), .val (.int m), p4, p5, p6, p7, p8, p9, p10, p11, p12]) (f := dB) (Ok := OkB m) (b := S.length)
        (by
          intro d S' hb
          obtain ⟨bx, S4, e4, o4, g4, b4⟩ := box_ok hbox (t := 1000) (k := 7) hb m (by omega)
          exact ⟨bx, S4, by simp [lcF, e_law_k08_1, e4], o4, g4, b4⟩) b2 (rngL 0 w)
      rw [rng_len] at hbl
      have hrw : rng1F (.int w) = some (rngL 0 w) := rng1_ok (by omega)
      have cutS : forF (evCall Γ 1000 10) 1000 (.nm 1) b_law_k08_2 (.int i) [.val (.scr (ns.map .int)), p1, p2, p3, p4, p5, p6, p7, p8, p9, p10, p11, p12] S
          = thn (β := Unit) (evB (evCall Γ 1000 10) 1000 (b_law_k08_2.take 3) [.val (.scr (ns.map .int)), .val (.int i), p2, p3, p4, p5, p6, p7, p8, p9, p10, p11, p12] S) fun ε' S' => thn (β := Unit) (evB (evCall Γ 1000 10) 1000 ((b_law_k08_2.drop 3).take 1) ε' S') fun ε' S' => thn (β := Unit) (evB (evCall Γ 1000 10) 1000 ((b_law_k08_2.drop 4).take 1) ε' S') fun ε' S' => evB (evCall Γ 1000 10) 1000 (b_law_k08_2.drop 5) ε' S' := by
        have h5 : ∀ ε S, evB (evCall Γ 1000 10) 1000 (b_law_k08_2.drop 4) ε S = thn (β := Unit) (evB (evCall Γ 1000 10) 1000 ((b_law_k08_2.drop 4).take 1) ε S) fun ε' S' => evB (evCall Γ 1000 10) 1000 (b_law_k08_2.drop 5) ε' S' := fun ε S => evB_cut 1
        have h6 : ∀ ε S, evB (evCall Γ 1000 10) 1000 (b_law_k08_2.drop 3) ε S = thn (β := Unit) (evB (evCall Γ 1000 10) 1000 ((b_law_k08_2.drop 3).take 1) ε S) fun ε' S' => evB (evCall Γ 1000 10) 1000 (b_law_k08_2.drop 4) ε' S' := fun ε S => evB_cut 1
        simp only [← h5, ← h6]
        rw [← evB_cut]
        simp [forF]
      have hx : evB (evCall Γ 1000 10) 1000 (b_law_k08_2.take 3) [.val (.scr (ns.map .int)), .val (.int i), p2, p3, p4, p5, p6, p7, p8, p9, p10, p11, p12] S = .ok (.nx [.val (.scr (ns.map .int)), .val (.int i), .val (.ref S.length), .val (.int m), .own (.lst (bs.map dB)), p5, p6, p7, p8, p9, p10, p11, p12]) S3 := by
        have z := line_map (l := bs) (f := dB) (by omega)
        simp [b_law_k08_2, eb, e1, hm, e2, hw, hrw, e3, lcR_ok z]
      obtain ⟨bs2, S4, e4, ho2, hl2, b4⟩ := three_ok (v0 := .val (.scr (ns.map .int))) (v1 := .val (.int i)) (v3 := .val (.int m)) (p5 := p5) (p6 := p6) (p7 := p7) (p8 := p8) (p9 := p9) (p10 := p10) (p11 := p11) (p12 := p12) hbo hbl (by omega) (by omega) b3
      obtain ⟨bs3, S5, e5, ho3, hl3, b5⟩ := spots_ok (v0 := .val (.scr (ns.map .int))) (v1 := .val (.int i)) (v3 := .val (.int m)) (p5 := p5) (p6 := p6) (p7 := p7) (p8 := p8) (p9 := p9) (p10 := p10) (p11 := p11) (p12 := p12) ho2 (by omega) hl2 (by omega) b4
      obtain ⟨q4, q8, q9, q10, q11, q12, S6, et⟩ := tail_ok (v0 := .val (.scr (ns.map .int))) (v1 := .val (.int i)) (p5 := p5) (p6 := p6) (p7 := p7) (p8 := p8) (p9 := p9) (p10 := p10) (p11 := p11) (p12 := p12) ho3 (by omega) (by omega) (by omega) (by omega) b5
      refine ⟨[.val (.int i), .val (.ref S.length), .val (.int m), q4, p5, p6, p7, q8, q9, q10, q11, q12], S6, ?_, rfl⟩
      rw [cutS, hx, thn_nx, e4, thn_nx, e5, thn_nx]
      exact et) (ps := [.un, .un, .un, .un, .un, .un, .un, .un, .un, .un, .un, .un]) (S := []) rfl
  refine ⟨S2, ?_⟩
  have hr : rng1F (.int n) = some (rngL 0 n) := rng1_ok (by omega)
  simp [fn_law_k08, startE, hn, hr, e2]
def d_meets : Df := ⟨("meets", none), "meets", "meets", (topS 1), []⟩
theorem sc_meets : FnScope ["one", "other", "a", "b"] ["one", "other"] (defScope d_meets.st) := ⟨rfl, rfl, rfl, by decide +kernel, rfl, by decide +kernel, by decide +kernel⟩
theorem ch_meets : chB (T.sub false) ["one", "other", "a", "b"] (defScope d_meets.st) (locB (defScope d_meets.st)) fn_meets.body (defBody d_meets.st) = true := by decide +kernel
theorem bd_meets : ∀ (kV doc pm : Value) (an : Option Addr) (cdv ct : Value) (us : List Value), us.length = (["one", "other"] : List Str).length → bindArgs (PySem.W.fnOf d_meets.name d_meets.qual (defArgs d_meets.st) (defBody d_meets.st) (defScope d_meets.st) .none kV doc pm an cdv ct) ⟨us, []⟩ = pure ((["one", "other"] : List Str).zip us) := fun _ _ _ _ _ _ us h => match us, h with | [_, _], _ => rfl
def d_common : Df := ⟨("common", none), "common", "common", (topS 2), []⟩
theorem sc_common : FnScope ["one", "other", "a", "b"] ["one", "other"] (defScope d_common.st) := ⟨rfl, rfl, rfl, by decide +kernel, rfl, by decide +kernel, by decide +kernel⟩
theorem ch_common : chB (T.sub false) ["one", "other", "a", "b"] (defScope d_common.st) (locB (defScope d_common.st)) fn_common.body (defBody d_common.st) = true := by decide +kernel
theorem bd_common : ∀ (kV doc pm : Value) (an : Option Addr) (cdv ct : Value) (us : List Value), us.length = (["one", "other"] : List Str).length → bindArgs (PySem.W.fnOf d_common.name d_common.qual (defArgs d_common.st) (defBody d_common.st) (defScope d_common.st) .none kV doc pm an cdv ct) ⟨us, []⟩ = pure ((["one", "other"] : List Str).zip us) := fun _ _ _ _ _ _ us h => match us, h with | [_, _], _ => rfl
def d_cover : Df := ⟨("cover", none), "cover", "cover", (topS 3), []⟩
theorem sc_cover : FnScope ["boxes", "first", "rest", "found", "box", "a", "b"] ["boxes"] (defScope d_cover.st) := ⟨rfl, rfl, rfl, by decide +kernel, rfl, by decide +kernel, by decide +kernel⟩
theorem ch_cover : chB (T.sub false) ["boxes", "first", "rest", "found", "box", "a", "b"] (defScope d_cover.st) (locB (defScope d_cover.st)) fn_cover.body (defBody d_cover.st) = true := by decide +kernel
theorem bd_cover : ∀ (kV doc pm : Value) (an : Option Addr) (cdv ct : Value) (us : List Value), us.length = (["boxes"] : List Str).length → bindArgs (PySem.W.fnOf d_cover.name d_cover.qual (defArgs d_cover.st) (defBody d_cover.st) (defScope d_cover.st) .none kV doc pm an cdv ct) ⟨us, []⟩ = pure ((["boxes"] : List Str).zip us) := fun _ _ _ _ _ _ us h => match us, h with | [_], _ => rfl
def d_room : Df := ⟨("room", none), "room", "room", (topS 4), []⟩
theorem sc_room : FnScope ["box", "found", "low", "high"] ["box"] (defScope d_room.st) := ⟨rfl, rfl, rfl, by decide +kernel, rfl, by decide +kernel, by decide +kernel⟩
theorem ch_room : chB (T.sub false) ["box", "found", "low", "high"] (defScope d_room.st) (locB (defScope d_room.st)) fn_room.body (defBody d_room.st) = true := by decide +kernel
theorem bd_room : ∀ (kV doc pm : Value) (an : Option Addr) (cdv ct : Value) (us : List Value), us.length = (["box"] : List Str).length → bindArgs (PySem.W.fnOf d_room.name d_room.qual (defArgs d_room.st) (defBody d_room.st) (defScope d_room.st) .none kV doc pm an cdv ct) ⟨us, []⟩ = pure ((["box"] : List Str).zip us) := fun _ _ _ _ _ _ us h => match us, h with | [_], _ => rfl
def d_edge : Df := ⟨("edge", none), "edge", "edge", (topS 5), []⟩
theorem sc_edge : FnScope ["box", "low", "high"] ["box"] (defScope d_edge.st) := ⟨rfl, rfl, rfl, by decide +kernel, rfl, by decide +kernel, by decide +kernel⟩
theorem ch_edge : chB (T.sub false) ["box", "low", "high"] (defScope d_edge.st) (locB (defScope d_edge.st)) fn_edge.body (defBody d_edge.st) = true := by decide +kernel
theorem bd_edge : ∀ (kV doc pm : Value) (an : Option Addr) (cdv ct : Value) (us : List Value), us.length = (["box"] : List Str).length → bindArgs (PySem.W.fnOf d_edge.name d_edge.qual (defArgs d_edge.st) (defBody d_edge.st) (defScope d_edge.st) .none kV doc pm an cdv ct) ⟨us, []⟩ = pure ((["box"] : List Str).zip us) := fun _ _ _ _ _ _ us h => match us, h with | [_], _ => rfl
def d_orders : Df := ⟨("orders", none), "orders", "orders", (topS 7), []⟩
theorem sc_orders : FnScope ["boxes", "axis", "places", "by_low", "at", "by_high"] ["boxes", "axis"] (defScope d_orders.st) := ⟨rfl, rfl, rfl, by decide +kernel, rfl, by decide +kernel, by decide +kernel⟩
theorem ch_orders : chB (T.sub true) ["boxes", "axis", "places", "by_low", "at", "by_high"] (defScope d_orders.st) (locB (defScope d_orders.st)) fn_orders.body (defBody d_orders.st) = true := by decide +kernel
theorem bd_orders : ∀ (kV doc pm : Value) (an : Option Addr) (cdv ct : Value) (us : List Value), us.length = (["boxes", "axis"] : List Str).length → bindArgs (PySem.W.fnOf d_orders.name d_orders.qual (defArgs d_orders.st) (defBody d_orders.st) (defScope d_orders.st) .none kV doc pm an cdv ct) ⟨us, []⟩ = pure ((["boxes", "axis"] : List Str).zip us) := fun _ _ _ _ _ _ us h => match us, h with | [_, _], _ => rfl
def d_cuts : Df := ⟨("cuts", none), "cuts", "cuts", (topS 8), []⟩
theorem sc_cuts : FnScope ["boxes", "axis", "least", "ends", "order", "end"] ["boxes", "axis", "least"] (defScope d_cuts.st) := ⟨rfl, rfl, rfl, by decide +kernel, rfl, by decide +kernel, by decide +kernel⟩
theorem ch_cuts : chB (T.sub false) ["boxes", "axis", "least", "ends", "order", "end"] (defScope d_cuts.st) (locB (defScope d_cuts.st)) fn_cuts.body (defBody d_cuts.st) = true := by decide +kernel
theorem bd_cuts : ∀ (kV doc pm : Value) (an : Option Addr) (cdv ct : Value) (us : List Value), us.length = (["boxes", "axis", "least"] : List Str).length → bindArgs (PySem.W.fnOf d_cuts.name d_cuts.qual (defArgs d_cuts.st) (defBody d_cuts.st) (defScope d_cuts.st) .none kV doc pm an cdv ct) ⟨us, []⟩ = pure ((["boxes", "axis", "least"] : List Str).zip us) := fun _ _ _ _ _ _ us h => match us, h with | [_, _, _], _ => rfl
def d_covers : Df := ⟨("covers", none), "covers", "covers", (topS 9), []⟩
theorem sc_covers : FnScope ["boxes", "cut", "half", "at"] ["boxes", "cut"] (defScope d_covers.st) := ⟨rfl, rfl, rfl, by decide +kernel, rfl, by decide +kernel, by decide +kernel⟩
theorem ch_covers : chB (T.sub false) ["boxes", "cut", "half", "at"] (defScope d_covers.st) (locB (defScope d_covers.st)) fn_covers.body (defBody d_covers.st) = true := by decide +kernel
theorem bd_covers : ∀ (kV doc pm : Value) (an : Option Addr) (cdv ct : Value) (us : List Value), us.length = (["boxes", "cut"] : List Str).length → bindArgs (PySem.W.fnOf d_covers.name d_covers.qual (defArgs d_covers.st) (defBody d_covers.st) (defScope d_covers.st) .none kV doc pm an cdv ct) ⟨us, []⟩ = pure ((["boxes", "cut"] : List Str).zip us) := fun _ _ _ _ _ _ us h => match us, h with | [_, _], _ => rfl
def d_edges : Df := ⟨("edges", none), "edges", "edges", (topS 10), []⟩
theorem sc_edges : FnScope ["boxes", "axis", "least", "cut", "one"] ["boxes", "axis", "least"] (defScope d_edges.st) := ⟨rfl, rfl, rfl, by decide +kernel, rfl, by decide +kernel, by decide +kernel⟩
theorem ch_edges : chB (T.sub false) ["boxes", "axis", "least", "cut", "one"] (defScope d_edges.st) (locB (defScope d_edges.st)) fn_edges.body (defBody d_edges.st) = true := by decide +kernel
theorem bd_edges : ∀ (kV doc pm : Value) (an : Option Addr) (cdv ct : Value) (us : List Value), us.length = (["boxes", "axis", "least"] : List Str).length → bindArgs (PySem.W.fnOf d_edges.name d_edges.qual (defArgs d_edges.st) (defBody d_edges.st) (defScope d_edges.st) .none kV doc pm an cdv ct) ⟨us, []⟩ = pure ((["boxes", "axis", "least"] : List Str).zip us) := fun _ _ _ _ _ _ us h => match us, h with | [_, _, _], _ => rfl
def d_rank : Df := ⟨("rank", none), "rank", "rank", (topS 11), []⟩
theorem sc_rank : FnScope ["boxes", "cut", "one", "other", "both", "shared"] ["boxes", "cut"] (defScope d_rank.st) := ⟨rfl, rfl, rfl, by decide +kernel, rfl, by decide +kernel, by decide +kernel⟩
theorem ch_rank : chB (T.sub false) ["boxes", "cut", "one", "other", "both", "shared"] (defScope d_rank.st) (locB (defScope d_rank.st)) fn_rank.body (defBody d_rank.st) = true := by decide +kernel
theorem bd_rank : ∀ (kV doc pm : Value) (an : Option Addr) (cdv ct : Value) (us : List Value), us.length = (["boxes", "cut"] : List Str).length → bindArgs (PySem.W.fnOf d_rank.name d_rank.qual (defArgs d_rank.st) (defBody d_rank.st) (defScope d_rank.st) .none kV doc pm an cdv ct) ⟨us, []⟩ = pure ((["boxes", "cut"] : List Str).zip us) := fun _ _ _ _ _ _ us h => match us, h with | [_, _], _ => rfl
def d_split : Df := ⟨("split", none), "split", "split", (topS 12), []⟩
theorem sc_split : FnScope ["boxes", "least", "axes", "sums", "axis", "at", "best", "rest", "least_rank", "cut", "here"] ["boxes", "least"] (defScope d_split.st) := ⟨rfl, rfl, rfl, by decide +kernel, rfl, by decide +kernel, by decide +kernel⟩
theorem ch_split : chB (T.sub true) ["boxes", "least", "axes", "sums", "axis", "at", "best", "rest", "least_rank", "cut", "here"] (defScope d_split.st) (locB (defScope d_split.st)) fn_split.body (defBody d_split.st) = true := by decide +kernel
theorem bd_split : ∀ (kV doc pm : Value) (an : Option Addr) (cdv ct : Value) (us : List Value), us.length = (["boxes", "least"] : List Str).length → bindArgs (PySem.W.fnOf d_split.name d_split.qual (defArgs d_split.st) (defBody d_split.st) (defScope d_split.st) .none kV doc pm an cdv ct) ⟨us, []⟩ = pure ((["boxes", "least"] : List Str).zip us) := fun _ _ _ _ _ _ us h => match us, h with | [_, _], _ => rfl
def d_l_bag : Df := ⟨("_law_bag", none), "_law_bag", "_law_bag", (topS 14), []⟩
theorem sc_l_bag : FnScope ["_law_script", "_law_k", "_law_cell", "_law_seed"] ["_law_script", "_law_k"] (defScope d_l_bag.st) := ⟨rfl, rfl, rfl, by decide +kernel, rfl, by decide +kernel, by decide +kernel⟩
theorem ch_l_bag : chB (T.sub false) ["_law_script", "_law_k", "_law_cell", "_law_seed"] (defScope d_l_bag.st) (locB (defScope d_l_bag.st)) fn_l_bag.body (defBody d_l_bag.st) = true := by decide +kernel
theorem bd_l_bag : ∀ (kV doc pm : Value) (an : Option Addr) (cdv ct : Value) (us : List Value), us.length = (["_law_script", "_law_k"] : List Str).length → bindArgs (PySem.W.fnOf d_l_bag.name d_l_bag.qual (defArgs d_l_bag.st) (defBody d_l_bag.st) (defScope d_l_bag.st) .none kV doc pm an cdv ct) ⟨us, []⟩ = pure ((["_law_script", "_law_k"] : List Str).zip us) := fun _ _ _ _ _ _ us h => match us, h with | [_, _], _ => rfl
def d_l_take : Df := ⟨("_law_take", none), "_law_take", "_law_take", (topS 15), []⟩
theorem sc_l_take : FnScope ["_law_bag_here", "_law_many", "_law_found"] ["_law_bag_here", "_law_many"] (defScope d_l_take.st) := ⟨rfl, rfl, rfl, by decide +kernel, rfl, by decide +kernel, by decide +kernel⟩
theorem ch_l_take : chB (T.sub false) ["_law_bag_here", "_law_many", "_law_found"] (defScope d_l_take.st) (locB (defScope d_l_take.st)) fn_l_take.body (defBody d_l_take.st) = true := by decide +kernel
theorem bd_l_take : ∀ (kV doc pm : Value) (an : Option Addr) (cdv ct : Value) (us : List Value), us.length = (["_law_bag_here", "_law_many"] : List Str).length → bindArgs (PySem.W.fnOf d_l_take.name d_l_take.qual (defArgs d_l_take.st) (defBody d_l_take.st) (defScope d_l_take.st) .none kV doc pm an cdv ct) ⟨us, []⟩ = pure ((["_law_bag_here", "_law_many"] : List Str).zip us) := fun _ _ _ _ _ _ us h => match us, h with | [_, _], _ => rfl
def d_l_place : Df := ⟨("_law_place", none), "_law_place", "_law_place", (topS 16), []⟩
theorem sc_l_place : FnScope ["_law_bag_here", "_law_turn", "_law_found", "_law_part"] ["_law_bag_here"] (defScope d_l_place.st) := ⟨rfl, rfl, rfl, by decide +kernel, rfl, by decide +kernel, by decide +kernel⟩
theorem ch_l_place : chB (T.sub false) ["_law_bag_here", "_law_turn", "_law_found", "_law_part"] (defScope d_l_place.st) (locB (defScope d_l_place.st)) fn_l_place.body (defBody d_l_place.st) = true := by decide +kernel
theorem bd_l_place : ∀ (kV doc pm : Value) (an : Option Addr) (cdv ct : Value) (us : List Value), us.length = (["_law_bag_here"] : List Str).length → bindArgs (PySem.W.fnOf d_l_place.name d_l_place.qual (defArgs d_l_place.st) (defBody d_l_place.st) (defScope d_l_place.st) .none kV doc pm an cdv ct) ⟨us, []⟩ = pure ((["_law_bag_here"] : List Str).zip us) := fun _ _ _ _ _ _ us h => match us, h with | [_], _ => rfl
def d_l_box : Df := ⟨("_law_box", none), "_law_box", "_law_box", (topS 17), []⟩
theorem sc_l_box : FnScope ["_law_bag_here", "_law_axes", "_law_found", "_law_at", "_law_one", "_law_other"] ["_law_bag_here", "_law_axes"] (defScope d_l_box.st) := ⟨rfl, rfl, rfl, by decide +kernel, rfl, by decide +kernel, by decide +kernel⟩
theorem ch_l_box : chB (T.sub false) ["_law_bag_here", "_law_axes", "_law_found", "_law_at", "_law_one", "_law_other"] (defScope d_l_box.st) (locB (defScope d_l_box.st)) fn_l_box.body (defBody d_l_box.st) = true := by decide +kernel
theorem bd_l_box : ∀ (kV doc pm : Value) (an : Option Addr) (cdv ct : Value) (us : List Value), us.length = (["_law_bag_here", "_law_axes"] : List Str).length → bindArgs (PySem.W.fnOf d_l_box.name d_l_box.qual (defArgs d_l_box.st) (defBody d_l_box.st) (defScope d_l_box.st) .none kV doc pm an cdv ct) ⟨us, []⟩ = pure ((["_law_bag_here", "_law_axes"] : List Str).zip us) := fun _ _ _ _ _ _ us h => match us, h with | [_, _], _ => rfl
def d_l_cover : Df := ⟨("_law_cover", none), "_law_cover", "_law_cover", (topS 21), []⟩
theorem sc_l_cover : FnScope ["_law_boxes", "_law_found", "_law_at", "_law_one"] ["_law_boxes"] (defScope d_l_cover.st) := ⟨rfl, rfl, rfl, by decide +kernel, rfl, by decide +kernel, by decide +kernel⟩
theorem ch_l_cover : chB (T.sub false) ["_law_boxes", "_law_found", "_law_at", "_law_one"] (defScope d_l_cover.st) (locB (defScope d_l_cover.st)) fn_l_cover.body (defBody d_l_cover.st) = true := by decide +kernel
theorem bd_l_cover : ∀ (kV doc pm : Value) (an : Option Addr) (cdv ct : Value) (us : List Value), us.length = (["_law_boxes"] : List Str).length → bindArgs (PySem.W.fnOf d_l_cover.name d_l_cover.qual (defArgs d_l_cover.st) (defBody d_l_cover.st) (defScope d_l_cover.st) .none kV doc pm an cdv ct) ⟨us, []⟩ = pure ((["_law_boxes"] : List Str).zip us) := fun _ _ _ _ _ _ us h => match us, h with | [_], _ => rfl
def d_l_orders : Df := ⟨("_law_orders", none), "_law_orders", "_law_orders", (topS 22), []⟩
theorem sc_l_orders : FnScope ["_law_boxes", "_law_axis", "_law_rows", "_law_at", "_law_turned", "_law_low", "_law_high", "_law_row"] ["_law_boxes", "_law_axis"] (defScope d_l_orders.st) := ⟨rfl, rfl, rfl, by decide +kernel, rfl, by decide +kernel, by decide +kernel⟩
theorem ch_l_orders : chB (T.sub false) ["_law_boxes", "_law_axis", "_law_rows", "_law_at", "_law_turned", "_law_low", "_law_high", "_law_row"] (defScope d_l_orders.st) (locB (defScope d_l_orders.st)) fn_l_orders.body (defBody d_l_orders.st) = true := by decide +kernel
theorem bd_l_orders : ∀ (kV doc pm : Value) (an : Option Addr) (cdv ct : Value) (us : List Value), us.length = (["_law_boxes", "_law_axis"] : List Str).length → bindArgs (PySem.W.fnOf d_l_orders.name d_l_orders.qual (defArgs d_l_orders.st) (defBody d_l_orders.st) (defScope d_l_orders.st) .none kV doc pm an cdv ct) ⟨us, []⟩ = pure ((["_law_boxes", "_law_axis"] : List Str).zip us) := fun _ _ _ _ _ _ us h => match us, h with | [_, _], _ => rfl
def d_l_cuts : Df := ⟨("_law_cuts", none), "_law_cuts", "_law_cuts", (topS 23), []⟩
theorem sc_l_cuts : FnScope ["_law_boxes", "_law_axis", "_law_least", "_law_found", "_law_order", "_law_end"] ["_law_boxes", "_law_axis", "_law_least"] (defScope d_l_cuts.st) := ⟨rfl, rfl, rfl, by decide +kernel, rfl, by decide +kernel, by decide +kernel⟩
theorem ch_l_cuts : chB (T.sub false) ["_law_boxes", "_law_axis", "_law_least", "_law_found", "_law_order", "_law_end"] (defScope d_l_cuts.st) (locB (defScope d_l_cuts.st)) fn_l_cuts.body (defBody d_l_cuts.st) = true := by decide +kernel
theorem bd_l_cuts : ∀ (kV doc pm : Value) (an : Option Addr) (cdv ct : Value) (us : List Value), us.length = (["_law_boxes", "_law_axis", "_law_least"] : List Str).length → bindArgs (PySem.W.fnOf d_l_cuts.name d_l_cuts.qual (defArgs d_l_cuts.st) (defBody d_l_cuts.st) (defScope d_l_cuts.st) .none kV doc pm an cdv ct) ⟨us, []⟩ = pure ((["_law_boxes", "_law_axis", "_law_least"] : List Str).zip us) := fun _ _ _ _ _ _ us h => match us, h with | [_, _, _], _ => rfl
def d_l_both : Df := ⟨("_law_both", none), "_law_both", "_law_both", (topS 24), []⟩
theorem sc_l_both : FnScope ["_law_boxes", "_law_cut", "_law_half", "_law_at"] ["_law_boxes", "_law_cut"] (defScope d_l_both.st) := ⟨rfl, rfl, rfl, by decide +kernel, rfl, by decide +kernel, by decide +kernel⟩
theorem ch_l_both : chB (T.sub false) ["_law_boxes", "_law_cut", "_law_half", "_law_at"] (defScope d_l_both.st) (locB (defScope d_l_both.st)) fn_l_both.body (defBody d_l_both.st) = true := by decide +kernel
theorem bd_l_both : ∀ (kV doc pm : Value) (an : Option Addr) (cdv ct : Value) (us : List Value), us.length = (["_law_boxes", "_law_cut"] : List Str).length → bindArgs (PySem.W.fnOf d_l_both.name d_l_both.qual (defArgs d_l_both.st) (defBody d_l_both.st) (defScope d_l_both.st) .none kV doc pm an cdv ct) ⟨us, []⟩ = pure ((["_law_boxes", "_law_cut"] : List Str).zip us) := fun _ _ _ _ _ _ us h => match us, h with | [_, _], _ => rfl
def d_l_edges : Df := ⟨("_law_edges", none), "_law_edges", "_law_edges", (topS 25), []⟩
theorem sc_l_edges : FnScope ["_law_boxes", "_law_axis", "_law_least", "_law_found", "_law_cut", "_law_box_here", "_law_low", "_law_high"] ["_law_boxes", "_law_axis", "_law_least"] (defScope d_l_edges.st) := ⟨rfl, rfl, rfl, by decide +kernel, rfl, by decide +kernel, by decide +kernel⟩
theorem ch_l_edges : chB (T.sub false) ["_law_boxes", "_law_axis", "_law_least", "_law_found", "_law_cut", "_law_box_here", "_law_low", "_law_high"] (defScope d_l_edges.st) (locB (defScope d_l_edges.st)) fn_l_edges.body (defBody d_l_edges.st) = true := by decide +kernel
theorem bd_l_edges : ∀ (kV doc pm : Value) (an : Option Addr) (cdv ct : Value) (us : List Value), us.length = (["_law_boxes", "_law_axis", "_law_least"] : List Str).length → bindArgs (PySem.W.fnOf d_l_edges.name d_l_edges.qual (defArgs d_l_edges.st) (defBody d_l_edges.st) (defScope d_l_edges.st) .none kV doc pm an cdv ct) ⟨us, []⟩ = pure ((["_law_boxes", "_law_axis", "_law_least"] : List Str).zip us) := fun _ _ _ _ _ _ us h => match us, h with | [_, _, _], _ => rfl
def d_l_room : Df := ⟨("_law_room", none), "_law_room", "_law_room", (topS 26), []⟩
theorem sc_l_room : FnScope ["_law_sides", "_law_found", "_law_low", "_law_high"] ["_law_sides"] (defScope d_l_room.st) := ⟨rfl, rfl, rfl, by decide +kernel, rfl, by decide +kernel, by decide +kernel⟩
theorem ch_l_room : chB (T.sub false) ["_law_sides", "_law_found", "_law_low", "_law_high"] (defScope d_l_room.st) (locB (defScope d_l_room.st)) fn_l_room.body (defBody d_l_room.st) = true := by decide +kernel
theorem bd_l_room : ∀ (kV doc pm : Value) (an : Option Addr) (cdv ct : Value) (us : List Value), us.length = (["_law_sides"] : List Str).length → bindArgs (PySem.W.fnOf d_l_room.name d_l_room.qual (defArgs d_l_room.st) (defBody d_l_room.st) (defScope d_l_room.st) .none kV doc pm an cdv ct) ⟨us, []⟩ = pure ((["_law_sides"] : List Str).zip us) := fun _ _ _ _ _ _ us h => match us, h with | [_], _ => rfl
def d_l_rank : Df := ⟨("_law_rank", none), "_law_rank", "_law_rank", (topS 27), []⟩
theorem sc_l_rank : FnScope ["_law_boxes", "_law_cut", "_law_one", "_law_other", "_law_shared", "_law_a", "_law_b"] ["_law_boxes", "_law_cut"] (defScope d_l_rank.st) := ⟨rfl, rfl, rfl, by decide +kernel, rfl, by decide +kernel, by decide +kernel⟩
theorem ch_l_rank : chB (T.sub false) ["_law_boxes", "_law_cut", "_law_one", "_law_other", "_law_shared", "_law_a", "_law_b"] (defScope d_l_rank.st) (locB (defScope d_l_rank.st)) fn_l_rank.body (defBody d_l_rank.st) = true := by decide +kernel
theorem bd_l_rank : ∀ (kV doc pm : Value) (an : Option Addr) (cdv ct : Value) (us : List Value), us.length = (["_law_boxes", "_law_cut"] : List Str).length → bindArgs (PySem.W.fnOf d_l_rank.name d_l_rank.qual (defArgs d_l_rank.st) (defBody d_l_rank.st) (defScope d_l_rank.st) .none kV doc pm an cdv ct) ⟨us, []⟩ = pure ((["_law_boxes", "_law_cut"] : List Str).zip us) := fun _ _ _ _ _ _ us h => match us, h with | [_, _], _ => rfl
def d_law_k08 : Df := ⟨("law", none), "law", "law", (topS 28), []⟩
theorem sc_law_k08 : FnScope ["_law_script", "_law_k", "_law_bag_here", "_law_axes", "_law_boxes", "_law_at", "_law_box_here", "_law_side", "_law_least", "_law_sums", "_law_axis", "_law_best", "_law_cut"] ["_law_script"] (defScope d_law_k08.st) := ⟨rfl, rfl, rfl, by decide +kernel, rfl, by decide +kernel, by decide +kernel⟩
theorem ch_law_k08 : chB (T.sub false) ["_law_script", "_law_k", "_law_bag_here", "_law_axes", "_law_boxes", "_law_at", "_law_box_here", "_law_side", "_law_least", "_law_sums", "_law_axis", "_law_best", "_law_cut"] (defScope d_law_k08.st) (locB (defScope d_law_k08.st)) fn_law_k08.body (defBody d_law_k08.st) = true := by decide +kernel
theorem bd_law_k08 : ∀ (kV doc pm : Value) (an : Option Addr) (cdv ct : Value) (us : List Value), us.length = (["_law_script"] : List Str).length → bindArgs (PySem.W.fnOf d_law_k08.name d_law_k08.qual (defArgs d_law_k08.st) (defBody d_law_k08.st) (defScope d_law_k08.st) .none kV doc pm an cdv ct) ⟨us, []⟩ = pure ((["_law_script"] : List Str).zip us) := fun _ _ _ _ _ _ us h => match us, h with | [_], _ => rfl
def fnH : List He.DefD := [d_meets.dd, d_common.dd, d_cover.dd, d_room.dd, d_edge.dd, d_orders.dd, d_cuts.dd, d_covers.dd, d_edges.dd, d_rank.dd, d_split.dd, d_l_bag.dd, d_l_take.dd, d_l_place.dd, d_l_box.dd, d_l_cover.dd, d_l_orders.dd, d_l_cuts.dd, d_l_both.dd, d_l_edges.dd, d_l_room.dd, d_l_rank.dd, d_law_k08.dd]
def lamsH : List Lmd := [(d_orders.at_, d_orders.qual), (d_split.at_, d_split.qual)]
def faH : List He.Fa := bltFa ++ [.glo "meets", .glo "common", .glo "cover", .glo "room", .glo "edge", .glo "orders", .glo "cuts", .glo "covers", .glo "edges", .glo "rank", .glo "split", .glo "_law_bag", .glo "_law_take", .glo "_law_place", .glo "_law_box", .glo "_law_cover", .glo "_law_orders", .glo "_law_cuts", .glo "_law_both", .glo "_law_edges", .glo "_law_room", .glo "_law_rank", .glo "law"]
theorem facts {K : Fq} {mg : Str → Option Value} {h : Heap} (G : h.Ns mainGlobals mg) (c : SaysL faH fnH (lamsH.map (·.1)) K h) : Facts T (gx K (tabsOf lamsH K)) Γ K (csOf lamsH K) mg := by
  refine facts_h c.kin G c.s rfl (fun f hf => ?_) ⟨fun f c0 m z => ?_, fun f c0 z => ?_, fun c0 f C z e => ?_⟩ (fun x d z => ?_) lam_ok
  · have hm : f ∈ [0, 1, 11, 17, 18, 71, 72, 73, 74, 75, 76, 3, 4, 5, 6, 14, 78, 79, 80, 81, 82, 83, 84] := by simpa [T, T0] using hf
    simp only [List.mem_cons, List.not_mem_nil, or_false] at hm
    rcases hm with rfl | rfl | rfl | rfl | rfl | rfl | rfl | rfl | rfl | rfl | rfl | rfl | rfl | rfl | rfl | rfl | rfl | rfl | rfl | rfl | rfl | rfl | rfl
    · obtain ⟨fd, F⟩ := fnD_of c.s 0 (d := d_meets) rfl rfl
      exact fact_h c.kin G c.s 19 rfl rfl (body_h F sc_meets rfl ch_meets (fun z => nomatch z) (bind_0 F bd_meets (fun n dv h => dlB_nil h) (fun n ks pm => rfl)))
    · obtain ⟨fd, F⟩ := fnD_of c.s 1 (d := d_common) rfl rfl
      exact fact_h c.kin G c.s 20 rfl rfl (body_h F sc_common rfl ch_common (fun z => nomatch z) (bind_0 F bd_common (fun n dv h => dlB_nil h) (fun n ks pm => rfl)))
    · obtain ⟨fd, F⟩ := fnD_of c.s 2 (d := d_cover) rfl rfl
      exact fact_h c.kin G c.s 21 rfl rfl (body_h F sc_cover rfl ch_cover (fun z => nomatch z) (bind_0 F bd_cover (fun n dv h => dlB_nil h) (fun n ks pm => rfl)))
    · obtain ⟨fd, F⟩ := fnD_of c.s 3 (d := d_room) rfl rfl
      exact fact_h c.kin G c.s 22 rfl rfl (body_h F sc_room rfl ch_room (fun z => nomatch z) (bind_0 F bd_room (fun n dv h => dlB_nil h) (fun n ks pm => rfl)))
    · obtain ⟨fd, F⟩ := fnD_of c.s 4 (d := d_edge) rfl rfl
      exact fact_h c.kin G c.s 23 rfl rfl (body_h F sc_edge rfl ch_edge (fun z => nomatch z) (bind_0 F bd_edge (fun n dv h => dlB_nil h) (fun n ks pm => rfl)))
    · obtain ⟨fd, F⟩ := fnD_of c.s 5 (d := d_orders) rfl rfl
      exact fact_h c.kin G c.s 24 rfl rfl (body_h F sc_orders rfl ch_orders (fun _ => lam_h c F (by simp [lamsH])) (bind_0 F bd_orders (fun n dv h => dlB_nil h) (fun n ks pm => rfl)))
    · obtain ⟨fd, F⟩ := fnD_of c.s 6 (d := d_cuts) rfl rfl
      exact fact_h c.kin G c.s 25 rfl rfl (body_h F sc_cuts rfl ch_cuts (fun z => nomatch z) (bind_0 F bd_cuts (fun n dv h => dlB_nil h) (fun n ks pm => rfl)))
    · obtain ⟨fd, F⟩ := fnD_of c.s 7 (d := d_covers) rfl rfl
      exact fact_h c.kin G c.s 26 rfl rfl (body_h F sc_covers rfl ch_covers (fun z => nomatch z) (bind_0 F bd_covers (fun n dv h => dlB_nil h) (fun n ks pm => rfl)))
    · obtain ⟨fd, F⟩ := fnD_of c.s 8 (d := d_edges) rfl rfl
      exact fact_h c.kin G c.s 27 rfl rfl (body_h F sc_edges rfl ch_edges (fun z => nomatch z) (bind_0 F bd_edges (fun n dv h => dlB_nil h) (fun n ks pm => rfl)))
    · obtain ⟨fd, F⟩ := fnD_of c.s 9 (d := d_rank) rfl rfl
      exact fact_h c.kin G c.s 28 rfl rfl (body_h F sc_rank rfl ch_rank (fun z => nomatch z) (bind_0 F bd_rank (fun n dv h => dlB_nil h) (fun n ks pm => rfl)))
    · obtain ⟨fd, F⟩ := fnD_of c.s 10 (d := d_split) rfl rfl
      exact fact_h c.kin G c.s 29 rfl rfl (body_h F sc_split rfl ch_split (fun _ => lam_h c F (by simp [lamsH])) (bind_0 F bd_split (fun n dv h => dlB_nil h) (fun n ks pm => rfl)))
    · obtain ⟨fd, F⟩ := fnD_of c.s 11 (d := d_l_bag) rfl rfl
      exact fact_h c.kin G c.s 30 rfl rfl (body_h F sc_l_bag rfl ch_l_bag (fun z => nomatch z) (bind_0 F bd_l_bag (fun n dv h => dlB_nil h) (fun n ks pm => rfl)))
    · obtain ⟨fd, F⟩ := fnD_of c.s 12 (d := d_l_take) rfl rfl
      exact fact_h c.kin G c.s 31 rfl rfl (body_h F sc_l_take rfl ch_l_take (fun z => nomatch z) (bind_0 F bd_l_take (fun n dv h => dlB_nil h) (fun n ks pm => rfl)))
    · obtain ⟨fd, F⟩ := fnD_of c.s 13 (d := d_l_place) rfl rfl
      exact fact_h c.kin G c.s 32 rfl rfl (body_h F sc_l_place rfl ch_l_place (fun z => nomatch z) (bind_0 F bd_l_place (fun n dv h => dlB_nil h) (fun n ks pm => rfl)))
    · obtain ⟨fd, F⟩ := fnD_of c.s 14 (d := d_l_box) rfl rfl
      exact fact_h c.kin G c.s 33 rfl rfl (body_h F sc_l_box rfl ch_l_box (fun z => nomatch z) (bind_0 F bd_l_box (fun n dv h => dlB_nil h) (fun n ks pm => rfl)))
    · obtain ⟨fd, F⟩ := fnD_of c.s 15 (d := d_l_cover) rfl rfl
      exact fact_h c.kin G c.s 34 rfl rfl (body_h F sc_l_cover rfl ch_l_cover (fun z => nomatch z) (bind_0 F bd_l_cover (fun n dv h => dlB_nil h) (fun n ks pm => rfl)))
    · obtain ⟨fd, F⟩ := fnD_of c.s 16 (d := d_l_orders) rfl rfl
      exact fact_h c.kin G c.s 35 rfl rfl (body_h F sc_l_orders rfl ch_l_orders (fun z => nomatch z) (bind_0 F bd_l_orders (fun n dv h => dlB_nil h) (fun n ks pm => rfl)))
    · obtain ⟨fd, F⟩ := fnD_of c.s 17 (d := d_l_cuts) rfl rfl
      exact fact_h c.kin G c.s 36 rfl rfl (body_h F sc_l_cuts rfl ch_l_cuts (fun z => nomatch z) (bind_0 F bd_l_cuts (fun n dv h => dlB_nil h) (fun n ks pm => rfl)))
    · obtain ⟨fd, F⟩ := fnD_of c.s 18 (d := d_l_both) rfl rfl
      exact fact_h c.kin G c.s 37 rfl rfl (body_h F sc_l_both rfl ch_l_both (fun z => nomatch z) (bind_0 F bd_l_both (fun n dv h => dlB_nil h) (fun n ks pm => rfl)))
    · obtain ⟨fd, F⟩ := fnD_of c.s 19 (d := d_l_edges) rfl rfl
      exact fact_h c.kin G c.s 38 rfl rfl (body_h F sc_l_edges rfl ch_l_edges (fun z => nomatch z) (bind_0 F bd_l_edges (fun n dv h => dlB_nil h) (fun n ks pm => rfl)))
    · obtain ⟨fd, F⟩ := fnD_of c.s 20 (d := d_l_room) rfl rfl
      exact fact_h c.kin G c.s 39 rfl rfl (body_h F sc_l_room rfl ch_l_room (fun z => nomatch z) (bind_0 F bd_l_room (fun n dv h => dlB_nil h) (fun n ks pm => rfl)))
    · obtain ⟨fd, F⟩ := fnD_of c.s 21 (d := d_l_rank) rfl rfl
      exact fact_h c.kin G c.s 40 rfl rfl (body_h F sc_l_rank rfl ch_l_rank (fun z => nomatch z) (bind_0 F bd_l_rank (fun n dv h => dlB_nil h) (fun n ks pm => rfl)))
    · obtain ⟨fd, F⟩ := fnD_of c.s 22 (d := d_law_k08) rfl rfl
      exact fact_h c.kin G c.s 41 rfl rfl (body_h F sc_law_k08 rfl ch_law_k08 (fun z => nomatch z) (bind_0 F bd_law_k08 (fun n dv h => dlB_nil h) (fun n ks pm => rfl)))
  · simp [T, T0, mthT] at z
  · simp [T, T0, mkT] at z
  · simp [T, T0, fldT] at z
  · simp [T, T0, conT] at z
end BX
namespace BX
open PySem PySem.Spec PyProof.Rows L2
def looseN0 : List PySem.Str := ["meets", "common", "cover", "room", "edge", "orders", "cuts", "covers", "edges", "rank", "split", "_law_bag", "_law_take", "_law_place", "_law_box", "_law_spot", "_law_meets", "_law_holds", "_law_cover", "_law_orders", "_law_cuts", "_law_both", "_law_edges", "_law_room", "_law_rank"]
def looseN : List PySem.Str := looseN0
abbrev rowR : PySem.W.OpenRow := PySem.W.OpenLaw.row PySem.Challenge.rw_boxgrove_k08_whole_splits_are_the_best_c
abbrev hkR : PySem.W.Hook := hookL 5 faH fnH (lamsH.map (·.1))
def obR (s : PySem.W.SharedT) : He.AlD × Bool := obsL 5 faH fnH (lamsH.map (·.1)) (HandSHeadRun.getT s)
theorem obR_eq (s : PySem.W.SharedT) : obR s = hkR.obs s.abs := obsL_eq (HandSHeadRun.getT_eq s)
theorem runR (w : World) : HandSHeadRun.RunEq rowR (PySem.W.view rowR.prog [28]) hkR obR 6608 looseN w := by
  intro os
  kernel_rfl
end BX
open PySem PySem.W PySem.Calls PyProof.Rows
set_option maxRecDepth 100000 in
set_option maxHeartbeats 0 in
theorem PySem.Challenge.cw_boxgrove_k08_whole_splits_are_the_best_c_holds : PySem.Challenge.rw_boxgrove_k08_whole_splits_are_the_best_c.Holds := by
  w_on; o_law
  refine HandSHeadRun.head_any (r := OpenLaw.row PySem.Challenge.rw_boxgrove_k08_whole_splits_are_the_best_c) (q := view (OpenLaw.row PySem.Challenge.rw_boxgrove_k08_whole_splits_are_the_best_c).prog [28]) (H := BX.hkR) (ob := BX.obR) (M := 6608) (loose := BX.looseN) (d := HandSHeadRun.topDef (OpenLaw.row PySem.Challenge.rw_boxgrove_k08_whole_splits_are_the_best_c).prog 28) (kwd := []) BX.obR_eq
    (by kernel_rfl) (fun s => by kernel_rfl) BX.runR (by kernel_rfl) (by kernel_rfl) (by kernel_rfl) (by rfl) (by first | assumption | decide +kernel) (by decide +kernel) ⟨rfl, rfl, rfl, rfl, rfl, by decide +kernel⟩ ?hw ?hc
  case hw => w_witness2
  case hc =>
    exact BX.law_walkH (l := PySem.Challenge.rw_boxgrove_k08_whole_splits_are_the_best_c) (T := BX.T) (Γ := BX.Γ) (turns := 1000) (kk := 10) (fL := BX.i_law_k08) (i := 22) (j := 41) (x := "_law_script") (d := BX.d_law_k08) rfl (by kernel_rfl) ⟨rfl, by decide, by decide⟩ (by kernel_rfl) BX.main_law (fun K mg h G c => BX.facts G c) rfl rfl rfl rfl BX.sc_law_k08 rfl BX.ch_law_k08 BX.bd_law_k08
