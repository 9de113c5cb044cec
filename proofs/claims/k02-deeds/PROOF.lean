import PyProof.Rows.All
import PySem.PyData
import KE.LtData
import PyProof.P3Statements
import PyProof.ReprReads
import PyProof.EqLayable
import KE.SortData
import HandS.List
import KE.DataAny
import KE.DataMinMax
import KE.DataCmp
import KE.DataFind
import HandS.TupSets
import Wide.All
import OpenK.AllK
import Wide.FinOn
import KE.KStateDown
import KE.KDictKeyed
import KE.KeyNested
import HandS.ForMost
import HandS.ForExc
import HandS.Deep
import HandS.TupAny
import HandS.IsInst
import HandS.Zip
import HandS.Rev
import HandS.Style
import HandS.More
import HandS.Conv
import KE.DataEq
import PyProof.TupleOfSeq
import KE.KDictCopyH
import KE.KDictList
import KE.SortCalls
import HandS.Small
import HandS.Comp
import HandS.Defaults
import HandS.HeadEnd
import HandS.DictComp
import PyProof.ReprLen
import PyProof.Rows.FactsN_isinstance
import HandS.Head2
import PySem.Challenge.RW_partsbarred_k02_deeds
import HandS.Head0
import HandS.Head1
import HandS.HeadHook1
import HandS.HeadHook2
set_option Elab.async false
set_option linter.all false
set_option maxRecDepth 100000
set_option maxHeartbeats 0
noncomputable section
namespace PB
section
/-! Core: a small language over plain data; what it denotes. -/
open PySem (Str PyData)

/-- plain data: what a value of the program reads as -/
inductive D where
  | non | bl (b : Bool) | int (i : Int) | str (x : Str)
  | tup (xs : List D) | lst (xs : List D) | dct (kvs : List (D × D)) | set (xs : List D)
  | fn (f : Nat) | exc (c : Nat) (d : D) | scr (ns : List Int)

instance : Inhabited D := ⟨.non⟩
instance decD : DecidableEq D := fun a b => Classical.propDecidable (a = b)

mutual
def D.py : D → PyData
  | .non => .none
  | .bl b => .bool b
  | .int i => .int i
  | .str x => .str x
  | .tup xs => .tuple (D.pys xs)
  | .lst xs => .list (D.pys xs)
  | .dct _ => .none
  | .set _ => .none
  | .fn _ => .none
  | .exc _ _ => .none
  | .scr _ => .none
def D.pys : List D → List PyData
  | [] => []
  | x :: r => D.py x :: D.pys r
end
mutual
/-- data that PyData tells -/
def D.plain : D → Bool
  | .non => true
  | .bl _ => true
  | .int _ => true
  | .str _ => true
  | .tup xs => D.plains xs
  | .lst xs => D.plains xs
  | .dct _ => false
  | .set _ => false
  | .fn _ => false
  | .exc _ _ => false
  | .scr _ => false
def D.plains : List D → Bool
  | [] => true
  | x :: r => D.plain x && D.plains r
end
mutual
/-- a dict's key: an int, a text, a tuple of keys -/
def D.key : D → Bool
  | .int _ => true
  | .str _ => true
  | .tup xs => D.keys xs
  | .non => true
  | .bl _ => false
  | .lst _ => false
  | .dct _ => false
  | .set _ => false
  | .fn _ => false
  | .exc _ _ => false
  | .scr _ => false
def D.keys : List D → Bool
  | [] => true
  | x :: r => D.key x && D.keys r
end

/-- the end of a reckoning: a value, an error of the program's own (class, its field), or nothing told -/
inductive Res (α : Type) where
  | ok (a : α) | exc (c : Nat) (d : D) | bad

def Res.bind {α β : Type} : Res α → (α → Res β) → Res β
  | .ok a, f => f a
  | .exc c d, _ => .exc c d
  | .bad, _ => .bad
@[simp] theorem Res.bind_ok {α β : Type} (a : α) (f : α → Res β) : (Res.ok a).bind f = f a := rfl
@[simp] theorem Res.bind_exc {α β : Type} (c : Nat) (d : D) (f : α → Res β) : (Res.exc c d : Res α).bind f = .exc c d := rfl
@[simp] theorem Res.bind_bad {α β : Type} (f : α → Res β) : (Res.bad : Res α).bind f = .bad := rfl
/-- an exception is not told -/
def Res.nox {α : Type} : Res α → Res α
  | .ok a => .ok a
  | _ => .bad
@[simp] theorem Res.nox_ok {α : Type} (a : α) : (Res.ok a).nox = .ok a := rfl
@[simp] theorem Res.nox_exc {α : Type} (c : Nat) (d : D) : (Res.exc c d : Res α).nox = .bad := rfl
@[simp] theorem Res.nox_bad {α : Type} : (Res.bad : Res α).nox = .bad := rfl
theorem Res.bind_assoc {α β γ : Type} (x : Res α) (f : α → Res β) (g : β → Res γ) : (x.bind f).bind g = x.bind fun a => (f a).bind g := by
  cases x <;> rfl

/-- a value with the depth to which it is owned alone -/
abbrev KD := Nat × D
abbrev Slot := Option KD
abbrev Env := List Slot
abbrev Fn := Nat → List KD → Res (KD × List KD)

/-! ### syntax -/
inductive Op where
  | add | sub | mul | fdiv | mod | neg | inv | shl | shr | band | bor | bxor | pow
  | lt | le | gt | ge | eq | ne | isn | notn | isIn | notIn
  | ix | slL | slU | slLU | slRev | slUS | slAll
  | len | abs | int | str | bool | rep | isInt | isBool | isTup | isStr
  | tupOf | lstOf | dctOf | setOf | srt | srtRev | srtK (f : Nat) | mn1 | mx1 | mn2 | mx2 | mxD | sum | sum2 | all | any
  | lrng1 | lrng2 | mkT | get1 | get2 | index | count | keyv | is | isNot | srtSet
  deriving DecidableEq
def Op.esc : Op → Bool
  | .add | .mul | .ix | .slL | .slU | .slLU | .slRev | .slUS | .slAll | .tupOf | .lstOf | .dctOf | .setOf | .srt | .srtRev | .srtSet | .srtK _ | .mn1 | .mx1 | .mn2 | .mx2 | .mxD | .mkT | .get1 | .get2 => true
  | _ => false
inductive Itk where
  | seq | rng1 | rng2 | rng3 | enm | zip | zip3 | items | rev
  deriving DecidableEq
inductive Mth where
  | append | extend | pop | popAt | popK | remove | sort | update | setdef | insert | clear
  deriving DecidableEq

mutual
inductive CE where
  | var (i : Nat) | mv (i : Nat) | pk (i : Nat) | cst (d : D)
  | op (o : Op) (es : CEs)
  | dsp (k : Nat) (es : CEs)
  | dctE (k : Nat)
  | andV (a b : CE) | orV (a b : CE) | tst (t : CT) | ite (t : CT) (a b : CE)
  | chn (o : Op) (a b : CE) (r : Chs)
  | call (f : Nat) (es : CEs)
  | callV (i : Nat) (es : CEs)
  | lc (k : Nat) (own : List Nat) (t : Tg) (it : Itk) (src : CEs) (ifs : CT) (elt : CE)
  | lc2 (k : Nat) (own own2 : List Nat) (t : Tg) (it : Itk) (src : CEs) (ifs : CT) (t2 : Tg) (it2 : Itk) (src2 : CEs) (ifs2 : CT) (elt : CE)
  | dc (k : Nat) (own : List Nat) (t : Tg) (it : Itk) (src : CEs) (ifs : CT) (key val : CE)
  | dc2 (k : Nat) (own own2 : List Nat) (t : Tg) (it : Itk) (src : CEs) (ifs : CT) (t2 : Tg) (it2 : Itk) (src2 : CEs) (ifs2 : CT) (key val : CE)
  | mth (m : Mth) (i : Nat) (es : CEs)
  | ask (o : Op) (i : Nat) (es : CEs)
  | mth1 (m : Mth) (i : Nat) (ix : CE) (es : CEs)
inductive CEs where
  | nil | cons (e : CE) (r : CEs)
inductive Chs where
  | nil | cons (o : Op) (e : CE) (r : Chs)
inductive CT where
  | v (e : CE) | p (i : Nat) | and (a b : CT) | or (a b : CT) | not (a : CT) | yes
inductive Tg where
  | nm (i : Nat) | tp (ts : Tgs) | sb (i : Nat) (ix : CE)
inductive Tgs where
  | nil | cons (t : Tg) (r : Tgs)
end
mutual
inductive CS where
  | asg (t : Tg) (e : CE)
  | par (ts : Tgs) (es : CEs)
  | ex (e : CE)
  | set2 (i : Nat) (a b e : CE)
  | augN (i : Nat) (o : Op) (e : CE)
  | augI (i : Nat) (ix : CE) (o : Op) (e : CE)
  | ret (e : CE) | retN
  | ifS (t : CT) (a b : CSs)
  | forS (t : Tg) (it : Itk) (src : CEs) (body : CSs)
  | whl (t : CT) (body : CSs)
  | brk | cnt | pss
  | rse (c : Nat) (e : CE)
inductive CSs where
  | nil | cons (s : CS) (r : CSs)
end

/-! ### operations on data -/
def sizeL : Nat := 16777216
def okB (b : Bool) : Res KD := .ok (0, .bl b)
def okI (i : Int) : Res KD := .ok (0, .int i)
def shapedD (d : D) : Bool := d.plain && decide (d.py.depth ≤ 60)
/-- equal -/
def eqD : D → D → Res Bool
  | .int i, .int j => .ok (decide (i = j))
  | .str x, .str y => .ok (decide (x = y))
  | .bl a, .bl b => .ok (decide (a = b))
  | a, b => if shapedD a = true ∧ shapedD b = true then .ok (PyData.eqv a.py b.py) else .bad
/-- less -/
def ltD : D → D → Res Bool
  | .int i, .int j => .ok (decide (i < j))
  | a, b => if a.plain = true ∧ b.plain = true ∧ PySem.W.alike a.py b.py = true ∧ a.py.depth ≤ 60 ∧ a ≠ .non then .ok (PySem.W.dataLt a.py b.py) else .bad
/-- an int, a text -/
def D.flat : D → Bool
  | .int _ => true
  | .str _ => true
  | _ => false
def truth : D → Res Bool
  | .non => .ok false
  | .bl b => .ok b
  | .int i => .ok (i != 0)
  | .str x => if x.length ≤ sizeL then .ok (x.length != 0) else .bad
  | .tup xs => .ok (!xs.isEmpty)
  | .lst xs => .ok (!xs.isEmpty)
  | .dct kvs => if (kvs.all fun p => p.1.flat) = true then .ok (!kvs.isEmpty) else .bad
  | _ => .bad
/-- a tuple of ints and texts -/
def D.tk : D → Bool
  | .tup xs => xs.all D.flat
  | _ => false
/-- k may be stored beside these keys -/
def kIn (a : List (D × D)) (k : D) : Bool := (k.flat && a.all fun p => p.1.flat) || (k.tk && a.all fun p => p.1.tk)
/-- x may be asked of this dict -/
def kOk (kvs : List (D × D)) (x : D) : Bool := x.flat && kvs.all fun p => p.1.flat
def kget : List (D × D) → D → Option D
  | [], _ => none
  | (k, v) :: r, x => if k = x then some v else kget r x
def kput : List (D × D) → D → D → List (D × D)
  | [], x, y => [(x, y)]
  | (k, v) :: r, x, y => if k = x then (k, y) :: r else (k, v) :: kput r x y
def kdel : List (D × D) → D → List (D × D)
  | [], _ => []
  | (k, v) :: r, x => if k = x then r else (k, v) :: kdel r x
def sput : List D → D → List D
  | [], x => [x]
  | y :: r, x => if y = x then y :: r else y :: sput r x
/-- the items of xs[lo:hi] -/
def cutD (xs : List D) (lo hi : Option Int) : List D := (xs.drop (HT.sIx xs.length 0 lo)).take (HT.sIx xs.length xs.length hi - HT.sIx xs.length 0 lo)
def isInSeq (x : D) (xs : List D) : Res KD :=
  if shapedD x = true ∧ shapedD (.lst xs) = true then okB (xs.any fun z => PyData.eqv z.py x.py) else .bad
def leD (a b : D) : Bool := PySem.W.dataLe false D.py a b
def geD (a b : D) : Bool := PySem.W.dataLe true D.py a b
/-- may be sorted -/
def sortOk (xs : List D) : Bool :=
  decide (xs.length ≤ sizeL) && xs.all (fun x => x.plain && decide (x.py.depth ≤ 60)) && xs.all (fun x => xs.all fun y => PySem.W.alike x.py y.py) &&
    (xs.all (fun x => match x with | .tup (_ :: _) => true | _ => false) || xs.all (fun x => match x with | .non => false | .tup _ => false | _ => true))
def sortR (xs : List D) : Res KD := if sortOk xs = true then .ok (1, .lst (xs.mergeSort leD)) else .bad
def sortRR (xs : List D) : Res KD := if sortOk xs = true then .ok (1, .lst (xs.mergeSort geD)) else .bad
def items? : D → Option (List D)
  | .lst xs => some xs
  | .tup xs => some xs
  | .dct kvs => some (kvs.map (·.1))
  | .set xs => some xs
  | _ => none
/-- least, first of them -/
def leastOf : List D → Option D
  | [] => none
  | x :: r => some (r.foldl (fun m y => if PySem.W.dataLt y.py m.py then y else m) x)
def greatestOf : List D → Option D
  | [] => none
  | x :: r => some (r.foldl (fun m y => if PySem.W.dataLt m.py y.py then y else m) x)
def boolsOf : List D → Option (List Bool)
  | [] => some []
  | .bl b :: r => (boolsOf r).map (b :: ·)
  | _ :: _ => none
def intsOf : List D → Option (List Int)
  | [] => some []
  | .int b :: r => (intsOf r).map (b :: ·)
  | _ :: _ => none
def smallI (i : Int) : Bool := decide (-(2 ^ 64) < i) && decide (i < 2 ^ 64)

def op_add : List D → Res KD
  | [.int a, .int b] => okI (a + b)
  | [.str a, .str b] => if a.length + b.length ≤ sizeL then .ok (0, .str (a ++ b)) else .bad
  | [.lst a, .lst b] => if a.length + b.length ≤ sizeL then .ok (1, .lst (a ++ b)) else .bad
  | [.tup a, .tup b] => if a.length + b.length ≤ sizeL then .ok (0, .tup (a ++ b)) else .bad
  | _ => .bad
def op_sub : List D → Res KD
  | [.int a, .int b] => okI (a - b)
  | _ => .bad
def op_mul : List D → Res KD
  | [.int a, .int b] => if smallI a = true ∨ smallI b = true then okI (a * b) else .bad
  | [.lst a, .int b] => if a.length * b.toNat ≤ sizeL ∧ b < 2 ^ 62 ∧ -(2 ^ 62) < b then .ok (1, .lst ((List.replicate b.toNat a).flatten)) else .bad
  | _ => .bad
def op_fdiv : List D → Res KD
  | [.int a, .int b] => if b ≠ 0 ∧ b.natAbs < 1073741824 then okI (a.fdiv b) else .bad
  | _ => .bad
def op_mod : List D → Res KD
  | [.int a, .int b] => if b ≠ 0 then okI (a.fmod b) else .bad
  | _ => .bad
def op_neg : List D → Res KD
  | [.int a] => okI (-a)
  | _ => .bad
def op_shl : List D → Res KD
  | [.int a, .int b] => if 0 ≤ b ∧ b ≤ 1000000 ∧ a.natAbs < 2 ^ 64 then okI (a * 2 ^ b.toNat) else .bad
  | _ => .bad
def op_lt : List D → Res KD
  | [a, b] => (ltD a b).bind okB
  | _ => .bad
def op_gt : List D → Res KD
  | [a, b] => (ltD b a).bind okB
  | _ => .bad
def op_le : List D → Res KD
  | [a, b] => (ltD b a).bind fun c => okB (!c)
  | _ => .bad
def op_ge : List D → Res KD
  | [a, b] => (ltD a b).bind fun c => okB (!c)
  | _ => .bad
def op_eq : List D → Res KD
  | [a, b] => (eqD a b).bind okB
  | _ => .bad
def op_ne : List D → Res KD
  | [a, b] => (eqD a b).bind fun c => okB (!c)
  | _ => .bad
def op_isn : List D → Res KD
  | [a] => okB (decide (a = .non))
  | _ => .bad
def op_notn : List D → Res KD
  | [a] => okB (!decide (a = .non))
  | _ => .bad
def op_isIn : List D → Res KD
  | [x, .lst xs] => isInSeq x xs
  | [x, .tup xs] => isInSeq x xs
  | [x, .dct kvs] => if kOk kvs x = true then okB (kget kvs x).isSome else .bad
  | _ => .bad
def op_notIn : List D → Res KD
  | [x, .lst xs] => (isInSeq x xs).bind fun r => match r with | (_, .bl b) => okB (!b) | _ => .bad
  | [x, .tup xs] => (isInSeq x xs).bind fun r => match r with | (_, .bl b) => okB (!b) | _ => .bad
  | [x, .dct kvs] => if kOk kvs x = true then okB (!(kget kvs x).isSome) else .bad
  | _ => .bad
def op_ix : List D → Res KD
  | [.lst xs, .int i] => match L2.atI xs i with | some d => .ok (0, d) | none => .bad
  | [.tup xs, .int i] => match L2.atI xs i with | some d => .ok (0, d) | none => .bad
  | [.dct kvs, x] => if kOk kvs x = true then (match kget kvs x with | some d => .ok (0, d) | none => .bad) else .bad
  | _ => .bad
def op_slL : List D → Res KD
  | [.lst xs, .int i] => .ok (1, .lst (cutD xs (some i) none))
  | [.tup xs, .int i] => .ok (0, .tup (cutD xs (some i) none))
  | _ => .bad
def op_slU : List D → Res KD
  | [.scr ns, .int i] => .ok (1, .lst (cutD (ns.map D.int) none (some i)))
  | [.lst xs, .int i] => .ok (1, .lst (cutD xs none (some i)))
  | [.tup xs, .int i] => .ok (0, .tup (cutD xs none (some i)))
  | _ => .bad
def op_slLU : List D → Res KD
  | [.lst xs, .int i, .int j] => .ok (1, .lst (cutD xs (some i) (some j)))
  | [.tup xs, .int i, .int j] => .ok (0, .tup (cutD xs (some i) (some j)))
  | _ => .bad
def op_slRev : List D → Res KD
  | [.lst xs] => .ok (1, .lst xs.reverse)
  | [.tup xs] => .ok (0, .tup xs.reverse)
  | _ => .bad
def op_slAll : List D → Res KD
  | [.lst xs] => .ok (1, .lst xs)
  | _ => .bad
def op_len : List D → Res KD
  | [.lst xs] => okI xs.length
  | [.tup xs] => okI xs.length
  | [.dct xs] => if (xs.all fun p => p.1.flat) = true then okI xs.length else .bad
  | [.set xs] => okI xs.length
  | _ => .bad
def op_abs : List D → Res KD
  | [.int a] => okI (if a < 0 then -a else a)
  | _ => .bad
def op_int : List D → Res KD
  | [.int a] => okI a
  | _ => .bad
def op_isInt : List D → Res KD
  | [d] => match d with | .int _ => okB true | .bl _ => okB true | .fn _ => .bad | .exc _ _ => .bad | .dct _ => .bad | .set _ => .bad | .scr _ => .bad | _ => okB false
  | _ => .bad
def op_isBool : List D → Res KD
  | [d] => match d with | .bl _ => okB true | .fn _ => .bad | .exc _ _ => .bad | .dct _ => .bad | .set _ => .bad | .scr _ => .bad | _ => okB false
  | _ => .bad
def op_isTup : List D → Res KD
  | [d] => match d with | .tup _ => okB true | .fn _ => .bad | .exc _ _ => .bad | .dct _ => .bad | .set _ => .bad | .scr _ => .bad | _ => okB false
  | _ => .bad
def op_isStr : List D → Res KD
  | [d] => match d with | .str _ => okB true | .fn _ => .bad | .exc _ _ => .bad | .dct _ => .bad | .set _ => .bad | .scr _ => .bad | _ => okB false
  | _ => .bad
def op_tupOf : List D → Res KD
  | [d] => match d with | .lst xs => .ok (0, .tup xs) | .tup xs => .ok (0, .tup xs) | _ => .bad
  | _ => .bad
def op_lstOf : List D → Res KD
  | [d] => match d with | .lst xs => .ok (1, .lst xs) | .tup xs => .ok (1, .lst xs) | _ => .bad
  | _ => .bad
def op_setOf : List D → Res KD
  | [d] => match d with | .lst xs => if D.keys xs = true then .ok (1, .set (xs.foldl sput [])) else .bad | .tup xs => if D.keys xs = true then .ok (1, .set (xs.foldl sput [])) else .bad | _ => .bad
  | _ => .bad
def op_srt : List D → Res KD
  | [d] => match items? d with | some xs => sortR xs | none => .bad
  | _ => .bad
def op_srtRev : List D → Res KD
  | [d] => match items? d with | some xs => sortRR xs | none => .bad
  | _ => .bad
def op_mn1 : List D → Res KD
  | [d] => match d with
    | .lst xs => if sortOk xs = true then (match leastOf xs with | some x => .ok (0, x) | none => .bad) else .bad
    | .tup xs => if sortOk xs = true then (match leastOf xs with | some x => .ok (0, x) | none => .bad) else .bad
    | _ => .bad
  | _ => .bad
def op_mx1 : List D → Res KD
  | [d] => match d with
    | .lst xs => if sortOk xs = true then (match greatestOf xs with | some x => .ok (0, x) | none => .bad) else .bad
    | .tup xs => if sortOk xs = true then (match greatestOf xs with | some x => .ok (0, x) | none => .bad) else .bad
    | _ => .bad
  | _ => .bad
def op_lrng1 : List D → Res KD
  | [.int n] => if -(2 ^ 62) ≤ n ∧ n < 2 ^ 62 ∧ n.toNat ≤ sizeL then .ok (1, .lst ((List.range n.toNat).map fun k => .int (k : Nat))) else .bad
  | _ => .bad
def op_lrng2 : List D → Res KD
  | [.int a, .int b] => if (-(2 ^ 62) ≤ a ∧ a < 2 ^ 62) ∧ (-(2 ^ 62) ≤ b ∧ b < 2 ^ 62) ∧ (b - a).toNat ≤ sizeL then .ok (1, .lst ((List.range (b - a).toNat).map fun k => .int (a + (k : Nat)))) else .bad
  | _ => .bad
def op_mn2 : List D → Res KD
  | [.int a, .int b] => okI (if b < a then b else a)
  | _ => .bad
def op_mx2 : List D → Res KD
  | [.int a, .int b] => okI (if a < b then b else a)
  | _ => .bad
def op_sum : List D → Res KD
  | [.lst xs] => match intsOf xs with | some ns => okI ns.sum | none => .bad
  | _ => .bad
/-- short enough -/
def D.fit : D → Bool
  | .str x => decide (x.length ≤ sizeL)
  | .lst xs => decide (xs.length ≤ sizeL)
  | .tup xs => decide (xs.length ≤ sizeL)
  | _ => true
def D.tru (d : D) : Bool := d.py.truthy
def op_all : List D → Res KD
  | [.lst xs] => if D.plains xs = true ∧ xs.all D.fit = true then okB (xs.all D.tru) else .bad
  | _ => .bad
def op_any : List D → Res KD
  | [.lst xs] => if D.plains xs = true ∧ xs.all D.fit = true then okB (xs.any D.tru) else .bad
  | _ => .bad
def op_rep : List D → Res KD
  | [d] => if d.plain = true ∧ d.py.showable = true ∧ d.py.depth ≤ 60 ∧ d.py.shown.length ≤ sizeL then .ok (0, .str d.py.shown) else .bad
  | _ => .bad
def op_mkT : List D → Res KD
  | ds => if ds.length ≤ sizeL then .ok (0, .tup ds) else .bad
def op_get1 : List D → Res KD
  | [.dct kvs, x] => if kOk kvs x = true then .ok (0, (kget kvs x).getD .non) else .bad
  | _ => .bad
def op_get2 : List D → Res KD
  | [.dct kvs, x, y] => if kOk kvs x = true then .ok (0, (kget kvs x).getD y) else .bad
  | _ => .bad
def op_index : List D → Res KD
  | [.lst xs, x] => if shapedD x = true ∧ shapedD (.lst xs) = true then (match xs.findIdx? fun z => PyData.eqv z.py x.py with | some j => okI j | none => .bad) else .bad
  | [.tup xs, x] => if shapedD x = true ∧ shapedD (.lst xs) = true then (match xs.findIdx? fun z => PyData.eqv z.py x.py with | some j => okI j | none => .bad) else .bad
  | _ => .bad
/-- tuples of ints -/
def tupIs : List D → Option (List (List Int))
  | [] => some []
  | .tup xs :: r => match intsOf xs, tupIs r with
    | some ns, some nss => some (ns :: nss)
    | _, _ => none
  | _ :: _ => none
def bd64 (ns : List Int) : Bool := ns.all fun i => decide (0 ≤ i) && decide (i < 64)
def codeLe (a b : List Int) : Bool := decide (TS.code 64 a ≤ TS.code 64 b)
/-- sorted(set(x)), tuples of d ints each -/
def op_srtSet : List D → Res KD
  | [.lst xs] => match tupIs xs with
    | some nss => match nss with
      | [] => .ok (1, .lst [])
      | ns :: _ => if nss.length < 64 ∧ 1 ≤ ns.length ∧ nss.all (fun ms => decide (ms.length = ns.length) && bd64 ms) = true then .ok (1, .lst ((nss.eraseDups.mergeSort codeLe).map fun ms => .tup (ms.map .int))) else .bad
    | none => .bad
  | _ => .bad
def opD (o : Op) (l : List D) : Res KD := match o with
  | .srtSet => op_srtSet l
  | .add => op_add l
  | .sub => op_sub l
  | .mul => op_mul l
  | .fdiv => op_fdiv l
  | .mod => op_mod l
  | .neg => op_neg l
  | .shl => op_shl l
  | .lt => op_lt l
  | .gt => op_gt l
  | .le => op_le l
  | .ge => op_ge l
  | .eq => op_eq l
  | .ne => op_ne l
  | .isn => op_isn l
  | .notn => op_notn l
  | .isIn => op_isIn l
  | .notIn => op_notIn l
  | .ix => op_ix l
  | .slL => op_slL l
  | .slU => op_slU l
  | .slLU => op_slLU l
  | .slRev => op_slRev l
  | .slAll => op_slAll l
  | .len => op_len l
  | .abs => op_abs l
  | .int => op_int l
  | .isInt => op_isInt l
  | .isBool => op_isBool l
  | .isTup => op_isTup l
  | .isStr => op_isStr l
  | .tupOf => op_tupOf l
  | .lstOf => op_lstOf l
  | .setOf => op_setOf l
  | .srt => op_srt l
  | .srtRev => op_srtRev l
  | .mn1 => op_mn1 l
  | .mx1 => op_mx1 l
  | .lrng1 => op_lrng1 l
  | .lrng2 => op_lrng2 l
  | .mn2 => op_mn2 l
  | .mx2 => op_mx2 l
  | .sum => op_sum l
  | .all => op_all l
  | .any => op_any l
  | .rep => op_rep l
  | .mkT => op_mkT l
  | .get1 => op_get1 l
  | .get2 => op_get2 l
  | .index => op_index l
  | _ => .bad

/-- what a walk gives -/
def iterD : Itk → List D → Res (List D)
  | .seq, [.lst xs] => .ok xs
  | .seq, [.tup xs] => .ok xs
  | .rng1, [.int n] => if -(2 ^ 62) ≤ n ∧ n < 2 ^ 62 then .ok ((List.range n.toNat).map fun k => .int (k : Nat)) else .bad
  | .rng2, [.int a, .int b] => if (-(2 ^ 62) ≤ a ∧ a < 2 ^ 62) ∧ (-(2 ^ 62) ≤ b ∧ b < 2 ^ 62) then .ok ((List.range (b - a).toNat).map fun k => .int (a + (k : Nat))) else .bad
  | .enm, [.lst xs] => .ok (xs.zipIdx.map fun p => .tup [.int (p.2 : Nat), p.1])
  | .zip, [.lst xs, .lst ys] => .ok (List.zipWith (fun x y => .tup [x, y]) xs ys)
  | .zip, [.tup xs, .tup ys] => .ok (List.zipWith (fun x y => .tup [x, y]) xs ys)
  | _, _ => .bad

/-- x[i] = y on an owned value -/
def putI : KD → D → KD → Res KD
  | (1, .lst xs), .int i, (_, y) => match L2.ixN xs.length i with | some j => .ok (1, .lst (xs.set j y)) | none => .bad
  | (1, .dct kvs), x, (_, y) => if kOk kvs x = true ∧ kvs.length < sizeL then .ok (1, .dct (kput kvs x y)) else .bad
  | _, _, _ => .bad
/-- x[i] of an owned value, to be changed -/
def getO : KD → D → Res KD
  | (k + 1, .lst xs), .int i => match L2.atI xs i with | some d => .ok (k, d) | none => .bad
  | (k + 1, .dct kvs), x => if kOk kvs x = true then (match kget kvs x with | some d => .ok (k, d) | none => .bad) else .bad
  | _, _ => .bad
/-- a method that changes: its value, what it leaves -/
def mthD : Mth → KD → List D → Res (KD × KD)
  | .append, (1, .lst xs), [x] => if xs.length < sizeL then .ok ((0, .non), (1, .lst (xs ++ [x]))) else .bad
  | .extend, (1, .lst xs), [.lst ys] => if xs.length + ys.length ≤ sizeL then .ok ((0, .non), (1, .lst (xs ++ ys))) else .bad
  | .pop, (1, .lst xs), [] => match xs.getLast? with | some x => .ok ((0, x), (1, .lst xs.dropLast)) | none => .bad
  | .popAt, (1, .lst xs), [.int i] => if -(2 ^ 62) < i ∧ i < 2 ^ 62 then (match L2.ixN xs.length i with | some j => (match xs[j]? with | some x => .ok ((0, x), (1, .lst (xs.eraseIdx j))) | none => .bad) | none => .bad) else .bad
  | _, _, _ => .bad

/-! ### what is denoted -/
def wipeD (own : List Nat) (ρ : Env) : Env := own.foldl (fun r i => r.set i none) ρ
/-- their things are shared -/
def shD (own : List Nat) (ρ : Env) : Env := own.foldl (fun r i => r.set i ((r.getD i none).map fun p => (0, p.2))) ρ
def unwD (own : List Nat) (ρ0 ρ : Env) : Env := own.foldl (fun r i => r.set i (ρ0.getD i none)) ρ
def slotD (ρ : Env) (i : Nat) : Option D := match ρ[i]? with
  | some (some (_, d)) => some d
  | _ => none
/-- a method may be asked of what stands there -/
def askOk (o : Op) (d : Option D) : Bool := match o, d with
  | .get1, some (.dct kvs) => kvs.all fun p => p.1.flat
  | .get2, some (.dct kvs) => kvs.all fun p => p.1.flat
  | .index, some (.lst _) => true
  | .index, some (.tup _) => true
  | _, _ => false
def mthOk (m : Mth) (d : Option D) : Bool := match m, d with
  | .update, some (.dct kvs) => kvs.all fun p => p.1.flat
  | .update, _ => false
  | _, some (.lst _) => true
  | _, _ => false
/-- the slots that a walk looks at -/
def watchOf : CEs → List Nat
  | .nil => []
  | .cons (.pk i) r => i :: watchOf r
  | .cons _ r => watchOf r
/-- they hold what they held, their items shared -/
def still : List Nat → Env → Env → Bool
  | [], _, _ => true
  | i :: r, ρ, ρ' => (match ρ[i]?, ρ'[i]? with
    | some (some (_, d)), some (some (k, d')) => decide (d = d') && decide (k ≤ 1)
    | _, _ => false) && still r ρ ρ'
/-- a comprehension's turns: what each gives (none: a test said no) -/
def compL (w : List Nat) (f : D → Env → Res (Option KD × Env)) (k : Nat) : List D → Env → Res (List D × Env)
  | [], ρ => .ok ([], ρ)
  | x :: r, ρ => (f x ρ).nox.bind fun p => if still w ρ p.2 = true then (match p.1 with
    | none => compL w f k r p.2
    | some kd => if k ≤ kd.1 + 1 then (compL w f k r p.2).bind fun q => .ok (kd.2 :: q.1, q.2) else .bad) else .bad
/-- .. of two walks: a turn of the first one gives a list -/
def compLL (w : List Nat) (f : D → Env → Res (List D × Env)) : List D → Env → Res (List D × Env)
  | [], ρ => .ok ([], ρ)
  | x :: r, ρ => (f x ρ).nox.bind fun p => if still w ρ p.2 = true then (compLL w f r p.2).bind fun q => .ok (p.1 ++ q.1, q.2) else .bad
def compDL (w : List Nat) (f : D → List (D × D) → Env → Res (List (D × D) × Env)) : List D → List (D × D) → Env → Res (List (D × D) × Env)
  | [], a, ρ => .ok (a, ρ)
  | x :: r, a, ρ => (f x a ρ).nox.bind fun p => if still w ρ p.2 = true then compDL w f r p.1 p.2 else .bad
inductive Fl where
  | nx | brk | cnt | ret (v : KD)
def forL (w : List Nat) (f : D → Env → Res (Fl × Env)) : List D → Env → Res (Fl × Env)
  | [], ρ => .ok (.nx, ρ)
  | x :: r, ρ => (f x ρ).bind fun p => match p.1 with
    | .nx => if still w ρ p.2 = true then forL w f r p.2 else .bad
    | .cnt => if still w ρ p.2 = true then forL w f r p.2 else .bad
    | .brk => .ok (.nx, p.2)
    | .ret v => .ok (.ret v, p.2)
/-- a while: f tells the next state, or the end -/
def iterW {S R : Type} (f : S → Res (S ⊕ R)) : Nat → S → Option (Res R)
  | 0, _ => none
  | n + 1, s => match f s with
    | .ok (.inl s') => iterW f n s'
    | .ok (.inr r) => some (.ok r)
    | .exc c d => some (.exc c d)
    | .bad => some .bad
open Classical in
def whileL {S R : Type} (f : S → Res (S ⊕ R)) (s : S) : Res R := if h : ∃ r, ∃ n, iterW f n s = some r then Classical.choose h else .bad
theorem iterW_one {S R : Type} {f : S → Res (S ⊕ R)} : ∀ {n m : Nat} {s : S} {r r' : Res R}, iterW f n s = some r → iterW f m s = some r' → r = r'
  | 0, _, _, _, _, h, _ => by cases h
  | _ + 1, 0, _, _, _, _, h => by cases h
  | n + 1, m + 1, s, r, r', h, h' => by
    unfold iterW at h h'
    cases e : f s with
    | ok x =>
      rw [e] at h h'
      cases x with
      | inl s' => exact iterW_one (n := n) (m := m) h h'
      | inr a => exact (Option.some.inj h).symm.trans (Option.some.inj h')
    | exc c d =>
      rw [e] at h h'
      exact (Option.some.inj h).symm.trans (Option.some.inj h')
    | bad =>
      rw [e] at h h'
      exact (Option.some.inj h).symm.trans (Option.some.inj h')
theorem whileL_of {S R : Type} {f : S → Res (S ⊕ R)} {s : S} {n : Nat} {r : Res R} (h : iterW f n s = some r) : whileL f s = r := by
  have hx : ∃ r, ∃ n, iterW f n s = some r := ⟨r, n, h⟩
  unfold whileL
  rw [dif_pos hx]
  obtain ⟨m, hm⟩ := Classical.choose_spec hx
  exact iterW_one hm h
theorem whileL_eq {S R : Type} (f : S → Res (S ⊕ R)) (s : S) : whileL f s = match f s with
    | .ok (.inl s') => whileL f s'
    | .ok (.inr r) => .ok r
    | .exc c d => .exc c d
    | .bad => .bad := by
  cases e : f s with
  | exc c d => exact whileL_of (n := 1) (by unfold iterW; rw [e])
  | bad => exact whileL_of (n := 1) (by unfold iterW; rw [e])
  | ok x =>
    cases x with
    | inr a => exact whileL_of (n := 1) (by unfold iterW; rw [e])
    | inl s' =>
      show whileL f s = whileL f s'
      by_cases h : ∃ r, ∃ n, iterW f n s' = some r
      · obtain ⟨r, n, hn⟩ := h
        rw [whileL_of hn]
        exact whileL_of (n := n + 1) (by unfold iterW; rw [e]; exact hn)
      · have h' : ¬ ∃ r, ∃ n, iterW f n s = some r := by
          rintro ⟨r, n, hn⟩
          cases n with
          | zero => cases hn
          | succ n =>
            unfold iterW at hn
            rw [e] at hn
            exact h ⟨r, n, hn⟩
        unfold whileL
        rw [dif_neg h, dif_neg h']
/-- by a measure -/
theorem whileL_by {S R : Type} {f : S → Res (S ⊕ R)} {Q : R → Prop} (I : S → Prop) (μ : S → Nat) (h : ∀ s, I s → (∃ s', f s = .ok (.inl s') ∧ I s' ∧ μ s' < μ s) ∨ ∃ r, f s = .ok (.inr r) ∧ Q r) :
    ∀ s, I s → ∃ r, whileL f s = .ok r ∧ Q r := by
  intro s
  generalize hn : μ s = n
  induction n using Nat.strongRecOn generalizing s with
  | ind n ih =>
    intro hI
    rcases h s hI with ⟨s', e, hI', lt⟩ | ⟨r, e, q⟩
    · obtain ⟨r, e', q⟩ := ih (μ s') (by omega) s' rfl hI'
      exact ⟨r, by rw [whileL_eq, e]; exact e', q⟩
    · exact ⟨r, by rw [whileL_eq, e], q⟩

def lenT : Tgs → Nat
  | .nil => 0
  | .cons _ r => lenT r + 1
def dsds (l : List KD) : List D := l.map (·.2)
def minK (k : Nat) (l : List KD) : Bool := l.all fun p => decide (k ≤ p.1 + 1)

mutual
def den (F : Fn) : CE → Env → Res (KD × Env)
  | .var i, ρ => match ρ[i]? with
    | some (some (_, d)) => .ok ((0, d), ρ.set i (some (0, d)))
    | _ => .bad
  | .mv i, ρ => match ρ[i]? with
    | some (some kd) => .ok (kd, ρ.set i none)
    | _ => .bad
  | .pk _, _ => .bad
  | .cst d, ρ => .ok ((0, d), ρ)
  | .op o es, ρ => (denOps F o.esc es ρ).bind fun p => (opD o (dsds p.1)).bind fun kd => .ok (kd, p.2)
  | .dsp k es, ρ => (denOps F true es ρ).bind fun p => if minK k p.1 = true ∧ p.1.length ≤ sizeL then .ok ((k, .lst (dsds p.1)), p.2) else .bad
  | .dctE k, ρ => .ok ((k, .dct []), ρ)
  | .andV a b, ρ => (den F a ρ).bind fun p => match p.1.2 with
    | .bl true => den F b p.2
    | .bl false => .ok ((0, .bl false), p.2)
    | _ => .bad
  | .orV a b, ρ => (den F a ρ).bind fun p => match p.1.2 with
    | .bl false => den F b p.2
    | .bl true => .ok ((0, .bl true), p.2)
    | _ => .bad
  | .tst t, ρ => (denT F t ρ).bind fun p => .ok ((0, .bl p.1), p.2)
  | .ite t a b, ρ => (denT F t ρ).bind fun p => if p.1 = true then den F a p.2 else den F b p.2
  | .chn o a b r, ρ => (den F a ρ).bind fun p => (den F b p.2).bind fun q => (opD o [p.1.2, q.1.2]).bind fun t => denCh F t.2 q.1.2 r q.2
  | .call f es, ρ => (denArgs F es ρ).bind fun p => (F f p.1).bind fun r => (backArgs es r.2 p.2).bind fun ρ' => .ok (r.1, ρ')
  | .callV i es, ρ => (denArgs F es ρ).bind fun p => match slotD p.2 i with
    | some (.fn f) => (F f p.1).bind fun r => (backArgs es r.2 p.2).bind fun ρ' => .ok (r.1, ρ')
    | _ => .bad
  | .lc k own t it src ifs elt, ρ => (denOps F true src ρ).bind fun p => (iterD it (dsds p.1)).bind fun xs =>
      (compL (watchOf src) (fun x ρ1 => (asgT F t (0, x) (wipeD own ρ1)).bind fun ρ2 => (denT F ifs ρ2).bind fun b =>
        if b.1 = true then (den F elt b.2).bind fun r => .ok (some r.1, unwD own ρ1 r.2) else .ok (none, unwD own ρ1 b.2)) k xs (shD own p.2)).bind fun q => if q.1.length ≤ sizeL then .ok ((k, .lst q.1), q.2) else .bad
  | .lc2 k own own2 t it src ifs t2 it2 src2 ifs2 elt, ρ => (denOps F true src ρ).bind fun p => (iterD it (dsds p.1)).bind fun xs =>
      (compLL (watchOf src) (fun x ρ1 => (asgT F t (0, x) (wipeD own ρ1)).bind fun ρ2 => (denT F ifs ρ2).bind fun b =>
        if b.1 = true then ((denOps F true src2 b.2).bind fun p2 => (iterD it2 (dsds p2.1)).bind fun ys =>
          (compL (watchOf src2) (fun y ρ3 => (asgT F t2 (0, y) (wipeD own2 ρ3)).bind fun ρ4 => (denT F ifs2 ρ4).bind fun b2 =>
            if b2.1 = true then (den F elt b2.2).bind fun r => .ok (some r.1, unwD own2 ρ3 r.2) else .ok (none, unwD own2 ρ3 b2.2)) k ys p2.2).bind fun q => .ok (q.1, unwD own ρ1 q.2))
        else .ok ([], unwD own ρ1 b.2)) xs p.2).bind fun q => if q.1.length ≤ sizeL then .ok ((k, .lst q.1), q.2) else .bad
  | .dc k own t it src ifs key val, ρ => (denOps F true src ρ).bind fun p => (iterD it (dsds p.1)).bind fun xs =>
      (compDL (watchOf src) (fun x a ρ1 => (asgT F t (0, x) (wipeD own ρ1)).bind fun ρ2 => (denT F ifs ρ2).bind fun b =>
        if b.1 = true then (den F key b.2).bind fun kk => (den F val kk.2).bind fun vv =>
          if k ≤ vv.1.1 + 1 ∧ kIn a kk.1.2 = true ∧ a.length < sizeL then .ok (kput a kk.1.2 vv.1.2, unwD own ρ1 vv.2) else .bad
        else .ok (a, unwD own ρ1 b.2)) xs [] (shD own p.2)).bind fun q => .ok ((k, .dct q.1), q.2)
  | .dc2 k own own2 t it src ifs t2 it2 src2 ifs2 key val, ρ => (denOps F true src ρ).bind fun p => (iterD it (dsds p.1)).bind fun xs =>
      (compDL (watchOf src) (fun x a ρ1 => (asgT F t (0, x) (wipeD own ρ1)).bind fun ρ2 => (denT F ifs ρ2).bind fun b =>
        if b.1 = true then ((denOps F true src2 b.2).bind fun p2 => (iterD it2 (dsds p2.1)).bind fun ys =>
          (compDL (watchOf src2) (fun y a ρ3 => (asgT F t2 (0, y) (wipeD own2 ρ3)).bind fun ρ4 => (denT F ifs2 ρ4).bind fun b2 =>
            if b2.1 = true then (den F key b2.2).bind fun kk => (den F val kk.2).bind fun vv =>
              if k ≤ vv.1.1 + 1 ∧ kIn a kk.1.2 = true ∧ a.length < sizeL then .ok (kput a kk.1.2 vv.1.2, unwD own2 ρ3 vv.2) else .bad
            else .ok (a, unwD own2 ρ3 b2.2)) ys a p2.2).bind fun q => .ok (q.1, unwD own ρ1 q.2))
        else .ok (a, unwD own ρ1 b.2)) xs [] p.2).bind fun q => .ok ((k, .dct q.1), q.2)
  | .mth m i es, ρ => if mthOk m (slotD ρ i) = true then (denOps F true es ρ).bind fun p => match p.2[i]? with
    | some (some kd) => (mthD m kd (dsds p.1)).bind fun r => .ok (r.1, p.2.set i (some r.2))
    | _ => .bad
    else .bad
  | .ask o i es, ρ => if askOk o (slotD ρ i) = true then (denOps F true es ρ).bind fun p => match p.2[i]? with
    | some (some (k, d)) => if k ≤ 2 then (opD o (d :: dsds p.1)).bind fun kd => .ok (kd, p.2.set i (some (min k 1, d))) else .bad
    | _ => .bad
    else .bad
  | .mth1 m i ix es, ρ => (den F ix ρ).bind fun x => (denOps F true es x.2).bind fun p => match p.2[i]? with
    | some (some kd) => (getO kd x.1.2).bind fun c => (mthD m c (dsds p.1)).bind fun r => (putI kd x.1.2 r.2).bind fun kd' => .ok (r.1, p.2.set i (some kd'))
    | _ => .bad
def denCh (F : Fn) (t left : D) : Chs → Env → Res (KD × Env)
  | .nil, ρ => .ok ((0, t), ρ)
  | .cons o e r, ρ => match t with
    | .bl true => (den F e ρ).bind fun q => (opD o [left, q.1.2]).bind fun t' => denCh F t'.2 q.1.2 r q.2
    | .bl false => .ok ((0, .bl false), ρ)
    | _ => .bad
def denOps (F : Fn) (esc : Bool) : CEs → Env → Res (List KD × Env)
  | .nil, ρ => .ok ([], ρ)
  | .cons e r, ρ => match e with
    | .pk i => if (slotD ρ i).isSome = true then (denOps F esc r ρ).bind fun q => match q.2[i]? with
      | some (some (k, d)) => if k ≤ 2 then .ok ((0, d) :: q.1, if esc = true then q.2.set i (some (min k 1, d)) else q.2) else .bad
      | _ => .bad
      else .bad
    | e => (den F e ρ).bind fun p => (denOps F esc r p.2).bind fun q => .ok (p.1 :: q.1, q.2)
def denArgs (F : Fn) : CEs → Env → Res (List KD × Env)
  | .nil, ρ => .ok ([], ρ)
  | .cons e r, ρ => match e with
    | .pk i => if (slotD ρ i).isSome = true then (denArgs F r ρ).bind fun q => match q.2[i]? with
      | some (some kd) => .ok (kd :: q.1, q.2.set i none)
      | _ => .bad
      else .bad
    | e => (den F e ρ).bind fun p => (denArgs F r p.2).bind fun q => .ok ((0, p.1.2) :: q.1, q.2)
def denT (F : Fn) : CT → Env → Res (Bool × Env)
  | .v e, ρ => (den F e ρ).bind fun p => (truth p.1.2).bind fun b => .ok (b, p.2)
  | .p i, ρ => match slotD ρ i with
    | some d => (truth d).bind fun b => .ok (b, ρ)
    | none => .bad
  | .and a b, ρ => (denT F a ρ).bind fun p => if p.1 = true then denT F b p.2 else .ok (false, p.2)
  | .or a b, ρ => (denT F a ρ).bind fun p => if p.1 = true then .ok (true, p.2) else denT F b p.2
  | .not a, ρ => (denT F a ρ).bind fun p => .ok (!p.1, p.2)
  | .yes, ρ => .ok (true, ρ)
def asgT (F : Fn) : Tg → KD → Env → Res Env
  | .nm i, kd, ρ => .ok (ρ.set i (some kd))
  | .tp ts, (_, d), ρ => match d with
    | .tup xs => if xs.length = lenT ts then asgTs F ts xs ρ else .bad
    | _ => .bad
  | .sb i ix, y, ρ => if (slotD ρ i).isSome = true then (den F ix ρ).bind fun x => match x.2[i]? with
    | some (some kd) => (putI kd x.1.2 y).bind fun kd' => .ok (x.2.set i (some kd'))
    | _ => .bad
    else .bad
def asgTs (F : Fn) : Tgs → List D → Env → Res Env
  | .nil, xs, ρ => match xs with
    | [] => .ok ρ
    | _ => .bad
  | .cons t r, xs, ρ => match xs with
    | x :: s => (asgT F t (0, x) ρ).bind fun ρ' => asgTs F r s ρ'
    | [] => .bad
/-- borrowed slots come back -/
def backArgs : CEs → List KD → Env → Res Env
  | .nil, _, ρ => .ok ρ
  | .cons e r, outs, ρ => match outs with
    | [] => .bad
    | o :: os => match e with
      | .pk i => if o.1 = 0 then .bad else backArgs r os (ρ.set i (some o))
      | _ => backArgs r os ρ
end
def asgK (F : Fn) : Tgs → List KD → Env → Res Env
  | .nil, [], ρ => .ok ρ
  | .cons t r, x :: s, ρ => (asgT F t x ρ).bind fun ρ' => asgK F r s ρ'
  | _, _, _ => .bad
mutual
def denS (F : Fn) : CS → Env → Res (Fl × Env)
  | .asg t e, ρ => (den F e ρ).bind fun p => (asgT F t p.1 p.2).bind fun ρ' => .ok (.nx, ρ')
  | .par ts es, ρ => (denOps F true es ρ).bind fun p => if p.1.length = lenT ts ∧ p.1.length ≤ sizeL then (asgK F ts p.1 p.2).bind fun ρ' => .ok (.nx, ρ') else .bad
  | .ex e, ρ => (den F e ρ).bind fun p => .ok (.nx, p.2)
  | .set2 i a b e, ρ => (den F e ρ).bind fun y => (den F a y.2).bind fun u => (den F b u.2).bind fun v => match v.2[i]? with
    | some (some kd) => (getO kd u.1.2).bind fun c => (putI c v.1.2 y.1).bind fun c' => (putI kd u.1.2 c').bind fun kd' => .ok (.nx, v.2.set i (some kd'))
    | _ => .bad
  | .augN i o e, ρ => (den F e ρ).bind fun y => match slotD y.2 i with
    | some d => (opD o [d, y.1.2]).bind fun r => match r.2 with
      | .int _ => .ok (.nx, y.2.set i (some r))
      | _ => .bad
    | none => .bad
  | .augI i ix o e, ρ => (den F ix ρ).bind fun x => (den F e x.2).bind fun y => match y.2[i]? with
    | some (some kd) => (getO kd x.1.2).bind fun c => (opD o [c.2, y.1.2]).bind fun r => match r.2 with
      | .int _ => (putI kd x.1.2 (9, r.2)).bind fun kd' => .ok (.nx, y.2.set i (some kd'))
      | _ => .bad
    | _ => .bad
  | .ret e, ρ => (den F e ρ).bind fun p => .ok (.ret p.1, p.2)
  | .retN, ρ => .ok (.ret (0, .non), ρ)
  | .ifS t a b, ρ => (denT F t ρ).bind fun p => if p.1 = true then denSs F a p.2 else denSs F b p.2
  | .forS t it src body, ρ => (denOps F true src ρ).bind fun p => (iterD it (dsds p.1)).bind fun xs =>
      forL (watchOf src) (fun x ρ1 => (asgT F t (0, x) ρ1).bind fun ρ2 => denSs F body ρ2) xs p.2
  | .whl t body, ρ => whileL (fun ρ => (denT F t ρ).bind fun p => if p.1 = true then (denSs F body p.2).bind fun q => match q.1 with
      | .nx => .ok (.inl q.2)
      | .cnt => .ok (.inl q.2)
      | .brk => .ok (.inr (.nx, q.2))
      | .ret v => .ok (.inr (.ret v, q.2))
      else .ok (.inr (.nx, p.2))) ρ
  | .brk, ρ => .ok (.brk, ρ)
  | .cnt, ρ => .ok (.cnt, ρ)
  | .pss, ρ => .ok (.nx, ρ)
  | .rse c e, ρ => (den F e ρ).bind fun p => .exc c p.1.2
def denSs (F : Fn) : CSs → Env → Res (Fl × Env)
  | .nil, ρ => .ok (.nx, ρ)
  | .cons s r, ρ => (denS F s ρ).bind fun p => match p.1 with
    | .nx => denSs F r p.2
    | f => .ok (f, p.2)
end

structure FDef where
  np : Nat
  ns : Nat
  io : List Nat
  body : CSs
/-- what the parameters are left with: those in io -/
def outsOf (np : Nat) (io : List Nat) (ρ : Env) : List KD := (List.range np).map fun j => if j ∈ io then (ρ.getD j none).getD (0, .non) else (0, .non)
def denF (P : Nat → Option FDef) : Nat → Fn
  | 0, _, _ => .bad
  | n + 1, f, args => match P f with
    | none => .bad
    | some c => if args.length = c.np then (denSs (denF P n) c.body (args.map some ++ List.replicate (c.ns - c.np) none)).bind fun p => match p.1 with
      | .ret v => .ok (v, outsOf c.np c.io p.2)
      | .nx => .ok ((0, .non), outsOf c.np c.io p.2)
      | _ => .bad
      else .bad
end
section
/-! Soundness 1: how plain data stands in the heap. -/
open PySem PySem.Spec PyProof.Rows L2

/-- what is fixed: the written part, where functions stand, the world -/
structure Gx where
  K : PySem.W.Frag
  G : Nat → Option Addr
  w : World

mutual
def D.nk : D → NestedKey
  | .int i => .num i
  | .str x => .text x
  | .tup xs => .tup (D.nks xs)
  | .non => .none
  | .bl _ => .none
  | .lst _ => .none
  | .dct _ => .none
  | .set _ => .none
  | .fn _ => .none
  | .exc _ _ => .none
  | .scr _ => .none
def D.nks : List D → List NestedKey
  | [] => []
  | x :: r => D.nk x :: D.nks r
end
mutual
theorem D.nk_inj : ∀ a b : D, a.key = true → b.key = true → a.nk = b.nk → a = b
  | .int i, b, _, hb, h => by cases b <;> simp_all [D.nk, D.key]
  | .str x, b, _, hb, h => by cases b <;> simp_all [D.nk, D.key]
  | .non, b, _, hb, h => by cases b <;> simp_all [D.nk, D.key]
  | .tup xs, b, ha, hb, h => by
    cases b with
    | tup ys =>
      simp only [D.nk, NestedKey.tup.injEq] at h
      rw [D.nks_inj xs ys (by simpa [D.key] using ha) (by simpa [D.key] using hb) h]
    | _ => simp_all [D.nk, D.key]
  | .bl _, _, ha, _, _ => by simp [D.key] at ha
  | .lst _, _, ha, _, _ => by simp [D.key] at ha
  | .dct _, _, ha, _, _ => by simp [D.key] at ha
  | .set _, _, ha, _, _ => by simp [D.key] at ha
  | .fn _, _, ha, _, _ => by simp [D.key] at ha
  | .exc _ _, _, ha, _, _ => by simp [D.key] at ha
  | .scr _, _, ha, _, _ => by simp [D.key] at ha
theorem D.nks_inj : ∀ a b : List D, D.keys a = true → D.keys b = true → D.nks a = D.nks b → a = b
  | [], [], _, _, _ => rfl
  | [], _ :: _, _, _, h => by simp [D.nks] at h
  | _ :: _, [], _, _, h => by simp [D.nks] at h
  | x :: xs, y :: ys, ha, hb, h => by
    simp only [D.keys, Bool.and_eq_true] at ha hb
    simp only [D.nks, List.cons.injEq] at h
    rw [D.nk_inj x y ha.1 hb.1 h.1, D.nks_inj xs ys ha.2 hb.2 h.2]
end

/-- a key of a dict of ints and texts -/
def kD : Key → D
  | .inl i => .int i
  | .inr x => .str x
/-- a dict whose keys are tuples: each key, where it stands, its value -/
def dN (w : World) (a : Addr) (es : List (D × Addr × V)) : HO := .ext fun h => es.length ≤ sizeLine ∧ ((es.map (·.1)).Nodup ∧ es ≠ []) ∧ (a == sysModules) = false ∧ ∃ us : List Value, Paired (fun (e : D × Addr × V) u => RelV e.2.2 u) es us ∧
  ∃ o xs ep, h.get? a = some o ∧ o.ExactDict ∧ o.data = .dict xs ep ∧ xs.toList = List.zipWith (fun (e : D × Addr × V) u => (⟨e.1.nk.hash w, .ref e.2.1, u⟩ : DictEntry)) es us

mutual
/-- the value v stands for the data d -/
inductive DV (Γ : Gx) (H : Hp) : D → V → Prop
  | non : DV Γ H .non .non
  | bl (b : Bool) : DV Γ H (.bl b) (.bl b)
  | int (i : Int) : DV Γ H (.int i) (.int i)
  | str (x : Str) : DV Γ H (.str x) (.str x)
  | tup {a : Addr} {vs : List V} {xs : List D} : SqT Γ.K H a vs → DVs Γ H xs vs → DV Γ H (.tup xs) (.ref a)
  | lst {a : Addr} {vs : List V} {xs : List D} : H a = some (.lst vs) → DVs Γ H xs vs → DV Γ H (.lst xs) (.ref a)
  | scr {a : Addr} {ns : List Int} : SqL Γ.K H a (ns.map V.int) → DV Γ H (.scr ns) (.ref a)
  | dctK {a : Addr} {es : List (Key × V)} {kvs : List (D × D)} : H a = some (.dK es) → DVk Γ H kvs es → DV Γ H (.dct kvs) (.ref a)
  | dctN {a : Addr} {es : List (D × Addr × V)} {kvs : List (D × D)} : H a = some (dN Γ.w a es) → DVn Γ H kvs es → DV Γ H (.dct kvs) (.ref a)
  | fn {f : Nat} {a : Addr} : Γ.G f = some a → DV Γ H (.fn f) (.ref a)
inductive DVs (Γ : Gx) (H : Hp) : List D → List V → Prop
  | nil : DVs Γ H [] []
  | cons {d : D} {ds : List D} {v : V} {vs : List V} : DV Γ H d v → DVs Γ H ds vs → DVs Γ H (d :: ds) (v :: vs)
inductive DVk (Γ : Gx) (H : Hp) : List (D × D) → List (Key × V) → Prop
  | nil : DVk Γ H [] []
  | cons {k : Key} {d : D} {kvs : List (D × D)} {v : V} {es : List (Key × V)} : DV Γ H d v → DVk Γ H kvs es → DVk Γ H ((kD k, d) :: kvs) ((k, v) :: es)
inductive DVn (Γ : Gx) (H : Hp) : List (D × D) → List (D × Addr × V) → Prop
  | nil : DVn Γ H [] []
  | cons {xs : List D} {a : Addr} {d : D} {kvs : List (D × D)} {v : V} {es : List (D × Addr × V)} : D.keys xs = true → (D.tup xs).nk.depth ≤ 8 → DV Γ H (.tup xs) (.ref a) → DV Γ H d v → DVn Γ H kvs es → DVn Γ H ((.tup xs, d) :: kvs) ((.tup xs, a, v) :: es)
end

/-- one heap within another -/
def Sub (H H' : Hp) : Prop := ∀ a o, H a = some o → H' a = some o
theorem Sub.refl {H : Hp} : Sub H H := fun _ _ h => h
theorem Sub.trans {H H1 H2 : Hp} (h : Sub H H1) (h' : Sub H1 H2) : Sub H H2 := fun a o e => h' a o (h a o e)
theorem Sub.rd {H H' : Hp} (h : Sub H H') {a : Addr} {u : HO} (r : Rd H a u) : Rd H' a u := by
  rcases r with r | ⟨o, r⟩
  · exact .inl (h _ _ r)
  · exact .inr ⟨o, h _ _ r⟩
theorem Sub.sqT {K : PySem.W.Frag} {H H' : Hp} (h : Sub H H') {a : Addr} {xs : List V} (r : SqT K H a xs) : SqT K H' a xs := by
  rcases r with r | r
  · exact .inl (h.rd r)
  · exact .inr r
theorem Sub.sqL {K : PySem.W.Frag} {H H' : Hp} (h : Sub H H') {a : Addr} {xs : List V} (r : SqL K H a xs) : SqL K H' a xs := by
  rcases r with r | r
  · exact .inl (h.rd r)
  · exact .inr r

mutual
theorem DV.mono {Γ : Gx} {H H' : Hp} (h : Sub H H') : ∀ {d : D} {v : V}, DV Γ H d v → DV Γ H' d v
  | _, _, .non => .non
  | _, _, .bl b => .bl b
  | _, _, .int i => .int i
  | _, _, .str x => .str x
  | _, _, .tup a b => .tup (h.sqT a) (DVs.mono h b)
  | _, _, .lst a b => .lst (h _ _ a) (DVs.mono h b)
  | _, _, .scr a => .scr (h.sqL a)
  | _, _, .dctK a b => .dctK (h _ _ a) (DVk.mono h b)
  | _, _, .dctN a b => .dctN (h _ _ a) (DVn.mono h b)
  | _, _, .fn a => .fn a
theorem DVs.mono {Γ : Gx} {H H' : Hp} (h : Sub H H') : ∀ {d : List D} {v : List V}, DVs Γ H d v → DVs Γ H' d v
  | _, _, .nil => .nil
  | _, _, .cons a b => .cons (DV.mono h a) (DVs.mono h b)
theorem DVk.mono {Γ : Gx} {H H' : Hp} (h : Sub H H') : ∀ {d : List (D × D)} {v : List (Key × V)}, DVk Γ H d v → DVk Γ H' d v
  | _, _, .nil => .nil
  | _, _, .cons a b => .cons (DV.mono h a) (DVk.mono h b)
theorem DVn.mono {Γ : Gx} {H H' : Hp} (h : Sub H H') : ∀ {d : List (D × D)} {v : List (D × Addr × V)}, DVn Γ H d v → DVn Γ H' d v
  | _, _, .nil => .nil
  | _, _, .cons k n x a b => .cons k n (DV.mono h x) (DV.mono h a) (DVn.mono h b)
end
mutual
/-- plain data, as the layer has it -/
theorem DV.dp {Γ : Gx} {H : Hp} : ∀ {d : D} {v : V}, DV Γ H d v → d.plain = true → Dp Γ.K H v d.py
  | _, _, .non, _ => .non
  | _, _, .bl b, _ => .bl b
  | _, _, .int i, _ => .int i
  | _, _, .str x, _ => .str x
  | _, _, .tup a b, h => .tup a (DVs.dp b (by simpa [D.plain] using h))
  | _, _, .lst a b, h => .lst (SqL.of a) (DVs.dp b (by simpa [D.plain] using h))
  | _, _, .scr a, h => by simp [D.plain] at h
  | _, _, .dctK a b, h => by simp [D.plain] at h
  | _, _, .dctN a b, h => by simp [D.plain] at h
  | _, _, .fn a, h => by simp [D.plain] at h
theorem DVs.dp {Γ : Gx} {H : Hp} : ∀ {d : List D} {v : List V}, DVs Γ H d v → D.plains d = true → DpAll Γ.K H v (D.pys d)
  | _, _, .nil, _ => .nil
  | _, _, .cons a b, h => by
    simp only [D.plains, Bool.and_eq_true] at h
    exact .cons (DV.dp a h.1) (DVs.dp b h.2)
end
section
variable {Γ : Gx} {H : Hp}
theorem DVs.length : ∀ {ds : List D} {vs : List V}, DVs Γ H ds vs → ds.length = vs.length
  | _, _, .nil => rfl
  | _, _, .cons _ b => congrArg (· + 1) (DVs.length b)
theorem DVs.get : ∀ {ds : List D} {vs : List V} {i : Nat} {d : D}, DVs Γ H ds vs → ds[i]? = some d → ∃ v, vs[i]? = some v ∧ DV Γ H d v
  | _, _, _, _, .nil, e => by simp at e
  | _, _, 0, _, .cons r _, e => by simp at e; subst e; exact ⟨_, rfl, r⟩
  | _, _, i + 1, d, .cons _ t, e => by
    obtain ⟨u, h1, h2⟩ := DVs.get (i := i) (d := d) t (by simpa using e)
    exact ⟨u, by simpa using h1, h2⟩
theorem DVs.getV : ∀ {ds : List D} {vs : List V} {i : Nat} {v : V}, DVs Γ H ds vs → vs[i]? = some v → ∃ d, ds[i]? = some d ∧ DV Γ H d v
  | _, _, _, _, .nil, e => by simp at e
  | _, _, 0, _, .cons r _, e => by simp at e; subst e; exact ⟨_, rfl, r⟩
  | _, _, i + 1, v, .cons _ t, e => by
    obtain ⟨u, h1, h2⟩ := DVs.getV (i := i) (v := v) t (by simpa using e)
    exact ⟨u, by simpa using h1, h2⟩
theorem DVs.append : ∀ {ds es : List D} {vs us : List V}, DVs Γ H ds vs → DVs Γ H es us → DVs Γ H (ds ++ es) (vs ++ us)
  | _, _, _, _, .nil, s => s
  | _, _, _, _, .cons r t, s => .cons r (DVs.append t s)
theorem DVs.take : ∀ {ds : List D} {vs : List V} (n : Nat), DVs Γ H ds vs → DVs Γ H (ds.take n) (vs.take n)
  | _, _, 0, _ => .nil
  | _, _, _ + 1, .nil => .nil
  | _, _, n + 1, .cons r t => .cons r (DVs.take n t)
theorem DVs.drop : ∀ {ds : List D} {vs : List V} (n : Nat), DVs Γ H ds vs → DVs Γ H (ds.drop n) (vs.drop n)
  | _, _, 0, r => r
  | _, _, _ + 1, .nil => .nil
  | _, _, n + 1, .cons _ t => DVs.drop n t
theorem DVs.reverse : ∀ {ds : List D} {vs : List V}, DVs Γ H ds vs → DVs Γ H ds.reverse vs.reverse
  | _, _, .nil => .nil
  | _, _, .cons r t => by
    rw [List.reverse_cons, List.reverse_cons]
    exact DVs.append (DVs.reverse t) (.cons r .nil)
theorem DVs.set {d : D} {v : V} (r : DV Γ H d v) : ∀ {ds : List D} {vs : List V} (i : Nat), DVs Γ H ds vs → DVs Γ H (ds.set i d) (vs.set i v)
  | _, _, _, .nil => .nil
  | _, _, 0, .cons _ t => .cons r t
  | _, _, i + 1, .cons q t => .cons q (DVs.set r i t)
end

/-! ### who owns what -/
/-- an object's owner: a slot's number, or a temporary's -/
abbrev Own := Addr → Option Nat
/-- the heap without what is owned -/
def hid (H : Hp) (w : Own) : Hp := fun a => match w a with
  | some _ => none
  | none => H a
theorem hid_some {H : Hp} {w : Own} {a : Addr} {o : HO} (h : hid H w a = some o) : w a = none ∧ H a = some o := by
  unfold hid at h
  cases e : w a with
  | some _ => rw [e] at h; cases h
  | none => rw [e] at h; exact ⟨rfl, h⟩
theorem hid_of {H : Hp} {w : Own} {a : Addr} {o : HO} (h : H a = some o) (e : w a = none) : hid H w a = some o := by
  unfold hid
  rw [e]
  exact h
theorem hid_sub {H : Hp} {w : Own} : Sub (hid H w) H := fun a o h => (hid_some h).2
/-- data that is changed in place -/
def D.box : D → Bool
  | .lst _ => true
  | .dct _ => true
  | _ => false
/-- the boxes among vs stand apart from one another and from a -/
def Apart (a : Addr) (ds : List D) (vs : List V) : Prop :=
  (∀ (j : Nat) (b : Addr) (d : D), ds[j]? = some d → d.box = true → vs[j]? = some (V.ref b) → b ≠ a) ∧
    ∀ (j j' : Nat) (b : Addr) (d d' : D), ds[j]? = some d → d.box = true → ds[j']? = some d' → d'.box = true → vs[j]? = some (V.ref b) → vs[j']? = some (V.ref b) → j = j'

/-- v stands for d, and is owned by i alone to the depth k -/
def OV (Γ : Gx) (H : Hp) (w : Own) (i : Nat) : Nat → D → V → Prop
  | 0, d, v => DV Γ (hid H w) d v
  | k + 1, .lst ds, v => ∃ a vs, v = .ref a ∧ w a = some i ∧ H a = some (.lst vs) ∧ Paired (OV Γ H w i k) ds vs ∧ (k = 0 ∨ Apart a ds vs)
  | k + 1, .dct kvs, v => (∃ a es, v = .ref a ∧ w a = some i ∧ H a = some (.dK es) ∧ Paired (fun (p : D × D) (q : Key × V) => p.1 = kD q.1 ∧ OV Γ H w i k p.2 q.2) kvs es ∧ (k = 0 ∨ Apart a (kvs.map (·.2)) (es.map (·.2)))) ∨
      ∃ a es, v = .ref a ∧ w a = some i ∧ H a = some (dN Γ.w a es) ∧ Paired (fun (p : D × D) (q : D × Addr × V) => p.1 = q.1 ∧ (∃ xs, q.1 = .tup xs ∧ D.keys xs = true) ∧ q.1.nk.depth ≤ 8 ∧ DV Γ (hid H w) q.1 (.ref q.2.1) ∧ OV Γ H w i k p.2 q.2.2) kvs es ∧ (k = 0 ∨ Apart a (kvs.map (·.2)) (es.map (·.2.2)))
  | _ + 1, d, v => DV Γ (hid H w) d v
end
section
/-! Soundness 2: owning, the frame's state, a step. -/
open PySem PySem.Spec PyProof.Rows L2
variable {Γ : Gx} {H H' : Hp} {w w' : Own} {i t k N : Nat} {d : D} {v : V}

theorem pm {α β : Type} {F G : α → β → Prop} {l₁ : List α} {l₂ : List β} (h : Paired F l₁ l₂) (f : ∀ a b, F a b → G a b) : Paired G l₁ l₂ := L2.Paired.mapP h f
theorem paired_dvs : ∀ {ds : List D} {vs : List V}, Paired (DV Γ H) ds vs → DVs Γ H ds vs
  | _, _, .nil => .nil
  | _, _, .cons a b => .cons a (paired_dvs b)
theorem dvs_paired : ∀ {ds : List D} {vs : List V}, DVs Γ H ds vs → Paired (DV Γ H) ds vs
  | _, _, .nil => .nil
  | _, _, .cons a b => .cons a (dvs_paired b)
theorem Paired.get {α β : Type} {F : α → β → Prop} : ∀ {l : List α} {m : List β} {i : Nat} {a : α}, Paired F l m → l[i]? = some a → ∃ b, m[i]? = some b ∧ F a b
  | _, _, _, _, .nil, e => by simp at e
  | _, _, 0, _, .cons r _, e => by simp at e; subst e; exact ⟨_, rfl, r⟩
  | _, _, i + 1, d, .cons _ t, e => by
    obtain ⟨u, h1, h2⟩ := Paired.get (i := i) (a := d) t (by simpa using e)
    exact ⟨u, by simpa using h1, h2⟩
theorem Paired.set {α β : Type} {F : α → β → Prop} {a : α} {b : β} (r : F a b) : ∀ {l : List α} {m : List β} (i : Nat), Paired F l m → Paired F (l.set i a) (m.set i b)
  | _, _, _, .nil => .nil
  | _, _, 0, .cons _ t => .cons r t
  | _, _, i + 1, .cons q t => .cons q (Paired.set r i t)
theorem Paired.appendP {α β : Type} {F : α → β → Prop} : ∀ {l l' : List α} {m m' : List β}, Paired F l m → Paired F l' m' → Paired F (l ++ l') (m ++ m')
  | _, _, _, _, .nil, s => s
  | _, _, _, _, .cons r t, s => .cons r (Paired.appendP t s)

/-- what was owned by i is free -/
def drop (w : Own) (i : Nat) : Own := fun a => if w a = some i then none else w a
/-- what was owned by t is i's -/
def relab (w : Own) (t i : Nat) : Own := fun a => if w a = some t then some i else w a
theorem drop_none {a : Addr} (h : w a = none) : drop w i a = none := by
  unfold drop
  rw [h]
  simp
theorem drop_ne {a : Addr} {l : Nat} (h : w a = some l) (hn : l ≠ i) : drop w i a = some l := by
  unfold drop
  rw [h, if_neg (fun e => hn (Option.some.inj e))]
theorem drop_eq {a : Addr} (h : w a = some i) : drop w i a = none := by
  unfold drop
  rw [if_pos h]
theorem drop_some {a : Addr} {l : Nat} (h : drop w i a = some l) : w a = some l ∧ l ≠ i := by
  unfold drop at h
  split at h
  · cases h
  · exact ⟨h, fun e => by subst e; contradiction⟩
theorem hid_drop : Sub (hid H w) (hid H (drop w i)) := fun a o h => by
  obtain ⟨h1, h2⟩ := hid_some h
  exact hid_of h2 (drop_none h1)
theorem hid_relab : hid H (relab w t i) = hid H w := by
  funext a
  unfold hid relab
  by_cases h : w a = some t
  · rw [if_pos h, h]
  · rw [if_neg h]

/-- owned by i alone: under a change that leaves i's own -/
theorem OV.step (hA : ∀ a o, H a = some o → w a = some i → H' a = some o ∧ w' a = some i) (hB : Sub (hid H w) (hid H' w')) : ∀ {k : Nat} {d : D} {v : V}, OV Γ H w i k d v → OV Γ H' w' i k d v
  | 0, d, v, h => DV.mono hB h
  | k + 1, d, v, h => by
    cases d with
    | lst ds =>
      obtain ⟨a, vs, e, wa, ha, p, ap⟩ := h
      obtain ⟨h1, h2⟩ := hA a _ ha wa
      exact ⟨a, vs, e, h2, h1, pm p fun _ _ q => OV.step hA hB q, ap⟩
    | dct kvs =>
      rcases h with ⟨a, es, e, wa, ha, p, ap⟩ | ⟨a, es, e, wa, ha, p, ap⟩
      · obtain ⟨h1, h2⟩ := hA a _ ha wa
        exact .inl ⟨a, es, e, h2, h1, pm p fun _ _ q => ⟨q.1, OV.step hA hB q.2⟩, ap⟩
      · obtain ⟨h1, h2⟩ := hA a _ ha wa
        exact .inr ⟨a, es, e, h2, h1, pm p fun _ _ q => ⟨q.1, q.2.1, q.2.2.1, DV.mono hB q.2.2.2.1, OV.step hA hB q.2.2.2.2⟩, ap⟩
    | non => exact DV.mono hB h
    | bl _ => exact DV.mono hB h
    | int _ => exact DV.mono hB h
    | str _ => exact DV.mono hB h
    | tup _ => exact DV.mono hB h
    | set _ => exact DV.mono hB h
    | fn _ => exact DV.mono hB h
    | exc _ _ => exact DV.mono hB h
    | scr _ => exact DV.mono hB h
/-- given free -/
theorem OV.share : ∀ {k : Nat} {d : D} {v : V}, OV Γ H w i k d v → DV Γ (hid H (drop w i)) d v
  | 0, d, v, h => DV.mono hid_drop h
  | k + 1, d, v, h => by
    cases d with
    | lst ds =>
      obtain ⟨a, vs, rfl, wa, ha, p, _⟩ := h
      exact .lst (hid_of ha (drop_eq wa)) (paired_dvs (pm p fun _ _ q => OV.share q))
    | dct kvs =>
      rcases h with ⟨a, es, rfl, wa, ha, p, dead⟩ | ⟨a, es, rfl, wa, ha, p, dead⟩
      · refine .dctK (hid_of ha (drop_eq wa)) ?_
        have p' : Paired (fun (p : D × D) (q : Key × V) => p.1 = kD q.1 ∧ DV Γ (hid H (drop w i)) p.2 q.2) kvs es := pm p fun _ _ q => ⟨q.1, OV.share q.2⟩
        clear p ha dead
        induction p' with
        | nil => exact .nil
        | @cons a b _ _ h _ ih =>
          obtain ⟨a1, a2⟩ := a
          obtain ⟨b1, b2⟩ := b
          obtain ⟨h1, h2⟩ := h
          simp only at h1 h2
          subst h1
          exact .cons h2 ih
      · refine .dctN (hid_of ha (drop_eq wa)) ?_
        have p' : Paired (fun (p : D × D) (q : D × Addr × V) => p.1 = q.1 ∧ (∃ xs, q.1 = .tup xs ∧ D.keys xs = true) ∧ q.1.nk.depth ≤ 8 ∧ DV Γ (hid H (drop w i)) q.1 (.ref q.2.1) ∧ DV Γ (hid H (drop w i)) p.2 q.2.2) kvs es :=
          pm p fun _ _ q => ⟨q.1, q.2.1, q.2.2.1, DV.mono hid_drop q.2.2.2.1, OV.share q.2.2.2.2⟩
        clear p ha dead
        induction p' with
        | nil => exact .nil
        | @cons a b _ _ h _ ih =>
          obtain ⟨a1, a2⟩ := a
          obtain ⟨b1, b2, b3⟩ := b
          obtain ⟨h1, ⟨xs, h2, h3⟩, h4, h5, h6⟩ := h
          simp only at h1 h2 h4 h5 h6
          subst h2
          subst h1
          exact .cons h3 h4 h5 h6 ih
    | non => exact DV.mono hid_drop h
    | bl _ => exact DV.mono hid_drop h
    | int _ => exact DV.mono hid_drop h
    | str _ => exact DV.mono hid_drop h
    | tup _ => exact DV.mono hid_drop h
    | set _ => exact DV.mono hid_drop h
    | fn _ => exact DV.mono hid_drop h
    | exc _ _ => exact DV.mono hid_drop h
    | scr _ => exact DV.mono hid_drop h
/-- in the whole heap -/
theorem OV.dv (h : OV Γ H w i k d v) : DV Γ H d v := DV.mono hid_sub h.share
/-- another owner's name -/
theorem OV.relab : ∀ {k : Nat} {d : D} {v : V}, OV Γ H w t k d v → OV Γ H (relab w t i) i k d v
  | 0, d, v, h => by
    show DV Γ (hid H (PB.relab w t i)) d v
    rw [hid_relab]
    exact h
  | k + 1, d, v, h => by
    have e : ∀ {a : Addr}, w a = some t → PB.relab w t i a = some i := fun {a} h => by
      unfold PB.relab
      rw [if_pos h]
    cases d with
    | lst ds =>
      obtain ⟨a, vs, rfl, wa, ha, p, ap⟩ := h
      exact ⟨a, vs, rfl, e wa, ha, pm p fun _ _ q => OV.relab q, ap⟩
    | dct kvs =>
      rcases h with ⟨a, es, rfl, wa, ha, p, ap⟩ | ⟨a, es, rfl, wa, ha, p, ap⟩
      · exact .inl ⟨a, es, rfl, e wa, ha, pm p fun _ _ q => ⟨q.1, OV.relab q.2⟩, ap⟩
      · exact .inr ⟨a, es, rfl, e wa, ha, pm p fun _ _ q => ⟨q.1, q.2.1, q.2.2.1, by rw [hid_relab]; exact q.2.2.2.1, OV.relab q.2.2.2.2⟩, ap⟩
    | non => show DV Γ (hid H (PB.relab w t i)) _ v; rw [hid_relab]; exact h
    | bl _ => show DV Γ (hid H (PB.relab w t i)) _ v; rw [hid_relab]; exact h
    | int _ => show DV Γ (hid H (PB.relab w t i)) _ v; rw [hid_relab]; exact h
    | str _ => show DV Γ (hid H (PB.relab w t i)) _ v; rw [hid_relab]; exact h
    | tup _ => show DV Γ (hid H (PB.relab w t i)) _ v; rw [hid_relab]; exact h
    | set _ => show DV Γ (hid H (PB.relab w t i)) _ v; rw [hid_relab]; exact h
    | fn _ => show DV Γ (hid H (PB.relab w t i)) _ v; rw [hid_relab]; exact h
    | exc _ _ => show DV Γ (hid H (PB.relab w t i)) _ v; rw [hid_relab]; exact h
    | scr _ => show DV Γ (hid H (PB.relab w t i)) _ v; rw [hid_relab]; exact h
theorem OV.of_dv (hb : d.box = false) (h : DV Γ (hid H w) d v) : OV Γ H w i k d v := by
  cases k with
  | zero => exact h
  | succ k => cases d <;> first | exact h | cases hb
theorem OV.dv_of (hb : d.box = false) (h : OV Γ H w i k d v) : DV Γ (hid H w) d v := by
  cases k with
  | zero => exact h
  | succ k => cases d <;> first | exact h | cases hb

/-! ### the frame -/
/-- the slots ρ stand in σ over H; each owns what w says -/
structure Rep (Γ : Gx) (N : Nat) (ρ : PB.Env) (σ : L2.St) (H : Hp) (w : Own) : Prop where
  len : ρ.length = N
  lenS : σ.length = N
  at_ : ∀ i k d, ρ[i]? = some (some (k, d)) → ∃ v, σ[i]? = some (some v) ∧ OV Γ H w i k d v
  al : ∀ a l, w a = some l → ∃ o, H a = some o
/-- what an expression may do: slots' own things may change, the result is t's -/
structure Stp (N t : Nat) (H : Hp) (w : Own) (H' : Hp) (w' : Own) : Prop where
  keep : ∀ a o, H a = some o → (∀ l, w a = some l → N ≤ l) → H' a = some o
  free : ∀ a o, H a = some o → w a = none → w' a = none
  tmp : ∀ a l, w a = some l → N ≤ l → w' a = some l
  lab : ∀ a l, w' a = some l → N ≤ l → w a = some l ∨ (l = t ∧ t ≤ l)
theorem Stp.refl : Stp N t H w H w := ⟨fun _ _ h _ => h, fun _ _ _ h => h, fun _ _ h _ => h, fun _ _ h _ => .inl h⟩
theorem Stp.hid (s : Stp N t H w H' w') : Sub (hid H w) (hid H' w') := fun a o h => by
  obtain ⟨h1, h2⟩ := hid_some h
  exact hid_of (s.keep a o h2 fun l e => by rw [h1] at e; cases e) (s.free a o h2 h1)
theorem Stp.trans {H1 H2 : Hp} {w1 w2 : Own} {t t' : Nat} (hN : N ≤ t) (a : Stp N t H w H1 w1) (b : Stp N t' H1 w1 H2 w2) (hd : ∀ x, w1 x ≠ some t ∨ t = t') : Stp N t' H w H2 w2 where
  keep := fun x o h hl => b.keep x o (a.keep x o h hl) fun l e => by
    cases q : w x with
    | none => rw [a.free x o h q] at e; cases e
    | some m =>
      rw [a.tmp x m q (hl m q)] at e
      cases e
      exact hl _ q
  free := fun x o h e => b.free x o (a.keep x o h fun l z => by rw [e] at z; cases z) (a.free x o h e)
  tmp := fun x l e hl => b.tmp x l (a.tmp x l e hl) hl
  lab := fun x l e hl => by
    rcases b.lab x l e hl with q | q
    · rcases a.lab x l q hl with q' | ⟨rfl, q'⟩
      · exact .inl q'
      · rcases hd x with z | z
        · exact absurd q z
        · exact .inr ⟨z, Nat.le_of_eq z.symm⟩
    · exact .inr q
theorem Stp.mono {t' : Nat} (s : Stp N t H w H' w') (hd : ∀ x, w' x ≠ some t) : Stp N t' H w H' w' :=
  ⟨s.keep, s.free, s.tmp, fun x l e hl => (s.lab x l e hl).imp_right fun ⟨q, _⟩ => absurd e (by rw [q]; exact hd x)⟩
/-- a temporary given free -/
theorem Stp.drop (s : Stp N t H w H' w') (hn : ∀ x, w x ≠ some t) : Stp N t H w H' (drop w' t) where
  keep := s.keep
  free := fun a o h e => drop_none (s.free a o h e)
  tmp := fun a l e hl => drop_ne (s.tmp a l e hl) fun q => hn a (by rw [← q]; exact e)
  lab := fun a l e hl => s.lab a l (drop_some e).1 hl
theorem drop_free (x : Addr) : drop w t x ≠ some t := fun e => (drop_some e).2 rfl
variable {ρ : PB.Env} {σ : L2.St}
theorem Rep.drop (r : Rep Γ N ρ σ H w) (hN : N < t) : Rep Γ N ρ σ H (drop w t) where
  len := r.len
  lenS := r.lenS
  at_ := fun i k d e => by
    obtain ⟨v, h1, h2⟩ := r.at_ i k d e
    have hi : i < N := by
      have := (List.getElem?_eq_some_iff.mp e).1
      rw [r.len] at this
      exact this
    exact ⟨v, h1, h2.step (fun a o ha wa => ⟨ha, drop_ne wa (by omega)⟩) hid_drop⟩
  al := fun a l e => r.al a l (drop_some e).1
/-- another heap that keeps what the slots own -/
theorem Rep.step (r : Rep Γ N ρ σ H w) (hA : ∀ a o i, i < N → H a = some o → w a = some i → H' a = some o ∧ w' a = some i) (hB : Sub (hid H w) (hid H' w')) (al : ∀ a l, w' a = some l → ∃ o, H' a = some o) : Rep Γ N ρ σ H' w' where
  len := r.len
  lenS := r.lenS
  at_ := fun i k d e => by
    obtain ⟨v, h1, h2⟩ := r.at_ i k d e
    have hi : i < N := by
      have := (List.getElem?_eq_some_iff.mp e).1
      rw [r.len] at this
      exact this
    exact ⟨v, h1, h2.step (fun a o ha wa => hA a o i hi ha wa) hB⟩
  al := al
/-- a slot forgotten -/
theorem Rep.clear (r : Rep Γ N ρ σ H w) (i : Nat) : Rep Γ N (ρ.set i none) σ H (PB.drop w i) where
  len := by rw [List.length_set]; exact r.len
  lenS := r.lenS
  at_ := fun j k d e => by
    by_cases hj : i = j
    · subst hj
      by_cases hl : i < ρ.length
      · rw [List.getElem?_set_self hl] at e
        cases e
      · rw [List.getElem?_eq_none (by rw [List.length_set]; omega)] at e
        cases e
    · rw [List.getElem?_set_ne hj] at e
      obtain ⟨v, h1, h2⟩ := r.at_ j k d e
      exact ⟨v, h1, h2.step (fun a o ha wa => ⟨ha, drop_ne wa (Ne.symm hj)⟩) hid_drop⟩
  al := fun a l e => r.al a l (drop_some e).1
/-- a slot is given what it is shown to own -/
theorem Rep.put (r : Rep Γ N ρ σ H w) {i : Nat} (hi : i < N) (hs : σ[i]? = some (some v)) (hv : OV Γ H w i k d v) : Rep Γ N (ρ.set i (some (k, d))) σ H w where
  len := by rw [List.length_set]; exact r.len
  lenS := r.lenS
  at_ := fun j k' d' e => by
    by_cases hj : i = j
    · subst hj
      rw [List.getElem?_set_self (by rw [r.len]; exact hi)] at e
      cases e
      exact ⟨v, hs, hv⟩
    · rw [List.getElem?_set_ne hj] at e
      exact r.at_ j k' d' e
  al := r.al
/-- a slot's place in σ stored anew -/
theorem Rep.store (r : Rep Γ N ρ σ H w) {i : Nat} (hi : i < N) (hv : OV Γ H w i k d v) : Rep Γ N (ρ.set i (some (k, d))) (σ.set i (some v)) H w where
  len := by rw [List.length_set]; exact r.len
  lenS := by rw [List.length_set]; exact r.lenS
  at_ := fun j k' d' e => by
    by_cases hj : i = j
    · subst hj
      rw [List.getElem?_set_self (by rw [r.len]; exact hi)] at e
      cases e
      exact ⟨v, List.getElem?_set_self (by rw [r.lenS]; exact hi), hv⟩
    · rw [List.getElem?_set_ne hj] at e
      obtain ⟨u, h1, h2⟩ := r.at_ j k' d' e
      exact ⟨u, by rw [List.getElem?_set_ne hj]; exact h1, h2⟩
  al := r.al
end
section
/-! Soundness 3: operations by values. -/
open PySem PySem.Spec PyProof.Rows L2

/-- an operand: shared data, or an owned thing with shared items -/
inductive O1 (Γ : Gx) (H Hs : Hp) : D → V → Prop
  | sh {d : D} {v : V} : DV Γ Hs d v → O1 Γ H Hs d v
  | lst {a : Addr} {vs : List V} {xs : List D} : H a = some (.lst vs) → DVs Γ Hs xs vs → O1 Γ H Hs (.lst xs) (.ref a)
  | dctK {a : Addr} {es : List (L2.Key × V)} {kvs : List (D × D)} : H a = some (.dK es) → DVk Γ Hs kvs es → O1 Γ H Hs (.dct kvs) (.ref a)
  | dctN {a : Addr} {es : List (D × Addr × V)} {kvs : List (D × D)} : H a = some (dN Γ.w a es) → DVn Γ Hs kvs es → O1 Γ H Hs (.dct kvs) (.ref a)
/-- what an operation's result may be: v and the heap behind it -/
def RP (Γ : Gx) (t : Nat) (H : Hp) (w : Own) (kd : KD) (Q : VK) : Prop :=
  ∀ v H' w', Sub H H' → (∀ a o, H a = some o → w' a = w a) → (∀ a l, w' a = some l → w a = some l ∨ (l = t ∧ H a = none)) → (∀ a l, w' a = some l → ∃ o, H' a = some o) → OV Γ H' w' t kd.1 kd.2 v → Q v H'
/-- an operation's reading -/
def rOp (Γ : Gx) (o : Op) : List V → Hp → VK → Prop := fun vs H Q => ∃ ds w t kd, (o.esc = true → Paired (O1 Γ H (hid H w)) ds vs) ∧ Paired (DV Γ H) ds vs ∧ opD o ds = .ok kd ∧ (∀ a, w a ≠ some t) ∧ (∀ a l, w a = some l → ∃ o, H a = some o) ∧ RP Γ t H w kd Q
abbrev rOp2 (Γ : Gx) (o : Op) : R2 := fun x y H Q => rOp Γ o [x, y] H Q
/-- a context that fits -/
structure XOk (Γ : Gx) (X : Cx) : Prop where
  K : X.K = Γ.K
  w : X.w = Γ.w
  calm : X.calm = true
  un : X.A.units + 100 < cLine
  gd : X.A.guards = some []

section
variable {Γ : Gx} {H Hs : Hp} {w : Own} {t k : Nat} {Q : VK} {d : D} {v : V}
theorem O1.lst' {xs : List D} (h : O1 Γ H (hid H w) (.lst xs) v) : ∃ a vs, v = .ref a ∧ H a = some (.lst vs) ∧ DVs Γ (hid H w) xs vs := by
  cases h with
  | sh h =>
    cases h with
    | lst a b => exact ⟨_, _, rfl, hid_sub _ _ a, b⟩
  | lst a b => exact ⟨_, _, rfl, a, b⟩
theorem O1.tup' {xs : List D} (h : O1 Γ H (hid H w) (.tup xs) v) : ∃ a vs, v = .ref a ∧ SqT Γ.K H a vs ∧ DVs Γ (hid H w) xs vs := by
  cases h with
  | sh h =>
    cases h with
    | tup a b => exact ⟨_, _, rfl, hid_sub.sqT a, b⟩
theorem DV.lst' {xs : List D} (h : DV Γ H (.lst xs) v) : ∃ a vs, v = .ref a ∧ H a = some (.lst vs) ∧ DVs Γ H xs vs := by
  cases h with
  | lst a b => exact ⟨_, _, rfl, a, b⟩
theorem DV.tup' {xs : List D} (h : DV Γ H (.tup xs) v) : ∃ a vs, v = .ref a ∧ SqT Γ.K H a vs ∧ DVs Γ H xs vs := by
  cases h with
  | tup a b => exact ⟨_, _, rfl, a, b⟩
/-- the heap as it is, the result shared -/
theorem RP.sh (r : RP Γ t H w (k, d) Q) (al : ∀ a l, w a = some l → ∃ o, H a = some o) (hb : k = 0 ∨ d.box = false) (h : DV Γ (hid H w) d v) : Q v H := by
  refine r v H w Sub.refl (fun _ _ _ => rfl) (fun a l e => .inl e) al ?_
  rcases hb with rfl | hb
  · exact h
  · exact OV.of_dv hb h
theorem RP.bl {b : Bool} (r : RP Γ t H w (k, .bl b) Q) (al : ∀ a l, w a = some l → ∃ o, H a = some o) : Q (.bl b) H := r.sh al (.inr rfl) (.bl b)
theorem RP.int {b : Int} (r : RP Γ t H w (k, .int b) Q) (al : ∀ a l, w a = some l → ∃ o, H a = some o) : Q (.int b) H := r.sh al (.inr rfl) (.int b)
theorem RP.str {b : Str} (r : RP Γ t H w (k, .str b) Q) (al : ∀ a l, w a = some l → ∃ o, H a = some o) : Q (.str b) H := r.sh al (.inr rfl) (.str b)
/-- something new, shared -/
theorem RP.newS {p : Addr} {o : HO} (r : RP Γ t H w (k, d) Q) (al : ∀ a l, w a = some l → ∃ o, H a = some o) (hb : k = 0 ∨ d.box = false) (hp : H p = none) (h : Sub (hid H w) (hid (upd H p o) w) → hid (upd H p o) w p = some o → DV Γ (hid (upd H p o) w) d v) : Q v (upd H p o) := by
  have s : Sub H (upd H p o) := fun a u e => by
    rw [upd_ne (ne_of_none e hp)]
    exact e
  have wp : w p = none := by
    cases e : w p with
    | none => rfl
    | some l =>
      obtain ⟨u, q⟩ := al p l e
      rw [hp] at q
      cases q
  have q := h (fun a u e => by
    obtain ⟨h1, h2⟩ := hid_some e
    exact hid_of (s a u h2) h1) (hid_of upd_same wp)
  refine r v _ w s (fun _ _ _ => rfl) (fun a l e => .inl e) (fun a l e => ?_) ?_
  · obtain ⟨u, q⟩ := al a l e
    exact ⟨u, s a u q⟩
  · rcases hb with rfl | hb
    · exact q
    · exact OV.of_dv hb q
theorem RP.newT {p : Addr} {ds : List D} {vs : List V} (r : RP Γ t H w (k, .tup ds) Q) (al : ∀ a l, w a = some l → ∃ o, H a = some o) (hp : H p = none) (h : DVs Γ (hid H w) ds vs) : Q (.ref p) (upd H p (.tup vs)) :=
  r.newS al (.inr rfl) hp fun s e => .tup (SqT.of e) (DVs.mono s h)
/-- something new, owned -/
theorem RP.newO {p : Addr} {o : HO} (r : RP Γ t H w (k, d) Q) (al : ∀ a l, w a = some l → ∃ o, H a = some o) (hp : H p = none)
    (h : ∀ w' : Own, w' p = some t → Sub (hid H w) (hid (upd H p o) w') → OV Γ (upd H p o) w' t k d v) : Q v (upd H p o) := by
  have s : Sub H (upd H p o) := fun a u e => by
    rw [upd_ne (ne_of_none e hp)]
    exact e
  have ne : ∀ a u, H a = some u → a ≠ p := fun a u e => ne_of_none e hp
  refine r v _ (fun a => if a = p then some t else w a) s (fun a u e => if_neg (ne a u e)) (fun a l e => ?_) (fun a l e => ?_) (h _ (if_pos rfl) fun a u e => ?_)
  · by_cases ha : a = p
    · have e' : some t = some l := (if_pos ha).symm.trans e
      cases e'
      exact .inr ⟨rfl, by rw [ha]; exact hp⟩
    · exact .inl ((if_neg ha).symm.trans e)
  · by_cases ha : a = p
    · exact ⟨o, by rw [ha]; exact upd_same⟩
    · obtain ⟨u, q⟩ := al a l ((if_neg ha).symm.trans e)
      exact ⟨u, s a u q⟩
  · obtain ⟨h1, h2⟩ := hid_some e
    exact hid_of (s a u h2) ((if_neg (ne a u h2)).trans h1)
theorem RP.newL {p : Addr} {ds : List D} {vs : List V} (r : RP Γ t H w (1, .lst ds) Q) (al : ∀ a l, w a = some l → ∃ o, H a = some o) (hp : H p = none) (h : DVs Γ (hid H w) ds vs) : Q (.ref p) (upd H p (.lst vs)) :=
  r.newO al hp fun w' e s => ⟨p, vs, rfl, e, upd_same, dvs_paired (DVs.mono s h), .inl rfl⟩
theorem paired1 {α β : Type} {F : α → β → Prop} {l : List α} {y : β} (h : Paired F l [y]) : ∃ a, l = [a] ∧ F a y := by
  cases h with
  | cons h t =>
    cases t
    exact ⟨_, rfl, h⟩
theorem paired2 {α β : Type} {F : α → β → Prop} {l : List α} {x y : β} (h : Paired F l [x, y]) : ∃ a b, l = [a, b] ∧ F a x ∧ F b y := by
  cases h with
  | cons h t =>
    obtain ⟨b, rfl, h2⟩ := paired1 t
    exact ⟨_, _, rfl, h, h2⟩
theorem paired3 {α β : Type} {F : α → β → Prop} {l : List α} {x y z : β} (h : Paired F l [x, y, z]) : ∃ a b c, l = [a, b, c] ∧ F a x ∧ F b y ∧ F c z := by
  cases h with
  | cons h t =>
    obtain ⟨b, c, rfl, h2⟩ := paired2 t
    exact ⟨_, _, _, rfl, h, h2⟩
theorem dv_int {i : Int} (h : DV Γ H (.int i) v) : v = .int i := by cases h; rfl
theorem dv_str {i : Str} (h : DV Γ H (.str i) v) : v = .str i := by cases h; rfl
theorem dv_bl {i : Bool} (h : DV Γ H (.bl i) v) : v = .bl i := by cases h; rfl
theorem dv_non (h : DV Γ H .non v) : v = .non := by cases h; rfl
end

section
variable {Γ : Gx} {X : Cx} (xo : XOk Γ X)
include xo
omit xo in
theorem sz : sizeL = sizeLine := by rw [PySem.sizeLine_eq]; rfl

theorem ok_add : OpR X (binaryOp .Add) (rOp2 Γ .add) := by
  intro pins s σ H x y v u Q I rx ry ⟨ds, w, t, kd, hO, hD, he0, ht, al, rp⟩
  obtain ⟨a, b, rfl, ha, hb⟩ := paired2 hD
  obtain ⟨_, _, e, oa, ob⟩ := paired2 (hO rfl)
  cases e
  have he : op_add [a, b] = .ok kd := he0
  clear he0
  unfold op_add at he
  split at he
  · rename_i i j e
    cases e
    cases he
    exact L2.op_add pins s σ H x y v u Q I rx ry ⟨i, j, dv_int ha, dv_int hb, rp.int al⟩
  · rename_i i j e
    cases e
    split at he
    · rename_i hl
      cases he
      exact op_add_str pins s σ H x y v u Q I rx ry ⟨i, j, dv_str ha, dv_str hb, by rw [← sz]; exact hl, rp.str al⟩
    · cases he
  · rename_i i j e
    cases e
    split at he
    · rename_i hl
      cases he
      obtain ⟨a, vs, rfl, h1, d1⟩ := oa.lst'
      obtain ⟨b, us, rfl, h2, d2⟩ := ob.lst'
      cases rx
      cases ry
      obtain ⟨z1, its, n1, r1, p1⟩ := I.hok _ _ h1
      obtain ⟨z2, its2, n2, r2, p2⟩ := I.hok _ _ h2
      have l1 := d1.length
      have l2 := d2.length
      have l3 := r1.length
      have l4 := r2.length
      have z : its.toArray.size + its2.toArray.size ≤ sizeLine := by
        rw [List.size_toArray, List.size_toArray, ← sz]
        omega
      refine PySem.P.add_list p1 p2 ?_ z
      have ea : its.toArray ++ its2.toArray = (its ++ its2).toArray := by simp
      rw [ea]
      refine ⟨.ref _, _, I.lnew (t' := s.toks) (r1.append r2) (by rw [List.length_append, ← sz]; omega), rfl, ?_⟩
      exact rp.newL al I.fresh (d1.append d2)
    · cases he
  · rename_i i j e
    cases e
    split at he
    · rename_i hl
      cases he
      obtain ⟨a, vs, rfl, h1, d1⟩ := oa.tup'
      obtain ⟨b, us, rfl, h2, d2⟩ := ob.tup'
      have l1 := d1.length
      have l2 := d2.length
      rw [← xo.K] at h1 h2
      refine op_catA pins s σ H _ _ v u Q I rx ry ⟨a, b, vs, us, rfl, rfl, h1, h2, by rw [← sz]; omega, fun z => ?_, fun _ z => ?_, fun _ _ p hp => rp.newT al hp (d1.append d2)⟩
      · subst z
        have : i = [] := List.eq_nil_of_length_eq_zero l1
        subst this
        exact rp.sh al (.inr rfl) (.tup (by rw [← xo.K]; exact (by cases ob with | sh q => cases q with | tup q1 q2 => rw [← xo.K] at q1; exact (by have := I.tuple_inj (hid_sub.sqT q1) h2; subst this; exact q1))) d2)
      · subst z
        have : j = [] := List.eq_nil_of_length_eq_zero l2
        subst this
        rw [List.append_nil] at rp
        exact rp.sh al (.inr rfl) (by cases oa with | sh q => exact q)
    · cases he
  · cases he

/-! ### plain data reads -/
omit xo in
theorem kept_ep {pins : List (Addr × Obj)} {s : Shared} {σ : L2.St} {H : Hp} {h' : Heap} {tk : Nat} {v : V} {u : Value} {Q : VK} (I : L2.Inv X pins σ H s) (hk : ∀ b o, s.heap.get? b = some o → h'.get? b = some o) (hv : RelV v u) (q : Q v H) : EP X pins σ Q u { s with heap := h', toks := tk } :=
  ⟨v, H, I.kept hk, hv, q⟩
theorem dvReads {pins : List (Addr × Obj)} {s : Shared} {σ : L2.St} {H : Hp} {d : D} {v : V} {u : Value} (I : L2.Inv X pins σ H s) (h : DV Γ H d v) (hp : d.plain = true) (r : RelV v u) : ∃ as, Reads s.heap u d.py as := by
  have q := h.dp hp
  rw [← xo.K] at q
  exact Dp.reads I _ _ _ q r
omit xo in
mutual
theorem py_plain : ∀ d : D, d.py.plain = true
  | .non => by simp [D.py, PyData.plain]
  | .bl _ => by simp [D.py, PyData.plain]
  | .int _ => by simp [D.py, PyData.plain]
  | .str _ => by simp [D.py, PyData.plain]
  | .tup xs => by simp only [D.py, PyData.plain]; exact pys_plain xs
  | .lst xs => by simp only [D.py, PyData.plain]; exact pys_plain xs
  | .dct _ => by simp [D.py, PyData.plain]
  | .set _ => by simp [D.py, PyData.plain]
  | .fn _ => by simp [D.py, PyData.plain]
  | .exc _ _ => by simp [D.py, PyData.plain]
  | .scr _ => by simp [D.py, PyData.plain]
theorem pys_plain : ∀ xs : List D, PyData.plainAll (D.pys xs) = true
  | [] => by simp [D.pys, PyData.plainAll]
  | x :: r => by simp only [D.pys, PyData.plainAll, py_plain x, pys_plain r, Bool.and_self]
end
omit xo in
theorem pys_map : ∀ xs : List D, D.pys xs = xs.map D.py
  | [] => rfl
  | x :: r => by rw [D.pys, pys_map r]; rfl
omit xo in
mutual
theorem py_inj : ∀ a b : D, a.plain = true → b.plain = true → a.py = b.py → a = b
  | .non, b, _, hb, h => by cases b <;> simp_all [D.py, D.plain]
  | .bl _, b, _, hb, h => by cases b <;> simp_all [D.py, D.plain]
  | .int i, b, _, hb, h => by cases b <;> simp_all [D.py, D.plain]
  | .str x, b, _, hb, h => by cases b <;> simp_all [D.py, D.plain]
  | .tup xs, b, ha, hb, h => by
    cases b with
    | tup ys =>
      simp only [D.py, PyData.tuple.injEq] at h
      rw [pys_inj xs ys (by simpa [D.plain] using ha) (by simpa [D.plain] using hb) h]
    | _ => simp_all [D.py, D.plain]
  | .lst xs, b, ha, hb, h => by
    cases b with
    | lst ys =>
      simp only [D.py, PyData.list.injEq] at h
      rw [pys_inj xs ys (by simpa [D.plain] using ha) (by simpa [D.plain] using hb) h]
    | _ => simp_all [D.py, D.plain]
  | .dct _, _, ha, _, _ => by simp [D.plain] at ha
  | .set _, _, ha, _, _ => by simp [D.plain] at ha
  | .fn _, _, ha, _, _ => by simp [D.plain] at ha
  | .exc _ _, _, ha, _, _ => by simp [D.plain] at ha
  | .scr _, _, ha, _, _ => by simp [D.plain] at ha
theorem pys_inj : ∀ a b : List D, D.plains a = true → D.plains b = true → D.pys a = D.pys b → a = b
  | [], [], _, _, _ => rfl
  | [], _ :: _, _, _, h => by simp [D.pys] at h
  | _ :: _, [], _, _, h => by simp [D.pys] at h
  | x :: xs, y :: ys, ha, hb, h => by
    simp only [D.plains, Bool.and_eq_true] at ha hb
    simp only [D.pys, List.cons.injEq] at h
    rw [py_inj x y ha.1 hb.1 h.1, pys_inj xs ys ha.2 hb.2 h.2]
end
theorem un60 {d e : PyData} (h : d.depth ≤ 60 ∨ e.depth ≤ 60) : X.A.units + min d.depth e.depth < cLine := by
  have := xo.un
  omega

theorem ok_sub : OpR X (binaryOp .Sub) (rOp2 Γ .sub) := by
  intro pins s σ H x y v u Q I rx ry ⟨ds, w, t, kd, hO, hD, he0, ht, al, rp⟩
  obtain ⟨a, b, rfl, ha, hb⟩ := paired2 hD
  have he : op_sub [a, b] = .ok kd := he0
  clear he0
  unfold op_sub at he
  split at he
  · rename_i i j e
    cases e
    cases he
    exact L2.op_sub pins s σ H x y v u Q I rx ry ⟨i, j, dv_int ha, dv_int hb, rp.int al⟩
  · cases he
theorem ok_mul : OpR X (binaryOp .Mult) (rOp2 Γ .mul) := by
  intro pins s σ H x y v u Q I rx ry ⟨ds, w, t, kd, hO, hD, he0, ht, al, rp⟩
  obtain ⟨a, b, rfl, ha, hb⟩ := paired2 hD
  obtain ⟨_, _, e, oa, ob⟩ := paired2 (hO rfl)
  cases e
  have he : op_mul [a, b] = .ok kd := he0
  clear he0
  unfold op_mul at he
  split at he
  · rename_i i j e
    cases e
    split at he
    · rename_i hc
      cases he
      refine L2.op_mul pins s σ H x y v u Q I rx ry ⟨i, j, dv_int ha, dv_int hb, ?_, rp.int al⟩
      unfold smallI at hc
      simp only [Bool.and_eq_true, decide_eq_true_eq] at hc
      exact hc
    · cases he
  · rename_i i j e
    cases e
    split at he
    · rename_i hc
      cases he
      obtain ⟨a, vs, rfl, h1, d1⟩ := oa.lst'
      have ey := dv_int hb
      subst ey
      cases rx
      obtain ⟨t', rfl⟩ := ry
      have rep : ∀ n, DVs Γ (hid H w) (List.replicate n i).flatten (List.replicate n vs).flatten := fun n => by
        induction n with
        | zero => exact .nil
        | succ n ih =>
          rw [List.replicate_succ, List.replicate_succ, List.flatten_cons, List.flatten_cons]
          exact d1.append ih
      exact L2.op_rep pins s σ H (.ref a) (.int j) (.ref a) (.int j t') Q I rfl ⟨t', rfl⟩ ⟨a, j, vs, rfl, rfl, h1, by omega, by omega, by rw [← d1.length, ← sz]; exact hc.1, fun p hp => rp.newL al hp (rep _)⟩
    · cases he
  · cases he
end
end
section
/-! Soundness 4: more operations. -/
open PySem PySem.Spec PyProof.Rows L2
section
variable {Γ : Gx} {X : Cx} (xo : XOk Γ X)
include xo
theorem ok_fdiv : OpR X (binaryOp .FloorDiv) (rOp2 Γ .fdiv) := by
  intro pins s σ H x y v u Q I rx ry ⟨ds, w, t, kd, hO, hD, he0, ht, al, rp⟩
  obtain ⟨a, b, rfl, ha, hb⟩ := paired2 hD
  have he : op_fdiv [a, b] = .ok kd := he0
  clear he0
  unfold op_fdiv at he
  split at he
  · rename_i i j e
    cases e
    split at he
    · rename_i hc
      cases he
      exact L2.op_fdivN pins s σ H x y v u Q I rx ry ⟨i, j, dv_int ha, dv_int hb, hc, rp.int al⟩
    · cases he
  · cases he
theorem ok_mod : OpR X (binaryOp .Mod) (rOp2 Γ .mod) := by
  intro pins s σ H x y v u Q I rx ry ⟨ds, w, t, kd, hO, hD, he0, ht, al, rp⟩
  obtain ⟨a, b, rfl, ha, hb⟩ := paired2 hD
  have he : op_mod [a, b] = .ok kd := he0
  clear he0
  unfold op_mod at he
  split at he
  · rename_i i j e
    cases e
    split at he
    · rename_i hc
      cases he
      exact L2.op_modN pins s σ H x y v u Q I rx ry ⟨i, j, dv_int ha, dv_int hb, hc, rp.int al⟩
    · cases he
  · cases he
theorem ok_shl : OpR X (binaryOp .LShift) (rOp2 Γ .shl) := by
  intro pins s σ H x y v u Q I rx ry ⟨ds, w, t, kd, hO, hD, he0, ht, al, rp⟩
  obtain ⟨a, b, rfl, ha, hb⟩ := paired2 hD
  have he : op_shl [a, b] = .ok kd := he0
  clear he0
  unfold op_shl at he
  split at he
  · rename_i i j e
    cases e
    split at he
    · rename_i hc
      cases he
      exact L2.op_shl pins s σ H x y v u Q I rx ry ⟨i, j, dv_int ha, dv_int hb, hc, rp.int al⟩
    · cases he
  · cases he
theorem ok_neg : UnR X (unaryOp .USub) (fun x H Q => rOp Γ .neg [x] H Q) := by
  intro pins s σ H x v Q I rx ⟨ds, w, t, kd, hO, hD, he0, ht, al, rp⟩
  obtain ⟨a, rfl, ha⟩ := paired1 hD
  have he : op_neg [a] = .ok kd := he0
  clear he0
  unfold op_neg at he
  split at he
  · rename_i i e
    cases e
    cases he
    exact L2.un_neg pins s σ H x v Q I rx ⟨i, dv_int ha, rp.int al⟩
  · cases he
/-! ### comparisons -/
omit xo in
theorem okB_ok {b : Bool} {kd : KD} (h : okB b = .ok kd) : kd = (0, .bl b) := by cases h; rfl
theorem ok_lt_gen {pins : List (Addr × Obj)} {s : Shared} {σ : L2.St} {H : Hp} {x y : V} {v u : Value} {Q : VK} {a b : D} {c : Bool} (I : L2.Inv X pins σ H s) (rx : RelV x v) (ry : RelV y u) (ha : DV Γ H a x) (hb : DV Γ H b y) (h : ltD a b = .ok c) (q : Q (.bl c) H) :
    wpAny (model X.prog X.w) X.A (compareOp .Lt v u) (EP X pins σ Q) X.xe s := by
  unfold ltD at h
  split at h
  · rename_i i j
    cases h
    exact L2.op_lt pins s σ H x y v u Q I rx ry ⟨i, j, dv_int ha, dv_int hb, q⟩
  · split at h
    · rename_i hc
      cases h
      obtain ⟨h1, h2, h3, h4, h5⟩ := hc
      obtain ⟨as, r1⟩ := dvReads xo I ha h1 rx
      obtain ⟨bs, r2⟩ := dvReads xo I hb h2 ry
      refine PySem.W.lt_data r1 r2 h3 (fun z => h5 (py_inj _ _ h1 rfl z)) (un60 xo (.inl h4)) ⟨.bl _, H, I, rfl, q⟩
    · cases h
theorem ok_gt_gen {pins : List (Addr × Obj)} {s : Shared} {σ : L2.St} {H : Hp} {x y : V} {v u : Value} {Q : VK} {a b : D} {c : Bool} (I : L2.Inv X pins σ H s) (rx : RelV x v) (ry : RelV y u) (ha : DV Γ H a x) (hb : DV Γ H b y) (h : ltD b a = .ok c) (q : Q (.bl c) H) :
    wpAny (model X.prog X.w) X.A (compareOp .Gt v u) (EP X pins σ Q) X.xe s := by
  unfold ltD at h
  split at h
  · rename_i i j
    cases h
    exact L2.op_gt pins s σ H x y v u Q I rx ry ⟨j, i, dv_int ha, dv_int hb, q⟩
  · split at h
    · rename_i hc
      cases h
      obtain ⟨h1, h2, h3, h4, h5⟩ := hc
      obtain ⟨as, r1⟩ := dvReads xo I ha h2 rx
      obtain ⟨bs, r2⟩ := dvReads xo I hb h1 ry
      rw [PySem.W.alike_comm] at h3
      refine PySem.W.gt_data r1 r2 h3 (PySem.W.ne_none_both (by rw [PySem.W.alike_comm]; exact h3) fun z => h5 (py_inj _ _ h1 rfl z)) (un60 xo (.inr h4)) ⟨.bl _, H, I, rfl, q⟩
    · cases h
theorem ok_ge_gen {pins : List (Addr × Obj)} {s : Shared} {σ : L2.St} {H : Hp} {x y : V} {v u : Value} {Q : VK} {a b : D} {c : Bool} (I : L2.Inv X pins σ H s) (rx : RelV x v) (ry : RelV y u) (ha : DV Γ H a x) (hb : DV Γ H b y) (h : ltD a b = .ok c) (q : Q (.bl (!c)) H) :
    wpAny (model X.prog X.w) X.A (compareOp .GtE v u) (EP X pins σ Q) X.xe s := by
  unfold ltD at h
  split at h
  · rename_i i j
    cases h
    refine L2.op_ge pins s σ H x y v u Q I rx ry ⟨i, j, dv_int ha, dv_int hb, ?_⟩
    have e : (!decide (i < j)) = decide (j ≤ i) := by
      by_cases h : i < j
      · rw [decide_eq_true h, decide_eq_false (by omega)]; rfl
      · rw [decide_eq_false h, decide_eq_true (by omega)]; rfl
    rw [e] at q
    exact q
  · split at h
    · rename_i hc
      cases h
      obtain ⟨h1, h2, h3, h4, h5⟩ := hc
      obtain ⟨as, r1⟩ := dvReads xo I ha h1 rx
      obtain ⟨bs, r2⟩ := dvReads xo I hb h2 ry
      refine PySem.W.ge_data r1 r2 h3 (fun z => h5 (py_inj _ _ h1 rfl z)) (un60 xo (.inl h4)) ⟨.bl _, H, I, rfl, q⟩
    · cases h
theorem ok_le_gen {pins : List (Addr × Obj)} {s : Shared} {σ : L2.St} {H : Hp} {x y : V} {v u : Value} {Q : VK} {a b : D} {c : Bool} (I : L2.Inv X pins σ H s) (rx : RelV x v) (ry : RelV y u) (ha : DV Γ H a x) (hb : DV Γ H b y) (h : ltD b a = .ok c) (q : Q (.bl (!c)) H) :
    wpAny (model X.prog X.w) X.A (compareOp .LtE v u) (EP X pins σ Q) X.xe s := by
  unfold ltD at h
  split at h
  · rename_i i j
    cases h
    refine L2.op_le pins s σ H x y v u Q I rx ry ⟨j, i, dv_int ha, dv_int hb, ?_⟩
    have e : (!decide (i < j)) = decide (j ≤ i) := by
      by_cases h : i < j
      · rw [decide_eq_true h, decide_eq_false (by omega)]; rfl
      · rw [decide_eq_false h, decide_eq_true (by omega)]; rfl
    rw [e] at q
    exact q
  · split at h
    · rename_i hc
      cases h
      obtain ⟨h1, h2, h3, h4, h5⟩ := hc
      obtain ⟨as, r1⟩ := dvReads xo I ha h2 rx
      obtain ⟨bs, r2⟩ := dvReads xo I hb h1 ry
      rw [PySem.W.alike_comm] at h3
      refine PySem.W.le_data r1 r2 h3 (PySem.W.ne_none_both (by rw [PySem.W.alike_comm]; exact h3) fun z => h5 (py_inj _ _ h1 rfl z)) (un60 xo (.inr h4)) ⟨.bl _, H, I, rfl, q⟩
    · cases h
theorem ok_lt : OpR X (compareOp .Lt) (rOp2 Γ .lt) := by
  intro pins s σ H x y v u Q I rx ry ⟨ds, w, t, kd, hO, hD, he0, ht, al, rp⟩
  obtain ⟨a, b, rfl, ha, hb⟩ := paired2 hD
  have he : (ltD a b).bind (fun c => okB (c)) = .ok kd := he0
  clear he0
  cases e : ltD a b with
  | ok c =>
    rw [e] at he
    cases okB_ok he
    exact ok_lt_gen xo I rx ry ha hb e (rp.bl al)
  | exc c d => rw [e] at he; cases he
  | bad => rw [e] at he; cases he
theorem ok_gt : OpR X (compareOp .Gt) (rOp2 Γ .gt) := by
  intro pins s σ H x y v u Q I rx ry ⟨ds, w, t, kd, hO, hD, he0, ht, al, rp⟩
  obtain ⟨a, b, rfl, ha, hb⟩ := paired2 hD
  have he : (ltD b a).bind (fun c => okB (c)) = .ok kd := he0
  clear he0
  cases e : ltD b a with
  | ok c =>
    rw [e] at he
    cases okB_ok he
    exact ok_gt_gen xo I rx ry ha hb e (rp.bl al)
  | exc c d => rw [e] at he; cases he
  | bad => rw [e] at he; cases he
theorem ok_le : OpR X (compareOp .LtE) (rOp2 Γ .le) := by
  intro pins s σ H x y v u Q I rx ry ⟨ds, w, t, kd, hO, hD, he0, ht, al, rp⟩
  obtain ⟨a, b, rfl, ha, hb⟩ := paired2 hD
  have he : (ltD b a).bind (fun c => okB (!c)) = .ok kd := he0
  clear he0
  cases e : ltD b a with
  | ok c =>
    rw [e] at he
    cases okB_ok he
    exact ok_le_gen xo I rx ry ha hb e (rp.bl al)
  | exc c d => rw [e] at he; cases he
  | bad => rw [e] at he; cases he
theorem ok_ge : OpR X (compareOp .GtE) (rOp2 Γ .ge) := by
  intro pins s σ H x y v u Q I rx ry ⟨ds, w, t, kd, hO, hD, he0, ht, al, rp⟩
  obtain ⟨a, b, rfl, ha, hb⟩ := paired2 hD
  have he : (ltD a b).bind (fun c => okB (!c)) = .ok kd := he0
  clear he0
  cases e : ltD a b with
  | ok c =>
    rw [e] at he
    cases okB_ok he
    exact ok_ge_gen xo I rx ry ha hb e (rp.bl al)
  | exc c d => rw [e] at he; cases he
  | bad => rw [e] at he; cases he
theorem ok_eq_gen {pins : List (Addr × Obj)} {s : Shared} {σ : L2.St} {H : Hp} {x y : V} {v u : Value} {Q : VK} {a b : D} {c : Bool} (I : L2.Inv X pins σ H s) (rx : RelV x v) (ry : RelV y u) (ha : DV Γ H a x) (hb : DV Γ H b y) (h : eqD a b = .ok c) (q : Q (.bl c) H) :
    wpAny (model X.prog X.w) X.A (compareOp .Eq v u) (EP X pins σ Q) X.xe s := by
  unfold eqD at h
  split at h
  · rename_i i j
    cases h
    cases dv_int ha
    cases dv_int hb
    exact L2.op_eq pins s σ H _ _ v u Q I rx ry ⟨rfl, by simpa using q⟩
  · rename_i i j
    cases h
    cases dv_str ha
    cases dv_str hb
    exact L2.op_eq pins s σ H _ _ v u Q I rx ry ⟨rfl, by simpa using q⟩
  · rename_i i j
    cases h
    cases dv_bl ha
    cases dv_bl hb
    exact L2.op_eq pins s σ H _ _ v u Q I rx ry ⟨rfl, by simpa using q⟩
  · split at h
    · rename_i hc
      cases h
      obtain ⟨h1, h2⟩ := hc
      unfold shapedD at h1 h2
      simp only [Bool.and_eq_true, decide_eq_true_eq] at h1 h2
      obtain ⟨as, r1⟩ := dvReads xo I ha h1.1 rx
      obtain ⟨bs, r2⟩ := dvReads xo I hb h2.1 ry
      exact PySem.SeqAt.eq_plain r1 r2 (py_plain _) (py_plain _) (un60 xo (.inl h1.2)) ⟨.bl _, H, I, rfl, q⟩
    · cases h
theorem ok_ne_gen {pins : List (Addr × Obj)} {s : Shared} {σ : L2.St} {H : Hp} {x y : V} {v u : Value} {Q : VK} {a b : D} {c : Bool} (I : L2.Inv X pins σ H s) (rx : RelV x v) (ry : RelV y u) (ha : DV Γ H a x) (hb : DV Γ H b y) (h : eqD a b = .ok c) (q : Q (.bl (!c)) H) :
    wpAny (model X.prog X.w) X.A (compareOp .NotEq v u) (EP X pins σ Q) X.xe s := by
  unfold eqD at h
  split at h
  · rename_i i j
    cases h
    cases dv_int ha
    cases dv_int hb
    exact L2.op_ne pins s σ H _ _ v u Q I rx ry ⟨rfl, by simpa using q⟩
  · rename_i i j
    cases h
    cases dv_str ha
    cases dv_str hb
    exact L2.op_ne pins s σ H _ _ v u Q I rx ry ⟨rfl, by simpa using q⟩
  · rename_i i j
    cases h
    cases dv_bl ha
    cases dv_bl hb
    exact L2.op_ne pins s σ H _ _ v u Q I rx ry ⟨rfl, by simpa using q⟩
  · split at h
    · rename_i hc
      cases h
      obtain ⟨h1, h2⟩ := hc
      unfold shapedD at h1 h2
      simp only [Bool.and_eq_true, decide_eq_true_eq] at h1 h2
      obtain ⟨as, r1⟩ := dvReads xo I ha h1.1 rx
      obtain ⟨bs, r2⟩ := dvReads xo I hb h2.1 ry
      exact PySem.SeqAt.ne_plain r1 r2 (py_plain _) (py_plain _) (un60 xo (.inl h1.2)) ⟨.bl _, H, I, rfl, q⟩
    · cases h
theorem ok_eq : OpR X (compareOp .Eq) (rOp2 Γ .eq) := by
  intro pins s σ H x y v u Q I rx ry ⟨ds, w, t, kd, hO, hD, he0, ht, al, rp⟩
  obtain ⟨a, b, rfl, ha, hb⟩ := paired2 hD
  have he : (eqD a b).bind (fun c => okB (c)) = .ok kd := he0
  clear he0
  cases e : eqD a b with
  | ok c =>
    rw [e] at he
    cases okB_ok he
    exact ok_eq_gen xo I rx ry ha hb e (rp.bl al)
  | exc c d => rw [e] at he; cases he
  | bad => rw [e] at he; cases he
theorem ok_ne : OpR X (compareOp .NotEq) (rOp2 Γ .ne) := by
  intro pins s σ H x y v u Q I rx ry ⟨ds, w, t, kd, hO, hD, he0, ht, al, rp⟩
  obtain ⟨a, b, rfl, ha, hb⟩ := paired2 hD
  have he : (eqD a b).bind (fun c => okB (!c)) = .ok kd := he0
  clear he0
  cases e : eqD a b with
  | ok c =>
    rw [e] at he
    cases okB_ok he
    exact ok_ne_gen xo I rx ry ha hb e (rp.bl al)
  | exc c d => rw [e] at he; cases he
  | bad => rw [e] at he; cases he
omit xo in
theorem isn_dv {Γ : Gx} {H : Hp} {d : D} {v : V} (h : DV Γ H d v) : decide (v = .non) = decide (d = .non) := by
  cases h <;> simp
theorem ok_isn : OpR X (compareOp .Is) (fun x y H Q => y = .non ∧ rOp Γ .isn [x] H Q) := by
  intro pins s σ H x y v u Q I rx ry ⟨ey, ds, w, t, kd, hO, hD, he0, ht, al, rp⟩
  obtain ⟨a, rfl, ha⟩ := paired1 hD
  have he : okB (decide (a = .non)) = .ok kd := he0
  cases okB_ok he
  exact L2.op_isN pins s σ H x y v u Q I rx ry ⟨ey, by rw [isn_dv ha]; exact rp.bl al⟩
theorem ok_notn : OpR X (compareOp .IsNot) (fun x y H Q => y = .non ∧ rOp Γ .notn [x] H Q) := by
  intro pins s σ H x y v u Q I rx ry ⟨ey, ds, w, t, kd, hO, hD, he0, ht, al, rp⟩
  obtain ⟨a, rfl, ha⟩ := paired1 hD
  have he : okB (!decide (a = .non)) = .ok kd := he0
  cases okB_ok he
  exact L2.op_notN pins s σ H x y v u Q I rx ry ⟨ey, by rw [isn_dv ha]; exact rp.bl al⟩
end
end
section
/-! Soundness 5: sequences. -/
open PySem PySem.Spec PyProof.Rows L2
section
variable {Γ : Gx} {X : Cx} (xo : XOk Γ X)
include xo
omit xo in
theorem bind_okB {r : Res Bool} {f : Bool → Bool} {kd : KD} (h : (r.bind fun c => okB (f c)) = .ok kd) : ∃ c, r = .ok c ∧ kd = (0, .bl (f c)) := by
  cases r with
  | ok c => exact ⟨c, rfl, okB_ok h⟩
  | exc _ _ => cases h
  | bad => cases h
omit xo in
theorem isInSeq_ok {x : D} {xs : List D} {kd : KD} (h : isInSeq x xs = .ok kd) : shapedD x = true ∧ shapedD (.lst xs) = true ∧ kd = (0, .bl (xs.any fun z => PyData.eqv z.py x.py)) := by
  unfold isInSeq at h
  split at h
  · rename_i hc
    exact ⟨hc.1, hc.2, okB_ok h⟩
  · cases h
omit xo in
theorem shaped_of {d : D} (h : shapedD d = true) : d.plain = true ∧ d.py.depth ≤ 60 := by
  unfold shapedD at h
  simpa only [Bool.and_eq_true, decide_eq_true_eq] using h
omit xo in
theorem any_pys (xs : List D) (x : D) : ((D.pys xs).any fun y => PyData.eqv y x.py) = xs.any fun z => PyData.eqv z.py x.py := by
  rw [pys_map, List.any_map]
  rfl
theorem in_room {x : D} {xs : List D} (h : x.py.depth ≤ 60) : X.A.units + 1 + min (PyData.depthAll (D.pys xs)) x.py.depth < cLine := by
  have := xo.un
  omega
/-- x in xs, not in -/
theorem in_core {pins : List (Addr × Obj)} {s : Shared} {σ : L2.St} {H : Hp} {x y : V} {v u : Value} {Q : VK} {a : D} {xs : List D} (I : L2.Inv X pins σ H s) (rx : RelV x v) (ry : RelV y u) (ha : DV Γ H a x) (tp : Bool) (hb : DV Γ H (if tp = true then .tup xs else .lst xs) y)
    (h1 : shapedD a = true) (h2 : shapedD (.lst xs) = true) :
    (Q (.bl (xs.any fun z => PyData.eqv z.py a.py)) H → wpAny (model X.prog X.w) X.A (compareOp .In v u) (EP X pins σ Q) X.xe s) ∧
      (Q (.bl (!xs.any fun z => PyData.eqv z.py a.py)) H → wpAny (model X.prog X.w) X.A (compareOp .NotIn v u) (EP X pins σ Q) X.xe s) := by
  obtain ⟨p1, d1⟩ := shaped_of h1
  obtain ⟨p2, d2⟩ := shaped_of h2
  obtain ⟨as, r1⟩ := dvReads xo I ha p1 rx
  cases tp with
  | true =>
    obtain ⟨bs, r2⟩ := dvReads xo I hb (show D.plain (.tup xs) = true by simpa [D.plain] using p2) ry
    have r3 : Reads s.heap u (.tuple (D.pys xs)) bs := r2
    refine ⟨fun q => PySem.SeqAt.in_tuple_data r3 r1 (pys_plain _) (py_plain _) (in_room xo d1) ?_, fun q => PySem.SeqAt.notIn_tuple_data r3 r1 (pys_plain _) (py_plain _) (in_room xo d1) ?_⟩
    · rw [any_pys]
      exact ⟨.bl _, H, I, rfl, q⟩
    · rw [any_pys]
      exact ⟨.bl _, H, I, rfl, q⟩
  | false =>
    obtain ⟨bs, r2⟩ := dvReads xo I hb p2 ry
    have r3 : Reads s.heap u (.list (D.pys xs)) bs := r2
    refine ⟨fun q => PySem.SeqAt.in_list_data r3 r1 (pys_plain _) (py_plain _) (in_room xo d1) ?_, fun q => PySem.SeqAt.notIn_list_data r3 r1 (pys_plain _) (py_plain _) (in_room xo d1) ?_⟩
    · rw [any_pys]
      exact ⟨.bl _, H, I, rfl, q⟩
    · rw [any_pys]
      exact ⟨.bl _, H, I, rfl, q⟩
/-! ### places -/
omit xo in
theorem atI_dvs {H : Hp} {ds : List D} {vs : List V} {i : Int} {d : D} (h : DVs Γ H ds vs) (e : atI ds i = some d) : ∃ v, atI vs i = some v ∧ DV Γ H d v := by
  unfold atI at e ⊢
  rw [← h.length]
  cases q : ixN ds.length i with
  | none => rw [q] at e; cases e
  | some j =>
    rw [q] at e
    exact h.get e
theorem ok_ixSeq {pins : List (Addr × Obj)} {s : Shared} {σ : L2.St} {H : Hp} {x : V} {v u : Value} {Q : VK} {w : Own} {xs : List D} {i : Int} {d : D} (value slice : PySem.Expr) (I : L2.Inv X pins σ H s) (rx : RelV x v) (ry : RelV (.int i) u) (tp : Bool)
    (ho : O1 Γ H (hid H w) (if tp = true then .tup xs else .lst xs) x) (e : atI xs i = some d) (q : ∀ z, DV Γ (hid H w) d z → Q z H) (hs : subscripted slice false v u = operate [v, u] (getItem v u)) :
    wpAny (model X.prog X.w) X.A (subscriptTail value slice v u) (EP X pins σ Q) X.xe s := by
  cases tp with
  | true =>
    obtain ⟨a, vs, rfl, h1, d1⟩ := O1.tup' ho
    obtain ⟨z, e2, hz⟩ := atI_dvs d1 e
    rw [← xo.K] at h1
    exact L2.ix_tup value slice pins s σ H _ _ v u Q I rx ry ⟨a, vs, i, z, rfl, rfl, h1, e2, q z hz⟩ hs
  | false =>
    obtain ⟨a, vs, rfl, h1, d1⟩ := O1.lst' ho
    obtain ⟨z, e2, hz⟩ := atI_dvs d1 e
    exact L2.ix_list value slice pins s σ H _ _ v u Q I rx ry ⟨a, vs, i, z, rfl, rfl, SqL.of h1, e2, q z hz⟩ hs
/-! ### slices -/
omit xo in
theorem cut_dvs {H : Hp} {ds : List D} {vs : List V} {lo hi : Option Int} (h : DVs Γ H ds vs) : DVs Γ H (cutD ds lo hi) (cutV vs lo hi) := by
  unfold cutD cutV
  rw [← h.length]
  exact (h.drop _).take _
omit xo in
theorem ints_dvs {H : Hp} : ∀ ns : List Int, DVs Γ H (ns.map D.int) (ns.map V.int)
  | [] => .nil
  | n :: r => .cons (.int n) (ints_dvs r)
/-- what a slice gives -/
def sliceD (d : D) (lo hi : Option Int) : Option KD := match d with
  | .lst xs => some (1, .lst (cutD xs lo hi))
  | .tup xs => some (0, .tup (cutD xs lo hi))
  | .scr ns => some (1, .lst (cutD (ns.map D.int) lo hi))
  | _ => none
omit xo in
theorem cut_whole {α : Type} (xs : List α) (lo hi : Option Int) (h : HT.sIx xs.length 0 lo = 0 ∧ HT.sIx xs.length xs.length hi = xs.length) : (xs.drop (HT.sIx xs.length 0 lo)).take (HT.sIx xs.length xs.length hi - HT.sIx xs.length 0 lo) = xs := by
  rw [h.1, h.2, List.drop_zero, Nat.sub_zero, List.take_length]
theorem ok_slice : SlR X (fun x lo hi H Q => ∃ d w t kd, O1 Γ H (hid H w) d x ∧ sliceD d lo hi = some kd ∧ (∀ a l, w a = some l → ∃ o, H a = some o) ∧ RP Γ t H w kd Q) := by
  intro pins s σ H x v vl vu lo hi sl Q I rx hs pl pu ⟨d, w, t, kd, ho, e, al, rp⟩
  cases d with
  | lst xs =>
    obtain ⟨a, vs, rfl, h1, d1⟩ := O1.lst' ho
    cases e
    exact L2.sl_list pins s σ H _ v vl vu lo hi sl Q I rx hs pl pu ⟨a, vs, rfl, SqL.of h1, fun p hp => rp.newL al hp (cut_dvs d1)⟩
  | tup xs =>
    obtain ⟨a, vs, rfl, h1, d1⟩ := O1.tup' ho
    cases e
    rw [← xo.K] at h1
    refine L2.sl_tupA pins s σ H _ v vl vu lo hi sl Q I rx hs pl pu ⟨a, vs, rfl, h1, fun z => ?_, fun _ p hp => rp.newT al hp (cut_dvs d1)⟩
    have e2 : cutD xs lo hi = xs := cut_whole xs lo hi (by rw [d1.length]; exact z)
    rw [e2] at rp
    exact rp.sh al (.inr rfl) (by cases ho with | sh q => exact q)
  | scr ns =>
    cases e
    cases ho with
    | sh q =>
      cases q with
      | scr h1 =>
        have h2 := hid_sub.sqL h1
        rw [← xo.K] at h2
        exact L2.sl_list pins s σ H _ v vl vu lo hi sl Q I rx hs pl pu ⟨_, _, rfl, h2, fun p hp => rp.newL al hp (cut_dvs (ints_dvs ns))⟩
  | _ => cases e
/-! ### calls of built-ins -/
theorem ok_len : CallR X (.builtin "len") (fun vs H Q => ∃ d n w t, DV Γ H d (vs.headD .non) ∧ vs.length = 1 ∧ (d = .lst n ∨ d = .tup n) ∧ (∀ a l, w a = some l → ∃ o, H a = some o) ∧ RP Γ t H w (0, .int n.length) Q) := by
  intro pins s σ H xs us Q I r ⟨d, n, w, t, hd, hl, hk, al, rp⟩
  match xs, hl with
  | [x], _ =>
    refine L2.call_len pins s σ H _ us Q I r ⟨x, n.length, rfl, ?_, rp.int al⟩
    have hd : DV Γ H d x := hd
    rcases hk with rfl | rfl
    · obtain ⟨a, vs, rfl, h1, d1⟩ := DV.lst' hd
      exact .inl ⟨vs, SqL.of h1, d1.length⟩
    · obtain ⟨a, vs, rfl, h1, d1⟩ := DV.tup' hd
      rw [← xo.K] at h1
      exact .inr ⟨vs, h1, d1.length⟩
theorem ok_abs : CallR X (.builtin "abs") (fun vs H Q => rOp Γ .abs vs H Q ∧ vs.length = 1) := by
  intro pins s σ H xs us Q I r ⟨⟨ds, w, t, kd, hO, hD, he0, ht, al, rp⟩, hl⟩
  match xs, hl with
  | [x], _ =>
    obtain ⟨a, rfl, ha⟩ := paired1 hD
    have he : op_abs [a] = .ok kd := he0
    clear he0
    unfold op_abs at he
    split at he
    · rename_i i e
      cases e
      cases he
      exact L2.call_abs pins s σ H _ us Q I r ⟨i, by rw [dv_int ha], rp.int al⟩
    · cases he
theorem ok_int : CallR X (.type "int") (fun vs H Q => rOp Γ .int vs H Q ∧ vs.length = 1) := by
  intro pins s σ H xs us Q I r ⟨⟨ds, w, t, kd, hO, hD, he0, ht, al, rp⟩, hl⟩
  match xs, hl with
  | [x], _ =>
    obtain ⟨a, rfl, ha⟩ := paired1 hD
    have he : op_int [a] = .ok kd := he0
    clear he0
    unfold op_int at he
    split at he
    · rename_i i e
      cases e
      cases he
      exact L2.call_int1 pins s σ H _ us Q I r (.inl ⟨i, by rw [dv_int ha], rp.int al⟩)
    · cases he
theorem ok_mn2 : CallR X (.builtin "min") (fun vs H Q => rOp Γ .mn2 vs H Q ∧ vs.length = 2) := by
  intro pins s σ H xs us Q I r ⟨⟨ds, w, t, kd, hO, hD, he0, ht, al, rp⟩, hl⟩
  match xs, hl with
  | [x, y], _ =>
    obtain ⟨a, b, rfl, ha, hb⟩ := paired2 hD
    have he : op_mn2 [a, b] = .ok kd := he0
    clear he0
    unfold op_mn2 at he
    split at he
    · rename_i i j e
      cases e
      cases he
      exact L2.call_min2 xo.calm pins s σ H _ us Q I r ⟨i, j, by rw [dv_int ha, dv_int hb], rp.int al⟩
    · cases he
theorem ok_mx2 : CallR X (.builtin "max") (fun vs H Q => rOp Γ .mx2 vs H Q ∧ vs.length = 2) := by
  intro pins s σ H xs us Q I r ⟨⟨ds, w, t, kd, hO, hD, he0, ht, al, rp⟩, hl⟩
  match xs, hl with
  | [x, y], _ =>
    obtain ⟨a, b, rfl, ha, hb⟩ := paired2 hD
    have he : op_mx2 [a, b] = .ok kd := he0
    clear he0
    unfold op_mx2 at he
    split at he
    · rename_i i j e
      cases e
      cases he
      exact L2.call_max2 xo.calm pins s σ H _ us Q I r ⟨i, j, by rw [dv_int ha, dv_int hb], rp.int al⟩
    · cases he
/-! ### isinstance -/
/-- a datum's class -/
def tyD : D → Option String
  | .non => some "NoneType"
  | .bl _ => some "bool"
  | .int _ => some "int"
  | .str _ => some "str"
  | .tup _ => some "tuple"
  | .lst _ => some "list"
  | _ => none
theorem tyX_of {H : Hp} {d : D} {v : V} {T : String} (h : DV Γ H d v) (e : tyD d = some T) : TyX X.K H v (.type T) := by
  cases h with
  | non => cases e; exact .base .non
  | bl b => cases e; exact .base (.bl b)
  | int i => cases e; exact .base (.int i)
  | str x => cases e; exact .base (.str x)
  | tup a b =>
    cases e
    rcases a with (a | ⟨o, a⟩) | ⟨o, its, n, a, c, _⟩
    · exact .base (.tup a)
    · exact .fTuple a
    · rw [← xo.K] at a
      exact .kTuple a c
  | lst a b => cases e; exact .base (.lst a)
  | _ => cases e
theorem ok_isi (T : String) (f : D → Bool) (hf : ∀ d S, tyD d = some S → kitB S T = some (f d)) : CallR X (.builtin "isinstance") (fun vs H Q => ∃ d w t, vs = [vs.headD .non, .ty T] ∧ DV Γ H d (vs.headD .non) ∧ (tyD d).isSome = true ∧ (∀ a l, w a = some l → ∃ o, H a = some o) ∧ RP Γ t H w (0, .bl (f d)) Q) := by
  intro pins s σ H xs us Q I r ⟨d, w, t, e, hd, hs, al, rp⟩
  cases q : tyD d with
  | none => rw [q] at hs; cases hs
  | some S =>
    refine L2.call_isi pins s σ H _ us Q I r ⟨xs.headD .non, .ty T, .type S, .type T, f d, e, .ty T, tyX_of xo hd q, ?_, rp.bl al⟩
    exact kit_ty (hf d S q)
end
end
section
/-! Soundness 6: what is collected; sorted, tuple, list, min, max, all, any, repr. -/
open PySem PySem.Spec PyProof.Rows L2 PySem.Calls

/-- the items that an iterable gives to list(..) and its like: vs -/
def Coll (prog : Program) (w : World) (A : Around) (s : Shared) (x : Value) (vs : List Value) : Prop :=
  ∀ (E : Value → Shared → Prop) (Q : List Value → Shared → Prop), (∀ h' tk, (∀ b o, s.heap.get? b = some o → h'.get? b = some o) → Q vs { s with heap := h', toks := tk }) → wpAny (model prog w) A (collect x) Q E s
theorem Coll.seq {prog : Program} {w : World} {A : Around} {s : Shared} {a : Addr} {T : String} {o : Obj} {items : Array Value} {n : Nat} (hT : T = "list" ∨ T = "tuple") (ho : s.heap.get? a = some o) (hc : o.cls = .type T) (hd : o.data = .seq items n) (hz : items.size ≤ sizeLine) :
    Coll prog w A s (.ref a) items.toList := fun E Q h => wpAny_collect_seq a hT ho hc hd (fun h' k => h h' s.toks k) hz
theorem Coll.dict {prog : Program} {w : World} {A : Around} {s : Shared} {d : Addr} {es : Array DictEntry} {ep : Nat} (hh : A.handled = none) (lo : (d == sysModules) = false) (hm : s.heap.DictRaw d es ep) (hn : es.size ≤ sizeLine) :
    Coll prog w A s (.ref d) (es.toList.map (·.key)) := fun E Q h => by
  unfold collect
  refine wpAny_bind (wpAny_runValue (codeAny_builtin F.entry_proto_collect ?_))
  rw [Around.under_plainId F.plain_proto_collect _]
  show wpAny _ A.in1 (newList [] >>= fun l => again (.builtin "list.__iadd__" ⟨[l, .ref d], []⟩)) _ _ s
  refine wpAny_bind (wpAny_newObj_type ?_)
  refine wpAny_pure ⟨plainId_quiet F.plain_list_iadd _, codeAny_builtin F.entry_list_iadd ?_⟩
  rw [Around.under_plainId F.plain_list_iadd _]
  show wpAny _ A.in1 (Builtin.List.listExtendWith (.ref s.heap.objs.size) (.ref d) (.ref s.heap.objs.size)) _ _ _
  have hd : d < s.heap.objs.size := hm.lt_size
  have hS : (s.heap.push { cls := .type "list", data := .seq ([] : List Value).toArray }).get? s.heap.objs.size = some { cls := .type "list", data := .seq #[] 0 } := Heap.get?_push_size _ rfl
  have fin : ∀ (h' : Heap) (tk : Nat) (acc' : Array Value) (c' : Nat), (∀ b o, b ≠ s.heap.objs.size → (s.heap.push { cls := .type "list", data := .seq ([] : List Value).toArray }).get? b = some o → h'.get? b = some o) → h'.get? s.heap.objs.size = some { cls := .type "list", dict := none, data := .seq acc' c', slots := #[] } →
      ItemsOf (fun i v => ∃ hi : i < es.size, v = es[i].key) acc' es.size → wpAny (model prog w) A (load s.heap.objs.size >>= fun o => match o.data with | .seq xs _ => pure xs.toList | _ => unsupported "internal:collect") Q E { s with heap := h', toks := tk } := fun h' tk acc' c' hk hS' hacc => by
    refine wpAny_bind (wpAny_load hS' ?_)
    have ea : acc'.toList = es.toList.map (·.key) := by
      apply List.ext_getElem?
      intro i
      by_cases hi : i < es.size
      · have h1 : i < acc'.size := by rw [hacc.1]; exact hi
        have h2 : acc'[i]? = some acc'[i] := Array.getElem?_eq_getElem h1
        obtain ⟨_, e⟩ := hacc.2 i _ h2
        rw [Array.getElem?_toList, h2, List.getElem?_map, Array.getElem?_toList, Array.getElem?_eq_getElem hi, e]
        rfl
      · rw [List.getElem?_eq_none (by rw [Array.length_toList, hacc.1]; omega), List.getElem?_eq_none (by rw [List.length_map, Array.length_toList]; omega)]
    show wpAny _ A (pure acc'.toList) _ _ _
    rw [ea]
    exact wpAny_pure (h h' tk fun b o e => hk b o (Nat.ne_of_lt (Heap.lt_size e)) (Heap.get?_push_of_some _ e))
  have key := PySem.W.kdl_extend (prog := prog) (w := w) (A := A) (s := { s with heap := s.heap.push { cls := .type "list", data := .seq ([] : List Value).toArray } })
    (R := fun (q : Result) (s' : Shared) => ∃ (h' : Heap) (tk : Nat) (acc' : Array Value) (c' : Nat), q = .ok (.ret (.ref s.heap.objs.size)) ∧ s' = { s with heap := h', toks := tk } ∧
      (∀ b o, b ≠ s.heap.objs.size → (s.heap.push { cls := .type "list", data := .seq ([] : List Value).toArray }).get? b = some o → h'.get? b = some o) ∧ h'.get? s.heap.objs.size = some { cls := .type "list", dict := none, data := .seq acc' c', slots := #[] } ∧ ItemsOf (fun i v => ∃ hi : i < es.size, v = es[i].key) acc' es.size)
    (PySem.KdlSrc.rawDict lo) hh (hm.push _) s.heap.objs.size (Nat.ne_of_gt hd) (Nat.ne_of_gt hd) (.ref s.heap.objs.size) 0 hS (fun h' tk acc' c' hk hS' hacc => ⟨h', tk, acc', c', rfl, rfl, hk, hS', hacc⟩) hn
  refine wpAny_mono key (fun f s' x => ?_) fun e s' x => ?_
  · cases f with
    | done f =>
      obtain ⟨h', tk, acc', c', e, rfl, hk, hS', hacc⟩ := x
      cases e
      exact fin h' tk acc' c' hk hS' hacc
    | again c₁ =>
      refine ⟨x.1, codeAny_mono x.2 fun q s₂ y => ?_⟩
      obtain ⟨h', tk, acc', c', rfl, rfl, hk, hS', hacc⟩ := y
      exact fin h' tk acc' c' hk hS' hacc
  · obtain ⟨_, _, _, _, e', _⟩ := x
    cases e'

/-- sorted over what is collected -/
theorem sorted_coll {prog : Program} {w : World} {A : Around} {E : Value → Shared → Prop} {s : Shared} {x : Value} {vs : List Value} {ds : List D} {R : Value → D → Prop} {b : Bool} {Q : Value → Shared → Prop} (hc : Coll prog w A.in1 s x vs)
    (e : PySem.W.EachIs R vs ds) (er : PySem.W.EachIs (fun v d => ∃ as, Reads s.heap v d.py as) vs ds) (hal : PySem.W.AllAlike (ds.map D.py)) (hk : PySem.W.Sortable (ds.map D.py)) (hL : ds.length ≤ sizeLine) (hu : ∀ d, d ∈ ds → A.units + 2 + d.py.depth < cLine)
    (kw : List (Str × Value)) (hkw : (kw = [] ∧ b = false) ∨ kw = [(Str.ofString "reverse", .bool b)])
    (h : ∀ (out : List Value) (h1 h' : Heap) (tk n : Nat), (∀ b o, s.heap.get? b = some o → h1.get? b = some o) → (∀ b o, h1.get? b = some o → h'.get? b = some o) → h'.get? h1.objs.size = some (seqObj "list" (List.toArray out) n) → out.length = ds.length → PySem.W.EachIs R out (ds.mergeSort (PySem.W.dataLe b D.py)) → Q (.ref h1.objs.size) { s with heap := h', toks := tk }) :
    wpAny (model prog w) A (call (.builtin "sorted") [x] kw) Q E s := by
  have hL' : vs.length ≤ sizeLine := by rw [e.length]; exact hL
  have ha1 : argsOk "sorted" ⟨[x], kw⟩ := by
    rcases hkw with ⟨rfl, _⟩ | rfl
    · exact args_sorted1 _
    · exact args_sorted_rev _ _
  have ha2 : ∀ x, argsOk "list.sort" ⟨[.ref x], kw⟩ := fun x => by
    rcases hkw with ⟨rfl, _⟩ | rfl
    · exact args_list_sort _
    · exact args_list_sort_rev _ _
  refine call_function_entry_kw kind_sorted plain_sorted entry_sorted ha1 ?_
  unfold Builtin.«sorted»
  refine wpAny_bind (m := checkCount "sorted" 1 1 _) (wpAny_pure ?_)
  refine wpAny_bind (hc _ _ fun h1 tk1 k1 => ?_)
  refine wpAny_bind (wpAny_newList ?_ hL')
  have hp : (h1.push (seqObj "list" vs.toArray 0)).get? h1.objs.size = some (seqObj "list" vs.toArray 0) := Heap.get?_push_size _ rfl
  show wpAny _ _ _ _ _ { s with heap := h1.push (seqObj "list" vs.toArray 0), toks := tk1 }
  refine wpAny_bind (wpAny_holding (wpAny_call_entry_kw slot_list_sort ⟨_, hp, rfl⟩ entry_list_sort ?body (ha2 _)))
  case body =>
    have er' : PySem.W.EachIs (fun v d => ∃ as, Reads (PySem.W.sortingHeap (h1.push (seqObj "list" vs.toArray 0)) h1.objs.size vs) v d.py as) vs ds := er.mono fun _ _ ⟨as, r⟩ =>
      ⟨as, PyProof.Rows.Reads.keeps (fun b o z => PySem.W.sortingHeap_old (Nat.ne_of_lt (Heap.lt_size (k1 _ _ z))) (Heap.get?_push_of_some _ (k1 _ _ z))) r⟩
    have each := PySem.W.each_map (R := fun v d => ∃ as, Reads (PySem.W.sortingHeap (h1.push (seqObj "list" vs.toArray 0)) h1.objs.size vs) v d as) D.py er'
    have S := PySem.W.SortsAt.data (prog := prog) (w := w) (A := A.in1.in1) (s := { s with heap := PySem.W.sortingHeap (h1.push (seqObj "list" vs.toArray 0)) h1.objs.size vs, toks := tk1 }) each hal hk (fun d hd => by
      obtain ⟨d', hd', rfl⟩ := List.mem_map.mp hd
      exact hu d' hd')
    have fin : ∀ E', wpAny (model prog w) A.in1.in1 (Builtin.«list.sort» ⟨[.ref h1.objs.size], kw⟩) (fun f s' => f = .done (.ret .none) ∧ Q (.ref h1.objs.size) s') E' { s with heap := h1.push (seqObj "list" vs.toArray 0), toks := tk1 } := fun E' => by
      have q : Q (.ref h1.objs.size) { s with heap := sortedHeap (h1.push (seqObj "list" vs.toArray 0)) h1.objs.size vs (PySem.W.sortVals (PySem.W.dataKind (PySem.W.sortingHeap (h1.push (seqObj "list" vs.toArray 0)) h1.objs.size vs) (ds.map D.py)) b vs vs).toArray, toks := tk1 } := by
        obtain ⟨n, hn⟩ := sortedHeap_at (out := (PySem.W.sortVals (PySem.W.dataKind (PySem.W.sortingHeap (h1.push (seqObj "list" vs.toArray 0)) h1.objs.size vs) (ds.map D.py)) b vs vs).toArray) hp
        refine h _ h1 _ _ n k1 (fun c o z => ?_) hn (by rw [PySem.W.sortVals_length b rfl]; exact e.length) (PySem.W.sortVals_data b e er' hal)
        rw [sortedHeap_old (Nat.ne_of_lt (Heap.lt_size z)) (by rw [Heap.size_push]; exact Nat.lt_succ_of_lt (Heap.lt_size z))]
        exact Heap.get?_push_of_some _ z
      rcases hkw with ⟨rfl, rfl⟩ | rfl
      · exact PySem.W.list_sort_vals (s := { s with heap := h1.push (seqObj "list" vs.toArray 0), toks := tk1 }) hp S hL' ⟨rfl, q⟩
      · exact PySem.W.list_sort_rev_vals (s := { s with heap := h1.push (seqObj "list" vs.toArray 0), toks := tk1 }) hp S hL' ⟨rfl, q⟩
    refine wpAny_mono (fin _) (fun f s' hf => ?_) fun _ _ e => e
    obtain ⟨rfl, hq⟩ := hf
    exact ⟨_, rfl, wpAny_pure ⟨_, rfl, hq⟩⟩

section
variable {Γ : Gx} {X : Cx} (xo : XOk Γ X)
include xo
/-- a value that stands for d -/
def RD (Γ : Gx) (Hs : Hp) : Value → D → Prop := fun u d => ∃ x, RelV x u ∧ DV Γ Hs d x
omit xo in
theorem each_rd {Hs : Hp} : ∀ {ds : List D} {vs : List V} {us : List Value}, DVs Γ Hs ds vs → Vals vs us → PySem.W.EachIs (RD Γ Hs) us ds
  | _, _, _, .nil, .nil => .nil
  | _, _, _, .cons a b, .cons r t => .cons ⟨_, r, a⟩ (each_rd b t)
omit xo in
theorem rd_each {Hs : Hp} : ∀ {us : List Value} {ds : List D}, PySem.W.EachIs (RD Γ Hs) us ds → ∃ vs, Vals vs us ∧ DVs Γ Hs ds vs
  | _, _, .nil => ⟨[], .nil, .nil⟩
  | _, _, .cons ⟨x, r, a⟩ t => by
    obtain ⟨vs, h1, h2⟩ := rd_each t
    exact ⟨x :: vs, .cons r h1, .cons a h2⟩
omit xo in
theorem dvk_keys {Hs : Hp} : ∀ {kvs : List (D × D)} {es : List (L2.Key × V)}, DVk Γ Hs kvs es → DVs Γ Hs (kvs.map (·.1)) (es.map fun e => kV e.1)
  | _, _, .nil => .nil
  | _, _, .cons (k := k) a b => .cons (by cases k with | inl i => exact .int i | inr x => exact .str x) (dvk_keys b)
omit xo in
theorem dvn_keys {Hs : Hp} : ∀ {kvs : List (D × D)} {es : List (D × Addr × V)}, DVn Γ Hs kvs es → DVs Γ Hs (kvs.map (·.1)) (es.map fun e => V.ref e.2.1)
  | _, _, .nil => .nil
  | _, _, .cons k n x a b => .cons x (dvn_keys b)
omit xo in
theorem refs_vals : ∀ (es : List (D × Addr × V)), Vals (es.map fun e => V.ref e.2.1) (es.map fun e => Value.ref e.2.1)
  | [] => .nil
  | _ :: es => .cons rfl (refs_vals es)
omit xo in
theorem zip_keys {P : (D × Addr × V) → Value → Prop} {w : PySem.World} : ∀ {es : List (D × Addr × V)} {us : List Value}, Paired P es us → (List.zipWith (fun (e : D × Addr × V) u => (⟨e.1.nk.hash w, .ref e.2.1, u⟩ : DictEntry)) es us).map (·.key) = es.map fun e => Value.ref e.2.1
  | _, _, .nil => rfl
  | _, _, .cons _ t => by simp only [List.zipWith_cons_cons, List.map_cons, zip_keys t]
/-- the items of an operand, as they are collected -/
theorem coll_items {pins : List (Addr × Obj)} {s : Shared} {σ : L2.St} {H : Hp} {w : Own} {d : D} {xs : List D} {v : V} {u : Value} (I : L2.Inv X pins σ H s) (ho : O1 Γ H (hid H w) d v) (e : items? d = some xs) (r : RelV v u) (hns : ∀ ys, d ≠ .set ys) :
    ∃ us, Coll X.prog X.w X.A.in1 s u us ∧ PySem.W.EachIs (RD Γ (hid H w)) us xs ∧ us.length ≤ sizeLine := by
  have hh : X.A.in1.handled = none := I.ok.hd xo.calm
  cases d with
  | lst ys =>
    cases e
    obtain ⟨a, vs, rfl, h1, d1⟩ := O1.lst' ho
    cases r
    obtain ⟨z, its, n, r1, p1⟩ := I.hok _ _ h1
    have zi : its.length ≤ sizeLine := by rw [← r1.length]; exact z
    exact ⟨its, by have := Coll.seq (prog := X.prog) (w := X.w) (A := X.A.in1) (.inl rfl) p1 rfl rfl (by rw [List.size_toArray]; exact zi); simpa using this, each_rd d1 r1, zi⟩
  | tup ys =>
    cases e
    obtain ⟨a, vs, rfl, h1, d1⟩ := O1.tup' ho
    cases r
    rw [← xo.K] at h1
    obtain ⟨its, r1, ⟨o, p1, c1, n, q1⟩, z⟩ := I.tuple h1
    have zi : its.length ≤ sizeLine := by rw [← r1.length]; exact z
    exact ⟨its, by have := Coll.seq (prog := X.prog) (w := X.w) (A := X.A.in1) (.inr rfl) p1 c1 q1 (by rw [List.size_toArray]; exact zi); simpa using this, each_rd d1 r1, zi⟩
  | dct kvs =>
    cases e
    have hK : ∀ (a : Addr) (es : List (L2.Key × V)), H a = some (.dK es) → DVk Γ (hid H w) kvs es → RelV (.ref a) u → ∃ us, Coll X.prog X.w X.A.in1 s u us ∧ PySem.W.EachIs (RD Γ (hid H w)) us (kvs.map (·.1)) ∧ us.length ≤ sizeLine := fun a es h1 d1 r => by
      cases r
      obtain ⟨z, lo, vs, rel, dd⟩ := dk_of I.hok h1
      obtain ⟨xs, ep, raw, hsz, hx⟩ := dd.raw
      have zx : xs.size ≤ sizeLine := by rw [hsz, ← rel.length]; exact z
      refine ⟨_, Coll.dict hh lo raw zx, each_rd (dvk_keys d1) ?_, by rw [List.length_map, Array.length_toList]; exact zx⟩
      -- the keys' values
      have hl : es.length = xs.size := by rw [hsz, ← rel.length]
      have key : ∀ i, i < es.length → ∀ (k : L2.Key) (x : V), es[i]? = some (k, x) → ∃ e, xs[i]? = some e ∧ RelV (kV k) e.key := fun i hi k x he => by
        obtain ⟨q, hq, hr⟩ := PB.Paired.get rel he
        obtain ⟨k2, v2⟩ := q
        have ek : k = k2 := hr.1
        subst ek
        have hi2 : i < xs.size := by rw [← hl]; exact hi
        obtain ⟨g1, _⟩ := hx i hi2 k v2 hq
        refine ⟨xs[i], Array.getElem?_eq_getElem hi2, ?_⟩
        have g1 : keyIs k xs[i].key = true := g1
        rcases keyIs_shape g1 with ⟨j, t, rfl, e⟩ | ⟨y, t, rfl, e⟩
        · exact ⟨t, e⟩
        · exact ⟨t, e⟩
      have gen : ∀ (l : List (L2.Key × V)) (m : List DictEntry), l.length = m.length → (∀ (i : Nat) (k : L2.Key) (x : V), l[i]? = some (k, x) → ∃ e, m[i]? = some e ∧ RelV (kV k) e.key) → Vals (l.map fun e => kV e.1) (m.map (·.key)) := by
        intro l
        induction l with
        | nil =>
          intro m hm _
          cases m with
          | nil => exact .nil
          | cons _ _ => cases hm
        | cons p l ih =>
          intro m hm hq
          cases m with
          | nil => cases hm
          | cons e m =>
            obtain ⟨e', h1, h2⟩ := hq 0 p.1 p.2 rfl
            cases h1
            exact .cons h2 (ih m (by simpa using hm) fun i k x hi => by simpa using hq (i + 1) k x (by simpa using hi))
      refine gen es xs.toList (by rw [Array.length_toList]; exact hl) fun i k x hi => ?_
      obtain ⟨e, h1, h2⟩ := key i (List.getElem?_eq_some_iff.mp hi).1 k x hi
      exact ⟨e, by rw [Array.getElem?_toList]; exact h1, h2⟩
    have hN : ∀ (a : Addr) (es : List (D × Addr × V)), H a = some (dN Γ.w a es) → DVn Γ (hid H w) kvs es → RelV (.ref a) u → ∃ us, Coll X.prog X.w X.A.in1 s u us ∧ PySem.W.EachIs (RD Γ (hid H w)) us (kvs.map (·.1)) ∧ us.length ≤ sizeLine := fun a es h1 d1 r => by
      cases r
      obtain ⟨⟨z, _, lo, us, rel, o, xs, ep, g1, g2, g3, g4⟩, _⟩ := I.hok _ _ h1
      have hl := rel.length
      have ek : xs.toList.map (·.key) = es.map fun e => Value.ref e.2.1 := by
        rw [g4]
        exact zip_keys rel
      have zx : xs.size ≤ sizeLine := by
        have : xs.toList.length = es.length := by
          have := congrArg List.length ek
          simpa using this
        rw [Array.length_toList] at this
        rw [this]
        exact z
      refine ⟨_, Coll.dict hh lo ⟨o, g1, g2, g3⟩ zx, each_rd (dvn_keys d1) ?_, by rw [List.length_map, Array.length_toList]; exact zx⟩
      rw [ek]
      exact refs_vals es
    cases ho with
    | sh q =>
      cases q with
      | dctK a b => exact hK _ _ (hid_sub _ _ a) b r
      | dctN a b => exact hN _ _ (hid_sub _ _ a) b r
    | dctK a b => exact hK _ _ a b r
    | dctN a b => exact hN _ _ a b r
  | set ys => exact absurd rfl (hns ys)
  | _ => cases e
end
end
section
/-! Soundness 7: readings of core expressions; operands. -/
open PySem PySem.Spec PyProof.Rows L2

def Wp {α : Type} (r : Res α) (E : Nat → D → Prop) (Q : α → Prop) : Prop := match r with
  | .ok a => Q a
  | .exc c d => E c d
  | .bad => False
theorem Wp.bind {α β : Type} {r : Res α} {f : α → Res β} {E : Nat → D → Prop} {Q : β → Prop} (h : Wp (r.bind f) E Q) : Wp r E fun a => Wp (f a) E Q := by
  cases r <;> exact h
theorem Wp.mono {α : Type} {r : Res α} {E E' : Nat → D → Prop} {Q Q' : α → Prop} (h : Wp r E Q) (hE : ∀ c d, E c d → E' c d) (hQ : ∀ a, r = .ok a → Q a → Q' a) : Wp r E' Q' := by
  cases r with
  | ok a => exact hQ a rfl h
  | exc c d => exact hE c d h
  | bad => exact h

theorem pairIx {α β : Type} {F G : α → β → Prop} : ∀ {l : List α} {m : List β}, Paired F l m → (∀ (j : Nat) (x : α) (u : β), l[j]? = some x → m[j]? = some u → F x u → G x u) → Paired G l m
  | _, _, .nil, _ => .nil
  | _, _, .cons q t, h => .cons (h 0 _ _ rfl rfl q) (pairIx t fun j x u e1 e2 => h (j + 1) x u (by simpa using e1) (by simpa using e2))
theorem toK {Γ : Gx} {H : Hp} : ∀ {kvs : List (D × D)} {es : List (L2.Key × V)}, Paired (fun (p : D × D) (q : L2.Key × V) => p.1 = kD q.1 ∧ DV Γ H p.2 q.2) kvs es → DVk Γ H kvs es
  | _, _, .nil => .nil
  | (a1, a2) :: _, (b1, b2) :: _, .cons q t => by
    obtain ⟨q1, q2⟩ := q
    simp only at q1 q2
    subst q1
    exact .cons q2 (toK t)
theorem toN {Γ : Gx} {H : Hp} : ∀ {kvs : List (D × D)} {es : List (D × Addr × V)}, Paired (fun (p : D × D) (q : D × Addr × V) => p.1 = q.1 ∧ (∃ xs, q.1 = .tup xs ∧ D.keys xs = true) ∧ q.1.nk.depth ≤ 8 ∧ DV Γ H q.1 (.ref q.2.1) ∧ DV Γ H p.2 q.2.2) kvs es → DVn Γ H kvs es
  | _, _, .nil => .nil
  | (a1, a2) :: _, (b1, b2, b3) :: _, .cons q t => by
    obtain ⟨q1, ⟨xs, q2, q3⟩, q4, q5, q6⟩ := q
    simp only at q1 q2 q4 q5 q6
    subst q2
    subst q1
    exact .cons q3 q4 q5 q6 (toN t)
/-- what is fixed in a body -/
structure Fx where
  Γ : Gx
  N : Nat
  F : Fn
  Ew : Nat → D → Hp → Prop
/-- what nobody here owns is kept -/
structure Kp (N : Nat) (H : Hp) (w : Own) (H' : Hp) (w' : Own) : Prop where
  non : ∀ a o, H a = some o → w a = none → H' a = some o ∧ w' a = none
  ali : ∀ a o, H a = some o → w a = some N → H' a = some o ∧ w' a = some N
  bk : ∀ a, w' a = some N → w a = some N
theorem Kp.refl {N : Nat} {H : Hp} {w : Own} : Kp N H w H w := ⟨fun _ _ h e => ⟨h, e⟩, fun _ _ h e => ⟨h, e⟩, fun _ e => e⟩
theorem Kp.trans {N : Nat} {H H1 H2 : Hp} {w w1 w2 : Own} (a : Kp N H w H1 w1) (b : Kp N H1 w1 H2 w2) : Kp N H w H2 w2 := ⟨fun x o h e => b.non x o (a.non x o h e).1 (a.non x o h e).2, fun x o h e => b.ali x o (a.ali x o h e).1 (a.ali x o h e).2, fun x e => a.bk x (b.bk x e)⟩
theorem Kp.hid {N : Nat} {H H' : Hp} {w w' : Own} (k : Kp N H w H' w') : Sub (hid H w) (hid H' w') := fun a o h => by
  obtain ⟨h1, h2⟩ := hid_some h
  exact hid_of (k.non a o h2 h1).1 (k.non a o h2 h1).2
/-- a step that leaves no temporary -/
structure Stz (N : Nat) (H : Hp) (w : Own) (H' : Hp) (w' : Own) : Prop where
  keep : ∀ a o, H a = some o → (∀ l, w a = some l → N ≤ l) → H' a = some o
  free : ∀ a o, H a = some o → w a = none → w' a = none
  tmp : ∀ a l, w a = some l → N ≤ l → w' a = some l
  lab : ∀ a l, w' a = some l → N ≤ l → w a = some l
/-- labels below t -/
def Lv (w : Own) (t : Nat) : Prop := ∀ a l, w a = some l → l < t
section
variable {N t : Nat} {H H' H1 H2 : Hp} {w w' w1 w2 : Own}
theorem Stz.refl : Stz N H w H w := ⟨fun _ _ h _ => h, fun _ _ _ h => h, fun _ _ h _ => h, fun _ _ h _ => h⟩
theorem Stz.trans (a : Stz N H w H1 w1) (b : Stz N H1 w1 H2 w2) : Stz N H w H2 w2 where
  keep := fun x o h hl => b.keep x o (a.keep x o h hl) fun l e => by
    by_cases hN : N ≤ l
    · exact hN
    · cases q : w x with
      | none => rw [a.free x o h q] at e; cases e
      | some m =>
        rw [a.tmp x m q (hl m q)] at e
        cases e
        exact hl _ q
  free := fun x o h e => b.free x o (a.keep x o h fun l z => by rw [e] at z; cases z) (a.free x o h e)
  tmp := fun x l e hl => b.tmp x l (a.tmp x l e hl) hl
  lab := fun x l e hl => a.lab x l (b.lab x l e hl) hl
theorem Stz.kp (a : Stz N H w H' w') : Kp N H w H' w' := ⟨fun x o h e => ⟨a.keep x o h (fun l z => by rw [e] at z; cases z), a.free x o h e⟩, fun x o h e => ⟨a.keep x o h (fun l z => by rw [e] at z; cases z; exact Nat.le_refl _), a.tmp x N e (Nat.le_refl _)⟩, fun x e => a.lab x N e (Nat.le_refl _)⟩
theorem Stp.kp (a : Stp N t H w H' w') (ht : N < t) : Kp N H w H' w' := ⟨fun x o h e => ⟨a.keep x o h (fun l z => by rw [e] at z; cases z), a.free x o h e⟩, fun x o h e => ⟨a.keep x o h (fun l z => by rw [e] at z; cases z; exact Nat.le_refl _), a.tmp x N e (Nat.le_refl _)⟩, fun x e => (a.lab x N e (Nat.le_refl _)).elim id fun q => by omega⟩
theorem Stz.hid (a : Stz N H w H' w') : Sub (hid H w) (hid H' w') := a.kp.hid
theorem Stz.stp (a : Stz N H w H' w') : Stp N t H w H' w' := ⟨a.keep, a.free, a.tmp, fun x l e hl => .inl (a.lab x l e hl)⟩
theorem Stz.lv (a : Stz N H w H' w') (hN : N < t) (h : Lv w t) : Lv w' t := fun x l e => by
  by_cases hl : N ≤ l
  · exact h x l (a.lab x l e hl)
  · omega
theorem Stp.lv (a : Stp N t H w H' w') (hN : N < t) (h : Lv w t) : Lv w' (t + 1) := fun x l e => by
  by_cases hl : N ≤ l
  · rcases a.lab x l e hl with q | ⟨rfl, _⟩
    · have := h x l q; omega
    · omega
  · omega
theorem Lv.ne (h : Lv w t) : ∀ a, w a ≠ some t := fun a e => absurd (h a t e) (Nat.lt_irrefl t)
theorem Lv.mono (h : Lv w t) {t' : Nat} (hl : t ≤ t') : Lv w t' := fun a l e => Nat.lt_of_lt_of_le (h a l e) hl
/-- the temporary is shared -/
theorem Stp.shareT (a : Stp N t H w H' w') (h : Lv w t) : Stz N H w H' (PB.drop w' t) where
  keep := a.keep
  free := fun x o e z => drop_none (a.free x o e z)
  tmp := fun x l e hl => drop_ne (a.tmp x l e hl) fun q => h.ne x (by rw [← q]; exact e)
  lab := fun x l e hl => by
    obtain ⟨e1, ne⟩ := drop_some e
    rcases a.lab x l e1 hl with q | ⟨q, _⟩
    · exact q
    · exact absurd q ne
theorem Stz.drops (hN : N < t) (h : Lv w t) (a : Stz N H (drop w t) H' w') : Stz N H w H' w' := by
  have e : drop w t = w := by
    funext x
    unfold drop
    rw [if_neg (h.ne x)]
  rw [e] at a
  exact a
/-- Stp then Stz -/
theorem Stp.thenZ (a : Stp N t H w H1 w1) (b : Stz N H1 w1 H2 w2) : Stp N t H w H2 w2 where
  keep := fun x o h hl => b.keep x o (a.keep x o h hl) fun l e => by
    by_cases hN : N ≤ l
    · exact hN
    · cases q : w x with
      | none => rw [a.free x o h q] at e; cases e
      | some m =>
        rw [a.tmp x m q (hl m q)] at e
        cases e
        exact hl _ q
  free := fun x o h e => b.free x o (a.keep x o h fun l z => by rw [e] at z; cases z) (a.free x o h e)
  tmp := fun x l e hl => b.tmp x l (a.tmp x l e hl) hl
  lab := fun x l e hl => a.lab x l (b.lab x l e hl) hl
theorem Stz.thenP (a : Stz N H w H1 w1) (b : Stp N t H1 w1 H2 w2) : Stp N t H w H2 w2 where
  keep := fun x o h hl => b.keep x o (a.keep x o h hl) fun l e => by
    by_cases hN : N ≤ l
    · exact hN
    · cases q : w x with
      | none => rw [a.free x o h q] at e; cases e
      | some m =>
        rw [a.tmp x m q (hl m q)] at e
        cases e
        exact hl _ q
  free := fun x o h e => b.free x o (a.keep x o h fun l z => by rw [e] at z; cases z) (a.free x o h e)
  tmp := fun x l e hl => b.tmp x l (a.tmp x l e hl) hl
  lab := fun x l e hl => (b.lab x l e hl).imp_left fun q => a.lab x l q hl
/-- a temporary owned by t stays, behind a step -/
theorem OV.stz {Γ : Gx} {k : Nat} {d : D} {v : V} (hN : N < t) (b : Stz N H w H' w') (h : OV Γ H w t k d v) : OV Γ H' w' t k d v :=
  h.step (fun a o ha wa => ⟨b.keep a o ha fun l e => by rw [wa] at e; cases e; exact Nat.le_of_lt hN, b.tmp a t wa (Nat.le_of_lt hN)⟩) b.hid
end
def Ex (Φ : Fx) (H : Hp) (w : Own) (c : Nat) (d : D) : Prop := ∀ H' w', Kp Φ.N H w H' w' → Φ.Ew c d H'
theorem Ex.step {Φ : Fx} {H H1 : Hp} {w w1 : Own} {c : Nat} {d : D} (h : Ex Φ H w c d) (k : Kp Φ.N H w H1 w1) : Ex Φ H1 w1 c d := fun H' w' k' => h H' w' (k.trans k')

/-- an expression's reading -/
def tE (Φ : Fx) (c : CE) : TE := fun σ H Q => ∃ ρ w t, Rep Φ.Γ Φ.N ρ σ H w ∧ Φ.N < t ∧ Lv w t ∧ Wp (den Φ.F c ρ) (Ex Φ H w) fun p =>
  ∀ v H' w', Rep Φ.Γ Φ.N p.2 σ H' w' → Stp Φ.N t H w H' w' → OV Φ.Γ H' w' t p.1.1 p.1.2 v → Q v H'
/-- an operand's: read where it stands -/
def tO (Φ : Fx) : CE → TE
  | .pk i => tVar i
  | c => tE Φ c
/-- a test's -/
def tT (Φ : Fx) (c : CT) : TT := fun σ H Q => ∃ ρ w t, Rep Φ.Γ Φ.N ρ σ H w ∧ Φ.N < t ∧ Lv w t ∧ Wp (denT Φ.F c ρ) (Ex Φ H w) fun p =>
  ∀ H' w', Rep Φ.Γ Φ.N p.2 σ H' w' → Stz Φ.N H w H' w' → Q p.1 H'
/-- operands' -/
def tOs (Φ : Fx) (esc : Bool) (es : CEs) : TA := fun σ H Q => ∃ ρ w t, Rep Φ.Γ Φ.N ρ σ H w ∧ Φ.N < t ∧ Lv w t ∧ Wp (denOps Φ.F esc es ρ) (Ex Φ H w) fun p =>
  ∀ vs H' w', Rep Φ.Γ Φ.N p.2 σ H' w' → Stz Φ.N H w H' w' → (esc = true → Paired (O1 Φ.Γ H' (hid H' w')) (dsds p.1) vs) → Paired (DV Φ.Γ H') (dsds p.1) vs → Q vs H'

theorem peI {X : Cx} {e : Expr} {t t' : TE} (h : PE X e t') (i : ∀ σ H Q, t σ H Q → t' σ H Q) : PE X e t := ⟨fun pins s σ H Q I q => h.run pins s σ H Q I (i σ H Q q)⟩
theorem ptI {X : Cx} {e : Expr} {t t' : TT} (h : PT X e t') (i : ∀ σ H Q, t σ H Q → t' σ H Q) : PT X e t := ⟨fun pins s σ H Q I q => h.run pins s σ H Q I (i σ H Q q)⟩
theorem paI {X : Cx} {e : List Expr} {t t' : TA} (h : PA X e t') (i : ∀ σ H Q, t σ H Q → t' σ H Q) : PA X e t := ⟨fun pos pins s σ H Q I q => h.run pos pins s σ H Q I (i σ H Q q)⟩

section
variable {Φ : Fx} {σ : L2.St} {H : Hp}
theorem slot_lt {Γ : Gx} {N : Nat} {ρ : PB.Env} {w : Own} (r : Rep Γ N ρ σ H w) {i : Nat} {x : Slot} (h : ρ[i]? = some x) : i < N := by
  have := (List.getElem?_eq_some_iff.mp h).1
  rw [r.len] at this
  exact this
/-- a slot's own thing, read: its items are shared from now on -/
theorem Rep.cap {Γ : Gx} {N : Nat} {ρ : PB.Env} {w : Own} (r : Rep Γ N ρ σ H w) {i k : Nat} {d : D} (h : ρ[i]? = some (some (k, d))) (hk : k ≤ 2) :
    ∃ w' v, σ[i]? = some (some v) ∧ Rep Γ N (ρ.set i (some (min k 1, d))) σ H w' ∧ O1 Γ H (hid H w') d v ∧ Stz N H w H w' := by
  obtain ⟨v, h1, h2⟩ := r.at_ i k d h
  have hi := slot_lt r h
  have same : k ≤ 1 → ρ.set i (some (min k 1, d)) = ρ := fun hk => by
    rw [Nat.min_eq_left hk]
    obtain ⟨hl, e⟩ := List.getElem?_eq_some_iff.mp h
    rw [← e]
    exact List.set_getElem_self hl
  match k, hk with
  | 0, _ =>
    rw [same (Nat.zero_le _)]
    exact ⟨w, v, h1, r, .sh h2, .refl⟩
  | 1, _ =>
    rw [same (Nat.le_refl _)]
    refine ⟨w, v, h1, r, ?_, .refl⟩
    cases d with
    | lst ds =>
      obtain ⟨a, vs, rfl, wa, ha, p, _⟩ := h2
      exact .lst ha (paired_dvs p)
    | dct kvs =>
      rcases h2 with ⟨a, es, rfl, wa, ha, p, _⟩ | ⟨a, es, rfl, wa, ha, p, _⟩
      · exact .dctK ha (toK p)
      · exact .dctN ha (toN p)
    | non => exact .sh h2
    | bl _ => exact .sh h2
    | int _ => exact .sh h2
    | str _ => exact .sh h2
    | tup _ => exact .sh h2
    | set _ => exact .sh h2
    | fn _ => exact .sh h2
    | exc _ _ => exact .sh h2
    | scr _ => exact .sh h2
  | 2, _ =>
    -- the root at a, its items given free
    have go : ∀ a : Addr, (∀ o : HO, H a = some o → True) → ∃ w' : Own, w' = (fun b => if w b = some i ∧ b ≠ a then none else w b) ∧ Stz N H w H w' ∧ (∀ b, w b = none → w' b = none) ∧ (∀ b l, w b = some l → l ≠ i → w' b = some l) ∧ (∀ b, w b = some i → b ≠ a → w' b = none) ∧ (w a = some i → w' a = some i) := fun a _ => by
      have e1 : ∀ b, w b = none → (if w b = some i ∧ b ≠ a then none else w b) = none := fun b e => by simp [e]
      have e2 : ∀ b l, w b = some l → l ≠ i → (if w b = some i ∧ b ≠ a then none else w b) = some l := fun b l e ne => by
        rw [if_neg (fun q => ne (by rw [e] at q; exact Option.some.inj q.1)), e]
      refine ⟨_, rfl, ⟨fun _ _ e _ => e, fun b o _ e => e1 b e, fun b l e hl => e2 b l e (by omega), fun b l e hl => ?_⟩, e1, e2, fun b e ne => if_pos ⟨e, ne⟩, fun e => by rw [if_neg (fun q => q.2 rfl), e]⟩
      have e : (if w b = some i ∧ b ≠ a then none else w b) = some l := e
      split at e
      · cases e
      · exact e
    have fin : ∀ (w' : Own) (a : Addr), w' = (fun b => if w b = some i ∧ b ≠ a then none else w b) → Stz N H w H w' → (∀ b l, w b = some l → l ≠ i → w' b = some l) → (O1 Γ H (hid H w') d v) → OV Γ H w' i 1 d v →
        ∃ w' v, σ[i]? = some (some v) ∧ Rep Γ N (ρ.set i (some (min 2 1, d))) σ H w' ∧ O1 Γ H (hid H w') d v ∧ Stz N H w H w' := fun w' a ew z ne o1 ov => by
      refine ⟨w', v, h1, ⟨by rw [List.length_set]; exact r.len, r.lenS, fun j k' d' e => ?_, fun b l e => ?_⟩, o1, z⟩
      · by_cases hj : i = j
        · subst hj
          rw [List.getElem?_set_self (by rw [r.len]; exact hi)] at e
          cases e
          exact ⟨v, h1, ov⟩
        · rw [List.getElem?_set_ne hj] at e
          obtain ⟨u, q1, q2⟩ := r.at_ j k' d' e
          exact ⟨u, q1, q2.step (fun b o hb wb => ⟨hb, ne b j wb (Ne.symm hj)⟩) z.hid⟩
      · rw [ew] at e
        have e : (if w b = some i ∧ b ≠ a then none else w b) = some l := e
        split at e
        · cases e
        · exact r.al b l e
    have plain : d.box = false → ∃ w' v, σ[i]? = some (some v) ∧ Rep Γ N (ρ.set i (some (min 2 1, d))) σ H w' ∧ O1 Γ H (hid H w') d v ∧ Stz N H w H w' := fun hb =>
      ⟨w, v, h1, r.put hi h1 (OV.of_dv hb (OV.dv_of hb h2)), .sh (OV.dv_of hb h2), .refl⟩
    -- a box among the items, given free
    have item : ∀ (a : Addr) (w' : Own), (∀ b, w b = none → w' b = none) → (∀ b, w b = some i → b ≠ a → w' b = none) → ∀ (x : D) (u : V), OV Γ H w i 1 x u → (∀ b, x.box = true → u = .ref b → b ≠ a) → DV Γ (hid H w') x u := fun a w' g1 g2 x u hx hb => by
      have sub : Sub (hid H w) (hid H w') := fun b o e => by
        obtain ⟨q1, q2⟩ := hid_some e
        exact hid_of q2 (g1 b q1)
      by_cases hbx : x.box = true
      · cases x with
        | lst ds =>
          obtain ⟨b, vs, rfl, wb, hb', p, _⟩ := hx
          exact .lst (hid_of hb' (g2 b wb (hb b rfl rfl))) (paired_dvs (pm p fun _ _ q => DV.mono sub q))
        | dct kvs =>
          rcases hx with ⟨b, es, rfl, wb, hb', p, _⟩ | ⟨b, es, rfl, wb, hb', p, _⟩
          · exact .dctK (hid_of hb' (g2 b wb (hb b rfl rfl))) (toK (pm p fun _ _ q => ⟨q.1, DV.mono sub q.2⟩))
          · exact .dctN (hid_of hb' (g2 b wb (hb b rfl rfl))) (toN (pm p fun _ _ q => ⟨q.1, q.2.1, q.2.2.1, DV.mono sub q.2.2.2.1, DV.mono sub q.2.2.2.2⟩))
        | _ => cases hbx
      · exact DV.mono sub (OV.dv_of (by cases q : x.box with | true => exact absurd q hbx | false => rfl) hx)
    cases d with
    | lst ds =>
      obtain ⟨a, vs, rfl, wa, ha, p, ap⟩ := h2
      obtain ⟨w', ew, z, g1, g2, g3, g4⟩ := go a fun _ _ => True.intro
      have ap : Apart a ds vs := by rcases ap with ap | ap; cases ap; exact ap
      have items : Paired (DV Γ (hid H w')) ds vs := pairIx p fun j x u e1 e2 q => item a w' g1 g3 x u q fun b hb eb => ap.1 j b x e1 hb (by rw [e2, eb])
      exact fin w' a ew z g2 (.lst ha (paired_dvs items)) ⟨a, vs, rfl, g4 wa, ha, items, .inl rfl⟩
    | dct kvs =>
      rcases h2 with ⟨a, es, rfl, wa, ha, p, ap⟩ | ⟨a, es, rfl, wa, ha, p, ap⟩
      · obtain ⟨w', ew, z, g1, g2, g3, g4⟩ := go a fun _ _ => True.intro
        have ap : Apart a (kvs.map (·.2)) (es.map (·.2)) := by rcases ap with ap | ap; cases ap; exact ap
        have items : Paired (fun (p : D × D) (q : L2.Key × V) => p.1 = kD q.1 ∧ DV Γ (hid H w') p.2 q.2) kvs es := pairIx p fun j x u e1 e2 q =>
          ⟨q.1, item a w' g1 g3 x.2 u.2 q.2 fun b hb eb => ap.1 j b x.2 (by rw [List.getElem?_map, e1]; rfl) hb (by rw [List.getElem?_map, e2, ← eb]; rfl)⟩
        exact fin w' a ew z g2 (.dctK ha (toK items)) (.inl ⟨a, es, rfl, g4 wa, ha, items, .inl rfl⟩)
      · obtain ⟨w', ew, z, g1, g2, g3, g4⟩ := go a fun _ _ => True.intro
        have ap : Apart a (kvs.map (·.2)) (es.map (·.2.2)) := by rcases ap with ap | ap; cases ap; exact ap
        have zs := z.hid
        have items : Paired (fun (p : D × D) (q : D × Addr × V) => p.1 = q.1 ∧ (∃ xs, q.1 = .tup xs ∧ D.keys xs = true) ∧ q.1.nk.depth ≤ 8 ∧ DV Γ (hid H w') q.1 (.ref q.2.1) ∧ DV Γ (hid H w') p.2 q.2.2) kvs es := pairIx p fun j x u e1 e2 q =>
          ⟨q.1, q.2.1, q.2.2.1, DV.mono zs q.2.2.2.1, item a w' g1 g3 x.2 u.2.2 q.2.2.2.2 fun b hb eb => ap.1 j b x.2 (by rw [List.getElem?_map, e1]; rfl) hb (by rw [List.getElem?_map, e2, ← eb]; rfl)⟩
        exact fin w' a ew z g2 (.dctN ha (toN items)) (.inr ⟨a, es, rfl, g4 wa, ha, items, .inl rfl⟩)
    | non => exact plain rfl
    | bl _ => exact plain rfl
    | int _ => exact plain rfl
    | str _ => exact plain rfl
    | tup _ => exact plain rfl
    | set _ => exact plain rfl
    | fn _ => exact plain rfl
    | exc _ _ => exact plain rfl
    | scr _ => exact plain rfl
end
end
section
/-! Soundness 8: expressions. -/
open PySem PySem.Spec PyProof.Rows L2

/-- no own exception -/
def Res.calm {α : Type} : Res α → Prop
  | .exc _ _ => False
  | _ => True
theorem Res.calm.bind {α β : Type} {r : Res α} {f : α → Res β} (h : r.calm) (h' : ∀ a, (f a).calm) : (r.bind f).calm := by
  cases r with
  | ok a => exact h' a
  | exc _ _ => exact h
  | bad => exact h
theorem okB_calm (b : Bool) : (okB b).calm := True.intro
theorem okI_calm (b : Int) : (okI b).calm := True.intro
theorem eqD_calm (a b : D) : (eqD a b).calm := by unfold eqD; split <;> first | exact True.intro | (split <;> exact True.intro)
theorem ltD_calm (a b : D) : (ltD a b).calm := by unfold ltD; split <;> first | exact True.intro | (split <;> exact True.intro)
theorem isInSeq_calm (a : D) (b : List D) : (isInSeq a b).calm := by unfold isInSeq; split <;> exact True.intro
theorem sortR_calm (b : List D) : (sortR b).calm := by unfold sortR; split <;> exact True.intro
theorem sortRR_calm (b : List D) : (sortRR b).calm := by unfold sortRR; split <;> exact True.intro
theorem opD_calm (o : Op) (l : List D) : (opD o l).calm := by
  unfold opD
  split <;> first | exact True.intro | skip
  all_goals
    first
      | unfold op_add | unfold op_sub | unfold op_mul | unfold op_fdiv | unfold op_mod | unfold op_neg | unfold op_shl | unfold op_lt | unfold op_gt | unfold op_le | unfold op_ge | unfold op_eq | unfold op_ne
      | unfold op_isn | unfold op_notn | unfold op_isIn | unfold op_notIn | unfold op_ix | unfold op_slL | unfold op_slU | unfold op_slLU | unfold op_slRev | unfold op_slAll | unfold op_len | unfold op_abs | unfold op_int
      | unfold op_isInt | unfold op_isBool | unfold op_isTup | unfold op_isStr | unfold op_tupOf | unfold op_lstOf | unfold op_setOf | unfold op_srt | unfold op_srtRev | unfold op_mn1 | unfold op_mx1 | unfold op_lrng1
      | unfold op_lrng2 | unfold op_mn2 | unfold op_mx2 | unfold op_sum | unfold op_all | unfold op_any | unfold op_rep | unfold op_mkT | unfold op_get1 | unfold op_get2 | unfold op_index | unfold op_srtSet
    repeat' split
    all_goals first
      | exact True.intro
      | exact sortR_calm _
      | exact sortRR_calm _
      | exact isInSeq_calm _ _
      | exact (eqD_calm _ _).bind fun _ => True.intro
      | exact (ltD_calm _ _).bind fun _ => True.intro
      | exact (isInSeq_calm _ _).bind fun _ => by split <;> exact True.intro
      | (dsimp only; split <;> exact True.intro)

section
variable {Φ : Fx} {σ : L2.St} {H : Hp}
theorem os_nil {esc : Bool} {K : List V → Hp → Prop} (h : tOs Φ esc .nil σ H K) : K [] H := by
  obtain ⟨ρ, w, t, r, hN, lv, hw⟩ := h
  exact hw [] H w r .refl (fun _ => .nil) .nil
theorem os_cons {esc : Bool} {c : CE} {r : CEs} {K : List V → Hp → Prop} (h : tOs Φ esc (.cons c r) σ H K) : tO Φ c σ H fun x H1 => tOs Φ esc r σ H1 fun xs H2 => K (x :: xs) H2 := by
  obtain ⟨ρ, w, t, rp, hN, lv, hw⟩ := h
  have tmp : (hw : Wp ((den Φ.F c ρ).bind fun p => (denOps Φ.F esc r p.2).bind fun q => .ok (p.1 :: q.1, q.2)) (Ex Φ H w) fun p => ∀ vs H' w', Rep Φ.Γ Φ.N p.2 σ H' w' → Stz Φ.N H w H' w' → (esc = true → Paired (O1 Φ.Γ H' (hid H' w')) (dsds p.1) vs) → Paired (DV Φ.Γ H') (dsds p.1) vs → K vs H') →
      tE Φ c σ H fun x H1 => tOs Φ esc r σ H1 fun xs H2 => K (x :: xs) H2 := fun hw => by
    refine ⟨ρ, w, t, rp, hN, lv, hw.bind.mono (fun _ _ e => e) fun p ep hp => ?_⟩
    intro v H1 w1 r1 s1 o1
    refine ⟨p.2, w1, t + 1, r1, Nat.le_succ_of_le hN, s1.lv hN lv, hp.bind.mono (fun _ _ e => e.step (s1.kp hN)) fun q eq hq => ?_⟩
    intro vs H2 w2 r2 s2 oo dd
    have o2 : OV Φ.Γ H2 w2 t p.1.1 p.1.2 v := o1.stz hN s2
    have sh : DV Φ.Γ (hid H2 (drop w2 t)) p.1.2 v := o2.share
    refine hq (v :: vs) H2 (drop w2 t) (r2.drop hN) ((s1.thenZ s2).shareT lv) (fun he => .cons (.sh sh) (pm (oo he) fun d u o => ?_)) (.cons o2.dv dd)
    cases o with
    | sh o => exact .sh (DV.mono hid_drop o)
    | lst a b => exact .lst a (DVs.mono hid_drop b)
    | dctK a b => exact .dctK a (DVk.mono hid_drop b)
    | dctN a b => exact .dctN a (DVn.mono hid_drop b)
  cases c with
  | pk i =>
    have hw : Wp (if (slotD ρ i).isSome = true then (denOps Φ.F esc r ρ).bind fun q => match q.2[i]? with
      | some (some (k, d)) => if k ≤ 2 then .ok ((0, d) :: q.1, if esc = true then q.2.set i (some (min k 1, d)) else q.2) else .bad
      | _ => .bad
      else .bad) (Ex Φ H w) fun p => ∀ vs H' w', Rep Φ.Γ Φ.N p.2 σ H' w' → Stz Φ.N H w H' w' → (esc = true → Paired (O1 Φ.Γ H' (hid H' w')) (dsds p.1) vs) → Paired (DV Φ.Γ H') (dsds p.1) vs → K vs H' := hw
    split at hw
    · rename_i hs
      have : ∃ k d, ρ[i]? = some (some (k, d)) := by
        unfold slotD at hs
        split at hs
        · exact ⟨_, _, by assumption⟩
        · cases hs
      obtain ⟨k, d, e⟩ := this
      obtain ⟨v, h1, h2⟩ := rp.at_ i k d e
      refine ⟨v, h1, ρ, w, t, rp, hN, lv, hw.bind.mono (fun _ _ e => e) fun q eq hq => ?_⟩
      intro vs H' w' r' s' oo dd
      split at hq
      · rename_i k d e
        split at hq
        · rename_i hk
          obtain ⟨w2, v', g1, g2, g3, g4⟩ := r'.cap e hk
          rw [h1] at g1
          cases g1
          have dv : DV Φ.Γ H' d v := by
            obtain ⟨v', h1', h2'⟩ := r'.at_ i k d e
            rw [h1] at h1'
            cases h1'
            exact h2'.dv
          cases esc with
          | true =>
            refine hq (v :: vs) H' w2 g2 (s'.trans g4) (fun _ => .cons g3 (pm (oo rfl) fun d u o => ?_)) (.cons dv dd)
            cases o with
            | sh o => exact .sh (DV.mono g4.hid o)
            | lst a b => exact .lst a (DVs.mono g4.hid b)
            | dctK a b => exact .dctK a (DVk.mono g4.hid b)
            | dctN a b => exact .dctN a (DVn.mono g4.hid b)
          | false => exact hq (v :: vs) H' w' r' s' (fun z => by cases z) (.cons dv dd)
        · exact False.elim hq
      · exact False.elim hq
    · exact False.elim hw
  | var i => exact tmp hw
  | mv i => exact tmp hw
  | cst d => exact tmp hw
  | op o es => exact tmp hw
  | dsp k es => exact tmp hw
  | dctE k => exact tmp hw
  | andV a b => exact tmp hw
  | orV a b => exact tmp hw
  | tst a => exact tmp hw
  | ite a b c => exact tmp hw
  | chn a b c d => exact tmp hw
  | call f es => exact tmp hw
  | callV f es => exact tmp hw
  | lc _ _ _ _ _ _ _ => exact tmp hw
  | lc2 _ _ _ _ _ _ _ _ _ _ _ _ => exact tmp hw
  | dc _ _ _ _ _ _ _ _ => exact tmp hw
  | dc2 _ _ _ _ _ _ _ _ _ _ _ _ _ => exact tmp hw
  | mth _ _ _ => exact tmp hw
  | ask _ _ _ => exact tmp hw
  | mth1 _ _ _ _ => exact tmp hw
theorem rep_step {Γ : Gx} {N : Nat} {ρ : PB.Env} {w : Own} {H' : Hp} {w' : Own} (r : Rep Γ N ρ σ H w) (hs : Sub H H') (he : ∀ a o, H a = some o → w' a = w a) (al : ∀ a l, w' a = some l → ∃ o, H' a = some o) : Rep Γ N ρ σ H' w' :=
  r.step (fun a o i hi ha wa => ⟨hs a o ha, by rw [he a o ha, wa]⟩) (fun a o h => by
    obtain ⟨h1, h2⟩ := hid_some h
    exact hid_of (hs a o h2) (by rw [he a o h2, h1])) al
/-- an operation's -/
theorem op_of {o : Op} {es : CEs} {Q : VK} (h : tE Φ (.op o es) σ H Q) : tOs Φ o.esc es σ H fun vs H' => rOp Φ.Γ o vs H' Q := by
  obtain ⟨ρ, w, t, rp, hN, lv, hw⟩ := h
  have hw : Wp ((denOps Φ.F o.esc es ρ).bind fun p => (opD o (dsds p.1)).bind fun kd => .ok (kd, p.2)) (Ex Φ H w) _ := hw
  refine ⟨ρ, w, t, rp, hN, lv, hw.bind.mono (fun _ _ e => e) fun p ep hp => ?_⟩
  intro vs H' w' r' s' oo dd
  cases eo : opD o (dsds p.1) with
  | bad => rw [eo] at hp; exact False.elim hp
  | exc c d =>
    have := opD_calm o (dsds p.1)
    rw [eo] at this
    exact False.elim this
  | ok kd =>
    rw [eo] at hp
    refine ⟨dsds p.1, w', t, kd, oo, dd, eo, (s'.lv hN lv).ne, r'.al, ?_⟩
    intro v H2 w2 hs he lab al ov
    refine hp v H2 w2 (rep_step r' hs he al) ⟨fun a u ha hl => hs a u (s'.keep a u ha hl), fun a u ha e => ?_, fun a l e hl => ?_, fun a l e hl => ?_⟩ ov
    · rw [he a u (s'.keep a u ha fun l z => by rw [e] at z; cases z)]
      exact s'.free a u ha e
    · have e' := s'.tmp a l e hl
      obtain ⟨u, hu⟩ := r'.al a l e'
      rw [he a u hu]
      exact e'
    · rcases lab a l e with q | ⟨q, _⟩
      · exact .inl (s'.lab a l q hl)
      · exact .inr ⟨q, by rw [q]; exact Nat.le_refl _⟩
theorem tE_mono {c : CE} {Q Q' : VK} (h : tE Φ c σ H Q) (q : ∀ v H', Q v H' → Q' v H') : tE Φ c σ H Q' := by
  obtain ⟨ρ, w, t, rp, hN, lv, hw⟩ := h
  exact ⟨ρ, w, t, rp, hN, lv, hw.mono (fun _ _ e => e) fun p _ hp v H' w' a b c => q _ _ (hp v H' w' a b c)⟩
theorem tT_mono {c : CT} {Q Q' : Bool → Hp → Prop} (h : tT Φ c σ H Q) (q : ∀ v H', Q v H' → Q' v H') : tT Φ c σ H Q' := by
  obtain ⟨ρ, w, t, rp, hN, lv, hw⟩ := h
  exact ⟨ρ, w, t, rp, hN, lv, hw.mono (fun _ _ e => e) fun p _ hp H' w' a b => q _ _ (hp H' w' a b)⟩
theorem tO_mono {c : CE} {Q Q' : VK} (h : tO Φ c σ H Q) (q : ∀ v H', Q v H' → Q' v H') : tO Φ c σ H Q' := by
  cases c with
  | pk i =>
    obtain ⟨v, e, h⟩ := h
    exact ⟨v, e, q _ _ h⟩
  | _ => exact tE_mono h q
theorem op1_of {o : Op} {a : CE} {Q : VK} (h : tE Φ (.op o (.cons a .nil)) σ H Q) : tUn (fun x H Q => rOp Φ.Γ o [x] H Q) (tO Φ a) σ H Q :=
  tO_mono (os_cons (op_of h)) fun _ _ h => os_nil h
theorem op2_of {o : Op} {a b : CE} {Q : VK} (h : tE Φ (.op o (.cons a (.cons b .nil))) σ H Q) : tOp (rOp2 Φ.Γ o) (tO Φ a) (tO Φ b) σ H Q :=
  tO_mono (os_cons (op_of h)) fun _ _ h => tO_mono (os_cons h) fun _ _ h => os_nil h
end

section
variable {Φ : Fx} {X : Cx}
theorem pa_os0 {esc : Bool} : PA X [] (tOs Φ esc .nil) := paI pa_nil fun _ _ _ h => os_nil h
theorem pa_os {esc : Bool} {e : Expr} {es : List Expr} {c : CE} {r : CEs} (h : PE X e (tO Φ c)) (t : PA X es (tOs Φ esc r)) (hs : starEach (e :: es) X.env = (false, eval e X.env) :: starEach es X.env := by rfl) : PA X (e :: es) (tOs Φ esc (.cons c r)) :=
  paI (pa_cons h t hs) fun _ _ _ h => os_cons h
theorem e_bin {op : Operator} {o : Op} {a b : Expr} {ca cb : CE} {pos : Pos} (ho : OpR X (binaryOp op) (rOp2 Φ.Γ o)) (ha : PE X a (tO Φ ca)) (hb : PE X b (tO Φ cb)) : PE X (.BinOp a op b pos) (tE Φ (.op o (.cons ca (.cons cb .nil)))) :=
  peI (pe_op ho ha hb) fun _ _ _ h => op2_of h
theorem e_cmp {op : CmpOp} {o : Op} {a b : Expr} {ca cb : CE} {pos : Pos} (ho : OpR X (compareOp op) (rOp2 Φ.Γ o)) (ha : PE X a (tO Φ ca)) (hb : PE X b (tO Φ cb)) (hm : behindInMarks op b = false) : PE X (.Compare a [op] [b] pos) (tE Φ (.op o (.cons ca (.cons cb .nil)))) :=
  peI (pe_cmpR ho ha hb hm) fun _ _ _ h => op2_of h
theorem e_neg {a : Expr} {ca : CE} {pos : Pos} (ho : UnR X (unaryOp .USub) (fun x H Q => rOp Φ.Γ .neg [x] H Q)) (ha : PE X a (tO Φ ca)) : PE X (.UnaryOp .USub a pos) (tE Φ (.op .neg (.cons ca .nil))) :=
  peI (pe_un ho ha) fun _ _ _ h => op1_of h
/-- a call of a built-in -/
theorem e_blt {id : String} {o : Op} {x : Str} {e : Expr} {es : List Expr} {cs : CEs} {p pos : Pos} (hc : CallR X (.builtin id) (rOp Φ.Γ o)) (hg : Gl X x) (hm : X.mg x = none) (hv : bootBuiltins x = some (.builtin id)) (ha : PA X (e :: es) (tOs Φ o.esc cs))
    (hn : x ≠ "__name__" := by decide) (hdb : (x == ("__debug__" : Str)) = false := by decide) (he : starEach (e :: es) X.env = (false, eval e X.env) :: starEach es X.env := by rfl) (hpl : (backTo pos (starEach es X.env)).any (·.1) = false := by rfl) : PE X (.Call (.Name x p) (e :: es) [] pos) (tE Φ (.op o cs)) :=
  peI (pe_callB hc hg hm hv ha hn hdb he hpl) fun _ _ _ h => op_of h
theorem e_ty {T : String} {o : Op} {x : Str} {e : Expr} {es : List Expr} {cs : CEs} {p pos : Pos} (hc : CallR X (.type T) (rOp Φ.Γ o)) (hg : Gl X x) (hm : X.mg x = none) (hv : bootBuiltins x = some (.type T)) (ha : PA X (e :: es) (tOs Φ o.esc cs))
    (hn : x ≠ "__name__" := by decide) (hdb : (x == ("__debug__" : Str)) = false := by decide) (he : starEach (e :: es) X.env = (false, eval e X.env) :: starEach es X.env := by rfl) (hpl : (backTo pos (starEach es X.env)).any (·.1) = false := by rfl) : PE X (.Call (.Name x p) (e :: es) [] pos) (tE Φ (.op o cs)) :=
  peI (pe_callTy hc hg hm hv ha hn hdb he hpl) fun _ _ _ h => op_of h
end
/-! ### names and constants -/
section
variable {Φ : Fx} {X : Cx}
theorem o_pk {i : Nat} {x : Str} {pos : Pos} (hN : X.N[i]? = some x) (hv : Vis X.env.scope x) (hd : (x == ("__debug__" : Str)) = false := by decide) (hcd : (x == ("__classdict__" : Str)) = false := by decide) : PE X (.Name x pos) (tO Φ (.pk i)) := pe_var hN hv hd hcd
theorem e_var {i : Nat} {x : Str} {pos : Pos} (hN : X.N[i]? = some x) (hv : Vis X.env.scope x) (hd : (x == ("__debug__" : Str)) = false := by decide) (hcd : (x == ("__classdict__" : Str)) = false := by decide) : PE X (.Name x pos) (tE Φ (.var i)) := by
  refine peI (pe_var hN hv hd hcd) fun σ H Q h => ?_
  obtain ⟨ρ, w, t, rp, hN, lv, hw⟩ := h
  have hw : Wp (match ρ[i]? with | some (some (_, d)) => .ok ((0, d), ρ.set i (some (0, d))) | _ => .bad : Res (KD × PB.Env)) (Ex Φ H w) _ := hw
  split at hw
  · rename_i k d e
    obtain ⟨v, h1, h2⟩ := rp.at_ i k d e
    have hi := slot_lt rp e
    have sh : DV Φ.Γ (hid H (drop w i)) d v := h2.share
    refine ⟨v, h1, hw v H (drop w i) ?_ ⟨fun _ _ e _ => e, fun _ _ _ e => drop_none e, fun a l e hl => drop_ne e (by omega), fun a l e hl => .inl (drop_some e).1⟩ sh⟩
    have := (rp.clear i).put (k := 0) hi h1 sh
    rwa [List.set_set] at this
  · exact False.elim hw
theorem e_mv {i : Nat} {x : Str} {pos : Pos} (hN : X.N[i]? = some x) (hv : Vis X.env.scope x) (hd : (x == ("__debug__" : Str)) = false := by decide) (hcd : (x == ("__classdict__" : Str)) = false := by decide) : PE X (.Name x pos) (tE Φ (.mv i)) := by
  refine peI (pe_var hN hv hd hcd) fun σ H Q h => ?_
  obtain ⟨ρ, w, t, rp, hN, lv, hw⟩ := h
  have hw : Wp (match ρ[i]? with | some (some kd) => .ok (kd, ρ.set i none) | _ => .bad : Res (KD × PB.Env)) (Ex Φ H w) _ := hw
  split at hw
  · rename_i kd e
    obtain ⟨k, d⟩ := kd
    obtain ⟨v, h1, h2⟩ := rp.at_ i k d e
    have hi := slot_lt rp e
    refine ⟨v, h1, hw v H (relab w i t) ?_ ⟨fun _ _ e _ => e, fun a _ _ e => ?_, fun a l e hl => ?_, fun a l e hl => ?_⟩ h2.relab⟩
    · have r1 := rp.clear i
      refine ⟨r1.len, r1.lenS, fun j k' d' e' => ?_, fun a l e' => ?_⟩
      · have hj : i ≠ j := fun z => by
          subst z
          rw [List.getElem?_set_self (by rw [rp.len]; exact hi)] at e'
          cases e'
        rw [List.getElem?_set_ne hj] at e'
        obtain ⟨u, q1, q2⟩ := rp.at_ j k' d' e'
        refine ⟨u, q1, q2.step (fun a o ha wa => ⟨ha, ?_⟩) (by rw [hid_relab]; exact Sub.refl)⟩
        unfold relab
        rw [if_neg (fun z => hj (by rw [wa] at z; exact (Option.some.inj z).symm)), wa]
      · unfold relab at e'
        split at e'
        · rename_i z
          exact rp.al a i z
        · exact rp.al a l e'
    · unfold relab
      rw [if_neg (fun z => by rw [e] at z; cases z), e]
    · unfold relab
      rw [if_neg (fun z => by rw [e] at z; cases z; omega), e]
    · unfold relab at e
      split at e
      · cases e
        exact .inr ⟨rfl, Nat.le_refl _⟩
      · exact .inl e
  · exact False.elim hw
/-- a constant -/
theorem tC_of {v : V} {d : D} (hb : d.box = false) (hd : ∀ Hs, DV Φ.Γ Hs d v) {σ : L2.St} {H : Hp} {Q : VK} (h : tE Φ (.cst d) σ H Q) : Q v H := by
  obtain ⟨ρ, w, t, rp, hN, lv, hw⟩ := h
  have hw : Wp (Res.ok ((0, d), ρ)) (Ex Φ H w) _ := hw
  exact hw v H w rp .refl (hd _)
theorem e_int {i : Int} {j pos} : PE X (.Constant (.int i) j pos) (tE Φ (.cst (.int i))) := peI pe_int fun _ _ _ h => tC_of rfl (fun _ => .int i) h
theorem e_bl {i : Bool} {j pos} : PE X (.Constant (.bool i) j pos) (tE Φ (.cst (.bl i))) := peI pe_bl fun _ _ _ h => tC_of rfl (fun _ => .bl i) h
theorem e_str {i : Str} {j pos} : PE X (.Constant (.str i) j pos) (tE Φ (.cst (.str i))) := peI pe_str fun _ _ _ h => tC_of rfl (fun _ => .str i) h
theorem e_non {j pos} : PE X (.Constant .none j pos) (tE Φ (.cst .non)) := peI pe_non fun _ _ _ h => tC_of rfl (fun _ => .non) h
/-- a global number -/
theorem e_glo {x : Str} {i : Int} {t : Tok} {pos : Pos} (hg : Gl X x) (hm : X.mg x = some (.int i t)) (hd : (x == ("__debug__" : Str)) = false := by decide) : PE X (.Name x pos) (tE Φ (.cst (.int i))) :=
  ⟨fun pins s σ H Q I h => ld_glob I hg hm ⟨.int i, H, I, ⟨t, rfl⟩, tC_of rfl (fun _ => .int i) h⟩ hd⟩
end
end
section
/-! Soundness 9: truth, tests, and, or, chains. -/
open PySem PySem.Spec PyProof.Rows L2

section
variable {Γ : Gx} {X : Cx} (xo : XOk Γ X)
theorem DVk.length {H : Hp} : ∀ {kvs : List (D × D)} {es : List (L2.Key × V)}, DVk Γ H kvs es → kvs.length = es.length
  | _, _, .nil => rfl
  | _, _, .cons _ b => congrArg (· + 1) (DVk.length b)
theorem DVn.length {H : Hp} : ∀ {kvs : List (D × D)} {es : List (D × Addr × V)}, DVn Γ H kvs es → kvs.length = es.length
  | _, _, .nil => rfl
  | _, _, .cons _ _ _ _ b => congrArg (· + 1) (DVn.length b)
/-- a dict all of whose keys are flat -/
theorem dct_flat {pins : List (Addr × Obj)} {s : Shared} {σ : L2.St} {H : Hp} {v : V} {kvs : List (D × D)} (I : L2.Inv X pins σ H s) (h : DV Γ H (.dct kvs) v) (hf : (kvs.all fun p => p.1.flat) = true) : ∃ a es, v = .ref a ∧ H a = some (.dK es) ∧ DVk Γ H kvs es := by
  cases h with
  | dctK h1 d1 => exact ⟨_, _, rfl, h1, d1⟩
  | dctN h1 d1 =>
    obtain ⟨⟨z, ⟨_, ne⟩, _⟩, _⟩ := I.hok _ _ h1
    cases d1 with
    | nil => exact absurd rfl ne
    | cons k n x a b =>
      simp [D.flat] at hf
theorem tru_dv {pins : List (Addr × Obj)} {s : Shared} {σ : L2.St} {H : Hp} {d : D} {v : V} {u : Value} {b : Bool} {Q : Bool → Hp → Prop} (xo : XOk Γ X) (I : L2.Inv X pins σ H s) (r : RelV v u) (h : DV Γ H d v) (e : truth d = .ok b) (q : Q b H) :
    wpAny (model X.prog X.w) X.A (truthy u) (L2.TP X pins σ Q) X.xe s := by
  have gen : ∀ k, TruV X.K v H k → k = b → wpAny (model X.prog X.w) X.A (truthy u) (L2.TP X pins σ Q) X.xe s := fun k hk ek => by
    subst ek
    exact tru_ok pins s σ H v u Q I r ⟨_, hk, q⟩
  cases d with
  | non => cases h; cases e; exact gen _ rfl rfl
  | bl c => cases h; cases e; exact gen _ rfl rfl
  | int i => cases h; cases e; exact gen _ rfl rfl
  | str x =>
    cases h
    unfold truth at e
    dsimp only at e
    split at e
    · rename_i hx
      cases e
      have : ((x.length : Int) != 0) = (x.length != 0) := by
        cases x.length <;> simp <;> omega
      exact gen _ ⟨by rw [← sz]; exact hx, rfl⟩ this
    · cases e
  | tup xs =>
    cases e
    obtain ⟨a, vs, rfl, h1, d1⟩ := h.tup'
    refine gen _ (.inr (.inl ⟨vs, by rw [xo.K]; exact h1, rfl⟩)) ?_
    cases d1 <;> rfl
  | lst xs =>
    cases e
    obtain ⟨a, vs, rfl, h1, d1⟩ := h.lst'
    refine gen _ (.inl ⟨vs, SqL.of h1, rfl⟩) ?_
    cases d1 <;> rfl
  | dct kvs =>
    unfold truth at e
    dsimp only at e
    split at e
    · rename_i hf
      cases e
      obtain ⟨a, es, rfl, h1, d1⟩ := dct_flat I h hf
      refine gen _ (.inr (.inr ⟨es, h1, rfl⟩)) ?_
      cases d1 <;> rfl
    · cases e
  | _ => cases e
end

/-! ### tests -/
section
variable {Φ : Fx} {X : Cx} {σ : L2.St} {H : Hp}
theorem truth_calm (d : D) : (truth d).calm := by unfold truth; split <;> first | exact True.intro | (split <;> exact True.intro)
theorem tv_of {c : CE} {Q : Bool → Hp → Prop} (h : tT Φ (.v c) σ H Q) : tE Φ c σ H fun v H' => ∃ d b, DV Φ.Γ H' d v ∧ truth d = .ok b ∧ Q b H' := by
  obtain ⟨ρ, w, t, rp, hN, lv, hw⟩ := h
  have hw : Wp ((den Φ.F c ρ).bind fun p => (truth p.1.2).bind fun b => .ok (b, p.2)) (Ex Φ H w) _ := hw
  refine ⟨ρ, w, t, rp, hN, lv, hw.bind.mono (fun _ _ e => e) fun p _ hp v H' w' r' s' ov => ?_⟩
  cases e : truth p.1.2 with
  | bad => rw [e] at hp; exact False.elim hp
  | exc c d =>
    have := truth_calm p.1.2
    rw [e] at this
    exact False.elim this
  | ok b =>
    rw [e] at hp
    exact ⟨p.1.2, b, ov.dv, e, hp H' (drop w' t) (r'.drop hN) (s'.shareT lv)⟩
theorem isTr_plain {e : Expr} {te : TE} (ha : PE X e te) (he : ∀ whole, isTrue e X.env whole = (do let v ← whole; standAt e.pos; holding [v] (truthy v))) (xo : XOk Φ.Γ X) :
    PT X e (fun σ H Q => te σ H fun v H' => ∃ d b, DV Φ.Γ H' d v ∧ truth d = .ok b ∧ Q b H') :=
  ⟨fun pins s σ H Q I h => isTrue_plain (thn (ha.run pins s σ H _ I h) fun u s1 ⟨v, H1, I1, r1, d, b, hd, hb, q⟩ => tru_dv xo I1 r1 hd hb q) (he _)⟩
/-- a value as a test -/
theorem t_val {e : Expr} {c : CE} (xo : XOk Φ.Γ X) (ha : PE X e (tE Φ c)) (he : ∀ whole, isTrue e X.env whole = (do let v ← whole; standAt e.pos; holding [v] (truthy v)) := by intro _; rfl) : PT X e (tT Φ (.v c)) :=
  ptI (isTr_plain ha he xo) fun _ _ _ h => tv_of h
/-- a name as a test -/
theorem t_nm {e : Expr} {i : Nat} (xo : XOk Φ.Γ X) (ha : PE X e (tVar i)) (he : ∀ whole, isTrue e X.env whole = (do let v ← whole; standAt e.pos; holding [v] (truthy v)) := by intro _; rfl) : PT X e (tT Φ (.p i)) :=
  ptI (isTr_plain ha he xo) fun σ H Q h => by
    obtain ⟨ρ, w, t, rp, hN, lv, hw⟩ := h
    have hw : Wp (match slotD ρ i with | some d => (truth d).bind fun b => .ok (b, ρ) | none => .bad) (Ex Φ H w) _ := hw
    split at hw
    · rename_i d e
      unfold slotD at e
      split at e
      · rename_i k d' e'
        cases e
        obtain ⟨v, h1, h2⟩ := rp.at_ i k d e'
        refine ⟨v, h1, ?_⟩
        cases et : truth d with
        | bad => rw [et] at hw; exact False.elim hw
        | exc c d' =>
          have := truth_calm d
          rw [et] at this
          exact False.elim this
        | ok b =>
          rw [et] at hw
          exact ⟨d, b, h2.dv, et, hw H w rp .refl⟩
      · cases e
    · exact False.elim hw
/-- a comparison as a test -/
theorem t_cmp {op : CmpOp} {o : Op} {a b : Expr} {ca cb : CE} {pos : Pos} (xo : XOk Φ.Γ X) (ho : OpR X (compareOp op) (rOp2 Φ.Γ o)) (ha : PE X a (tO Φ ca)) (hb : PE X b (tO Φ cb)) (hm : behindInMarks op b = false) : PT X (.Compare a [op] [b] pos) (tT Φ (.v (.op o (.cons ca (.cons cb .nil))))) := by
  refine ⟨fun pins s σ H Q I h => ?_⟩
  have h := op2_of (tv_of h)
  refine wpAny_isTrue_Compare1 (thn (ha.run pins s σ H _ I h) fun v s1 ⟨x, H1, I1, r1, q1⟩ => thn (hb.run pins s1 σ H1 _ I1 q1) fun u s2 ⟨y, H2, I2, r2, q2⟩ =>
    thn (ho pins s2 σ H2 x y v u _ I2 r1 r2 q2) fun c s3 ⟨z, H3, I3, r3, d, b, hd, hb, q⟩ => tru_dv xo I3 r3 hd hb q) hm
theorem tT_bind {c : CT} {f : Bool → PB.Env → Res (Bool × PB.Env)} {Q : Bool → Hp → Prop} {ρ : PB.Env} {w : Own} {t : Nat} (rp : Rep Φ.Γ Φ.N ρ σ H w) (hN : Φ.N < t) (lv : Lv w t)
    (hw : Wp ((denT Φ.F c ρ).bind fun p => f p.1 p.2) (Ex Φ H w) fun p => ∀ H' w', Rep Φ.Γ Φ.N p.2 σ H' w' → Stz Φ.N H w H' w' → Q p.1 H') :
    tT Φ c σ H fun b H1 => ∃ ρ1 w1, Rep Φ.Γ Φ.N ρ1 σ H1 w1 ∧ Lv w1 t ∧ Wp (f b ρ1) (Ex Φ H1 w1) fun p => ∀ H' w', Rep Φ.Γ Φ.N p.2 σ H' w' → Stz Φ.N H1 w1 H' w' → Q p.1 H' :=
  ⟨ρ, w, t, rp, hN, lv, hw.bind.mono (fun _ _ e => e) fun p _ hp H1 w1 r1 s1 => ⟨p.2, w1, r1, s1.lv hN lv, hp.mono (fun _ _ e => e.step s1.kp) fun q _ hq H' w' r' s' => hq H' w' r' (s1.trans s')⟩⟩
theorem t_and {a b : Expr} {ca cb : CT} {rest : List Expr} {pos : Pos} (ha : PT X a (tT Φ ca)) (hb : PW X (.BoolOp .And (b :: rest) pos) (tT Φ cb)) : PW X (.BoolOp .And (a :: b :: rest) pos) (tT Φ (.and ca cb)) :=
  ⟨fun wh pins s σ H Q I h => (pw_and ha hb).run wh pins s σ H Q I (by
    obtain ⟨ρ, w, t, rp, hN, lv, hw⟩ := h
    refine tT_mono (tT_bind (f := fun b ρ => if b = true then denT Φ.F cb ρ else .ok (false, ρ)) rp hN lv hw) fun b H1 ⟨ρ1, w1, r1, l1, q⟩ => ?_
    cases b with
    | true => exact ⟨ρ1, w1, t, r1, hN, l1, q⟩
    | false => exact q H1 w1 r1 .refl)⟩
theorem t_or {a b : Expr} {ca cb : CT} {rest : List Expr} {pos : Pos} (ha : PT X a (tT Φ ca)) (hb : PW X (.BoolOp .Or (b :: rest) pos) (tT Φ cb)) : PW X (.BoolOp .Or (a :: b :: rest) pos) (tT Φ (.or ca cb)) :=
  ⟨fun wh pins s σ H Q I h => (pw_or ha hb).run wh pins s σ H Q I (by
    obtain ⟨ρ, w, t, rp, hN, lv, hw⟩ := h
    refine tT_mono (tT_bind (f := fun b ρ => if b = true then .ok (true, ρ) else denT Φ.F cb ρ) rp hN lv hw) fun b H1 ⟨ρ1, w1, r1, l1, q⟩ => ?_
    cases b with
    | false => exact ⟨ρ1, w1, t, r1, hN, l1, q⟩
    | true => exact q H1 w1 r1 .refl)⟩
theorem t_and1 {a : Expr} {t : TT} {pos : Pos} (ha : PT X a t) : PW X (.BoolOp .And [a] pos) t := pw_and1 ha
theorem t_or1 {a : Expr} {t : TT} {pos : Pos} (ha : PT X a t) : PW X (.BoolOp .Or [a] pos) t := pw_or1 ha
theorem tnot_of {ca : CT} {Q : Bool → Hp → Prop} (h : tT Φ (.not ca) σ H Q) : tT Φ ca σ H fun b H1 => Q (!b) H1 := by
  obtain ⟨ρ, w, t, rp, hN, lv, hw⟩ := h
  refine tT_mono (tT_bind (f := fun b ρ => .ok (!b, ρ)) rp hN lv hw) fun b H1 ⟨ρ1, w1, r1, l1, q⟩ => q H1 w1 r1 .refl
theorem t_not {a : Expr} {ca : CT} {pos : Pos} (ha : PT X a (tT Φ ca)) : PT X (.UnaryOp .Not a pos) (tT Φ (.not ca)) :=
  ptI (pt_not ha) fun σ H Q h => tnot_of h
theorem tst_of {ca : CT} {Q : VK} (h : tE Φ (.tst ca) σ H Q) : tT Φ ca σ H fun b H1 => Q (.bl b) H1 := by
  obtain ⟨ρ, w, t, rp, hN, lv, hw⟩ := h
  have hw : Wp ((denT Φ.F ca ρ).bind fun p => Res.ok (((0, D.bl p.1) : KD), p.2)) (Ex Φ H w) _ := hw
  exact ⟨ρ, w, t, rp, hN, lv, hw.bind.mono (fun _ _ e => e) fun p _ hp H1 w1 r1 s1 => hp (.bl p.1) H1 w1 r1 s1.stp (.bl p.1)⟩
/-- not as a value -/
theorem e_not {a : Expr} {ca : CE} {pos : Pos} (xo : XOk Φ.Γ X) (ha : PE X a (tE Φ ca)) : PE X (.UnaryOp .Not a pos) (tE Φ (.tst (.not (.v ca)))) := by
  refine ⟨fun pins s σ H Q I h => ?_⟩
  have h := tv_of (tnot_of (tst_of h))
  refine UnaryOp_ (thn (ha.run pins s σ H _ I h) fun v s1 ⟨x, H1, I1, r1, d, b, hd, hb, q⟩ => not_of (thn (tru_dv (Q := fun b H => Q (.bl (!b)) H) xo I1 r1 hd hb q) fun b' s2 ⟨H2, I2, q2⟩ => ⟨.bl (!b'), H2, I2, rfl, q2⟩))
theorem e_notp {a : Expr} {i : Nat} {pos : Pos} (xo : XOk Φ.Γ X) (ha : PE X a (tVar i)) : PE X (.UnaryOp .Not a pos) (tE Φ (.tst (.not (.p i)))) := by
  refine ⟨fun pins s σ H Q I h => ?_⟩
  have h := tnot_of (tst_of h)
  have h : tVar i σ H fun v H' => ∃ d b, DV Φ.Γ H' d v ∧ truth d = .ok b ∧ Q (.bl (!b)) H' := by
    obtain ⟨ρ, w, t, rp, hN, lv, hw⟩ := h
    have hw : Wp (match slotD ρ i with | some d => (truth d).bind fun b => .ok (b, ρ) | none => .bad) (Ex Φ H w) _ := hw
    split at hw
    · rename_i d e
      unfold slotD at e
      split at e
      · rename_i k d' e'
        cases e
        obtain ⟨v, h1, h2⟩ := rp.at_ i k d e'
        refine ⟨v, h1, ?_⟩
        cases et : truth d with
        | bad => rw [et] at hw; exact False.elim hw
        | exc c d' =>
          have := truth_calm d
          rw [et] at this
          exact False.elim this
        | ok b =>
          rw [et] at hw
          exact ⟨d, b, h2.dv, et, hw H w rp .refl⟩
      · cases e
    · exact False.elim hw
  refine UnaryOp_ (thn (ha.run pins s σ H _ I h) fun v s1 ⟨x, H1, I1, r1, d, b, hd, hb, q⟩ => not_of (thn (tru_dv (Q := fun b H => Q (.bl (!b)) H) xo I1 r1 hd hb q) fun b' s2 ⟨H2, I2, q2⟩ => ⟨.bl (!b'), H2, I2, rfl, q2⟩))
theorem tE_bind {c : CE} {f : KD → PB.Env → Res (KD × PB.Env)} {Q : VK} {ρ : PB.Env} {w : Own} {t : Nat} (rp : Rep Φ.Γ Φ.N ρ σ H w) (hN : Φ.N < t) (lv : Lv w t)
    (hw : Wp ((den Φ.F c ρ).bind fun p => f p.1 p.2) (Ex Φ H w) fun p => ∀ v H' w', Rep Φ.Γ Φ.N p.2 σ H' w' → Stp Φ.N t H w H' w' → OV Φ.Γ H' w' t p.1.1 p.1.2 v → Q v H') :
    tE Φ c σ H fun x H1 => ∃ kd ρ1 w1, Rep Φ.Γ Φ.N ρ1 σ H1 w1 ∧ Lv w1 t ∧ DV Φ.Γ (hid H1 w1) kd.2 x ∧ Wp (f kd ρ1) (Ex Φ H1 w1) fun p => ∀ v H' w', Rep Φ.Γ Φ.N p.2 σ H' w' → Stp Φ.N t H1 w1 H' w' → OV Φ.Γ H' w' t p.1.1 p.1.2 v → Q v H' :=
  ⟨ρ, w, t, rp, hN, lv, hw.bind.mono (fun _ _ e => e) fun p _ hp v H1 w1 r1 s1 ov => ⟨p.1, p.2, drop w1 t, r1.drop hN, (s1.shareT lv).lv hN lv, ov.share, hp.mono (fun _ _ e => e.step (s1.shareT lv).kp) fun q _ hq v H' w' r' s' => hq v H' w' r' ((s1.shareT lv).thenP s')⟩⟩
/-- a and b, as values -/
theorem e_and {a b : Expr} {ca cb : CE} {rest : List Expr} {pos : Pos} (ha : PE X a (tE Φ ca)) (hb : PE X (.BoolOp .And (b :: rest) pos) (tE Φ cb)) : PE X (.BoolOp .And (a :: b :: rest) pos) (tE Φ (.andV ca cb)) :=
  peI (pe_and ha hb) fun σ H Q h => by
    obtain ⟨ρ, w, t, rp, hN, lv, hw⟩ := h
    refine tE_mono (tE_bind (f := fun kd ρ => match kd.2 with | .bl true => den Φ.F cb ρ | .bl false => .ok ((0, .bl false), ρ) | _ => .bad) rp hN lv hw) fun x H1 ⟨kd, ρ1, w1, r1, l1, dv, q⟩ => ?_
    obtain ⟨k, d⟩ := kd
    cases d with
    | bl c =>
      cases dv
      cases c with
      | true => exact ⟨true, rfl, ρ1, w1, t, r1, hN, l1, q⟩
      | false => exact ⟨false, rfl, q (.bl false) H1 w1 r1 .refl (.bl false)⟩
    | _ => exact False.elim q
theorem e_or {a b : Expr} {ca cb : CE} {rest : List Expr} {pos : Pos} (ha : PE X a (tE Φ ca)) (hb : PE X (.BoolOp .Or (b :: rest) pos) (tE Φ cb)) : PE X (.BoolOp .Or (a :: b :: rest) pos) (tE Φ (.orV ca cb)) :=
  peI (pe_or ha hb) fun σ H Q h => by
    obtain ⟨ρ, w, t, rp, hN, lv, hw⟩ := h
    refine tE_mono (tE_bind (f := fun kd ρ => match kd.2 with | .bl false => den Φ.F cb ρ | .bl true => .ok ((0, .bl true), ρ) | _ => .bad) rp hN lv hw) fun x H1 ⟨kd, ρ1, w1, r1, l1, dv, q⟩ => ?_
    obtain ⟨k, d⟩ := kd
    cases d with
    | bl c =>
      cases dv
      cases c with
      | false => exact ⟨false, rfl, ρ1, w1, t, r1, hN, l1, q⟩
      | true => exact ⟨true, rfl, q (.bl true) H1 w1 r1 .refl (.bl true)⟩
    | _ => exact False.elim q
theorem e_one {op : BoolOp} {a : Expr} {t : TE} {pos : Pos} (h : PE X a t) : PE X (.BoolOp op [a] pos) t := pe_one h
/-- a if t else b -/
theorem e_ite {c a b : Expr} {cc : CT} {ca cb : CE} {pos : Pos} (hc : PT X c (tT Φ cc)) (ha : PE X a (tE Φ ca)) (hb : PE X b (tE Φ cb)) : PE X (.IfExp c a b pos) (tE Φ (.ite cc ca cb)) :=
  peI (pe_ifExp hc ha hb) fun σ H Q h => by
    obtain ⟨ρ, w, t, rp, hN, lv, hw⟩ := h
    have hw : Wp ((denT Φ.F cc ρ).bind fun p => if p.1 = true then den Φ.F ca p.2 else den Φ.F cb p.2) (Ex Φ H w) _ := hw
    refine ⟨ρ, w, t, rp, hN, lv, hw.bind.mono (fun _ _ e => e) fun p _ hp H1 w1 r1 s1 => ?_⟩
    cases e : p.1 with
    | true =>
      rw [e, if_pos rfl] at hp
      exact ⟨p.2, w1, t, r1, hN, s1.lv hN lv, hp.mono (fun _ _ e => e.step s1.kp) fun q _ hq v H' w' r' s' => hq v H' w' r' (s1.thenP s')⟩
    | false =>
      rw [e, if_neg (by decide)] at hp
      exact ⟨p.2, w1, t, r1, hN, s1.lv hN lv, hp.mono (fun _ _ e => e.step s1.kp) fun q _ hq v H' w' r' s' => hq v H' w' r' (s1.thenP s')⟩
theorem calm_ok {α : Type} {r : Res α} (h : r.calm) {E : Nat → D → Prop} {Q : α → Prop} (hw : Wp r E Q) : ∃ a, r = .ok a ∧ Q a := by
  cases r with
  | ok a => exact ⟨a, rfl, hw⟩
  | exc _ _ => exact False.elim h
  | bad => exact False.elim hw
theorem o1_sh {Γ : Gx} {Hs : Hp} {d : D} {v : V} (h : DV Γ Hs d v) (H : Hp) : O1 Γ H Hs d v := .sh h
theorem chn_of {o o' : Op} {ca cb cc : CE} {Q : VK} (h : tE Φ (.chn o ca cb (.cons o' cc .nil)) σ H Q) : tChain (rOp2 Φ.Γ o) (rOp2 Φ.Γ o') (tE Φ ca) (tE Φ cb) (tE Φ cc) σ H Q := by
  obtain ⟨ρ, w, t, rp, hN, lv, hw⟩ := h
  have hw : Wp ((den Φ.F ca ρ).bind fun p => (den Φ.F cb p.2).bind fun q => (opD o [p.1.2, q.1.2]).bind fun t => match t.2 with
    | .bl true => (den Φ.F cc q.2).bind fun q' => (opD o' [q.1.2, q'.1.2]).bind fun t' => .ok ((0, t'.2), q'.2)
    | .bl false => .ok ((0, .bl false), q.2)
    | _ => .bad) (Ex Φ H w) fun p => ∀ v H' w', Rep Φ.Γ Φ.N p.2 σ H' w' → Stp Φ.N t H w H' w' → OV Φ.Γ H' w' t p.1.1 p.1.2 v → Q v H' := hw
  refine ⟨ρ, w, t, rp, hN, lv, hw.bind.mono (fun _ _ e => e) fun p _ hp x H1 w1 r1 s1 ox => ?_⟩
  refine ⟨p.2, w1, t + 1, r1, Nat.le_succ_of_le hN, s1.lv hN lv, hp.bind.mono (fun _ _ e => e.step (s1.kp hN)) fun q _ hq y H2 w2 r2 s2 oy => ?_⟩
  -- both given free
  have z2 := s2.shareT (s1.lv hN lv)
  have ox2 := (ox.stz hN z2).share
  have rr := (r2.drop (t := t + 1) (Nat.le_succ_of_le hN)).drop hN
  have zz : Stz Φ.N H w H2 (drop (drop w2 (t + 1)) t) := (s1.thenZ z2).shareT lv
  have oy2 : DV Φ.Γ (hid H2 (drop (drop w2 (t + 1)) t)) q.1.2 y := DV.mono hid_drop oy.share
  have lz := zz.lv hN lv
  obtain ⟨kd, eo, hr⟩ := calm_ok (opD_calm _ _) hq.bind
  refine ⟨[p.1.2, q.1.2], _, t, kd, fun _ => .cons (.sh ox2) (.cons (.sh oy2) .nil), .cons (DV.mono hid_sub ox2) (.cons (DV.mono hid_sub oy2) .nil), eo, lz.ne, rr.al, ?_⟩
  obtain ⟨k, d⟩ := kd
  cases d with
  | bl c =>
    intro v H3 w3 hs he lab al ov
    have ev : v = .bl c := by cases ov.dv; rfl
    subst ev
    have r3 := rep_step rr hs he al
    have s3 : Stp Φ.N t H2 (drop (drop w2 (t + 1)) t) H3 w3 := ⟨fun a u ha _ => hs a u ha, fun a u ha e => by rw [he a u ha]; exact e, fun a l e hl => by
      obtain ⟨u, hu⟩ := rr.al a l e
      rw [he a u hu]
      exact e, fun a l e hl => by
      rcases lab a l e with q | ⟨q, _⟩
      · exact .inl q
      · exact .inr ⟨q, by rw [q]; exact Nat.le_refl _⟩⟩
    have z3 := zz.trans (s3.shareT lz)
    have r4 := r3.drop hN
    have oy3 : DV Φ.Γ (hid H3 (drop w3 t)) q.1.2 y := DV.mono (s3.shareT lz).hid oy2
    refine ⟨c, rfl, ?_⟩
    cases c with
    | true =>
      rw [if_pos rfl]
      refine ⟨q.2, drop w3 t, t, r4, hN, z3.lv hN lv, hr.bind.mono (fun _ _ e => e.step z3.kp) fun q' _ hq' v' H5 w5 r5 s5 ov' => ?_⟩
      obtain ⟨kd', eo', hr'⟩ := calm_ok (opD_calm _ _) hq'.bind
      have l5 := z3.lv hN lv
      have z5 := z3.trans (s5.shareT l5)
      have oy5 : DV Φ.Γ (hid H5 (drop w5 t)) q.1.2 y := DV.mono (s5.shareT l5).hid oy3
      refine ⟨[q.1.2, q'.1.2], drop w5 t, t, kd', fun _ => .cons (.sh oy5) (.cons (.sh ov'.share) .nil), .cons (DV.mono hid_sub oy5) (.cons ov'.dv .nil), eo', (z5.lv hN lv).ne, (r5.drop hN).al, ?_⟩
      intro v6 H6 w6 hs6 he6 lab6 al6 ov6
      have s6 : Stp Φ.N t H5 (drop w5 t) H6 w6 := ⟨fun a u ha _ => hs6 a u ha, fun a u ha e => by rw [he6 a u ha]; exact e, fun a l e hl => by
        obtain ⟨u, hu⟩ := (r5.drop hN).al a l e
        rw [he6 a u hu]
        exact e, fun a l e hl => by
        rcases lab6 a l e with q | ⟨q, _⟩
        · exact .inl q
        · exact .inr ⟨q, by rw [q]; exact Nat.le_refl _⟩⟩
      have z6 := z5.trans (s6.shareT (z5.lv hN lv))
      exact hr' v6 H6 (drop w6 t) ((rep_step (r5.drop hN) hs6 he6 al6).drop hN) z6.stp ov6.share
    | false =>
      rw [if_neg (by decide)]
      exact hr (.bl false) H3 (drop w3 t) r4 z3.stp (.bl false)
  | _ => exact False.elim hr
/-- a op b op' c -/
theorem e_chain {op op' : CmpOp} {o o' : Op} {a b c : Expr} {ca cb cc : CE} {pos : Pos} (ho : OpR X (compareOp op) (rOp2 Φ.Γ o)) (ho' : OpR X (compareOp op') (rOp2 Φ.Γ o')) (ha : PE X a (tE Φ ca)) (hb : PE X b (tE Φ cb)) (hc : PE X c (tE Φ cc))
    (hm : lastMarks [op, op'] [b, c] = false := by with_unfolding_all rfl) : PE X (.Compare a [op, op'] [b, c] pos) (tE Φ (.chn o ca cb (.cons o' cc .nil))) :=
  peI (pe_chain ho ho' ha hb hc hm) fun σ H Q h => chn_of h
theorem t_chain {op op' : CmpOp} {o o' : Op} {a b c : Expr} {ca cb cc : CE} {pos : Pos} (xo : XOk Φ.Γ X) (ho : OpR X (compareOp op) (rOp2 Φ.Γ o)) (ho' : OpR X (compareOp op') (rOp2 Φ.Γ o')) (ha : PE X a (tE Φ ca)) (hb : PE X b (tE Φ cb)) (hc : PE X c (tE Φ cc))
    (hm : lastMarks [op, op'] [b, c] = false := by with_unfolding_all rfl) : PT X (.Compare a [op, op'] [b, c] pos) (tT Φ (.v (.chn o ca cb (.cons o' cc .nil)))) := by
  refine ⟨fun pins s σ H Q I h => ?_⟩
  have h := chn_of (tv_of h)
  refine isTrue_chain (thn (ha.run pins s σ H _ I h) fun v s1 ⟨x, H1, I1, r1, q1⟩ => test_link (thn (hb.run pins s1 σ H1 _ I1 q1) fun u s2 ⟨y, H2, I2, r2, q2⟩ =>
    thn (ho pins s2 σ H2 x y v u _ I2 r1 r2 q2) fun d s3 ⟨z, H3, I3, r3, k, e, q3⟩ => ?_)) hm
  subst e
  cases r3
  refine wpAny_truthy_bool ?_
  cases k with
  | false =>
    obtain ⟨d, b, hd, hb, q'⟩ := q3
    cases hd
    cases hb
    exact ite_ff ⟨H3, I3, q'⟩
  | true =>
    exact ite_tt (test_last (thn (hc.run pins s3 σ H3 _ I3 q3) fun w' s4 ⟨z', H4, I4, r4, q4⟩ => thn (ho' pins s4 σ H4 y z' u w' _ I4 r2 r4 q4) fun d' s5 ⟨z2, H5, I5, r5, d, b, hd, hb, q⟩ => tru_dv xo I5 r5 hd hb q))
end
end
section
/-! Soundness 10: calls of built-ins, places, slices, displays. -/
open PySem PySem.Spec PyProof.Rows L2

section
variable {Γ : Gx} {X : Cx} (xo : XOk Γ X)
include xo
theorem cr_len : CallR X (.builtin "len") (rOp Γ .len) := by
  intro pins s σ H xs us Q I r ⟨ds, w, t, kd, hO, hD, he0, ht, al, rp⟩
  have he : op_len ds = .ok kd := he0
  clear he0
  unfold op_len at he
  split at he
  · rename_i ys
    obtain ⟨x, rfl, hx⟩ : ∃ x, xs = [x] ∧ DV Γ H (.lst ys) x := by cases hD with | cons h t => cases t; exact ⟨_, rfl, h⟩
    cases he
    exact ok_len xo pins s σ H _ us Q I r ⟨.lst ys, ys, w, t, hx, rfl, .inl rfl, al, rp⟩
  · rename_i ys
    obtain ⟨x, rfl, hx⟩ : ∃ x, xs = [x] ∧ DV Γ H (.tup ys) x := by cases hD with | cons h t => cases t; exact ⟨_, rfl, h⟩
    cases he
    exact ok_len xo pins s σ H _ us Q I r ⟨.tup ys, ys, w, t, hx, rfl, .inr rfl, al, rp⟩
  · rename_i ys
    obtain ⟨x, rfl, hx⟩ : ∃ x, xs = [x] ∧ DV Γ H (.dct ys) x := by cases hD with | cons h t => cases t; exact ⟨_, rfl, h⟩
    split at he
    · rename_i hf
      cases he
      obtain ⟨a, es, rfl, h1, d1⟩ := dct_flat I hx hf
      obtain ⟨u, rfl, ru⟩ := vals1 r
      cases ru
      exact L2.d_len I (.inl h1) fun t s' I' => ⟨.int ys.length, H, I', ⟨t, by rw [d1.length]⟩, rp.int al⟩
    · cases he
  · rename_i ys
    cases hD with | cons h t => cases h
  · cases he
theorem cr_abs : CallR X (.builtin "abs") (rOp Γ .abs) := by
  intro pins s σ H xs us Q I r h
  have h' := h
  obtain ⟨ds, w, t, kd, hO, hD, he0, ht, al, rp⟩ := h'
  have he : op_abs ds = .ok kd := he0
  unfold op_abs at he
  split at he
  · exact ok_abs xo pins s σ H xs us Q I r ⟨h, by cases hD with | cons h t => cases t; rfl⟩
  · cases he
theorem cr_int : CallR X (.type "int") (rOp Γ .int) := by
  intro pins s σ H xs us Q I r h
  have h' := h
  obtain ⟨ds, w, t, kd, hO, hD, he0, ht, al, rp⟩ := h'
  have he : op_int ds = .ok kd := he0
  unfold op_int at he
  split at he
  · exact ok_int xo pins s σ H xs us Q I r ⟨h, by cases hD with | cons h t => cases t; rfl⟩
  · cases he
theorem cr_mn2 : CallR X (.builtin "min") (rOp Γ .mn2) := by
  intro pins s σ H xs us Q I r h
  have h' := h
  obtain ⟨ds, w, t, kd, hO, hD, he0, ht, al, rp⟩ := h'
  have he : op_mn2 ds = .ok kd := he0
  unfold op_mn2 at he
  split at he
  · exact ok_mn2 xo pins s σ H xs us Q I r ⟨h, by cases hD with | cons h t => cases t with | cons h t => cases t; rfl⟩
  · cases he
theorem cr_mx2 : CallR X (.builtin "max") (rOp Γ .mx2) := by
  intro pins s σ H xs us Q I r h
  have h' := h
  obtain ⟨ds, w, t, kd, hO, hD, he0, ht, al, rp⟩ := h'
  have he : op_mx2 ds = .ok kd := he0
  unfold op_mx2 at he
  split at he
  · exact ok_mx2 xo pins s σ H xs us Q I r ⟨h, by cases hD with | cons h t => cases t with | cons h t => cases t; rfl⟩
  · cases he
omit xo in
theorem one_of {o : Op} {H : Hp} {w : Own} {ds : List D} {d : D} {xs : List V} (e : ds = [d]) (hO : o.esc = true → Paired (O1 Γ H (hid H w)) ds xs) (hD : Paired (DV Γ H) ds xs) : ∃ x, xs = [x] ∧ DV Γ H d x ∧ (o.esc = true → O1 Γ H (hid H w) d x) := by
  subst e
  cases hD with
  | cons h t =>
    cases t
    refine ⟨_, rfl, h, fun he => ?_⟩
    cases hO he with
    | cons h t => exact h
omit xo in
theorem fits_of {d : D} (h : d.fit = true) : PyData.fits63 d.py := by
  have hs : sizeL = 16777216 := rfl
  cases d with
  | str x =>
    have h : x.length ≤ sizeL := by simpa [D.fit] using h
    simp only [D.py, PyData.fits63]
    omega
  | tup xs =>
    have h : xs.length ≤ sizeL := by simpa [D.fit] using h
    simp only [D.py, PyData.fits63, pys_map, List.length_map]
    omega
  | lst xs =>
    have h : xs.length ≤ sizeL := by simpa [D.fit] using h
    simp only [D.py, PyData.fits63, pys_map, List.length_map]
    omega
  | _ => simp only [D.py, PyData.fits63]
theorem reads_all {pins : List (Addr × Obj)} {s : Shared} {σ : L2.St} {H : Hp} (I : L2.Inv X pins σ H s) : ∀ {ds : List D} {vs : List V} {us : List Value}, DVs Γ H ds vs → D.plains ds = true → Vals vs us → ∃ as, ReadsAll s.heap us (D.pys ds) as
  | _, _, _, .nil, _, .nil => ⟨_, .nil⟩
  | _, _, _, .cons a b, h, .cons r t => by
    simp only [D.plains, Bool.and_eq_true] at h
    obtain ⟨as, h1⟩ := dvReads xo I a h.1 r
    obtain ⟨bs, h2⟩ := reads_all I b h.2 t
    exact ⟨_, .cons h1 h2⟩
theorem cr_all : CallR X (.builtin "all") (rOp Γ .all) := by
  intro pins s σ H xs us Q I r ⟨ds, w, t, kd, hO, hD, he0, ht, al, rp⟩
  have he : op_all ds = .ok kd := he0
  clear he0
  unfold op_all at he
  split at he
  · rename_i ys
    split at he
    · rename_i hc
      cases he
      obtain ⟨x, rfl, hx, _⟩ := one_of rfl hO hD
      obtain ⟨a, vs, rfl, h1, d1⟩ := hx.lst'
      obtain ⟨u, rfl, ru⟩ := vals1 r
      cases ru
      obtain ⟨its, rv, pl, hz⟩ := I.list (SqL.of h1)
      obtain ⟨as, ra⟩ := reads_all xo I d1 hc.1 rv
      refine PySem.W.all_list_data (I.ok.hd xo.calm) pl.isList (by simpa using ra) (pys_plain ys) (fun x hx => ?_) fun h' tk hk => ?_
      · rw [pys_map] at hx
        obtain ⟨d, hd, rfl⟩ := List.mem_map.mp hx
        exact fits_of (List.all_eq_true.mp hc.2 d hd)
      · have e : (D.pys ys).all PyData.truthy = ys.all D.tru := by
          rw [pys_map, List.all_map]
          rfl
        rw [e]
        exact ⟨.bl _, H, I.kept hk, rfl, rp.bl al⟩
    · cases he
  · cases he
theorem cr_any : CallR X (.builtin "any") (rOp Γ .any) := by
  intro pins s σ H xs us Q I r ⟨ds, w, t, kd, hO, hD, he0, ht, al, rp⟩
  have he : op_any ds = .ok kd := he0
  clear he0
  unfold op_any at he
  split at he
  · rename_i ys
    split at he
    · rename_i hc
      cases he
      obtain ⟨x, rfl, hx, _⟩ := one_of rfl hO hD
      obtain ⟨a, vs, rfl, h1, d1⟩ := hx.lst'
      obtain ⟨u, rfl, ru⟩ := vals1 r
      cases ru
      obtain ⟨its, rv, pl, hz⟩ := I.list (SqL.of h1)
      obtain ⟨as, ra⟩ := reads_all xo I d1 hc.1 rv
      refine PySem.W.any_list_data (I.ok.hd xo.calm) pl.isList (by simpa using ra) (pys_plain ys) (fun x hx => ?_) fun h' tk hk => ?_
      · rw [pys_map] at hx
        obtain ⟨d, hd, rfl⟩ := List.mem_map.mp hx
        exact fits_of (List.all_eq_true.mp hc.2 d hd)
      · have e : (D.pys ys).any PyData.truthy = ys.any D.tru := by
          rw [pys_map, List.any_map]
          rfl
        rw [e]
        exact ⟨.bl _, H, I.kept hk, rfl, rp.bl al⟩
    · cases he
  · cases he
omit xo in
theorem dvs_ints {H : Hp} : ∀ {ds : List D} {vs : List V} {ns : List Int}, DVs Γ H ds vs → intsOf ds = some ns → vs = ns.map V.int
  | _, _, _, .nil, e => by cases e; rfl
  | _, _, ns, .cons (d := d) a b, e => by
    cases d with
    | int i =>
      cases a
      simp only [intsOf, Option.map_eq_some_iff] at e
      obtain ⟨ms, e1, e2⟩ := e
      subst e2
      rw [dvs_ints b e1]
      rfl
    | _ => cases e
theorem cr_sum1 : CallR X (.builtin "sum") (rOp Γ .sum) := by
  intro pins s σ H xs us Q I r ⟨ds, w, t, kd, hO, hD, he0, ht, al, rp⟩
  have he : op_sum ds = .ok kd := he0
  clear he0
  unfold op_sum at he
  split at he
  · rename_i ys
    split at he
    · rename_i ns e
      cases he
      obtain ⟨x, rfl, hx, _⟩ := one_of rfl hO hD
      obtain ⟨a, vs, rfl, h1, d1⟩ := hx.lst'
      have ev := dvs_ints d1 e
      subst ev
      exact L2.cr_sum xo.calm pins s σ H _ us Q I r ⟨a, ns, rfl, SqL.of h1, rp.int al⟩
    · cases he
  · cases he
theorem cr_tupOf : CallR X (.type "tuple") (rOp Γ .tupOf) := by
  intro pins s σ H xs us Q I r ⟨ds, w, t, kd, hO, hD, he0, ht, al, rp⟩
  have he : op_tupOf ds = .ok kd := he0
  clear he0
  unfold op_tupOf at he
  split at he
  · split at he
    · rename_i ys
      cases he
      obtain ⟨x, rfl, hx, ho⟩ := one_of rfl hO hD
      obtain ⟨a, vs, rfl, h1, d1⟩ := (ho rfl).lst'
      exact L2.call_tuple_of pins s σ H _ us Q I r ⟨a, vs, rfl, .inl ⟨SqL.of h1, fun l hl => rp.newT al hl d1⟩⟩
    · rename_i ys
      cases he
      obtain ⟨x, rfl, hx, ho⟩ := one_of rfl hO hD
      obtain ⟨a, vs, rfl, h1, d1⟩ := (ho rfl).tup'
      rw [← xo.K] at h1
      exact L2.call_tuple_of pins s σ H _ us Q I r ⟨a, vs, rfl, .inr ⟨h1, rp.sh al (.inr rfl) (by cases ho rfl with | sh q => exact q)⟩⟩
    · cases he
  · cases he
/-- a new list of what stands there -/
theorem newL_at {pins : List (Addr × Obj)} {s : Shared} {σ : L2.St} {H : Hp} {w : Own} {t : Nat} {Q : VK} {ds : List D} {out : List Value} {h1 h' : Heap} {tk n : Nat} (I : L2.Inv X pins σ H s) (k1 : ∀ b o, s.heap.get? b = some o → h1.get? b = some o) (k2 : ∀ b o, h1.get? b = some o → h'.get? b = some o)
    (ho : h'.get? h1.objs.size = some (seqObj "list" (List.toArray out) n)) (hl : out.length ≤ sizeLine) (e : PySem.W.EachIs (RD Γ (hid H w)) out ds) (al : ∀ a l, w a = some l → ∃ o, H a = some o) (rp : RP Γ t H w (1, .lst ds) Q) :
    EP X pins σ Q (.ref h1.objs.size) { s with heap := h', toks := tk } := by
  obtain ⟨vs, hv, hd⟩ := rd_each e
  have I1 : L2.Inv X pins σ H { s with heap := h1, toks := tk } := I.kept k1
  have fr : H h1.objs.size = none := I1.hok.fresh (Nat.le_refl _)
  exact ⟨.ref h1.objs.size, upd H h1.objs.size (.lst vs), I1.laid (t' := tk) k2 (Nat.le_refl _) (show ObjOk X.prog X.w _ _ _ (.lst vs) from ⟨by rw [hv.length]; exact hl, out, n, hv, ho⟩), rfl, rp.newL al fr hd⟩
omit xo in
theorem sortOk_of {xs : List D} (h : sortOk xs = true) : xs.length ≤ sizeLine ∧ (∀ x ∈ xs, x.plain = true ∧ x.py.depth ≤ 60) ∧ PySem.W.AllAlike (xs.map D.py) ∧ PySem.W.Sortable (xs.map D.py) := by
  unfold sortOk at h
  simp only [Bool.and_eq_true, decide_eq_true_eq, List.all_eq_true, Bool.or_eq_true] at h
  obtain ⟨⟨⟨h1, h2⟩, h3⟩, h4⟩ := h
  refine ⟨by rw [← sz]; exact h1, h2, fun d hd d' hd' => ?_, ?_⟩
  · obtain ⟨x, hx, rfl⟩ := List.mem_map.mp hd
    obtain ⟨y, hy, rfl⟩ := List.mem_map.mp hd'
    exact h3 x hx y hy
  · rcases h4 with h4 | h4
    · refine .inl fun d hd => ?_
      obtain ⟨x, hx, rfl⟩ := List.mem_map.mp hd
      have := h4 x hx
      cases x with
      | tup ys =>
        cases ys with
        | nil => cases this
        | cons y r => exact ⟨_, _, rfl⟩
      | _ => cases this
    · refine .inr fun d hd => ?_
      obtain ⟨x, hx, rfl⟩ := List.mem_map.mp hd
      have h5 := h4 x hx
      have h6 := (h2 x hx).1
      cases x with
      | non => cases h5
      | tup _ => cases h5
      | dct _ => simp [D.plain] at h6
      | set _ => simp [D.plain] at h6
      | fn _ => simp [D.plain] at h6
      | exc _ _ => simp [D.plain] at h6
      | scr _ => simp [D.plain] at h6
      | _ => exact ⟨by simp [D.py], by simp [D.py]⟩
theorem each_reads {pins : List (Addr × Obj)} {s : Shared} {σ : L2.St} {H : Hp} {w : Own} {us : List Value} {xs : List D} (I : L2.Inv X pins σ H s) (hp : ∀ x ∈ xs, x.plain = true ∧ x.py.depth ≤ 60) (e : PySem.W.EachIs (RD Γ (hid H w)) us xs) :
    PySem.W.EachIs (fun v d => ∃ as, Reads s.heap v d.py as) us xs := by
  induction e with
  | nil => exact .nil
  | cons h t ih =>
    obtain ⟨x, r, d⟩ := h
    exact .cons (dvReads xo I (DV.mono hid_sub d) (hp _ (List.mem_cons_self)).1 r) (ih fun x hx => hp x (List.mem_cons_of_mem _ hx))
theorem srt_gen {pins : List (Addr × Obj)} {s : Shared} {σ : L2.St} {H : Hp} {w : Own} {t : Nat} {Q : VK} {d : D} {xs : List D} {v : V} {u : Value} (b : Bool) (I : L2.Inv X pins σ H s) (ho : O1 Γ H (hid H w) d v) (e : items? d = some xs) (r : RelV v u) (hns : ∀ ys, d ≠ .set ys) (hok : sortOk xs = true)
    (al : ∀ a l, w a = some l → ∃ o, H a = some o) (kw : List (Str × Value)) (hkw : (kw = [] ∧ b = false) ∨ kw = [(Str.ofString "reverse", .bool b)]) (rp : RP Γ t H w (1, .lst (xs.mergeSort (PySem.W.dataLe b D.py))) Q) :
    wpAny (model X.prog X.w) X.A (call (.builtin "sorted") [u] kw) (EP X pins σ Q) X.xe s := by
  obtain ⟨us, c, ea, hz⟩ := coll_items xo I ho e r hns
  obtain ⟨h1, h2, h3, h4⟩ := sortOk_of hok
  have hu := xo.un
  refine sorted_coll c ea (each_reads xo I h2 ea) h3 h4 h1 (fun d hd => by have := (h2 d hd).2; omega) kw hkw fun out g1 g' tk n k1 k2 ho' hl he => ?_
  exact newL_at xo I k1 k2 ho' (by rw [hl]; exact h1) he al rp
theorem cr_srt : CallR X (.builtin "sorted") (rOp Γ .srt) := by
  intro pins s σ H xs us Q I r ⟨ds, w, t, kd, hO, hD, he0, ht, al, rp⟩
  have he : op_srt ds = .ok kd := he0
  clear he0
  unfold op_srt at he
  split at he
  · rename_i d
    split at he
    · rename_i ys e
      unfold sortR at he
      split at he
      · rename_i hok
        cases he
        obtain ⟨x, rfl, hx, ho⟩ := one_of rfl hO hD
        obtain ⟨u, rfl, ru⟩ := vals1 r
        exact srt_gen xo false I (ho rfl) e ru (fun ys z => by subst z; cases hx) hok al [] (.inl ⟨rfl, rfl⟩) rp
      · cases he
    · cases he
  · cases he
theorem cr_lstOf : CallR X (.type "list") (rOp Γ .lstOf) := by
  intro pins s σ H xs us Q I r ⟨ds, w, t, kd, hO, hD, he0, ht, al, rp⟩
  have he : op_lstOf ds = .ok kd := he0
  clear he0
  unfold op_lstOf at he
  split at he
  · split at he
    · rename_i ys
      cases he
      obtain ⟨x, rfl, hx, ho⟩ := one_of rfl hO hD
      obtain ⟨a, vs, rfl, h1, d1⟩ := (ho rfl).lst'
      exact L2.call_list_of pins s σ H _ us Q I r ⟨a, vs, rfl, .inl (SqL.of h1), fun l hl => rp.newL al hl d1⟩
    · rename_i ys
      cases he
      obtain ⟨x, rfl, hx, ho⟩ := one_of rfl hO hD
      obtain ⟨a, vs, rfl, h1, d1⟩ := (ho rfl).tup'
      rw [← xo.K] at h1
      exact L2.call_list_of pins s σ H _ us Q I r ⟨a, vs, rfl, .inr h1, fun l hl => rp.newL al hl d1⟩
    · cases he
  · cases he
end
end
section
/-! Soundness 11: subscripts, in, displays, repr, isinstance, methods that ask. -/
open PySem PySem.Spec PyProof.Rows L2

section
variable {Γ : Gx} {X : Cx} (xo : XOk Γ X)
omit xo in
theorem two_of {o : Op} {H : Hp} {w : Own} {ds : List D} {d e : D} {x y : V} (ed : ds = [d, e]) (hO : o.esc = true → Paired (O1 Γ H (hid H w)) ds [x, y]) (hD : Paired (DV Γ H) ds [x, y]) : DV Γ H d x ∧ DV Γ H e y ∧ (o.esc = true → O1 Γ H (hid H w) d x) := by
  subst ed
  cases hD with
  | cons h t =>
    cases t with
    | cons h2 t =>
      refine ⟨h, h2, fun he => ?_⟩
      cases hO he with
      | cons h t => exact h
omit xo in
theorem ix_tail {prog : Program} {w : World} {A : Around} {E : Value → Shared → Prop} {s : Shared} {value slice : PySem.Expr} {T id : String} {o i : Value} {Q : Value → Shared → Prop}
    (hl : typeLookup (.type T) "__getitem__" = pure (some (.builtin id))) (hs : subscripted slice false o i = operate [o, i] (getItem o i)) (hT : s.TypeIs o T)
    (h : wpAny (model prog w) A (getItem o i) Q E s) : wpAny (model prog w) A (subscriptTail value slice o i) Q E s := by
  unfold subscriptTail
  refine wpAny_bind ?_
  rw [getitemInPython_of_ne hT.not_modules]
  refine wpAny_bind (wpAny_specialOf hT hl ?_)
  have fin : wpAny (model prog w) A (subscripted slice false o i) (fun r s₃ => wpAny (model prog w) A (letTemporaryGo value o r >>= fun _ => pure r) Q E s₃) E s := by
    rw [hs]
    exact wpAny_operating (wpAny_mono h (fun r s₃ h₃ => wpAny_bind (wpAny_letTemporaryGo (wpAny_pure h₃))) fun _ _ x => x)
  first
    | exact wpAny_pure (wpAny_bind fin)
    | exact wpAny_bind (wpAny_pure (wpAny_bind fin))
    | exact wpAny_bind fin
/-! ### dicts of ints and texts -/
theorem kget_val {H : Hp} : ∀ {kvs : List (D × D)} {es : List (L2.Key × V)} (k : L2.Key), DVk Γ H kvs es → (match kget kvs (kD k), valV es k with | some d, some v => DV Γ H d v | none, none => True | _, _ => False)
  | _, _, k, .nil => by simp [kget, valV_nil]
  | _, _, k, .cons (k := k') a b => by
    unfold kget
    by_cases h : k' = k
    · subst h
      rw [if_pos rfl, valV_pos rfl]
      exact a
    · have hk : ¬ kD k' = kD k := fun e => h (by
        cases k' <;> cases k <;> simp [kD] at e <;> simp [e])
      rw [if_neg hk, valV_neg h]
      exact kget_val k b
theorem flat_key {x : D} (h : x.flat = true) : ∃ k : L2.Key, x = kD k := by
  cases x with
  | int i => exact ⟨.inl i, rfl⟩
  | str i => exact ⟨.inr i, rfl⟩
  | _ => cases h
theorem flat_kV {H : Hp} {k : L2.Key} {v : V} (h : DV Γ H (kD k) v) : v = kV k := by
  cases k with
  | inl i => cases h; rfl
  | inr i => cases h; rfl
theorem o1_flat {pins : List (Addr × Obj)} {s : Shared} {σ : L2.St} {H : Hp} {w : Own} {v : V} {kvs : List (D × D)} (I : L2.Inv X pins σ H s) (h : O1 Γ H (hid H w) (.dct kvs) v) (hf : (kvs.all fun p => p.1.flat) = true) : ∃ a es, v = .ref a ∧ H a = some (.dK es) ∧ DVk Γ (hid H w) kvs es := by
  have hn : ∀ a es, H a = some (dN Γ.w a es) → DVn Γ (hid H w) kvs es → False := fun a es h1 d1 => by
    obtain ⟨⟨z, ⟨_, ne⟩, _⟩, _⟩ := I.hok _ _ h1
    cases d1 with
    | nil => exact ne rfl
    | cons k n x a b => simp [D.flat] at hf
  cases h with
  | sh h =>
    cases h with
    | dctK h1 d1 => exact ⟨_, _, rfl, hid_sub _ _ h1, d1⟩
    | dctN h1 d1 => exact (hn _ _ (hid_sub _ _ h1) d1).elim
  | dctK h1 d1 => exact ⟨_, _, rfl, h1, d1⟩
  | dctN h1 d1 => exact (hn _ _ h1 d1).elim
theorem kOk_of {kvs : List (D × D)} {x : D} (h : kOk kvs x = true) : x.flat = true ∧ (kvs.all fun p => p.1.flat) = true := by
  unfold kOk at h
  simpa [Bool.and_eq_true] using h
include xo
theorem cr_in : OpR X (compareOp .In) (rOp2 Γ .isIn) := by
  intro pins s σ H x y v u Q I rx ry ⟨ds, w, t, kd, hO, hD, he0, ht, al, rp⟩
  have he : op_isIn ds = .ok kd := he0
  clear he0
  unfold op_isIn at he
  split at he
  · obtain ⟨a, b, _⟩ := two_of rfl hO hD
    obtain ⟨h1, h2, rfl⟩ := isInSeq_ok he
    exact (in_core xo I rx ry a false b h1 h2).1 (rp.bl al)
  · obtain ⟨a, b, _⟩ := two_of rfl hO hD
    obtain ⟨h1, h2, rfl⟩ := isInSeq_ok he
    exact (in_core xo I rx ry a true b h1 h2).1 (rp.bl al)
  · rename_i kvs
    obtain ⟨a, b, _⟩ := two_of rfl hO hD
    split at he
    · rename_i hk
      cases he
      obtain ⟨f1, f2⟩ := kOk_of hk
      obtain ⟨k, rfl⟩ := flat_key f1
      have ex := flat_kV a
      subst ex
      obtain ⟨p, es, rfl, h1, d1⟩ := dct_flat I b f2
      cases ry
      have hu := xo.un
      refine L2.d_in (by omega) I (DGet.k (k := k) h1) rx fun s' I' => ?_
      have hv := kget_val k d1
      have e : (valV es k).isSome = (kget kvs (kD k)).isSome := by
        revert hv
        cases kget kvs (kD k) <;> cases valV es k <;> intro hv <;> first | rfl | exact hv.elim
      rw [e]
      exact ⟨.bl _, H, I', rfl, rp.bl al⟩
    · cases he
  · cases he
theorem cr_notIn : OpR X (compareOp .NotIn) (rOp2 Γ .notIn) := by
  intro pins s σ H x y v u Q I rx ry ⟨ds, w, t, kd, hO, hD, he0, ht, al, rp⟩
  have he : op_notIn ds = .ok kd := he0
  clear he0
  unfold op_notIn at he
  have neg : ∀ {a : D} {xs : List D}, ((isInSeq a xs).bind fun r => match r with | (_, .bl b) => okB (!b) | _ => .bad) = .ok kd → shapedD a = true ∧ shapedD (.lst xs) = true ∧ kd = (0, .bl (!xs.any fun z => PyData.eqv z.py a.py)) := fun {a xs} e => by
    cases q : isInSeq a xs with
    | ok r =>
      obtain ⟨h1, h2, rfl⟩ := isInSeq_ok q
      rw [q] at e
      cases e
      exact ⟨h1, h2, rfl⟩
    | exc _ _ => rw [q] at e; cases e
    | bad => rw [q] at e; cases e
  split at he
  · obtain ⟨a, b, _⟩ := two_of rfl hO hD
    obtain ⟨h1, h2, rfl⟩ := neg he
    exact (in_core xo I rx ry a false b h1 h2).2 (rp.bl al)
  · obtain ⟨a, b, _⟩ := two_of rfl hO hD
    obtain ⟨h1, h2, rfl⟩ := neg he
    exact (in_core xo I rx ry a true b h1 h2).2 (rp.bl al)
  · rename_i kvs
    obtain ⟨a, b, _⟩ := two_of rfl hO hD
    split at he
    · rename_i hk
      cases he
      obtain ⟨f1, f2⟩ := kOk_of hk
      obtain ⟨k, rfl⟩ := flat_key f1
      have ex := flat_kV a
      subst ex
      obtain ⟨p, es, rfl, h1, d1⟩ := dct_flat I b f2
      cases ry
      have hu := xo.un
      refine L2.d_notIn (by omega) I (DGet.k (k := k) h1) rx fun s' I' => ?_
      have hv := kget_val k d1
      have e : (valV es k).isSome = (kget kvs (kD k)).isSome := by
        revert hv
        cases kget kvs (kD k) <;> cases valV es k <;> intro hv <;> first | rfl | exact hv.elim
      rw [e]
      exact ⟨.bl _, H, I', rfl, rp.bl al⟩
    · cases he
  · cases he
omit xo in
mutual
theorem nodict : ∀ d : D, d.py.hasDict = false
  | .non => by simp [D.py, PyData.hasDict]
  | .bl _ => by simp [D.py, PyData.hasDict]
  | .int _ => by simp [D.py, PyData.hasDict]
  | .str _ => by simp [D.py, PyData.hasDict]
  | .tup xs => by simp only [D.py, PyData.hasDict]; exact nodicts xs
  | .lst xs => by simp only [D.py, PyData.hasDict]; exact nodicts xs
  | .dct _ => by simp [D.py, PyData.hasDict]
  | .set _ => by simp [D.py, PyData.hasDict]
  | .fn _ => by simp [D.py, PyData.hasDict]
  | .exc _ _ => by simp [D.py, PyData.hasDict]
  | .scr _ => by simp [D.py, PyData.hasDict]
theorem nodicts : ∀ xs : List D, PyData.hasDictAll (D.pys xs) = false
  | [] => by simp [D.pys, PyData.hasDictAll]
  | x :: r => by simp only [D.pys, PyData.hasDictAll, nodict x, nodicts r, Bool.or_self]
end
/-- x[i] -/
theorem cr_ix : IxR X (rOp2 Γ .ix) := by
  intro value slice pins s σ H x y v u Q I rx ry ⟨ds, w, t, kd, hO, hD, he0, ht, al, rp⟩ hs
  have he : op_ix ds = .ok kd := he0
  clear he0
  unfold op_ix at he
  split at he
  · split at he
    · rename_i e
      cases he
      obtain ⟨a, b, o⟩ := two_of rfl hO hD
      cases b
      exact ok_ixSeq xo value slice I rx ry false (o rfl) e (fun z hz => rp.sh al (.inl rfl) hz) hs
    · cases he
  · split at he
    · rename_i e
      cases he
      obtain ⟨a, b, o⟩ := two_of rfl hO hD
      cases b
      exact ok_ixSeq xo value slice I rx ry true (o rfl) e (fun z hz => rp.sh al (.inl rfl) hz) hs
    · cases he
  · split at he
    · rename_i hk
      split at he
      · rename_i d e
        cases he
        obtain ⟨f1, f2⟩ := kOk_of hk
        obtain ⟨a, b, o⟩ := two_of rfl hO hD
        obtain ⟨k, rfl⟩ := flat_key f1
        have ex := flat_kV b
        subst ex
        obtain ⟨p, es, rfl, h1, d1⟩ := o1_flat I (o rfl) f2
        cases rx
        have hu := xo.un
        have hv := kget_val k d1
        rw [e] at hv
        cases ev : valV es k with
        | none => rw [ev] at hv; exact hv.elim
        | some z =>
          rw [ev] at hv
          have g : DGet H p (kV k) (some z) := by rw [← ev]; exact DGet.k h1
          exact ix_tail PySem.F.slot_dict_getitem.lookup hs (dict_typeIs I g) (L2.d_getItem (by omega) I g ry fun w' s3 I3 rw' => ⟨z, H, I3, rw', rp.sh al (.inl rfl) hv⟩)
      · cases he
    · cases he
  · cases he
/-- repr -/
theorem cr_rep : CallR X (.builtin "repr") (rOp Γ .rep) := by
  intro pins s σ H xs us Q I r ⟨ds, w, t, kd, hO, hD, he0, ht, al, rp⟩
  have he : op_rep ds = .ok kd := he0
  clear he0
  unfold op_rep at he
  split at he
  · rename_i d
    split at he
    · rename_i hc
      cases he
      obtain ⟨hp, hs, hd, hz⟩ := hc
      obtain ⟨x, rfl, hx, _⟩ := one_of rfl hO hD
      obtain ⟨u, rfl, ru⟩ := vals1 r
      obtain ⟨as, rd⟩ := dvReads xo I hx hp ru
      have hu := xo.un
      have q : Q (.str d.py.shown) H := rp.str al
      have noD : d.py.hasDict = false := nodict d
      cases d with
      | tup ys =>
        obtain ⟨a, vs, rfl, h1, d1⟩ := hx.tup'
        cases ru
        exact repr_of_reads' rd hs (fun h => by rw [noD] at h; cases h) xo.gd (by omega) (fun _ _ e => e) (fun h' u tk hk => ⟨.str _, H, I.kept hk, ⟨_, rfl⟩, q⟩) (by rw [← sz]; exact hz)
      | lst ys =>
        obtain ⟨a, vs, rfl, h1, d1⟩ := hx.lst'
        cases ru
        exact repr_of_reads' rd hs (fun h => by rw [noD] at h; cases h) xo.gd (by omega) (fun _ _ e => e) (fun h' u tk hk => ⟨.str _, H, I.kept hk, ⟨_, rfl⟩, q⟩) (by rw [← sz]; exact hz)
      | non =>
        cases hx
        cases ru
        exact P.repr_of_none ⟨.str _, H, I.tok _, ⟨_, rfl⟩, by simpa [D.py, PyData.shown] using q⟩
      | bl b =>
        cases hx
        cases ru
        exact P.repr_of_bool ⟨.str _, H, I.tok _, ⟨_, rfl⟩, by simpa [D.py, PyData.shown] using q⟩
      | int i =>
        cases hx
        obtain ⟨t, rfl⟩ := ru
        have hs' : i.natAbs.log2 < 1920 := by simpa [D.py, PyData.showable] using hs
        exact P.repr_of_int hs' ⟨.str _, H, I.tok _, ⟨_, rfl⟩, by simpa [D.py, PyData.shown] using q⟩
      | str i =>
        cases hx
        obtain ⟨t, rfl⟩ := ru
        exact P.repr_of_str ⟨.str _, H, I.tok _, ⟨_, rfl⟩, by simpa [D.py, PyData.shown] using q⟩ (by simpa [D.py, PyData.shown, ← sz] using hz)
      | _ => simp [D.plain] at hp
    · cases he
  · cases he
end
end
section
/-! Soundness 12: subscripts, slices, displays, isinstance, asking methods: the expressions. -/
open PySem PySem.Spec PyProof.Rows L2

section
variable {Φ : Fx} {X : Cx} {σ : L2.St} {H : Hp}
theorem e_ix {a b : PySem.Expr} {ca cb : CE} {pos : Pos} (xo : XOk Φ.Γ X) (ha : PE X a (tO Φ ca)) (hb : PE X b (tO Φ cb)) (hs : PlainIx b := by intro _ _; rfl) : PE X (.Subscript a b pos) (tE Φ (.op .ix (.cons ca (.cons cb .nil)))) :=
  peI (pe_ix (cr_ix xo) ha hb hs) fun _ _ _ h => op2_of h
theorem paired_two {α β : Type} {F : α → β → Prop} {l : List α} {x y : β} (h : Paired F l [x, y]) : ∃ a b, l = [a, b] ∧ F a x ∧ F b y := paired2 h
/-- a[lo:], a[:hi], a[lo:hi] -/
theorem e_slL {a b : PySem.Expr} {ca cb : CE} {p2 pos : Pos} (xo : XOk Φ.Γ X) (ha : PE X a (tO Φ ca)) (hb : PE X b (tO Φ cb)) : PE X (.Subscript a (.Slice (some b) none none p2) pos) (tE Φ (.op .slL (.cons ca (.cons cb .nil)))) :=
  peI (pe_slice (ok_slice xo) ha (po_some hb) po_none) fun σ H Q h => tO_mono (os_cons (op_of h)) fun x H1 h => tO_mono (os_cons h) fun y H2 h => by
    obtain ⟨ds, w, t, kd, hO, hD, he0, ht, al, rp⟩ := os_nil h
    have he : op_slL ds = .ok kd := he0
    unfold op_slL at he
    split at he
    · rename_i i
      obtain ⟨h1, h2, o⟩ := two_of rfl hO hD
      cases h2
      cases he
      exact ⟨i, rfl, _, w, t, _, o rfl, rfl, al, rp⟩
    · rename_i i
      obtain ⟨h1, h2, o⟩ := two_of rfl hO hD
      cases h2
      cases he
      exact ⟨i, rfl, _, w, t, _, o rfl, rfl, al, rp⟩
    · cases he
theorem e_slU {a b : PySem.Expr} {ca cb : CE} {p2 pos : Pos} (xo : XOk Φ.Γ X) (ha : PE X a (tO Φ ca)) (hb : PE X b (tO Φ cb)) : PE X (.Subscript a (.Slice none (some b) none p2) pos) (tE Φ (.op .slU (.cons ca (.cons cb .nil)))) :=
  peI (pe_slice (ok_slice xo) ha po_none (po_some hb)) fun σ H Q h => tO_mono (os_cons (op_of h)) fun x H1 h => tO_mono (os_cons h) fun y H2 h => by
    obtain ⟨ds, w, t, kd, hO, hD, he0, ht, al, rp⟩ := os_nil h
    have he : op_slU ds = .ok kd := he0
    unfold op_slU at he
    split at he
    · rename_i i
      obtain ⟨h1, h2, o⟩ := two_of rfl hO hD
      cases h2
      cases he
      exact ⟨i, rfl, _, w, t, _, o rfl, rfl, al, rp⟩
    · rename_i i
      obtain ⟨h1, h2, o⟩ := two_of rfl hO hD
      cases h2
      cases he
      exact ⟨i, rfl, _, w, t, _, o rfl, rfl, al, rp⟩
    · rename_i i
      obtain ⟨h1, h2, o⟩ := two_of rfl hO hD
      cases h2
      cases he
      exact ⟨i, rfl, _, w, t, _, o rfl, rfl, al, rp⟩
    · cases he
/-! ### shared operands -/
def npk : CE → Bool
  | .pk _ => false
  | _ => true
def npks : CEs → Bool
  | .nil => true
  | .cons c r => npk c && npks r
theorem denOps_cons {F : Fn} {esc : Bool} {c : CE} {r : CEs} {ρ : PB.Env} (h : npk c = true) : denOps F esc (.cons c r) ρ = (den F c ρ).bind fun p => (denOps F esc r p.2).bind fun q => .ok (p.1 :: q.1, q.2) := by
  cases c <;> first | rfl | cases h
/-- the operands' values are all shared -/
def tSh (Φ : Fx) (es : CEs) : TA := fun σ H Q => ∃ ρ w t, Rep Φ.Γ Φ.N ρ σ H w ∧ Φ.N < t ∧ Lv w t ∧ Wp (denOps Φ.F true es ρ) (Ex Φ H w) fun p =>
  ∀ vs H' w', Rep Φ.Γ Φ.N p.2 σ H' w' → Stz Φ.N H w H' w' → DVs Φ.Γ (hid H' w') (dsds p.1) vs → Q vs H'
theorem sh_nil {K : List V → Hp → Prop} (h : tSh Φ .nil σ H K) : K [] H := by
  obtain ⟨ρ, w, t, r, hN, lv, hw⟩ := h
  exact hw [] H w r .refl .nil
theorem sh_cons {c : CE} {r : CEs} {K : List V → Hp → Prop} (hc : npk c = true) (h : tSh Φ (.cons c r) σ H K) : tE Φ c σ H fun x H1 => tSh Φ r σ H1 fun xs H2 => K (x :: xs) H2 := by
  obtain ⟨ρ, w, t, rp, hN, lv, hw⟩ := h
  rw [denOps_cons hc] at hw
  refine ⟨ρ, w, t, rp, hN, lv, hw.bind.mono (fun _ _ e => e) fun p ep hp => ?_⟩
  intro v H1 w1 r1 s1 o1
  refine ⟨p.2, w1, t + 1, r1, Nat.le_succ_of_le hN, s1.lv hN lv, hp.bind.mono (fun _ _ e => e.step (s1.kp hN)) fun q eq hq => ?_⟩
  intro vs H2 w2 r2 s2 dd
  have o2 : OV Φ.Γ H2 w2 t p.1.1 p.1.2 v := o1.stz hN s2
  exact hq (v :: vs) H2 (drop w2 t) (r2.drop hN) ((s1.thenZ s2).shareT lv) (.cons o2.share (DVs.mono hid_drop dd))
theorem pa_sh0 : PA X [] (tSh Φ .nil) := paI pa_nil fun _ _ _ h => sh_nil h
theorem pa_sh {e : PySem.Expr} {es : List PySem.Expr} {c : CE} {r : CEs} (h : PE X e (tE Φ c)) (t : PA X es (tSh Φ r)) (hc : npk c = true := by rfl) (hs : starEach (e :: es) X.env = (false, eval e X.env) :: starEach es X.env := by rfl) : PA X (e :: es) (tSh Φ (.cons c r)) :=
  paI (pa_cons h t hs) fun _ _ _ h => sh_cons hc h
theorem stp_of {w w' : Own} {H' : Hp} {N t : Nat} (hs : Sub H H') (he : ∀ a o, H a = some o → w' a = w a) (lab : ∀ a l, w' a = some l → w a = some l ∨ (l = t ∧ H a = none)) (al : ∀ a l, w a = some l → ∃ o, H a = some o) : Stp N t H w H' w' :=
  ⟨fun a u ha _ => hs a u ha, fun a u ha e => by rw [he a u ha]; exact e, fun a l e hl => by
    obtain ⟨u, hu⟩ := al a l e
    rw [he a u hu]
    exact e, fun a l e hl => by
    rcases lab a l e with q | ⟨q, _⟩
    · exact .inl q
    · exact .inr ⟨q, by rw [q]; exact Nat.le_refl _⟩⟩
/-- a result, from what was reached -/
theorem rp_of {ρ : PB.Env} {w w' : Own} {H' : Hp} {t : Nat} {kd : KD} {Q : VK} (lv : Lv w t) (hN : Φ.N < t) (r' : Rep Φ.Γ Φ.N ρ σ H' w') (s' : Stz Φ.N H w H' w')
    (h : ∀ v H2 w2, Rep Φ.Γ Φ.N ρ σ H2 w2 → Stp Φ.N t H w H2 w2 → OV Φ.Γ H2 w2 t kd.1 kd.2 v → Q v H2) : RP Φ.Γ t H' w' kd Q :=
  fun v H2 w2 hs he lab al ov => h v H2 w2 (rep_step r' hs he al) (s'.thenP (stp_of hs he lab r'.al)) ov
/-- (a, b, ..) -/
theorem e_tup {es : List PySem.Expr} {cs : CEs} {x1 : Nat} {pos : Pos} (h : PA X es (tSh Φ cs)) : PE X (.Tuple es x1 pos) (tE Φ (.op .mkT cs)) :=
  peI (pe_tup h) fun σ H Q h => by
    obtain ⟨ρ, w, t, rp, hN, lv, hw⟩ := h
    have hw : Wp ((denOps Φ.F true cs ρ).bind fun p => (op_mkT (dsds p.1)).bind fun kd => .ok (kd, p.2)) (Ex Φ H w) _ := hw
    refine ⟨ρ, w, t, rp, hN, lv, hw.bind.mono (fun _ _ e => e) fun p _ hp vs H' w' r' s' dd => ?_⟩
    unfold op_mkT at hp
    dsimp only at hp
    split at hp
    · rename_i hl
      refine ⟨by rw [← dd.length, ← sz]; exact hl, fun q hq => ?_⟩
      exact (rp_of (kd := (0, .tup (dsds p.1))) lv hN r' s' hp).newT r'.al hq dd
    · exact False.elim hp
/-- [a, b, ..] -/
theorem e_lst {es : List PySem.Expr} {cs : CEs} {pos : Pos} (h : PA X es (tSh Φ cs)) : PE X (.List es pos) (tE Φ (.dsp 1 cs)) :=
  peI (pe_lst h) fun σ H Q h => by
    obtain ⟨ρ, w, t, rp, hN, lv, hw⟩ := h
    have hw : Wp ((denOps Φ.F true cs ρ).bind fun p => if minK 1 p.1 = true ∧ p.1.length ≤ sizeL then Res.ok (((1, D.lst (dsds p.1)) : KD), p.2) else .bad) (Ex Φ H w) _ := hw
    refine ⟨ρ, w, t, rp, hN, lv, hw.bind.mono (fun _ _ e => e) fun p _ hp vs H' w' r' s' dd => ?_⟩
    split at hp
    · rename_i hl
      have e : (dsds p.1).length = p.1.length := List.length_map ..
      refine ⟨by rw [← dd.length, ← sz, e]; exact hl.2, fun q hq => ?_⟩
      exact (rp_of (kd := (1, .lst (dsds p.1))) lv hN r' s' hp).newL r'.al hq dd
    · exact False.elim hp
/-- {} -/
theorem e_dct {pos : Pos} : PE X (.Dict [] [] pos) (tE Φ (.dctE 1)) :=
  peI pe_dnewK fun σ H Q h p hp => by
    obtain ⟨ρ, w, t, rp, hN, lv, hw⟩ := h
    have hw : Wp (Res.ok (((1, D.dct []) : KD), ρ)) (Ex Φ H w) _ := hw
    exact (rp_of (kd := (1, .dct [])) lv hN rp .refl hw).newO rp.al hp fun w' e s => .inl ⟨p, [], rfl, e, upd_same, .nil, .inl rfl⟩
/-! ### isinstance -/
def isD (T : String) : D → Bool
  | .int _ => T == "int"
  | .bl _ => T == "int" || T == "bool"
  | .tup _ => T == "tuple"
  | .str _ => T == "str"
  | _ => false
theorem e_isi {o : Op} {T : String} {nm : Str} {a : PySem.Expr} {ca : CE} {p p2 pos : Pos} (xo : XOk Φ.Γ X) (hf : ∀ d S, tyD d = some S → kitB S T = some (isD T d)) (hop : ∀ l kd, opD o l = .ok kd → ∃ d, l = [d] ∧ (tyD d).isSome = true ∧ kd = (0, .bl (isD T d)))
    (hg : Gl X "isinstance") (hm : X.mg "isinstance" = none) (hg2 : Gl X nm) (hm2 : X.mg nm = none) (hv2 : bootBuiltins nm = some (.type T)) (ha : PE X a (tO Φ ca))
    (hn : nm ≠ "__name__" := by decide) (hdb : (nm == ("__debug__" : Str)) = false := by decide)
    (he : starEach [a, .Name nm p2] X.env = (false, eval a X.env) :: starEach [.Name nm p2] X.env := by rfl) (he2 : starEach [.Name nm p2] X.env = (false, eval (.Name nm p2) X.env) :: starEach [] X.env := by rfl) (hpl : (backTo pos (starEach [.Name nm p2] X.env)).any (·.1) = false := by rfl) :
    PE X (.Call (.Name "isinstance" p) [a, .Name nm p2] [] pos) (tE Φ (.op o (.cons ca .nil))) :=
  peI (pe_callB (ok_isi xo T (isD T) hf) hg hm PyProof.Rows.boot_isinstance (pa_cons ha (pa_cons (pe_bltn hg2 hm2 hv2 (v := .ty T) rfl hn hdb) pa_nil he2) he) (by decide) (by decide) he hpl) fun σ H Q h =>
    tO_mono (os_cons (op_of h)) fun x H1 h => by
      obtain ⟨ds, w, t, kd, hO, hD, he0, ht, al, rp⟩ := os_nil h
      obtain ⟨d, e1, e2, e3⟩ := hop _ _ he0
      subst e1 e3
      cases hD with
      | cons h t =>
        exact ⟨d, w, _, rfl, h, e2, al, rp⟩
/-! ### list(range(..)) -/
theorem rg_dvs {Hs : Hp} (a b : Int) : DVs Φ.Γ Hs ((List.range (b - a).toNat).map fun k => D.int (a + (k : Nat))) (rgV a b) := by
  unfold rgV
  generalize (b - a).toNat = n
  suffices h : ∀ l : List Nat, DVs Φ.Γ Hs (l.map fun k => D.int (a + (k : Nat))) (l.map fun i => V.int (a + (i : Nat))) from h _
  intro l
  induction l with
  | nil => exact .nil
  | cons i l ih => exact .cons (.int _) ih
theorem e_lrng1 {a : PySem.Expr} {ca : CE} {p p2 pos pos2 : Pos} (xo : XOk Φ.Γ X) (hg : Gl X "list") (hm : X.mg "list" = none) (hg2 : Gl X "range") (hm2 : X.mg "range" = none) (ha : PE X a (tO Φ ca))
    (na : starEach [a] X.env = (false, eval a X.env) :: starEach [] X.env := by rfl) (nb : starEach [.Call (.Name "range" p2) [a] [] pos2] X.env = (false, eval (.Call (.Name "range" p2) [a] [] pos2) X.env) :: starEach [] X.env := by rfl) :
    PE X (.Call (.Name "list" p) [.Call (.Name "range" p2) [a] [] pos2] [] pos) (tE Φ (.op .lrng1 (.cons ca .nil))) :=
  peI (pe_listRg xo.calm hg hm (prg_1 hg2 hm2 ha na) nb) fun σ H Q h => tO_mono (os_cons (op_of h)) fun x H1 h => by
    obtain ⟨ds, w, t, kd, hO, hD, he0, ht, al, rp⟩ := os_nil h
    have he : op_lrng1 ds = .ok kd := he0
    unfold op_lrng1 at he
    split at he
    · rename_i n
      split at he
      · rename_i hc
        cases he
        cases hD with
        | cons h _ =>
          cases h
          obtain ⟨c1, c2, c3⟩ := hc
          have hs : sizeL = 2 ^ 24 := rfl
          refine ⟨n, rfl, ⟨by omega, by omega, c1, c2, by rw [Int.sub_zero, ← hs]; exact c3⟩, fun q hq => rp.newL al hq ?_⟩
          have := rg_dvs (Φ := Φ) (Hs := hid H1 w) 0 n
          simpa using this
      · cases he
    · cases he
end
/-! ### sorted(set(..)) -/
theorem code_inj : ∀ a b : List Int, a.length = b.length → TS.Bd 64 a → TS.Bd 64 b → TS.code 64 a = TS.code 64 b → a = b
  | [], [], _, _, _, _ => rfl
  | [], _ :: _, h, _, _, _ => by cases h
  | _ :: _, [], h, _, _, _ => by cases h
  | x :: xs, y :: ys, h, ha, hb, e => by
    have hl : xs.length = ys.length := by simpa using h
    have b1 : TS.Bd 64 xs := fun m hm => ha m (List.mem_cons_of_mem _ hm)
    have b2 : TS.Bd 64 ys := fun m hm => hb m (List.mem_cons_of_mem _ hm)
    rcases Int.lt_trichotomy x y with c | c | c
    · have := TS.code_lt hl b1 b2 c
      omega
    · subst c
      have e2 : TS.code 64 xs = TS.code 64 ys := by
        have h1 := TS.code_same (B := 64) (d := x) hl
        have h2 := TS.code_same (B := 64) (d := x) hl.symm
        rcases Int.lt_trichotomy (TS.code 64 xs) (TS.code 64 ys) with z | z | z
        · have := h1.mpr z; omega
        · exact z
        · have := h2.mpr z; omega
      rw [code_inj xs ys hl b1 b2 e2]
    · have := TS.code_lt hl.symm b2 b1 c
      omega
theorem nodup_eraseDups {α : Type} [BEq α] [LawfulBEq α] : ∀ (n : Nat) (l : List α), l.length ≤ n → l.eraseDups.Nodup
  | _, [], _ => by simp
  | 0, _ :: _, h => by simp at h
  | n + 1, a :: l, h => by
    rw [List.eraseDups_cons]
    refine List.nodup_cons.mpr ⟨fun hm => ?_, nodup_eraseDups n _ ?_⟩
    · rw [List.mem_eraseDups, List.mem_filter] at hm
      simp at hm
    · have := List.length_filter_le (fun b => !b == a) l
      simp only [List.length_cons] at h
      omega
theorem srt_code {nss ls : List (List Int)} (hm : ∀ x, x ∈ ls ↔ x ∈ nss) (nd : ls.Nodup) (d : Nat) (hb : ∀ x ∈ nss, x.length = d ∧ TS.Bd 64 x) (hs : ls.Pairwise fun a b => TS.code 64 a ≤ TS.code 64 b) : nss.eraseDups.mergeSort codeLe = ls := by
  have pm : (nss.eraseDups.mergeSort codeLe).Perm nss.eraseDups := List.mergeSort_perm _ _
  have pe : nss.eraseDups.Perm ls := (List.perm_ext_iff_of_nodup (nodup_eraseDups _ _ (Nat.le_refl _)) nd).mpr fun x => by rw [List.mem_eraseDups, hm]
  refine List.Perm.eq_of_pairwise (le := fun a b => TS.code 64 a ≤ TS.code 64 b) (fun a b ha hb' h1 h2 => ?_) ?_ hs (pm.trans pe)
  · have ha' : a ∈ nss := by rw [← List.mem_eraseDups]; exact pm.mem_iff.mp ha
    have hb'' : b ∈ nss := (hm b).mp hb'
    exact code_inj a b (by rw [(hb a ha').1, (hb b hb'').1]) (hb a ha').2 (hb b hb'').2 (by omega)
  · have := List.pairwise_mergeSort (le := codeLe) (fun a b c h1 h2 => by unfold codeLe at *; simp only [decide_eq_true_eq] at *; omega) (fun a b => by unfold codeLe; simp only [Bool.or_eq_true, decide_eq_true_eq]; omega) nss.eraseDups
    exact this.imp fun h => by simpa [codeLe] using h
section
variable {Φ : Fx} {X : Cx} {σ : L2.St} {H : Hp}
theorem tupIs_refs {Γ : Gx} {Hs : Hp} : ∀ {xs : List D} {vs : List V} {nss : List (List Int)}, DVs Γ Hs xs vs → tupIs xs = some nss → ∃ ks : List (Addr × List Int), vs = ks.map (fun p => V.ref p.1) ∧ ks.map (·.2) = nss ∧ ∀ p ∈ ks, SqT Γ.K Hs p.1 (p.2.map V.int)
  | _, _, _, .nil, e => by cases e; exact ⟨[], rfl, rfl, fun _ h => nomatch h⟩
  | _, _, nss, .cons (d := d) a b, e => by
    cases d with
    | tup ys =>
      simp only [tupIs] at e
      split at e
      · rename_i ns mss e1 e2
        cases e
        obtain ⟨t, us, rfl, h1, d1⟩ := a.tup'
        obtain ⟨ks, k1, k2, k3⟩ := tupIs_refs b e2
        have eu := dvs_ints d1 e1
        subst eu
        refine ⟨(t, ns) :: ks, by rw [k1]; rfl, by rw [List.map_cons, k2], fun p hp => ?_⟩
        rcases List.mem_cons.mp hp with rfl | hp
        · exact h1
        · exact k3 p hp
      · cases e
    | _ => cases e
theorem RP.grow {Γ : Gx} {t : Nat} {w : Own} {kd : KD} {Q : VK} {H : Hp} {a : Addr} {o : HO} (r : RP Γ t H w kd Q) (ha : H a = none) (wa : w a = none) : RP Γ t (upd H a o) w kd Q := fun v H' w' hs he lab al ov => by
  have s : Sub H (upd H a o) := fun b u e => by
    rw [upd_ne (ne_of_none e ha)]
    exact e
  refine r v H' w' (s.trans hs) (fun b u e => he b u (s b u e)) (fun b l e => ?_) al ov
  rcases lab b l e with q | ⟨q1, q2⟩
  · exact .inl q
  · refine .inr ⟨q1, ?_⟩
    by_cases hb : b = a
    · rw [hb]; exact ha
    · rw [upd_ne hb] at q2
      exact q2
theorem e_srtSet {a : PySem.Expr} {ca : CE} {p p2 pos pos2 : Pos} (xo : XOk Φ.Γ X) (hg : Gl X "sorted") (hm : X.mg "sorted" = none) (hg2 : Gl X "set") (hm2 : X.mg "set" = none) (ha : PE X a (tO Φ ca))
    (he2 : starEach [a] X.env = (false, eval a X.env) :: starEach [] X.env := by rfl) (hpl2 : (backTo pos2 (starEach [] X.env)).any (·.1) = false := by rfl)
    (he : starEach [.Call (.Name "set" p2) [a] [] pos2] X.env = (false, eval (.Call (.Name "set" p2) [a] [] pos2) X.env) :: starEach [] X.env := by rfl) (hpl : (backTo pos (starEach [] X.env)).any (·.1) = false := by rfl) :
    PE X (.Call (.Name "sorted" p) [.Call (.Name "set" p2) [a] [] pos2] [] pos) (tE Φ (.op .srtSet (.cons ca .nil))) :=
  peI (pe_callB (cr_sortedT xo.calm) hg hm PyProof.Rows.boot_sorted (pa_cons (pe_callTy (cr_setOfT xo.calm (by have := xo.un; omega)) hg2 hm2 PyProof.Rows.boot_set (pa_cons ha pa_nil he2) (by decide) (by decide) he2 hpl2) pa_nil he) (by decide) (by decide) he hpl) fun σ H Q h =>
    tO_mono (os_cons (op_of h)) fun x H1 h => by
      obtain ⟨ds, w, t, kd, hO, hD, he0, ht, al, rp⟩ := os_nil h
      have he : op_srtSet ds = .ok kd := he0
      unfold op_srtSet at he
      have wnone : ∀ b, H1 b = none → w b = none := fun b hb => by
        cases q : w b with
        | none => rfl
        | some l =>
          obtain ⟨u, hu⟩ := al b l q
          rw [hb] at hu
          cases hu
      split at he
      · rename_i xs
        obtain ⟨z, e, hz, o⟩ := one_of rfl hO hD
        cases e
        obtain ⟨l, vs, rfl, h1, d1⟩ := (o rfl).lst'
        split at he
        · rename_i nss e
          obtain ⟨ks, rfl, k2, k3⟩ := tupIs_refs d1 e
          have kS : ∀ p ∈ ks, SqT X.K H1 p.1 (p.2.map V.int) := fun p hp => by rw [xo.K]; exact hid_sub.sqT (k3 p hp)
          have sub : ∀ (b : Addr) (u : HO), H1 b = none → Sub H1 (upd H1 b u) := fun b u hb c o e => by
            rw [upd_ne (ne_of_none e hb)]
            exact e
          split at he
          · cases he
            have ek : ks = [] := List.map_eq_nil_iff.mp k2
            subst ek
            refine ⟨l, [], rfl, SqL.of h1, (fun _ h => nomatch h), by decide, fun a L ha hL hL2 => ?_⟩
            have eL : L = [] := by
              cases L with
              | nil => rfl
              | cons q r => exact absurd (hL q List.mem_cons_self) (by simp)
            subst eL
            refine ⟨a, [], 1, 64, rfl, upd_same, (fun _ h => nomatch h), Nat.le_refl _, (fun _ h => nomatch h), fun L' q pm nd hl pw hq => ?_⟩
            have eL' : L' = [] := List.Perm.eq_nil pm
            subst eL'
            have rg := rp.grow (o := SetTO X.prog X.w a []) ha (wnone a ha)
            refine rg.newL (fun b l e => ?_) hq .nil
            obtain ⟨u, hu⟩ := al b l e
            exact ⟨u, sub a _ ha b u hu⟩
          · rename_i ns rest
            split at he
            · rename_i hc
              cases he
              obtain ⟨c1, c2, c3⟩ := hc
              rw [← k2] at c1 c3
              rw [List.length_map] at c1
              have hb : ∀ p ∈ ks, p.2.length = ns.length ∧ TS.Bd 64 p.2 := fun p hp => by
                have := List.all_eq_true.mp c3 p.2 (List.mem_map.mpr ⟨p, hp, rfl⟩)
                simp only [Bool.and_eq_true, decide_eq_true_eq] at this
                refine ⟨this.1, fun m hm => ?_⟩
                have := List.all_eq_true.mp this.2 m hm
                simpa [Bool.and_eq_true] using this
              refine ⟨l, ks, rfl, SqL.of h1, kS, c1, fun a L ha hL hL2 => ?_⟩
              have s1 := sub a (SetTO X.prog X.w a L) ha
              refine ⟨a, L, ns.length, 64, rfl, upd_same, fun p hp => s1.sqT (kS p (hL p hp)), c2, fun p hp => hb p (hL p hp), fun L' q pm nd hl pw hq => ?_⟩
              have rg := rp.grow (o := SetTO X.prog X.w a L) ha (wnone a ha)
              have es : ((ns :: rest).eraseDups.mergeSort codeLe) = L'.map (·.2) := by
                refine srt_code (fun x => ?_) nd ns.length (fun x hx => ?_) ?_
                · rw [← k2]
                  constructor
                  · intro hx
                    obtain ⟨p, hp, rfl⟩ := List.mem_map.mp hx
                    exact List.mem_map.mpr ⟨p, hL p (pm.mem_iff.mp hp), rfl⟩
                  · intro hx
                    obtain ⟨p, hp, rfl⟩ := List.mem_map.mp hx
                    obtain ⟨p', hp', e'⟩ := List.mem_map.mp (hL2 p hp)
                    exact List.mem_map.mpr ⟨p', pm.mem_iff.mpr hp', e'⟩
                · rw [← k2] at hx
                  obtain ⟨p, hp, rfl⟩ := List.mem_map.mp hx
                  exact hb p hp
                · rw [List.pairwise_map]
                  exact pw
              rw [es] at rg
              refine rg.newL (fun b l e => ?_) hq ?_
              · obtain ⟨u, hu⟩ := al b l e
                exact ⟨u, s1 b u hu⟩
              · have hs : Sub (hid H1 w) (hid (upd H1 a (SetTO X.prog X.w a L)) w) := fun b u e => by
                  obtain ⟨g1, g2⟩ := hid_some e
                  exact hid_of (s1 b u g2) g1
                have all : ∀ p ∈ L', SqT Φ.Γ.K (hid (upd H1 a (SetTO X.prog X.w a L)) w) p.1 (p.2.map V.int) := fun p hp => hs.sqT (k3 p (hL p (pm.mem_iff.mp hp)))
                clear pm nd hl pw rg es
                induction L' with
                | nil => exact .nil
                | cons p r ih => exact .cons (.tup (all p List.mem_cons_self) (ints_dvs _)) (ih fun q hq => all q (List.mem_cons_of_mem _ hq))
            · cases he
        · cases he
      · cases he
end
end
section
/-! Soundness 13: methods; targets. -/
open PySem PySem.Spec PyProof.Rows L2

section
variable {Γ : Gx} {N : Nat} {ρ : PB.Env} {σ : L2.St} {H : Hp} {w : Own}
/-- a slot's own thing is changed -/
theorem Rep.mut (rp : Rep Γ N ρ σ H w) {i : Nat} {a : Addr} {o : HO} {k : Nat} {d : D} (hi : i < N) (wa : w a = some i) (hs : σ[i]? = some (some (.ref a))) (sub : ∀ b u, H b = some u → b ≠ a → upd H a o b = some u) (ov : OV Γ (upd H a o) w i k d (.ref a)) :
    Rep Γ N (ρ.set i (some (k, d))) σ (upd H a o) w := by
  refine ⟨by rw [List.length_set]; exact rp.len, rp.lenS, fun j k' d' e => ?_, fun b l e => ?_⟩
  · by_cases hj : i = j
    · subst hj
      rw [List.getElem?_set_self (by rw [rp.len]; exact hi)] at e
      cases e
      exact ⟨_, hs, ov⟩
    · rw [List.getElem?_set_ne hj] at e
      obtain ⟨u, q1, q2⟩ := rp.at_ j k' d' e
      refine ⟨u, q1, q2.step (fun b p hb wb => ⟨sub b p hb fun z => hj (by rw [z, wa] at wb; exact Option.some.inj wb), wb⟩) fun b p e => ?_⟩
      obtain ⟨g1, g2⟩ := hid_some e
      exact hid_of (sub b p g2 fun z => by rw [z, wa] at g1; cases g1) g1
  · by_cases hb : b = a
    · exact ⟨o, by rw [hb]; exact upd_same⟩
    · obtain ⟨u, hu⟩ := rp.al b l e
      exact ⟨u, sub b u hu hb⟩
theorem upd_sub {a : Addr} {o : HO} : ∀ b u, H b = some u → b ≠ a → upd H a o b = some u := fun b u e h => by rw [upd_ne h]; exact e
theorem stz_mut {a : Addr} {o : HO} {i : Nat} (hi : i < N) (wa : w a = some i) : Stz N H w (upd H a o) w :=
  ⟨fun b u e hl => upd_sub b u e fun z => by
    subst z
    have := hl i wa
    omega, fun _ _ _ e => e, fun _ _ e _ => e, fun _ _ e _ => e⟩
theorem hid_mut {a : Addr} {o : HO} {i : Nat} (wa : w a = some i) : Sub (hid H w) (hid (upd H a o) w) := fun b u e => by
  obtain ⟨g1, g2⟩ := hid_some e
  exact hid_of (upd_sub b u g2 fun z => by rw [z, wa] at g1; cases g1) g1
end

section
variable {Φ : Fx} {X : Cx} {σ : L2.St} {H : Hp}
theorem slotD_some {ρ : PB.Env} {i : Nat} {d : D} (h : slotD ρ i = some d) : ∃ k, ρ[i]? = some (some (k, d)) := by
  unfold slotD at h
  split at h
  · cases h
    exact ⟨_, by assumption⟩
  · cases h
theorem mthD_shape {m : Mth} {kd : KD} {ds : List D} {r : KD × KD} (h : mthD m kd ds = .ok r) : ∃ xs, kd = (1, .lst xs) := by
  unfold mthD at h
  split at h
  · exact ⟨_, rfl⟩
  · exact ⟨_, rfl⟩
  · exact ⟨_, rfl⟩
  · exact ⟨_, rfl⟩
  · cases h
/-- operands' values that stand in PR -/
def tP (Φ : Fx) (PR : Hp → Own → List D → List V → Prop) (es : CEs) : TA := fun σ H Q => ∃ ρ w t, Rep Φ.Γ Φ.N ρ σ H w ∧ Φ.N < t ∧ Lv w t ∧ Wp (denOps Φ.F true es ρ) (Ex Φ H w) fun p =>
  ∀ vs H' w', Rep Φ.Γ Φ.N p.2 σ H' w' → Stz Φ.N H w H' w' → PR H' w' (dsds p.1) vs → Q vs H'
def prO (Γ : Gx) : Hp → Own → List D → List V → Prop := fun H w ds vs => Paired (O1 Γ H (hid H w)) ds vs ∧ Paired (DV Γ H) ds vs
def prS (Γ : Gx) : Hp → Own → List D → List V → Prop := fun H w ds vs => DVs Γ (hid H w) ds vs
theorem tP_os {es : CEs} {K : List V → Hp → Prop} (h : tP Φ (prO Φ.Γ) es σ H K) : tOs Φ true es σ H K := by
  obtain ⟨ρ, w, t, rp, hN, lv, hw⟩ := h
  exact ⟨ρ, w, t, rp, hN, lv, hw.mono (fun _ _ e => e) fun p _ hp vs H' w' r' s' oo dd => hp vs H' w' r' s' ⟨oo rfl, dd⟩⟩
/-- a method that changes a slot's list -/
theorem mth_of {PR : Hp → Own → List D → List V → Prop} {m : Mth} {i : Nat} {es : CEs} {r : V → List V → Hp → VK → Prop} {Q : VK} (hm : m = .append ∨ m = .extend ∨ m = .pop ∨ m = .popAt)
    (hr : ∀ (w : Own) (t : Nat) (H : Hp) (ρ : PB.Env) (a : Addr) (xs : List D) (us : List V) (ds : List D) (vs : List V) (kd kd' : KD) (Q : VK), Rep Φ.Γ Φ.N ρ σ H w → w a = some i → i < Φ.N → H a = some (.lst us) → DVs Φ.Γ (hid H w) xs us → PR H w ds vs → mthD m (1, .lst xs) ds = .ok (kd, kd') →
      (∀ v us', kd'.1 = 1 → (∃ xs', kd'.2 = .lst xs' ∧ DVs Φ.Γ (hid H w) xs' us') → DV Φ.Γ (hid H w) kd.2 v → kd.1 = 0 → Q v (upd H a (.lst us'))) → r (.ref a) vs H Q)
    (h : tE Φ (.mth m i es) σ H Q) : tBM X.K "list" r (tVar i) (tP Φ PR es) σ H Q := by
  obtain ⟨ρ, w, t, rp, hN, lv, hw⟩ := h
  have hw : Wp (if mthOk m (slotD ρ i) = true then (denOps Φ.F true es ρ).bind fun p => match p.2[i]? with
    | some (some kd) => (mthD m kd (dsds p.1)).bind fun r => .ok (r.1, p.2.set i (some r.2))
    | _ => .bad
    else .bad : Res (KD × PB.Env)) (Ex Φ H w) fun p => ∀ v H' w', Rep Φ.Γ Φ.N p.2 σ H' w' → Stp Φ.N t H w H' w' → OV Φ.Γ H' w' t p.1.1 p.1.2 v → Q v H' := hw
  split at hw
  · rename_i hc
    have : ∃ k xs, ρ[i]? = some (some (k, .lst xs)) := by
      cases e : slotD ρ i with
      | none => rw [e] at hc; rcases hm with rfl | rfl | rfl | rfl <;> cases hc
      | some d =>
        rw [e] at hc
        obtain ⟨k, e'⟩ := slotD_some e
        cases d with
        | lst xs => exact ⟨k, xs, e'⟩
        | _ => rcases hm with rfl | rfl | rfl | rfl <;> cases hc
    obtain ⟨k, xs, e⟩ := this
    obtain ⟨v, h1, h2⟩ := rp.at_ i k _ e
    have hi := slot_lt rp e
    obtain ⟨a, us, rfl, h3, h4⟩ := h2.dv.lst'
    refine ⟨.ref a, h1, .inl ⟨rfl, us, SqL.of h3⟩, ρ, w, t, rp, hN, lv, hw.bind.mono (fun _ _ e => e) fun p _ hp vs H' w' r' s' oo => ?_⟩
    split at hp
    · rename_i kd e2
      obtain ⟨⟨rk, rk'⟩, em, hp⟩ := calm_ok (by
        rcases hm with rfl | rfl | rfl | rfl <;> (unfold mthD; split <;> first | exact True.intro | (repeat' split) <;> exact True.intro)) hp.bind
      obtain ⟨k2, d2⟩ := kd
      obtain ⟨xs2, esh⟩ := mthD_shape em
      cases esh
      obtain ⟨v2, g1, g2⟩ := r'.at_ i 1 _ e2
      rw [h1] at g1
      cases g1
      obtain ⟨a2, us2, ea, wa, ha, pp, _⟩ := g2
      cases ea
      refine hr w' t H' p.2 a xs2 us2 (dsds p.1) vs rk rk' Q r' wa hi ha (paired_dvs pp) oo em fun v us' ek ⟨xs', ex, dx⟩ dv e0 => ?_
      obtain ⟨rk1, rk2⟩ := rk'
      simp only at ek ex
      subst ek ex
      have dm := DVs.mono (hid_mut (o := HO.lst us') wa) dx
      refine hp v _ w' (r'.mut hi wa h1 upd_sub ⟨a, us', rfl, wa, upd_same, dvs_paired dm, .inl rfl⟩) (s'.trans (stz_mut hi wa)).stp ?_
      rw [e0]
      exact DV.mono (hid_mut wa) dv
    · exact False.elim hp
  · exact False.elim hw
theorem e_append {i : Nat} {x : Str} {e : PySem.Expr} {ce : CE} {p apos cpos : Pos} (hN : X.N[i]? = some x) (hv : Vis X.env.scope x) (ha : PE X e (tE Φ ce)) (hc : npk ce = true := by rfl) (hd : (x == ("__debug__" : Str)) = false := by decide) (hcd : (x == ("__classdict__" : Str)) = false := by decide)
    (hbase : attributeBase (.Name x p) "append" X.env (eval (.Name x p) X.env) = eval (.Name x p) X.env := by rfl)
    (hline : (apos.endLine == cpos.line) = true := by rfl) (hs : starEach [e] X.env = (false, eval e X.env) :: starEach [] X.env := by rfl)
    (hfew : ((backTo cpos (starEach [e] X.env)).all (fun x => !x.1) && (backToKw cpos (keywordEach [] X.env)).all (fun x => x.1.isSome)
      && decide (([e] : List PySem.Expr).length + ([] : List Keyword).length + (if ([] : List Keyword).isEmpty then 0 else 1) < 30)) = true := by rfl) :
    PE X (.Call (.Attribute (.Name x p) "append" apos) [e] [] cpos) (tE Φ (.mth .append i (.cons ce .nil))) :=
  peI (pe_bm PySem.F.plainAttrs_list PySem.F.slot_list_append PySem.F.type_list_append L2.mt_append (pe_var hN hv hd hcd) (pa_sh ha pa_sh0 hc hs) hbase hfew hline hs rfl) fun σ H Q h =>
    mth_of (PR := prS Φ.Γ) (.inl rfl) (fun w t H ρ a xs us ds vs kd kd' Q rp wa hi ha dx oo em q => by
      match ds, em, oo with
      | [], em, _ => cases em
      | _ :: _ :: _, em, _ => cases em
      | [y], em, oo =>
        have em : (if xs.length < sizeL then Res.ok (((0, .non), (1, .lst (xs ++ [y]))) : KD × KD) else .bad) = .ok (kd, kd') := em
        split at em
        · rename_i hl
          cases em
          obtain ⟨v, rfl, hy⟩ : ∃ v, vs = [v] ∧ DV Φ.Γ (hid H w) y v := by
            cases oo with
            | cons h t =>
              cases t
              exact ⟨_, rfl, h⟩
          exact ⟨a, us, v, rfl, rfl, ha, by rw [← dx.length, ← sz]; exact hl, q .non (us ++ [v]) rfl ⟨_, rfl, dx.append (.cons hy .nil)⟩ .non rfl⟩
        · cases em) h
theorem e_extend {i : Nat} {x : Str} {e : PySem.Expr} {ce : CE} {p apos cpos : Pos} (hN : X.N[i]? = some x) (hv : Vis X.env.scope x) (ha : PE X e (tO Φ ce)) (hd : (x == ("__debug__" : Str)) = false := by decide) (hcd : (x == ("__classdict__" : Str)) = false := by decide)
    (hbase : attributeBase (.Name x p) "extend" X.env (eval (.Name x p) X.env) = eval (.Name x p) X.env := by rfl)
    (hline : (apos.endLine == cpos.line) = true := by rfl) (hs : starEach [e] X.env = (false, eval e X.env) :: starEach [] X.env := by rfl)
    (hfew : ((backTo cpos (starEach [e] X.env)).all (fun x => !x.1) && (backToKw cpos (keywordEach [] X.env)).all (fun x => x.1.isSome)
      && decide (([e] : List PySem.Expr).length + ([] : List Keyword).length + (if ([] : List Keyword).isEmpty then 0 else 1) < 30)) = true := by rfl) :
    PE X (.Call (.Attribute (.Name x p) "extend" apos) [e] [] cpos) (tE Φ (.mth .extend i (.cons ce .nil))) :=
  peI (pe_bm PySem.F.plainAttrs_list PySem.F.slot_list_extend PySem.F.type_list_extend L2.mt_extend (pe_var hN hv hd hcd) (pa_os ha pa_os0 hs) hbase hfew hline hs rfl) fun σ H Q h => by
    have h := mth_of (X := X) (r := rExtend) (PR := prO Φ.Γ) (.inr (.inl rfl)) (fun w t H ρ a xs us ds vs kd kd' Q rp wa hi ha dx oo em q => by
      match ds, em, oo with
      | [], em, _ => cases em
      | _ :: _ :: _, em, _ => exact absurd em (by simp [mthD])
      | [y], em, oo =>
        cases y with
        | lst ys =>
          have em : (if xs.length + ys.length ≤ sizeL then Res.ok (((0, .non), (1, .lst (xs ++ ys))) : KD × KD) else .bad) = .ok (kd, kd') := em
          split at em
          · rename_i hl
            cases em
            obtain ⟨v, rfl, hy⟩ : ∃ v, vs = [v] ∧ O1 Φ.Γ H (hid H w) (.lst ys) v := by
              cases oo.1 with
              | cons h t =>
                cases t
                exact ⟨_, rfl, h⟩
            obtain ⟨b, zs, rfl, hb, dz⟩ := hy.lst'
            exact ⟨a, b, us, zs, rfl, rfl, ha, hb, by rw [← dx.length, ← dz.length, ← sz]; exact hl, q .non (us ++ zs) rfl ⟨_, rfl, dx.append dz⟩ .non rfl⟩
          · cases em
        | _ => cases em) h
    obtain ⟨v, e1, ty, h⟩ := h
    exact ⟨v, e1, ty, tP_os h⟩
end
end
section
/-! Soundness 14: methods that ask; targets; small statements. -/
open PySem PySem.Spec PyProof.Rows L2

section
variable {Φ : Fx} {X : Cx} {σ : L2.St} {H : Hp}
/-- an asking method's: the receiver, shared arguments -/
def rAsk (Γ : Gx) (o : Op) (x : V) (vs : List V) (H : Hp) (Q : VK) : Prop := ∃ d ds w t kd, O1 Γ H (hid H w) d x ∧ DVs Γ (hid H w) ds vs ∧ opD o (d :: ds) = .ok kd ∧ (∀ a, w a ≠ some t) ∧ (∀ a l, w a = some l → ∃ o, H a = some o) ∧ RP Γ t H w kd Q
theorem ask_of {o : Op} {i : Nat} {es : CEs} {Q : VK} {pins : List (Addr × Obj)} {s : Shared} (I : L2.Inv X pins σ H s) (ho : o = .get1 ∨ o = .get2) (h : tE Φ (.ask o i es) σ H Q) :
    tBM X.K "dict" (rAsk Φ.Γ o) (tVar i) (tSh Φ es) σ H Q := by
  obtain ⟨ρ, w, t, rp, hN, lv, hw⟩ := h
  have hw : Wp (if askOk o (slotD ρ i) = true then (denOps Φ.F true es ρ).bind fun p => match p.2[i]? with
    | some (some (k, d)) => if k ≤ 2 then (opD o (d :: dsds p.1)).bind fun kd => .ok (kd, p.2.set i (some (min k 1, d))) else .bad
    | _ => .bad
    else .bad : Res (KD × PB.Env)) (Ex Φ H w) fun p => ∀ v H' w', Rep Φ.Γ Φ.N p.2 σ H' w' → Stp Φ.N t H w H' w' → OV Φ.Γ H' w' t p.1.1 p.1.2 v → Q v H' := hw
  split at hw
  · rename_i hc
    have : ∃ k kvs, ρ[i]? = some (some (k, .dct kvs)) ∧ (kvs.all fun p => p.1.flat) = true := by
      cases e : slotD ρ i with
      | none => rw [e] at hc; rcases ho with rfl | rfl <;> cases hc
      | some d =>
        rw [e] at hc
        obtain ⟨k, e'⟩ := slotD_some e
        cases d with
        | dct kvs => exact ⟨k, kvs, e', by rcases ho with rfl | rfl <;> exact hc⟩
        | _ => rcases ho with rfl | rfl <;> cases hc
    obtain ⟨k, kvs, e, hf⟩ := this
    obtain ⟨v, h1, h2⟩ := rp.at_ i k _ e
    obtain ⟨a, es', rfl, h3, h4⟩ := dct_flat I h2.dv hf
    refine ⟨.ref a, h1, .inr (.inr (.inl ⟨rfl, .inl ⟨es', h3⟩⟩)), ρ, w, t, rp, hN, lv, hw.bind.mono (fun _ _ e => e) fun p _ hp vs H' w' r' s' dd => ?_⟩
    split at hp
    · rename_i k2 d2 e2
      split at hp
      · rename_i hk
        obtain ⟨w2, v2, g1, g2, g3, g4⟩ := r'.cap e2 hk
        rw [h1] at g1
        cases g1
        obtain ⟨kd, eo, hp⟩ := calm_ok (opD_calm _ _) hp.bind
        have sz := s'.trans g4
        exact ⟨d2, dsds p.1, w2, t, kd, g3, DVs.mono g4.hid dd, eo, (sz.lv hN lv).ne, g2.al, rp_of lv hN g2 sz hp⟩
      · exact False.elim hp
    · exact False.elim hp
  · exact False.elim hw
theorem get_val {pins : List (Addr × Obj)} {s : Shared} (I : L2.Inv X pins σ H s) {w : Own} {kvs : List (D × D)} {x : V} {y : D} {vy : V} (o : O1 Φ.Γ H (hid H w) (.dct kvs) x) (hy : DV Φ.Γ (hid H w) y vy) (hk : kOk kvs y = true) :
    ∃ a k es, x = .ref a ∧ vy = kV k ∧ DGet H a vy (valV es k) ∧ (match kget kvs y, valV es k with | some d, some v => DV Φ.Γ (hid H w) d v | none, none => True | _, _ => False) := by
  obtain ⟨f1, f2⟩ := kOk_of hk
  obtain ⟨k, rfl⟩ := flat_key f1
  have ex := flat_kV hy
  subst ex
  obtain ⟨a, es, rfl, h1, d1⟩ := o1_flat I o f2
  exact ⟨a, k, es, rfl, rfl, DGet.k h1, kget_val k d1⟩
theorem mt_get2 (xo : XOk Φ.Γ X) : MtR X "dict.get" (rAsk Φ.Γ .get2) := by
  intro pins s σ H x xs v us Q I rx rs ⟨d, ds, w, t, kd, o1, dd, he0, ht, al, rp⟩
  have he : op_get2 (d :: ds) = .ok kd := he0
  clear he0
  unfold op_get2 at he
  split at he
  · rename_i kvs y z e
    cases e
    split at he
    · rename_i hk
      cases he
      obtain ⟨vy, vz, rfl, hy, hz⟩ : ∃ vy vz, xs = [vy, vz] ∧ DV Φ.Γ (hid H w) y vy ∧ DV Φ.Γ (hid H w) z vz := by
        cases dd with
        | cons h t =>
          cases t with
          | cons h2 t =>
            cases t
            exact ⟨_, _, rfl, h, h2⟩
      obtain ⟨a, k, es, rfl, rfl, g, hv⟩ := get_val I o1 hy hk
      cases rx
      cases rs with
      | cons r1 rs =>
        cases rs with
        | cons r2 rs =>
          cases rs
          have hu := xo.un
          refine L2.d_get2 (by omega) I g r1 r2 fun w' s' I' rw' => ⟨(valV es k).getD vz, H, I', rw', rp.sh al (.inl rfl) ?_⟩
          revert hv
          cases kget kvs y <;> cases valV es k <;> intro hv
          · exact hz
          · exact hv.elim
          · exact hv.elim
          · exact hv
    · cases he
  · cases he
theorem mt_get1 (xo : XOk Φ.Γ X) : MtR X "dict.get" (rAsk Φ.Γ .get1) := by
  intro pins s σ H x xs v us Q I rx rs ⟨d, ds, w, t, kd, o1, dd, he0, ht, al, rp⟩
  have he : op_get1 (d :: ds) = .ok kd := he0
  clear he0
  unfold op_get1 at he
  split at he
  · rename_i kvs y e
    cases e
    split at he
    · rename_i hk
      cases he
      obtain ⟨vy, rfl, hy⟩ : ∃ vy, xs = [vy] ∧ DV Φ.Γ (hid H w) y vy := by
        cases dd with
        | cons h t =>
          cases t
          exact ⟨_, rfl, h⟩
      obtain ⟨a, k, es, rfl, rfl, g, hv⟩ := get_val I o1 hy hk
      cases rx
      cases rs with
      | cons r1 rs =>
        cases rs
        have hu := xo.un
        refine L2.d_get1 (by omega) I g r1 fun w' s' I' rw' => ⟨(valV es k).getD .non, H, I', rw', rp.sh al (.inl rfl) ?_⟩
        revert hv
        cases kget kvs y <;> cases valV es k <;> intro hv
        · exact .non
        · exact hv.elim
        · exact hv.elim
        · exact hv
    · cases he
  · cases he
theorem e_get2 {i : Nat} {x : Str} {e f : PySem.Expr} {ce cf : CE} {p apos cpos : Pos} (xo : XOk Φ.Γ X) (hN : X.N[i]? = some x) (hv : Vis X.env.scope x) (ha : PE X e (tE Φ ce)) (hb : PE X f (tE Φ cf)) (hc : npk ce = true := by rfl) (hc2 : npk cf = true := by rfl) (hd : (x == ("__debug__" : Str)) = false := by decide) (hcd : (x == ("__classdict__" : Str)) = false := by decide)
    (hbase : attributeBase (.Name x p) "get" X.env (eval (.Name x p) X.env) = eval (.Name x p) X.env := by rfl)
    (hline : (apos.endLine == cpos.line) = true := by rfl) (hs : starEach [e, f] X.env = (false, eval e X.env) :: starEach [f] X.env := by rfl) (hs2 : starEach [f] X.env = (false, eval f X.env) :: starEach [] X.env := by rfl)
    (hfew : ((backTo cpos (starEach [e, f] X.env)).all (fun x => !x.1) && (backToKw cpos (keywordEach [] X.env)).all (fun x => x.1.isSome)
      && decide (([e, f] : List PySem.Expr).length + ([] : List Keyword).length + (if ([] : List Keyword).isEmpty then 0 else 1) < 30)) = true := by rfl) (hpl : (backTo cpos (starEach [f] X.env)).any (·.1) = false := by rfl) :
    PE X (.Call (.Attribute (.Name x p) "get" apos) [e, f] [] cpos) (tE Φ (.ask .get2 i (.cons ce (.cons cf .nil)))) :=
  ⟨fun pins s σ H Q I h => (pe_bm PySem.F.plainAttrs_dict PySem.F.slot_dict_get PySem.F.type_dict_get (mt_get2 xo) (pe_var hN hv hd hcd) (pa_sh ha (pa_sh hb pa_sh0 hc2 hs2) hc hs) hbase hfew hline hs hpl).run pins s σ H Q I (ask_of I (.inr rfl) h)⟩
theorem e_get1 {i : Nat} {x : Str} {e : PySem.Expr} {ce : CE} {p apos cpos : Pos} (xo : XOk Φ.Γ X) (hN : X.N[i]? = some x) (hv : Vis X.env.scope x) (ha : PE X e (tE Φ ce)) (hc : npk ce = true := by rfl) (hd : (x == ("__debug__" : Str)) = false := by decide) (hcd : (x == ("__classdict__" : Str)) = false := by decide)
    (hbase : attributeBase (.Name x p) "get" X.env (eval (.Name x p) X.env) = eval (.Name x p) X.env := by rfl)
    (hline : (apos.endLine == cpos.line) = true := by rfl) (hs : starEach [e] X.env = (false, eval e X.env) :: starEach [] X.env := by rfl)
    (hfew : ((backTo cpos (starEach [e] X.env)).all (fun x => !x.1) && (backToKw cpos (keywordEach [] X.env)).all (fun x => x.1.isSome)
      && decide (([e] : List PySem.Expr).length + ([] : List Keyword).length + (if ([] : List Keyword).isEmpty then 0 else 1) < 30)) = true := by rfl) :
    PE X (.Call (.Attribute (.Name x p) "get" apos) [e] [] cpos) (tE Φ (.ask .get1 i (.cons ce .nil))) :=
  ⟨fun pins s σ H Q I h => (pe_bm PySem.F.plainAttrs_dict PySem.F.slot_dict_get PySem.F.type_dict_get (mt_get1 xo) (pe_var hN hv hd hcd) (pa_sh ha pa_sh0 hc hs) hbase hfew hline hs rfl).run pins s σ H Q I (ask_of I (.inl rfl) h)⟩
end
end
section
/-! Soundness 15: targets; small statements. -/
open PySem PySem.Spec PyProof.Rows L2

/-- only the slots in z are stored -/
def Off (z : List Nat) (σ σ' : L2.St) : Prop := ∀ j, j ∉ z → σ'[j]? = σ[j]?
theorem Off.refl {z : List Nat} {σ : L2.St} : Off z σ σ := fun _ _ => rfl
theorem Off.trans {z : List Nat} {σ σ1 σ2 : L2.St} (a : Off z σ σ1) (b : Off z σ1 σ2) : Off z σ σ2 := fun j h => (b j h).trans (a j h)
theorem Off.set {z : List Nat} {σ : L2.St} {i : Nat} {v : Option V} (h : i ∈ z) : Off z σ (σ.set i v) := fun j hj => List.getElem?_set_ne fun e => hj (by rw [← e]; exact h)
theorem Off.mono {z z' : List Nat} {σ σ' : L2.St} (h : Off z σ σ') (s : ∀ i ∈ z, i ∈ z') : Off z' σ σ' := fun j hj => h j fun q => hj (s j q)
/-- a step that takes the temporary t -/
structure Sta (N t : Nat) (H : Hp) (w : Own) (H' : Hp) (w' : Own) : Prop where
  keep : ∀ a o, H a = some o → (∀ l, w a = some l → N ≤ l ∧ l ≠ t) → H' a = some o
  free : ∀ a o, H a = some o → w a = none → w' a = none
  tmp : ∀ a l, w a = some l → N ≤ l → l ≠ t → w' a = some l
  lab : ∀ a l, w' a = some l → N ≤ l → w a = some l ∧ l ≠ t
section
variable {N t : Nat} {H H' H1 : Hp} {w w' w1 : Own}
theorem Sta.kp (s : Sta N t H w H' w') (ht : N < t) : Kp N H w H' w' := ⟨fun a o h e => ⟨s.keep a o h (fun l z => by rw [e] at z; cases z), s.free a o h e⟩, fun a o h e => ⟨s.keep a o h (fun l z => by rw [e] at z; cases z; exact ⟨Nat.le_refl _, Nat.ne_of_lt ht⟩), s.tmp a N e (Nat.le_refl _) (Nat.ne_of_lt ht)⟩, fun a e => (s.lab a N e (Nat.le_refl _)).1⟩
theorem Sta.stz (s : Sta N t H w H' w') (lv : Lv w t) : Stz N H w H' w' :=
  ⟨fun a o h hl => s.keep a o h fun l e => ⟨hl l e, fun q => by have := lv a l e; omega⟩, s.free, fun a l e hl => s.tmp a l e hl fun q => by have := lv a l e; omega, fun a l e hl => (s.lab a l e hl).1⟩
theorem Sta.lv (s : Sta N t H w H' w') (hN : N < t) (lv : Lv w (t + 1)) : Lv w' t := fun a l e => by
  by_cases hl : N ≤ l
  · obtain ⟨q1, q2⟩ := s.lab a l e hl
    have := lv a l q1
    omega
  · omega
theorem Stz.sta (s : Stz N H (drop w t) H' w') : Sta N t H w H' w' where
  keep := fun a o h hl => s.keep a o h fun l e => (hl l (drop_some e).1).1
  free := fun a o h e => s.free a o h (drop_none e)
  tmp := fun a l e hl ne => s.tmp a l (drop_ne e ne) hl
  lab := fun a l e hl => drop_some (s.lab a l e hl)
end

section
variable {Φ : Fx} {X : Cx} {σ : L2.St} {H : Hp} {z : List Nat}
/-- a target's -/
def tG (Φ : Fx) (z : List Nat) (tg : Tg) : TG := fun v σ H K => ∃ ρ w t t' kd, Rep Φ.Γ Φ.N ρ σ H w ∧ Φ.N < t ∧ t < t' ∧ Lv w t' ∧ OV Φ.Γ H w t kd.1 kd.2 v ∧ Wp (asgT Φ.F tg kd ρ) (Ex Φ H w) fun ρ' =>
  ∀ σ' H' w', Rep Φ.Γ Φ.N ρ' σ' H' w' → Sta Φ.N t H w H' w' → Off z σ σ' → K σ' H'
def tGs (Φ : Fx) (z : List Nat) (ts : Tgs) : TGs := fun vs σ H K => ∃ ρ w t ds, Rep Φ.Γ Φ.N ρ σ H w ∧ Φ.N < t ∧ Lv w t ∧ DVs Φ.Γ (hid H w) ds vs ∧ Wp (asgTs Φ.F ts ds ρ) (Ex Φ H w) fun ρ' =>
  ∀ σ' H' w', Rep Φ.Γ Φ.N ρ' σ' H' w' → Stz Φ.N H w H' w' → Off z σ σ' → K σ' H'
theorem pgI {e : PySem.Expr} {t t' : TG} (h : PG X e t') (i : ∀ v σ H Q, t v σ H Q → t' v σ H Q) : PG X e t := ⟨fun pins s σ H v u Q I r q => h.run pins s σ H v u Q I r (i v σ H Q q)⟩
theorem pgsI {e : List PySem.Expr} {t t' : TGs} (h : PGs X e t') (i : ∀ v σ H Q, t v σ H Q → t' v σ H Q) : PGs X e t := ⟨fun pins s σ H v u Q I r q => h.run pins s σ H v u Q I r (i v σ H Q q)⟩
/-- a temporary is a slot's -/
theorem Rep.take {Γ : Gx} {N : Nat} {ρ : PB.Env} {w : Own} {t i k : Nat} {d : D} {v : V} (rp : Rep Γ N ρ σ H w) (hi : i < N) (hN : N < t) (ov : OV Γ H w t k d v) : Rep Γ N (ρ.set i (some (k, d))) (σ.set i (some v)) H (relab (PB.drop w i) t i) ∧ Sta N t H w H (relab (PB.drop w i) t i) := by
  have n1 : ∀ a, w a = none → relab (PB.drop w i) t i a = none := fun a e => by
    unfold relab
    rw [drop_none e, if_neg (fun z => by cases z)]
  have n2 : ∀ a l, w a = some l → l ≠ i → l ≠ t → relab (PB.drop w i) t i a = some l := fun a l e h1 h2 => by
    unfold relab
    rw [drop_ne e h1, if_neg (fun z => h2 (Option.some.inj z))]
  have n3 : ∀ a l, relab (PB.drop w i) t i a = some l → (l = i ∧ w a = some t) ∨ (w a = some l ∧ l ≠ i ∧ l ≠ t) := fun a l e => by
    unfold relab at e
    split at e
    · rename_i q
      cases e
      exact .inl ⟨rfl, (drop_some q).1⟩
    · rename_i q
      obtain ⟨q1, q2⟩ := drop_some e
      exact .inr ⟨q1, q2, fun z => q (by rw [e, z])⟩
  have hid1 : Sub (hid H w) (hid H (relab (PB.drop w i) t i)) := fun a o e => by
    obtain ⟨g1, g2⟩ := hid_some e
    exact hid_of g2 (n1 a g1)
  refine ⟨⟨by rw [List.length_set]; exact rp.len, by rw [List.length_set]; exact rp.lenS, fun j k' d' e => ?_, fun a l e => ?_⟩, ⟨fun a o h _ => h, fun a o h e => n1 a e, fun a l e hl ne => n2 a l e (by omega) ne, fun a l e hl => ?_⟩⟩
  · by_cases hj : i = j
    · subst hj
      rw [List.getElem?_set_self (by rw [rp.len]; exact hi)] at e
      cases e
      refine ⟨v, List.getElem?_set_self (by rw [rp.lenS]; exact hi), ?_⟩
      have o1 : OV Γ H (PB.drop w i) t k d v := ov.step (fun a o ha wa => ⟨ha, drop_ne wa (by omega)⟩) hid_drop
      exact o1.relab
    · rw [List.getElem?_set_ne hj] at e
      obtain ⟨u, q1, q2⟩ := rp.at_ j k' d' e
      have hjN := slot_lt rp e
      exact ⟨u, by rw [List.getElem?_set_ne hj]; exact q1, q2.step (fun a o ha wa => ⟨ha, n2 a j wa (Ne.symm hj) (by omega)⟩) hid1⟩
  · rcases n3 a l e with ⟨_, q⟩ | ⟨q, _⟩
    · exact rp.al a t q
    · exact rp.al a l q
  · rcases n3 a l e with ⟨q, _⟩ | ⟨q, _, ne⟩
    · omega
    · exact ⟨q, ne⟩
theorem g_nm {i : Nat} {x : Str} {pos : Pos} (hN : X.N.Nodup) (hi : X.N[i]? = some x) (hx : Loc X.env.scope x) (hl : i < Φ.N) (hz : i ∈ z) (hf : X.fn x = true ∨ X.env.scope.names.lookup x = some .local := by first | exact .inl rfl | exact .inr rfl | assumption) : PG X (.Name x pos) (tG Φ z (.nm i)) :=
  pgI (pg_name hN hi hx hf) fun v σ H Q h => by
    obtain ⟨ρ, w, t, t', kd, rp, hN, ht, lv, ov, hw⟩ := h
    have hw : Wp (Res.ok (ρ.set i (some kd))) (Ex Φ H w) _ := hw
    obtain ⟨h1, h2⟩ := rp.take (k := kd.1) (d := kd.2) hl hN ov
    exact hw _ _ _ h1 h2 (Off.set hz)
theorem gs_nil : PGs X [] (tGs Φ z .nil) :=
  pgsI pgs_nil fun vs σ H Q h => by
    obtain ⟨ρ, w, t, ds, rp, hN, lv, dd, hw⟩ := h
    cases dd with
    | nil => exact ⟨rfl, hw σ H w rp .refl .refl⟩
    | cons a b => exact False.elim hw
theorem gs_cons {e : PySem.Expr} {es : List PySem.Expr} {t : Tg} {r : Tgs} (h1 : PG X e (tG Φ z t)) (h2 : PGs X es (tGs Φ z r)) (hs : (assignEach (e :: es) X.env).map (·.2) = assign e X.env :: (assignEach es X.env).map (·.2) := by rfl) : PGs X (e :: es) (tGs Φ z (.cons t r)) :=
  pgsI (pgs_cons h1 h2 hs) fun vs σ H Q h => by
    obtain ⟨ρ, w, l, ds, rp, hN, lv, dd, hw⟩ := h
    cases dd with
    | nil => exact False.elim hw
    | @cons d ds v vs a b =>
      have hw : Wp ((asgT Φ.F t (0, d) ρ).bind fun ρ' => asgTs Φ.F r ds ρ') (Ex Φ H w) _ := hw
      refine ⟨v, vs, rfl, ρ, w, l, l + 1, (0, d), rp, hN, Nat.lt_succ_self _, lv.mono (Nat.le_succ _), a, hw.bind.mono (fun _ _ e => e) fun ρ1 _ hp σ1 H1 w1 r1 s1 o1 => ?_⟩
      have z1 := s1.stz lv
      exact ⟨ρ1, w1, l, ds, r1, hN, z1.lv hN lv, DVs.mono z1.hid b, hp.mono (fun _ _ e => e.step z1.kp) fun ρ2 _ hq σ2 H2 w2 r2 s2 o2 => hq σ2 H2 w2 r2 (z1.trans s2) (o1.trans o2)⟩
theorem g_tp {es : List PySem.Expr} {k : Nat} {ts : Tgs} {pos : Pos} (xo : XOk Φ.Γ X) (h : PGs X es (tGs Φ z ts)) (hn : (assignEach es X.env).length = lenT ts := by rfl) (hst : (assignEach es X.env).findIdx? (·.1) = none := by rfl) : PG X (.Tuple es k pos) (tG Φ z (.tp ts)) :=
  pgI (pg_tup xo.calm h hn hst) fun v σ H Q h => by
    obtain ⟨ρ, w, t, t', ⟨k, d⟩, rp, hN, ht, lv, ov, hw⟩ := h
    cases d with
    | tup xs =>
      have hw : Wp (if xs.length = lenT ts then asgTs Φ.F ts xs ρ else .bad) (Ex Φ H w) _ := hw
      split at hw
      · rename_i hl
        have dv : DV Φ.Γ (hid H w) (.tup xs) v := OV.dv_of rfl ov
        obtain ⟨a, vs, rfl, h1, d1⟩ := dv.tup'
        refine ⟨a, vs, rfl, by rw [xo.K]; exact hid_sub.sqT h1, by rw [← d1.length]; exact hl, ρ, drop w t, t', xs, rp.drop hN, by omega, (fun a l e => lv a l (drop_some e).1), DVs.mono hid_drop d1, ?_⟩
        refine hw.mono (fun _ _ e => e.step ⟨fun a o h e => ⟨h, drop_none e⟩, fun a o h e => ⟨h, drop_ne e (Nat.ne_of_lt hN)⟩, fun a e => (drop_some e).1⟩) fun ρ1 _ hp σ1 H1 w1 r1 s1 o1 => hp σ1 H1 w1 r1 s1.sta o1
      · exact False.elim hw
    | _ => exact False.elim hw
theorem fromK {Γ : Gx} {H : Hp} : ∀ {kvs : List (D × D)} {es : List (L2.Key × V)}, DVk Γ H kvs es → Paired (fun (p : D × D) (q : L2.Key × V) => p.1 = kD q.1 ∧ DV Γ H p.2 q.2) kvs es
  | _, _, .nil => .nil
  | _, _, .cons a b => .cons ⟨rfl, a⟩ (fromK b)
/-- x[i] = .., a slot's own list or dict -/
def rSet (Γ : Gx) : TSet := fun o i v H K => ∃ w a sl kd di dv kd', o = .ref a ∧ w a = some sl ∧ OV Γ H w sl kd.1 kd.2 o ∧ DV Γ (hid H w) di i ∧ DV Γ (hid H w) dv v ∧ putI kd di (0, dv) = .ok kd' ∧ ∀ ob, OV Γ (upd H a ob) w sl kd'.1 kd'.2 o → K (upd H a ob)
theorem putK_hit {p : L2.Key × V} {r : List (L2.Key × V)} {v : V} (h : ∀ q ∈ r, q.1 ≠ p.1) : putK (p :: r) p.1 v = (p.1, v) :: r := by
  unfold putK
  have e : ((p :: r).any fun kv => decide (kv.1 = p.1)) = true := by simp
  rw [if_pos e, List.map_cons, if_pos rfl]
  congr 1
  have : ∀ q ∈ r, (if q.1 = p.1 then (q.1, v) else q) = q := fun q hq => if_neg (h q hq)
  rw [List.map_congr_left this]
  simp
theorem putK_miss {p : L2.Key × V} {r : List (L2.Key × V)} {k : L2.Key} {v : V} (h : p.1 ≠ k) : putK (p :: r) k v = p :: putK r k v := by
  unfold putK
  have e : ((p :: r).any fun kv => decide (kv.1 = k)) = r.any fun kv => decide (kv.1 = k) := by simp [h]
  rw [e]
  split
  · rw [List.map_cons, if_neg h]
  · rfl
theorem kput_put {Γ : Gx} {Hs : Hp} {k : L2.Key} {d : D} {v : V} (hv : DV Γ Hs d v) : ∀ {kvs : List (D × D)} {es : List (L2.Key × V)}, DVk Γ Hs kvs es → (es.map (·.1)).Nodup → DVk Γ Hs (kput kvs (kD k) d) (putK es k v)
  | _, _, .nil, _ => .cons hv .nil
  | _, _, .cons (k := k') (d := d') (kvs := kvs) (v := v') (es := es) a b, nd => by
    have nd' := List.nodup_cons.mp nd
    unfold kput
    by_cases h : k' = k
    · subst h
      rw [if_pos rfl, putK_hit (p := (k', v')) fun q hq e => nd'.1 (List.mem_map.mpr ⟨q, hq, e⟩)]
      exact .cons hv b
    · have hk : ¬ kD k' = kD k := fun e => h (by
        cases k' <;> cases k <;> simp [kD] at e <;> simp [e])
      rw [if_neg hk, putK_miss (p := (k', v')) h]
      exact .cons a (kput_put hv b nd'.2)
theorem pset_sub (xo : XOk Φ.Γ X) : PSet X (rSet Φ.Γ) := by
  intro pins s σ H o i v ov iv u Q I ro ri rv hr
  obtain ⟨w, a, sl, ⟨k, d⟩, di, dv, kd', rfl, wa, hov, hi, hv, he, q⟩ := hr
  unfold putI at he
  split at he
  · rename_i _ _ _ xs j ky y e1 e3
    cases e1
    cases e3
    split at he
    · rename_i j' ej
      cases he
      obtain ⟨a', vs, ea, _, ha, p, _⟩ := hov
      cases ea
      have p := paired_dvs p
      cases hi
      refine L2.set_list pins s σ H _ _ v ov iv u Q I ro ri rv ⟨a, vs, j, j', rfl, rfl, ha, by rw [← p.length]; exact ej, q _ ⟨a, _, rfl, wa, upd_same, dvs_paired (DVs.mono (hid_mut wa) (p.set hv j')), .inl rfl⟩⟩
    · cases he
  · rename_i x _ _ _ kvs ky y e1 e3
    cases e1
    cases e3
    split at he
    · rename_i hk
      cases he
      obtain ⟨f1, f2⟩ := kOk_of hk.1
      obtain ⟨k, rfl⟩ := flat_key f1
      have ei := flat_kV hi
      subst ei
      have o1 : O1 Φ.Γ H (hid H w) (.dct kvs) (.ref a) := by
        rcases hov with ⟨a', es, ea, _, ha, p, _⟩ | ⟨a', es, ea, _, ha, p, _⟩
        · cases ea
          exact .dctK ha (toK p)
        · cases ea
          exact .dctN ha (toN p)
      obtain ⟨a', es, ea, ha, d1⟩ := o1_flat I o1 f2
      cases ea
      obtain ⟨zz, lo, vs, rel, dd⟩ := dk_of I.hok ha
      have nd : (es.map (·.1)).Nodup := by
        rw [KV.keys rel]
        obtain ⟨_, _, _, _, _, _, _, _, nd⟩ := dd
        exact nd
      have hu := xo.un
      have d2 := DVk.mono (hid_mut (o := HO.dK (putK es k v)) wa) (kput_put (k := k) hv d1 nd)
      refine L2.set_dict (by omega) pins s σ H _ _ v ov iv u Q I ro ri rv ⟨a, _, rfl, DPut.k ha (by rw [← d1.length, ← sz]; exact hk.2), q _ (.inl ⟨a, _, rfl, wa, upd_same, ?_, .inl rfl⟩)⟩
      exact fromK d2
    · cases he
  · cases he
theorem putI_k {kd kd' : KD} {d : D} {k : Nat} {y : D} (h : putI kd d (k, y) = .ok kd') : putI kd d (0, y) = .ok kd' := by
  unfold putI at h ⊢
  split at h
  · rename_i e2
    have e3 := congrArg Prod.snd e2
    simp only at e3
    subst e3
    exact h
  · rename_i e2
    have e3 := congrArg Prod.snd e2
    simp only at e3
    subst e3
    exact h
  · cases h
theorem putI_calm (kd : KD) (d : D) (y : KD) : (putI kd d y).calm := by
  unfold putI
  split <;> (try split) <;> exact True.intro
theorem putI_shape {Γ : Gx} {H : Hp} {w : Own} {i : Nat} {kd kd' : KD} {x : D} {y : KD} {v : V} (h : putI kd x y = .ok kd') (o : OV Γ H w i kd.1 kd.2 v) : ∃ a, v = .ref a ∧ w a = some i := by
  unfold putI at h
  split at h
  · obtain ⟨a, vs, ea, wa, _⟩ := o
    exact ⟨a, ea, wa⟩
  · rcases o with ⟨a, vs, ea, wa, _⟩ | ⟨a, vs, ea, wa, _⟩
    · exact ⟨a, ea, wa⟩
    · exact ⟨a, ea, wa⟩
  · cases h
theorem g_sb {i : Nat} {x : Str} {e : PySem.Expr} {ce : CE} {p pos : Pos} (xo : XOk Φ.Γ X) (hN : X.N[i]? = some x) (hv : Vis X.env.scope x) (ha : PE X e (tE Φ ce)) (hd : (x == ("__debug__" : Str)) = false := by decide) (hcd : (x == ("__classdict__" : Str)) = false := by decide)
    (ht : ∀ v, assign (.Subscript (.Name x p) e pos) X.env v = (do
      let ov ← holding [v] (eval (.Name x p) X.env)
      let iv ← holding [v, ov] (eval e X.env)
      standAt pos
      holding [v, ov, iv] (setItem ov iv v)
      release [v, ov, iv] []) := by intro _; rfl) : PG X (.Subscript (.Name x p) e pos) (tG Φ z (.sb i ce)) :=
  pgI (pg_sub (pe_var hN hv hd hcd) ha (pset_sub xo) ht) fun v σ H Q h => by
    obtain ⟨ρ, w, t, t', ⟨k, d⟩, rp, hN, ht, lv, ov, hw⟩ := h
    have hw : Wp (if (slotD ρ i).isSome = true then (den Φ.F ce ρ).bind fun x => match x.2[i]? with
      | some (some kd) => (putI kd x.1.2 (k, d)).bind fun kd' => .ok (x.2.set i (some kd'))
      | _ => .bad
      else .bad : Res PB.Env) (Ex Φ H w) fun ρ' => ∀ σ' H' w', Rep Φ.Γ Φ.N ρ' σ' H' w' → Sta Φ.N t H w H' w' → Off z σ σ' → Q σ' H' := hw
    split at hw
    · rename_i hs
      obtain ⟨d0, hs⟩ := Option.isSome_iff_exists.mp hs
      obtain ⟨k0, e0⟩ := slotD_some hs
      obtain ⟨o, h1, _⟩ := rp.at_ i k0 d0 e0
      have hi := slot_lt rp e0
      refine ⟨o, h1, ρ, w, t', rp, by omega, lv, hw.bind.mono (fun _ _ e => e) fun p _ hp y H1 w1 r1 s1 oy => ?_⟩
      split at hp
      · rename_i kd e1
        obtain ⟨kd', ep, hp⟩ := calm_ok (putI_calm _ _ _) hp.bind
        obtain ⟨o', g1, g2⟩ := r1.at_ i kd.1 kd.2 e1
        rw [h1] at g1
        cases g1
        -- the value and the index given free
        have ov1 : OV Φ.Γ H1 w1 t k d v := ov.step (fun a ob ha wa => ⟨s1.keep a ob ha fun l e => by rw [wa] at e; cases e; exact Nat.le_of_lt hN, s1.tmp a t wa (Nat.le_of_lt hN)⟩) s1.hid
        have o2 : OV Φ.Γ H1 (drop (drop w1 t) t') i kd.1 kd.2 o := g2.step (fun a ob ha wa => ⟨ha, drop_ne (drop_ne wa (by omega)) (by omega)⟩) (hid_drop.trans hid_drop)
        have r2 := (r1.drop hN).drop (t := t') (by omega)
        have dv : DV Φ.Γ (hid H1 (drop (drop w1 t) t')) d v := DV.mono hid_drop ov1.share
        have di : DV Φ.Γ (hid H1 (drop (drop w1 t) t')) p.1.2 y := by
          have : OV Φ.Γ H1 (drop w1 t) t' p.1.1 p.1.2 y := oy.step (fun a ob ha wa => ⟨ha, drop_ne wa (by omega)⟩) hid_drop
          exact this.share
        obtain ⟨a, ea, wa⟩ := putI_shape ep o2
        have wi : w1 a = some i := (drop_some (drop_some wa).1).1
        subst ea
        refine ⟨drop (drop w1 t) t', a, i, kd, p.1.2, d, kd', rfl, wa, o2, di, dv, putI_k ep, fun ob hov => ?_⟩
        have r3 := r2.mut (o := ob) (k := kd'.1) (d := kd'.2) hi wa h1 upd_sub hov
        refine hp σ _ _ r3 ⟨fun b u hb hl => ?_, fun b u hb e => ?_, fun b l e hl ne => ?_, fun b l e hl => ?_⟩ .refl
        · refine upd_sub b u (s1.keep b u hb fun l e => (hl l e).1) fun zz => ?_
          subst zz
          cases q : w b with
          | none =>
            rw [s1.free b u hb q] at wi
            cases wi
          | some l =>
            have h2 := hl l q
            rw [s1.tmp b l q h2.1] at wi
            cases wi
            omega
        · exact drop_none (drop_none (s1.free b u hb e))
        · have := lv b l e
          exact drop_ne (drop_ne (s1.tmp b l e hl) ne) (by omega)
        · obtain ⟨q1, q2⟩ := drop_some e
          obtain ⟨q3, q4⟩ := drop_some q1
          rcases s1.lab b l q3 hl with q5 | ⟨q5, _⟩
          · exact ⟨q5, q4⟩
          · exact absurd q5 q2
      · exact False.elim hp
    · exact False.elim hw
end
end
section
/-! Soundness 16: statements. -/
open PySem PySem.Spec PyProof.Rows L2

/-- what a statement's end asks -/
def SQ (Φ : Fx) (z : List Nat) (D : Ends) (σ : L2.St) (H : Hp) (w : Own) (p : Fl × PB.Env) : Prop := match p.1 with
  | .nx => ∀ σ' H' w', Rep Φ.Γ Φ.N p.2 σ' H' w' → Lv w' (Φ.N + 1) → Kp Φ.N H w H' w' → Off z σ σ' → D.nx σ' H'
  | .brk => ∀ σ' H' w', Rep Φ.Γ Φ.N p.2 σ' H' w' → Lv w' (Φ.N + 1) → Kp Φ.N H w H' w' → Off z σ σ' → D.bk σ' H'
  | .cnt => ∀ σ' H' w', Rep Φ.Γ Φ.N p.2 σ' H' w' → Lv w' (Φ.N + 1) → Kp Φ.N H w H' w' → Off z σ σ' → D.ct σ' H'
  | .ret kd => ∀ v σ' H' w', Rep Φ.Γ Φ.N p.2 σ' H' w' → Lv w' (Φ.N + 1 + 1) → Kp Φ.N H w H' w' → Off z σ σ' → OV Φ.Γ H' w' (Φ.N + 1) kd.1 kd.2 v → D.rt v H'
def tS (Φ : Fx) (z : List Nat) (c : CS) : TS := fun D σ H => ∃ ρ w, Rep Φ.Γ Φ.N ρ σ H w ∧ Lv w (Φ.N + 1) ∧ Wp (denS Φ.F c ρ) (Ex Φ H w) (SQ Φ z D σ H w)
def tSs (Φ : Fx) (z : List Nat) (c : CSs) : TS := fun D σ H => ∃ ρ w, Rep Φ.Γ Φ.N ρ σ H w ∧ Lv w (Φ.N + 1) ∧ Wp (denSs Φ.F c ρ) (Ex Φ H w) (SQ Φ z D σ H w)
theorem psI {X : Cx} {e : Stmt} {t t' : TS} (h : PS X e t') (i : ∀ D σ H, t D σ H → t' D σ H) : PS X e t := ⟨fun pins s σ H D I q => h.run pins s σ H D I (i D σ H q)⟩
theorem pssI {X : Cx} {e : List Stmt} {t t' : TS} (h : PSs X e t') (i : ∀ D σ H, t D σ H → t' D σ H) : PSs X e t := ⟨fun pins s σ H D I q => h.run pins s σ H D I (i D σ H q)⟩
theorem SQ.step {Φ : Fx} {z : List Nat} {D : Ends} {σ σ1 : L2.St} {H H1 : Hp} {w w1 : Own} {p : Fl × PB.Env} (h : SQ Φ z D σ H w p) (k : Kp Φ.N H w H1 w1) (o : Off z σ σ1) : SQ Φ z D σ1 H1 w1 p := by
  obtain ⟨f, ρ⟩ := p
  cases f with
  | nx => exact fun σ' H' w' a b c d => h σ' H' w' a b (k.trans c) (o.trans d)
  | brk => exact fun σ' H' w' a b c d => h σ' H' w' a b (k.trans c) (o.trans d)
  | cnt => exact fun σ' H' w' a b c d => h σ' H' w' a b (k.trans c) (o.trans d)
  | ret kd => exact fun v σ' H' w' a b c d e => h v σ' H' w' a b (k.trans c) (o.trans d) e
theorem SQ.mono {Φ : Fx} {z z' : List Nat} {D : Ends} {σ : L2.St} {H : Hp} {w : Own} {p : Fl × PB.Env} (hz : ∀ i ∈ z', i ∈ z) (h : SQ Φ z D σ H w p) : SQ Φ z' D σ H w p := by
  obtain ⟨f, ρ⟩ := p
  cases f with
  | nx => exact fun σ' H' w' a b c d => h σ' H' w' a b c (d.mono hz)
  | brk => exact fun σ' H' w' a b c d => h σ' H' w' a b c (d.mono hz)
  | cnt => exact fun σ' H' w' a b c d => h σ' H' w' a b c (d.mono hz)
  | ret kd => exact fun v σ' H' w' a b c d e => h v σ' H' w' a b c (d.mono hz) e

section
variable {Φ : Fx} {X : Cx} {z : List Nat}
theorem ss_nil : PSs X [] (tSs Φ z .nil) := pssI pss_nil fun D σ H h => by
  obtain ⟨ρ, w, rp, lv, hw⟩ := h
  exact hw σ H w rp lv .refl .refl
theorem ss_cons {s : Stmt} {r : List Stmt} {c : CS} {cs : CSs} (h1 : PS X s (tS Φ z c)) (h2 : PSs X r (tSs Φ z cs)) : PSs X (s :: r) (tSs Φ z (.cons c cs)) :=
  pssI (pss_cons h1 h2) fun D σ H h => by
    obtain ⟨ρ, w, rp, lv, hw⟩ := h
    have hw : Wp ((denS Φ.F c ρ).bind fun p => match p.1 with | .nx => denSs Φ.F cs p.2 | f => .ok (f, p.2)) (Ex Φ H w) (SQ Φ z D σ H w) := hw
    refine ⟨ρ, w, rp, lv, hw.bind.mono (fun _ _ e => e) fun p _ hp => ?_⟩
    obtain ⟨f, ρ1⟩ := p
    cases f with
    | nx => exact fun σ1 H1 w1 r1 l1 k1 o1 => ⟨ρ1, w1, r1, l1, hp.mono (fun _ _ e => e.step k1) fun q _ hq => hq.step k1 o1⟩
    | brk => exact hp
    | cnt => exact hp
    | ret kd => exact hp
/-- fewer stores -/
theorem ss_mono {z' : List Nat} {s : List Stmt} {cs : CSs} (hz : ∀ i ∈ z', i ∈ z) (h : PSs X s (tSs Φ z' cs)) : PSs X s (tSs Φ z cs) := pssI h fun D σ H h => by
  obtain ⟨ρ, w, rp, lv, hw⟩ := h
  exact ⟨ρ, w, rp, lv, hw.mono (fun _ _ e => e) fun p _ hp => hp.mono hz⟩
theorem s_pass {pos : Pos} : PS X (.Pass pos) (tS Φ z .pss) := psI ps_pass fun D σ H h => by
  obtain ⟨ρ, w, rp, lv, hw⟩ := h
  exact hw σ H w rp lv .refl .refl
theorem s_brk {pos : Pos} : PS X (.Break pos) (tS Φ z .brk) := psI ps_break fun D σ H h => by
  obtain ⟨ρ, w, rp, lv, hw⟩ := h
  exact hw σ H w rp lv .refl .refl
theorem s_cnt {pos : Pos} : PS X (.Continue pos) (tS Φ z .cnt) := psI ps_continue fun D σ H h => by
  obtain ⟨ρ, w, rp, lv, hw⟩ := h
  exact hw σ H w rp lv .refl .refl
theorem s_if {c : PySem.Expr} {a b : List Stmt} {cc : CT} {ca cb : CSs} {pos : Pos} (hc : PT X c (tT Φ cc)) (ha : PSs X a (tSs Φ z ca)) (hb : PSs X b (tSs Φ z cb)) : PS X (.If c a b pos) (tS Φ z (.ifS cc ca cb)) :=
  psI (ps_if hc ha hb) fun D σ H h => by
    obtain ⟨ρ, w, rp, lv, hw⟩ := h
    have hw : Wp ((denT Φ.F cc ρ).bind fun p => if p.1 = true then denSs Φ.F ca p.2 else denSs Φ.F cb p.2) (Ex Φ H w) (SQ Φ z D σ H w) := hw
    refine ⟨ρ, w, Φ.N + 1, rp, Nat.lt_succ_self _, lv, hw.bind.mono (fun _ _ e => e) fun p _ hp H1 w1 r1 s1 => ?_⟩
    cases e : p.1 with
    | true =>
      rw [e, if_pos rfl] at hp
      exact ⟨p.2, w1, r1, s1.lv (Nat.lt_succ_self _) lv, hp.mono (fun _ _ e => e.step s1.kp) fun q _ hq => hq.step s1.kp .refl⟩
    | false =>
      rw [e, if_neg (by decide)] at hp
      exact ⟨p.2, w1, r1, s1.lv (Nat.lt_succ_self _) lv, hp.mono (fun _ _ e => e.step s1.kp) fun q _ hq => hq.step s1.kp .refl⟩
theorem s_ex {e : PySem.Expr} {ce : CE} {pos : Pos} (he : PE X e (tE Φ ce)) (hs : swapsWith e none pos.line X.env = pure false := by rfl) : PS X (.Expr e pos) (tS Φ z (.ex ce)) :=
  psI (ps_expr he hs) fun D σ H h => by
    obtain ⟨ρ, w, rp, lv, hw⟩ := h
    have hw : Wp ((den Φ.F ce ρ).bind fun p => .ok (Fl.nx, p.2)) (Ex Φ H w) (SQ Φ z D σ H w) := hw
    exact ⟨ρ, w, Φ.N + 1, rp, Nat.lt_succ_self _, lv, hw.bind.mono (fun _ _ e => e) fun p _ hp v H1 w1 r1 s1 o1 => hp σ H1 (drop w1 (Φ.N + 1)) (r1.drop (Nat.lt_succ_self _)) ((s1.shareT lv).lv (Nat.lt_succ_self _) lv) (s1.shareT lv).kp .refl⟩
theorem s_ret {e : PySem.Expr} {ce : CE} {pos : Pos} (he : PE X e (tE Φ ce)) : PS X (.Return (some e) pos) (tS Φ z (.ret ce)) :=
  psI (ps_ret he) fun D σ H h => by
    obtain ⟨ρ, w, rp, lv, hw⟩ := h
    have hw : Wp ((den Φ.F ce ρ).bind fun p => .ok (Fl.ret p.1, p.2)) (Ex Φ H w) (SQ Φ z D σ H w) := hw
    exact ⟨ρ, w, Φ.N + 1, rp, Nat.lt_succ_self _, lv, hw.bind.mono (fun _ _ e => e) fun p _ hp v H1 w1 r1 s1 o1 => hp v σ H1 w1 r1 (s1.lv (Nat.lt_succ_self _) lv) (s1.kp (Nat.lt_succ_self _)) .refl o1⟩
theorem s_retN {pos : Pos} : PS X (.Return none pos) (tS Φ z .retN) :=
  psI ps_retN fun D σ H h => by
    obtain ⟨ρ, w, rp, lv, hw⟩ := h
    have hw : Wp (Res.ok (Fl.ret (0, PB.D.non), ρ)) (Ex Φ H w) (SQ Φ z D σ H w) := hw
    exact hw .non σ H w rp (lv.mono (Nat.le_succ _)) .refl .refl .non
theorem s_rse {s : Stmt} {c : Nat} {ce : CE} (hE : ∀ c d H, ¬ Φ.Ew c d H) : PS X s (tS Φ z (.rse c ce)) :=
  psI ps_never fun D σ H h => by
    obtain ⟨ρ, w, rp, lv, hw⟩ := h
    have hw : Wp ((den Φ.F ce ρ).bind fun p => (Res.exc c p.1.2 : Res (Fl × PB.Env))) (Ex Φ H w) (SQ Φ z D σ H w) := hw
    cases e : den Φ.F ce ρ with
    | ok p =>
      rw [e] at hw
      exact hE _ _ _ (hw H w .refl)
    | exc c' d' =>
      rw [e] at hw
      exact hE _ _ _ (hw H w .refl)
    | bad =>
      rw [e] at hw
      exact hw
/-- target = value -/
theorem asg_of {tg : Tg} {ce : CE} {D : Ends} {σ : L2.St} {H : Hp} (h : tS Φ z (.asg tg ce) D σ H) : tE Φ ce σ H fun x H1 => tG Φ z tg x σ H1 D.nx := by
  obtain ⟨ρ, w, rp, lv, hw⟩ := h
  have hw : Wp ((den Φ.F ce ρ).bind fun p => (asgT Φ.F tg p.1 p.2).bind fun ρ' => .ok (Fl.nx, ρ')) (Ex Φ H w) (SQ Φ z D σ H w) := hw
  refine ⟨ρ, w, Φ.N + 1, rp, Nat.lt_succ_self _, lv, hw.bind.mono (fun _ _ e => e) fun p _ hp v H1 w1 r1 s1 o1 => ?_⟩
  refine ⟨p.2, w1, Φ.N + 1, Φ.N + 1 + 1, p.1, r1, Nat.lt_succ_self _, Nat.lt_succ_self _, s1.lv (Nat.lt_succ_self _) lv, o1, hp.bind.mono (fun _ _ e => e.step (s1.kp (Nat.lt_succ_self _))) fun ρ' _ hq σ2 H2 w2 r2 s2 o2 => ?_⟩
  exact hq σ2 H2 w2 r2 (s2.lv (Nat.lt_succ_self _) (s1.lv (Nat.lt_succ_self _) lv)) ((s1.kp (Nat.lt_succ_self _)).trans (s2.kp (Nat.lt_succ_self _))) o2
theorem s_set {i : Nat} {x : Str} {e : PySem.Expr} {ce : CE} {pos pos' : Pos} (hN : X.N.Nodup) (hi : X.N[i]? = some x) (hx : Loc X.env.scope x) (he : PE X e (tE Φ ce)) (hl : i < Φ.N) (hz : i ∈ z) (hs : swapsWith e (some (.Name x pos')) pos.line X.env = pure false := by rfl) (hf : X.fn x = true ∨ X.env.scope.names.lookup x = some .local := by first | exact .inl rfl | exact .inr rfl | assumption) :
    PS X (.Assign [.Name x pos'] e pos) (tS Φ z (.asg (.nm i) ce)) :=
  psI (ps_set hN hi hx he hs hf) fun D σ H h => tE_mono (asg_of h) fun v H1 h => by
    obtain ⟨ρ, w, t, t', kd, rp, hN, ht, lv, ov, hw⟩ := h
    have hw : Wp (Res.ok (ρ.set i (some kd))) (Ex Φ H1 w) _ := hw
    obtain ⟨h1, h2⟩ := rp.take (k := kd.1) (d := kd.2) hl hN ov
    exact hw _ _ _ h1 h2 (Off.set hz)
theorem s_asg {tg : Tg} {te e : PySem.Expr} {ce : CE} {pos : Pos} (he : PE X e (tE Φ ce)) (hg : PG X te (tG Φ z tg)) (hs : swapsWithSole [te] e pos.line X.env = pure false := by rfl) (hw : swappedStores [te] e X.env = pure none := by rfl)
    (h1 : (assignEach [te] X.env).map (·.2) = [assign te X.env] := by rfl) : PS X (.Assign [te] e pos) (tS Φ z (.asg tg ce)) :=
  psI (ps_asg he hg hs hw h1) fun D σ H h => asg_of h
/-! ### several at once -/
def OVs (Γ : Gx) (H : Hp) (w : Own) : Nat → List KD → List V → Prop
  | _, [], [] => True
  | t, kd :: r, v :: vs => OV Γ H w t kd.1 kd.2 v ∧ OVs Γ H w (t + 1) r vs
  | _, _, _ => False
structure StG (N t : Nat) (H : Hp) (w : Own) (H' : Hp) (w' : Own) : Prop where
  keep : ∀ a o, H a = some o → (∀ l, w a = some l → N ≤ l) → H' a = some o
  free : ∀ a o, H a = some o → w a = none → w' a = none
  tmp : ∀ a l, w a = some l → N ≤ l → w' a = some l
  lab : ∀ a l, w' a = some l → N ≤ l → w a = some l ∨ t ≤ l
theorem OVs.step {Γ : Gx} {H H' : Hp} {w w' : Own} : ∀ {t : Nat} {kds : List KD} {vs : List V}, (∀ j, t ≤ j → ∀ a o, H a = some o → w a = some j → H' a = some o ∧ w' a = some j) → Sub (hid H w) (hid H' w') → OVs Γ H w t kds vs → OVs Γ H' w' t kds vs
  | _, [], [], _, _, _ => True.intro
  | t, kd :: r, v :: vs, hA, hB, h => ⟨h.1.step (hA t (Nat.le_refl _)) hB, OVs.step (fun j hj => hA j (by omega)) hB h.2⟩
  | _, [], _ :: _, _, _, h => h.elim
  | _, _ :: _, [], _, _, h => h.elim
theorem OVs.length {Γ : Gx} {H : Hp} {w : Own} : ∀ {t : Nat} {kds : List KD} {vs : List V}, OVs Γ H w t kds vs → kds.length = vs.length
  | _, [], [], _ => rfl
  | t, kd :: r, v :: vs, h => congrArg (· + 1) (OVs.length h.2)
  | _, [], _ :: _, h => h.elim
  | _, _ :: _, [], h => h.elim
theorem StG.kp {N t : Nat} {H H' : Hp} {w w' : Own} (a : StG N t H w H' w') (ht : N < t) : Kp N H w H' w' := ⟨fun x o h e => ⟨a.keep x o h (fun l z => by rw [e] at z; cases z), a.free x o h e⟩, fun x o h e => ⟨a.keep x o h (fun l z => by rw [e] at z; cases z; exact Nat.le_refl _), a.tmp x N e (Nat.le_refl _)⟩, fun x e => (a.lab x N e (Nat.le_refl _)).elim id fun q => by omega⟩
def tKs (Φ : Fx) (es : CEs) : TA := fun σ H K => ∃ ρ w t, Rep Φ.Γ Φ.N ρ σ H w ∧ Φ.N < t ∧ Lv w t ∧ Wp (denOps Φ.F true es ρ) (Ex Φ H w) fun p =>
  ∀ vs H' w', Rep Φ.Γ Φ.N p.2 σ H' w' → StG Φ.N t H w H' w' → Lv w' (t + p.1.length) → OVs Φ.Γ H' w' t p.1 vs → K vs H'
theorem k_nil {σ : L2.St} {H : Hp} {K : List V → Hp → Prop} (h : tKs Φ .nil σ H K) : K [] H := by
  obtain ⟨ρ, w, t, r, hN, lv, hw⟩ := h
  exact hw [] H w r ⟨fun _ _ h _ => h, fun _ _ _ h => h, fun _ _ h _ => h, fun _ _ h _ => .inl h⟩ lv True.intro
theorem k_cons {c : CE} {r : CEs} {σ : L2.St} {H : Hp} {K : List V → Hp → Prop} (hc : npk c = true) (h : tKs Φ (.cons c r) σ H K) : tE Φ c σ H fun x H1 => tKs Φ r σ H1 fun xs H2 => K (x :: xs) H2 := by
  obtain ⟨ρ, w, t, rp, hN, lv, hw⟩ := h
  rw [denOps_cons hc] at hw
  refine ⟨ρ, w, t, rp, hN, lv, hw.bind.mono (fun _ _ e => e) fun p ep hp => ?_⟩
  intro v H1 w1 r1 s1 o1
  refine ⟨p.2, w1, t + 1, r1, Nat.le_succ_of_le hN, s1.lv hN lv, hp.bind.mono (fun _ _ e => e.step (s1.kp hN)) fun q eq hq => ?_⟩
  intro vs H2 w2 r2 s2 l2 dd
  refine hq (v :: vs) H2 w2 r2 ⟨fun x o h hl => s2.keep x o (s1.keep x o h hl) fun l e => ?_, fun x o h e => s2.free x o (s1.keep x o h fun l z => by rw [e] at z; cases z) (s1.free x o h e), fun x l e hl => s2.tmp x l (s1.tmp x l e hl) hl, fun x l e hl => ?_⟩ (by rw [List.length_cons]; exact l2.mono (by omega)) ⟨o1.step (fun a o ha wa => ⟨s2.keep a o ha fun l e => by rw [wa] at e; cases e; exact Nat.le_of_lt hN, s2.tmp a t wa (Nat.le_of_lt hN)⟩) (s2.kp (Nat.lt_succ_of_lt hN)).hid, dd⟩
  · cases q : w x with
    | none => rw [s1.free x o h q] at e; cases e
    | some m =>
      rw [s1.tmp x m q (hl m q)] at e
      cases e
      exact hl _ q
  · rcases s2.lab x l e hl with q | q
    · rcases s1.lab x l q hl with q | ⟨q, _⟩
      · exact .inl q
      · exact .inr (by omega)
    · exact .inr (by omega)
theorem pa_k0 : PA X [] (tKs Φ .nil) := paI pa_nil fun _ _ _ h => k_nil h
theorem pa_k {e : PySem.Expr} {es : List PySem.Expr} {c : CE} {r : CEs} (h : PE X e (tE Φ c)) (t : PA X es (tKs Φ r)) (hc : npk c = true := by rfl) (hs : starEach (e :: es) X.env = (false, eval e X.env) :: starEach es X.env := by rfl) : PA X (e :: es) (tKs Φ (.cons c r)) :=
  paI (pa_cons h t hs) fun _ _ _ h => k_cons hc h
def tGk (Φ : Fx) (z : List Nat) (ts : Tgs) : TGs := fun vs σ H K => ∃ ρ w t kds, Rep Φ.Γ Φ.N ρ σ H w ∧ Φ.N < t ∧ Lv w (t + kds.length) ∧ OVs Φ.Γ H w t kds vs ∧ Wp (asgK Φ.F ts kds ρ) (Ex Φ H w) fun ρ' =>
  ∀ σ' H' w', Rep Φ.Γ Φ.N ρ' σ' H' w' → (∀ a j, w' a = some j → Φ.N ≤ j → w a = some j ∧ j < t) → Kp Φ.N H w H' w' → Off z σ σ' → K σ' H'
theorem gk_nil : PGs X [] (tGk Φ z .nil) :=
  pgsI pgs_nil fun vs σ H Q h => by
    obtain ⟨ρ, w, t, kds, rp, hN, lv, dd, hw⟩ := h
    cases kds with
    | nil =>
      cases vs with
      | nil => exact ⟨rfl, hw σ H w rp (fun a j e _ => ⟨e, lv a j e⟩) .refl .refl⟩
      | cons _ _ => exact False.elim dd
    | cons a b => exact False.elim hw
theorem gk_cons {e : PySem.Expr} {es : List PySem.Expr} {t : Tg} {r : Tgs} (h1 : PG X e (tG Φ z t)) (h2 : PGs X es (tGk Φ z r)) (hs : (assignEach (e :: es) X.env).map (·.2) = assign e X.env :: (assignEach es X.env).map (·.2) := by rfl) : PGs X (e :: es) (tGk Φ z (.cons t r)) :=
  pgsI (pgs_cons h1 h2 hs) fun vs σ H Q h => by
    obtain ⟨ρ, w, l, kds, rp, hN, lv, dd, hw⟩ := h
    cases kds with
    | nil => exact False.elim hw
    | cons kd kds =>
      cases vs with
      | nil => exact False.elim dd
      | cons v vs =>
        have hw : Wp ((asgT Φ.F t kd ρ).bind fun ρ' => asgK Φ.F r kds ρ') (Ex Φ H w) _ := hw
        refine ⟨v, vs, rfl, ρ, w, l, l + (kds.length + 1), kd, rp, hN, by omega, lv, dd.1, hw.bind.mono (fun _ _ e => e) fun ρ1 _ hp σ1 H1 w1 r1 s1 o1 => ?_⟩
        have l1 : Lv w1 (l + 1 + kds.length) := fun a j e => by
          by_cases hj : Φ.N ≤ j
          · have := lv a j (s1.lab a j e hj).1
            rw [List.length_cons] at this
            omega
          · omega
        refine ⟨ρ1, w1, l + 1, kds, r1, by omega, l1, dd.2.step (fun j hj a o ha wa => ⟨s1.keep a o ha fun m e => by rw [wa] at e; cases e; omega, s1.tmp a j wa (by omega) (by omega)⟩) (s1.kp hN).hid, hp.mono (fun _ _ e => e.step (s1.kp hN)) fun ρ2 _ hq σ2 H2 w2 r2 l2 k2 o2 => ?_⟩
        refine hq σ2 H2 w2 r2 (fun a j e hj => ?_) ((s1.kp hN).trans k2) (o1.trans o2)
        obtain ⟨q1, q2⟩ := l2 a j e hj
        obtain ⟨q3, q4⟩ := s1.lab a j q1 hj
        exact ⟨q3, by omega⟩
theorem asgK_len {F : Fn} : ∀ {ts : Tgs} {l : List KD} {ρ ρ' : PB.Env}, asgK F ts l ρ = .ok ρ' → l.length = lenT ts
  | .nil, [], _, _, _ => rfl
  | .nil, _ :: _, _, _, h => by cases h
  | .cons _ _, [], _, _, h => by cases h
  | .cons t r, x :: s, ρ, ρ', h => by
    have h : ((asgT F t x ρ).bind fun ρ1 => asgK F r s ρ1) = .ok ρ' := h
    cases e : asgT F t x ρ with
    | ok ρ1 =>
      rw [e] at h
      exact congrArg (· + 1) (asgK_len h)
    | exc _ _ => rw [e] at h; cases h
    | bad => rw [e] at h; cases h
/-- a, b, .. = x, y, .. -/
theorem s_par {es tgs : List PySem.Expr} {cs : CEs} {ts : Tgs} {k1 k2 : Nat} {p1 p2 pos : Pos} (xo : XOk Φ.Γ X) (he : PA X es (tKs Φ cs)) (hg : PGs X tgs (tGk Φ z ts)) (hn : (assignEach tgs X.env).length = lenT ts := by rfl) (hst : (assignEach tgs X.env).findIdx? (·.1) = none := by rfl)
    (hs : swapsWithSole [.Tuple tgs k1 p1] (.Tuple es k2 p2) pos.line X.env = pure false := by rfl) (hw : swappedStores [.Tuple tgs k1 p1] (.Tuple es k2 p2) X.env = pure none := by rfl)
    (h1 : (assignEach [.Tuple tgs k1 p1] X.env).map (·.2) = [assign (.Tuple tgs k1 p1) X.env] := by rfl) : PS X (.Assign [.Tuple tgs k1 p1] (.Tuple es k2 p2) pos) (tS Φ z (.par ts cs)) :=
  psI (ps_asg (pe_tup he) (pg_tup xo.calm hg hn hst) hs hw h1) fun D σ H h => by
    obtain ⟨ρ, w, rp, lv, hw⟩ := h
    have hw : Wp ((denOps Φ.F true cs ρ).bind fun p => if p.1.length = lenT ts ∧ p.1.length ≤ sizeL then (asgK Φ.F ts p.1 p.2).bind fun ρ' => .ok (Fl.nx, ρ') else .bad) (Ex Φ H w) (SQ Φ z D σ H w) := hw
    refine ⟨ρ, w, Φ.N + 1, rp, Nat.lt_succ_self _, lv, hw.bind.mono (fun _ _ e => e) fun p _ hp vs H1 w1 r1 s1 l1 dd => ?_⟩
    split at hp
    · rename_i hl
      refine ⟨by rw [← dd.length, ← sz]; exact hl.2, fun q hq => ?_⟩
      have wq : w1 q = none := by
        cases e : w1 q with
        | none => rfl
        | some j =>
          obtain ⟨u, hu⟩ := r1.al q j e
          rw [hq] at hu
          cases hu
      have sub : Sub H1 (upd H1 q (.tup vs)) := fun b u e => by
        rw [upd_ne (ne_of_none e hq)]
        exact e
      have r2 : Rep Φ.Γ Φ.N p.2 σ (upd H1 q (.tup vs)) w1 := rep_step r1 sub (fun _ _ _ => rfl) fun a j e => by
        obtain ⟨u, hu⟩ := r1.al a j e
        exact ⟨u, sub a u hu⟩
      have k2 : Kp Φ.N H1 w1 (upd H1 q (.tup vs)) w1 := ⟨fun a o e e2 => ⟨sub a o e, e2⟩, fun a o e e2 => ⟨sub a o e, e2⟩, fun _ e => e⟩
      refine ⟨q, vs, rfl, SqT.of upd_same, by rw [← dd.length]; exact hl.1, p.2, w1, Φ.N + 1, p.1, r2, Nat.lt_succ_self _, l1, dd.step (fun j hj a o ha wa => ⟨sub a o ha, wa⟩) k2.hid, hp.bind.mono (fun _ _ e => e.step ((s1.kp (Nat.lt_succ_self _)).trans k2)) fun ρ' _ hq σ2 H2 w2 r3 l3 k3 o3 => ?_⟩
      exact hq σ2 H2 w2 r3 (fun a j e => by
        by_cases hj : Φ.N ≤ j
        · have := (l3 a j e hj).2
          omega
        · omega) (((s1.kp (Nat.lt_succ_self _)).trans k2).trans k3) o3
    · exact False.elim hp
/-- a, b = x, y: two local names -/
theorem s_par2 {i j : Nat} {x y : Str} {a b : PySem.Expr} {cs : CEs} {px py pt : Pos} {kt k2 : Nat} {pt2 pos : Pos} (xo : XOk Φ.Γ X) (hN : X.N.Nodup) (hi : X.N[i]? = some x) (hj : X.N[j]? = some y) (hij : i ≠ j)
    (hx : X.env.scope.names.lookup x = some .local) (hy : X.env.scope.names.lookup y = some .local) (ha : PA X [a, b] (tKs Φ cs)) (hl : i < Φ.N) (hl2 : j < Φ.N) (hz : i ∈ z) (hz2 : j ∈ z)
    (hw : swappedStores [.Tuple [.Name x px, .Name y py] kt pt] (.Tuple [a, b] k2 pt2) X.env = pure (some [x, y]))
    (hs : swapsWithSole [.Tuple [.Name x px, .Name y py] kt pt] (.Tuple [a, b] k2 pt2) pos.line X.env = pure false := by rfl) :
    PS X (.Assign [.Tuple [.Name x px, .Name y py] kt pt] (.Tuple [a, b] k2 pt2) pos) (tS Φ z (.par (.cons (.nm i) (.cons (.nm j) .nil)) cs)) :=
  psI (ps_par xo.calm hN hi hj hij hx hy ha hw hs) fun D σ H h => by
    obtain ⟨ρ, w, rp, lv, hw⟩ := h
    have hw : Wp ((denOps Φ.F true cs ρ).bind fun p => if p.1.length = 2 ∧ p.1.length ≤ sizeL then (asgK Φ.F (.cons (.nm i) (.cons (.nm j) .nil)) p.1 p.2).bind fun ρ' => .ok (Fl.nx, ρ') else .bad) (Ex Φ H w) (SQ Φ z D σ H w) := hw
    refine ⟨ρ, w, Φ.N + 1, rp, Nat.lt_succ_self _, lv, hw.bind.mono (fun _ _ e => e) fun p _ hp vs H1 w1 r1 s1 l1 dd => ?_⟩
    split at hp
    · rename_i hlen
      obtain ⟨kds, ρ1⟩ := p
      have dd : OVs Φ.Γ H1 w1 (Φ.N + 1) kds vs := dd
      match kds, vs, hlen, dd, hp, l1 with
      | [u, v], [xv, yv], _, dd, hp, l1 =>
        have dd : OV Φ.Γ H1 w1 (Φ.N + 1) u.1 u.2 xv ∧ OV Φ.Γ H1 w1 (Φ.N + 1 + 1) v.1 v.2 yv ∧ True := dd
        have hp : SQ Φ z D σ H w (.nx, (ρ1.set i (some u)).set j (some v)) := hp
        obtain ⟨t1, t2⟩ := r1.take (t := Φ.N + 1) (k := u.1) (d := u.2) hl (Nat.lt_succ_self _) dd.1
        have o2 : OV Φ.Γ H1 (relab (drop w1 i) (Φ.N + 1) i) (Φ.N + 1 + 1) v.1 v.2 yv := dd.2.1.step (fun a o ha wa => ⟨ha, t2.tmp a _ wa (by omega) (by omega)⟩) (t2.kp (Nat.lt_succ_self _)).hid
        obtain ⟨t3, t4⟩ := t1.take (k := v.1) (d := v.2) hl2 (Nat.lt_succ_of_lt (Nat.lt_succ_self _)) o2
        refine ⟨xv, yv, rfl, hp _ H1 _ t3 (fun a l e => ?_) (((s1.kp (Nat.lt_succ_self _)).trans (t2.kp (Nat.lt_succ_self _))).trans (t4.kp (Nat.lt_succ_of_lt (Nat.lt_succ_self _)))) ((Off.set hz).trans (Off.set hz2))⟩
        by_cases hN' : Φ.N ≤ l
        · obtain ⟨q1, q2⟩ := t4.lab a l e hN'
          obtain ⟨q3, q4⟩ := t2.lab a l q1 hN'
          have := l1 a l q3
          simp only [List.length_cons, List.length_nil] at this
          omega
        · omega
      | [u, v], [], _, dd, _, _ => exact False.elim dd
      | [u, v], [_], _, dd, _, _ => exact False.elim (show _ ∧ False from dd).2
      | [u, v], _ :: _ :: _ :: _, _, dd, _, _ => exact False.elim (show _ ∧ _ ∧ False from dd).2.2
    · exact False.elim hp
end
end
section
/-! Soundness 17: what is walked; for. -/
open PySem PySem.Spec PyProof.Rows L2

/-- where a walked operand comes from -/
def Src (Γ : Gx) (c : CE) (ρ : PB.Env) (σ : L2.St) (H : Hp) (w : Own) (d : D) (v : V) : Prop := match c with
  | .pk i => (∃ k, k ≤ 1 ∧ ρ[i]? = some (some (k, d))) ∧ σ[i]? = some (some v)
  | _ => DV Γ (hid H w) d v
def Srcs (Γ : Gx) : CEs → PB.Env → L2.St → Hp → Own → List D → List V → Prop
  | .nil, _, _, _, _, [], [] => True
  | .cons c r, ρ, σ, H, w, d :: ds, v :: vs => Src Γ c ρ σ H w d v ∧ Srcs Γ r ρ σ H w ds vs
  | _, _, _, _, _, _, _ => False
theorem src_npk {Γ : Gx} {c : CE} {ρ : PB.Env} {σ : L2.St} {H : Hp} {w : Own} {d : D} {v : V} (h : npk c = true) : Src Γ c ρ σ H w d v = DV Γ (hid H w) d v := by
  cases c <;> first | rfl | cases h
/-- what stays of a frame in a walk -/
structure Stay (N : Nat) (ws : List Nat) (ρ : PB.Env) (σ : L2.St) (H : Hp) (w : Own) (ρ' : PB.Env) (σ' : L2.St) (H' : Hp) (w' : Own) : Prop where
  kp : Kp N H w H' w'
  sl : ∀ i ∈ ws, ∀ k d, k ≤ 1 → ρ[i]? = some (some (k, d)) → ∃ k', k' ≤ 1 ∧ ρ'[i]? = some (some (k', d))
  sg : ∀ i ∈ ws, σ'[i]? = σ[i]?
theorem Stay.refl {N : Nat} {ws : List Nat} {ρ : PB.Env} {σ : L2.St} {H : Hp} {w : Own} : Stay N ws ρ σ H w ρ σ H w := ⟨.refl, fun _ _ k d hk h => ⟨k, hk, h⟩, fun _ _ => rfl⟩
theorem Stay.trans {N : Nat} {ws : List Nat} {ρ ρ1 ρ2 : PB.Env} {σ σ1 σ2 : L2.St} {H H1 H2 : Hp} {w w1 w2 : Own} (a : Stay N ws ρ σ H w ρ1 σ1 H1 w1) (b : Stay N ws ρ1 σ1 H1 w1 ρ2 σ2 H2 w2) : Stay N ws ρ σ H w ρ2 σ2 H2 w2 :=
  ⟨a.kp.trans b.kp, fun i hi k d hk h => let ⟨k1, h1, e1⟩ := a.sl i hi k d hk h; b.sl i hi k1 d h1 e1, fun i hi => (b.sg i hi).trans (a.sg i hi)⟩
theorem still_sl : ∀ {ws : List Nat} {ρ ρ' : PB.Env}, still ws ρ ρ' = true → ∀ i ∈ ws, ∀ k d, ρ[i]? = some (some (k, d)) → ∃ k', k' ≤ 1 ∧ ρ'[i]? = some (some (k', d))
  | [], _, _, _, _, h, _, _, _ => nomatch h
  | j :: r, ρ, ρ', h, i, hi, k, d, e => by
    simp only [still, Bool.and_eq_true] at h
    rcases List.mem_cons.mp hi with rfl | hi
    · have h1 := h.1
      rw [e] at h1
      split at h1
      · rename_i e1 e2
        cases e1
        simp only [Bool.and_eq_true, decide_eq_true_eq] at h1
        obtain ⟨q, q2⟩ := h1
        subst q
        exact ⟨_, q2, e2⟩
      · cases h1
    · exact still_sl h.2 i hi k d e
section
variable {Φ : Fx} {X : Cx}
theorem Src.o1 {ρ ρ' : PB.Env} {σ σ' : L2.St} {H H' : Hp} {w w' : Own} {ws : List Nat} {c : CE} {d : D} {v : V} (s : Src Φ.Γ c ρ σ H w d v) (hw : ∀ i, c = .pk i → i ∈ ws) (st : Stay Φ.N ws ρ σ H w ρ' σ' H' w') (r : Rep Φ.Γ Φ.N ρ' σ' H' w') : O1 Φ.Γ H' (hid H' w') d v := by
  by_cases hc : npk c = true
  · rw [src_npk hc] at s
    exact .sh (DV.mono st.kp.hid s)
  · cases c with
    | pk i =>
      obtain ⟨⟨k, hk, e⟩, e2⟩ := s
      obtain ⟨k', hk', e'⟩ := st.sl i (hw i rfl) k d hk e
      obtain ⟨w2, v', g1, g2, g3, g4⟩ := r.cap e' (by omega)
      rw [st.sg i (hw i rfl), e2] at g1
      cases g1
      -- k' ≤ 1: nothing changes
      obtain ⟨v', h1, h2⟩ := r.at_ i k' d e'
      rw [st.sg i (hw i rfl), e2] at h1
      cases h1
      match k', hk' with
      | 0, _ => exact .sh h2
      | 1, _ =>
        cases d with
        | lst ds =>
          obtain ⟨a, vs, rfl, wa, ha, p, _⟩ := h2
          exact .lst ha (paired_dvs p)
        | dct kvs =>
          rcases h2 with ⟨a, es, rfl, wa, ha, p, _⟩ | ⟨a, es, rfl, wa, ha, p, _⟩
          · exact .dctK ha (toK p)
          · exact .dctN ha (toN p)
        | non => exact .sh h2
        | bl _ => exact .sh h2
        | int _ => exact .sh h2
        | str _ => exact .sh h2
        | tup _ => exact .sh h2
        | set _ => exact .sh h2
        | fn _ => exact .sh h2
        | exc _ _ => exact .sh h2
        | scr _ => exact .sh h2
    | _ => exact absurd rfl hc
theorem Srcs.step {H H' : Hp} {w w' : Own} {σ : L2.St} : ∀ {es : CEs} {ρ ρ' : PB.Env} {ds : List D} {vs : List V}, (∀ (i k : Nat) (d : D), k ≤ 1 → ρ[i]? = some (some (k, d)) → ∃ k', k' ≤ 1 ∧ ρ'[i]? = some (some (k', d))) → Sub (hid H w) (hid H' w') → Srcs Φ.Γ es ρ σ H w ds vs → Srcs Φ.Γ es ρ' σ H' w' ds vs
  | .nil, _, _, [], [], _, _, _ => True.intro
  | .cons c r, ρ, ρ', d :: ds, v :: vs, h, hs, s => by
    refine ⟨?_, Srcs.step h hs s.2⟩
    have s1 := s.1
    by_cases hc : npk c = true
    · rw [src_npk hc] at s1 ⊢
      exact DV.mono hs s1
    · cases c with
      | pk i =>
        obtain ⟨⟨k, hk, e⟩, e2⟩ := s1
        exact ⟨h i k d hk e, e2⟩
      | _ => exact absurd rfl hc
  | .nil, _, _, _ :: _, _, _, _, s => s.elim
  | .nil, _, _, [], _ :: _, _, _, s => s.elim
  | .cons _ _, _, _, [], _, _, _, s => s.elim
  | .cons _ _, _, _, _ :: _, [], _, _, s => s.elim
/-- walked operands' -/
def tSr (Φ : Fx) (es : CEs) : TA := fun σ H Q => ∃ ρ w t, Rep Φ.Γ Φ.N ρ σ H w ∧ Φ.N < t ∧ Lv w t ∧ Wp (denOps Φ.F true es ρ) (Ex Φ H w) fun p =>
  ∀ vs H' w', Rep Φ.Γ Φ.N p.2 σ H' w' → Stz Φ.N H w H' w' → Srcs Φ.Γ es p.2 σ H' w' (dsds p.1) vs → Q vs H'
theorem sr_nil {σ : L2.St} {H : Hp} {K : List V → Hp → Prop} (h : tSr Φ .nil σ H K) : K [] H := by
  obtain ⟨ρ, w, t, r, hN, lv, hw⟩ := h
  exact hw [] H w r .refl True.intro
theorem sr_cons {c : CE} {r : CEs} {σ : L2.St} {H : Hp} {K : List V → Hp → Prop} (h : tSr Φ (.cons c r) σ H K) : tO Φ c σ H fun x H1 => tSr Φ r σ H1 fun xs H2 => K (x :: xs) H2 := by
  obtain ⟨ρ, w, t, rp, hN, lv, hw⟩ := h
  by_cases hc : npk c = true
  · have key : tE Φ c σ H fun x H1 => tSr Φ r σ H1 fun xs H2 => K (x :: xs) H2 := by
      rw [denOps_cons hc] at hw
      refine ⟨ρ, w, t, rp, hN, lv, hw.bind.mono (fun _ _ e => e) fun p ep hp => ?_⟩
      intro v H1 w1 r1 s1 o1
      refine ⟨p.2, w1, t + 1, r1, Nat.le_succ_of_le hN, s1.lv hN lv, hp.bind.mono (fun _ _ e => e.step (s1.kp hN)) fun q eq hq => ?_⟩
      intro vs H2 w2 r2 s2 dd
      have o2 : OV Φ.Γ H2 w2 t p.1.1 p.1.2 v := o1.stz hN s2
      refine hq (v :: vs) H2 (drop w2 t) (r2.drop hN) ((s1.thenZ s2).shareT lv) ⟨?_, Srcs.step (fun i k d hk e => ⟨k, hk, e⟩) hid_drop dd⟩
      rw [src_npk hc]
      exact o2.share
    cases c <;> first | exact key | cases hc
  · cases c with
    | pk i =>
      have hw : Wp (if (slotD ρ i).isSome = true then (denOps Φ.F true r ρ).bind fun q => match q.2[i]? with
        | some (some (k, d)) => if k ≤ 2 then .ok ((0, d) :: q.1, if true = true then q.2.set i (some (min k 1, d)) else q.2) else .bad
        | _ => .bad
        else .bad) (Ex Φ H w) fun p => ∀ vs H' w', Rep Φ.Γ Φ.N p.2 σ H' w' → Stz Φ.N H w H' w' → Srcs Φ.Γ (.cons (.pk i) r) p.2 σ H' w' (dsds p.1) vs → K vs H' := hw
      split at hw
      · rename_i hs
        obtain ⟨d0, hs⟩ := Option.isSome_iff_exists.mp hs
        obtain ⟨k0, e0⟩ := slotD_some hs
        obtain ⟨v, h1, _⟩ := rp.at_ i k0 d0 e0
        refine ⟨v, h1, ρ, w, t, rp, hN, lv, hw.bind.mono (fun _ _ e => e) fun q eq hq => ?_⟩
        intro vs H' w' r' s' dd
        split at hq
        · rename_i k d e
          split at hq
          · rename_i hk
            obtain ⟨w2, v', g1, g2, g3, g4⟩ := r'.cap e hk
            rw [h1] at g1
            cases g1
            have hi := slot_lt r' e
            refine hq (v :: vs) H' w2 g2 (s'.trans g4) ⟨⟨⟨min k 1, Nat.min_le_right _ _, ?_⟩, h1⟩, Srcs.step (fun j k' d' hk' e' => ?_) g4.hid dd⟩
            · exact List.getElem?_set_self (by rw [r'.len]; exact hi)
            · by_cases hj : i = j
              · subst hj
                rw [e] at e'
                cases e'
                exact ⟨min k 1, Nat.min_le_right _ _, List.getElem?_set_self (by rw [r'.len]; exact hi)⟩
              · exact ⟨k', hk', (List.getElem?_set_ne hj).trans e'⟩
          · exact False.elim hq
        · exact False.elim hq
      · exact False.elim hw
    | _ => exact absurd rfl hc
/-- an iterator gives these items, one after another -/
def Fol (Φ : Fx) (ws : List Nat) (J : It) (xs : List D) (ρ : PB.Env) (σ : L2.St) (H : Hp) (w : Own) : Prop :=
  ∀ ρ' σ' H' w', Rep Φ.Γ Φ.N ρ' σ' H' w' → Stay Φ.N ws ρ σ H w ρ' σ' H' w' → ∀ j,
    (xs.length ≤ j → J.stop j H') ∧ ∀ d, xs[j]? = some d → J.go j H' ∧ ∀ v H2, J.yld j H' v H2 → Rep Φ.Γ Φ.N ρ' σ' H2 w' ∧ Stz Φ.N H' w' H2 w' ∧ DV Φ.Γ (hid H2 w') d v
theorem watch_mem : ∀ {es : CEs} {i : Nat} {r : CEs}, es = .cons (.pk i) r → i ∈ watchOf es
  | _, i, r, rfl => by show i ∈ i :: watchOf r; exact List.mem_cons_self
def tI (Φ : Fx) (it : Itk) (es : CEs) : TI := fun σ H R => ∃ ρ w t, Rep Φ.Γ Φ.N ρ σ H w ∧ Φ.N < t ∧ Lv w t ∧ Wp ((denOps Φ.F true es ρ).bind fun p => (iterD it (dsds p.1)).bind fun xs => .ok (xs, p.2)) (Ex Φ H w) fun q =>
  ∀ J H' w', Rep Φ.Γ Φ.N q.2 σ H' w' → Stz Φ.N H w H' w' → Fol Φ (watchOf es) J q.1 q.2 σ H' w' → R J H'
theorem iterD_calm (it : Itk) (l : List D) : (iterD it l).calm := by
  unfold iterD
  split <;> (try split) <;> exact True.intro
theorem ti_of {it : Itk} {es : CEs} {σ : L2.St} {H : Hp} {R : It → Hp → Prop} (h : tI Φ it es σ H R) : tSr Φ es σ H fun vs H1 => ∃ ds xs ρ w, iterD it ds = .ok xs ∧ Rep Φ.Γ Φ.N ρ σ H1 w ∧ Srcs Φ.Γ es ρ σ H1 w ds vs ∧ (∀ J, Fol Φ (watchOf es) J xs ρ σ H1 w → R J H1) := by
  obtain ⟨ρ, w, t, rp, hN, lv, hw⟩ := h
  refine ⟨ρ, w, t, rp, hN, lv, hw.bind.mono (fun _ _ e => e) fun p _ hp vs H' w' r' s' dd => ?_⟩
  obtain ⟨xs, ex, hq⟩ := calm_ok (iterD_calm _ _) hp.bind
  exact ⟨dsds p.1, xs, p.2, w', ex, r', dd, fun J f => hq J H' w' r' s' f⟩
theorem pixI {tg e : PySem.Expr} {t t' : TI} (h : PI X tg e t') (i : ∀ σ H R, t σ H R → t' σ H R) : PI X tg e t := ⟨fun pins s σ H R I q => h.run pins s σ H R I (i σ H R q)⟩
/-- a list or a tuple -/
def iSeq (K : PySem.W.Frag) (tl : TE) : TI := fun σ H R => tl σ H fun x H1 => ∃ a, x = .ref a ∧ (((∃ xs, SqL K H1 a xs) ∧ R (Itl K a) H1) ∨ ((∃ xs, SqT K H1 a xs) ∧ R (Itt K a) H1))
theorem pi_seq {tg l : PySem.Expr} {tl : TE} (hl : PE X l tl) : PI X tg l (iSeq X.K tl) := by
  refine ⟨fun pins s σ H R I h => ?_⟩
  refine thn (hl.run pins s σ H _ I h) fun v s1 ⟨x, H1, I1, r1, q1⟩ => ?_
  obtain ⟨a, e, q1⟩ := q1
  subst e
  cases r1
  rcases q1 with ⟨⟨xs, hq⟩, q⟩ | ⟨⟨xs, hq⟩, q⟩
  · obtain ⟨its, rv, p, hz⟩ := I1.list hq
    refine wpAny_pyIter_list p.isList ?_
    refine ⟨s1.heap.objs.size, [s1.heap.objs.size], _, _, H1, rfl, I1.kept (t' := s1.toks) fun b o e => Heap.get?_push_of_some _ e, turn_list a _, ⟨_, Heap.get?_push_size _ rfl, rfl, rfl⟩, fun b hb => ?_, q⟩
    have e : b = s1.heap.objs.size := by simpa using hb
    subst e
    exact I1.fpOk (Nat.le_refl _) (I1.hok.fresh (Nat.le_refl _))
  · obtain ⟨its, rv, p, hz⟩ := I1.tuple hq
    refine wpAny_pyIter_tuple (show s1.heap.IsTuple a its.toArray from p) ?_
    refine ⟨s1.heap.objs.size, [s1.heap.objs.size], _, _, H1, rfl, I1.kept (t' := s1.toks) fun b o e => Heap.get?_push_of_some _ e, turn_tuple a _, ⟨_, Heap.get?_push_size _ rfl, rfl, rfl⟩, fun b hb => ?_, q⟩
    have e : b = s1.heap.objs.size := by simpa using hb
    subst e
    exact I1.fpOk (Nat.le_refl _) (I1.hok.fresh (Nat.le_refl _))
theorem src1 {c : CE} {ρ : PB.Env} {σ : L2.St} {H : Hp} {w : Own} {ds : List D} {v : V} (h : Srcs Φ.Γ (.cons c .nil) ρ σ H w ds [v]) : ∃ d, ds = [d] ∧ Src Φ.Γ c ρ σ H w d v := by
  match ds, h with
  | [d], h => exact ⟨d, rfl, h.1⟩
  | d :: _ :: _, h => exact False.elim h.2
theorem watch1 {c : CE} : ∀ i, c = .pk i → i ∈ watchOf (.cons c .nil) := fun i e => by subst e; exact List.mem_cons_self
theorem iterD_seq {d : D} {xs : List D} (h : iterD .seq [d] = .ok xs) : d = .lst xs ∨ d = .tup xs := by
  cases d with
  | lst ys => cases h; exact .inl rfl
  | tup ys => cases h; exact .inr rfl
  | _ => cases h
theorem f_seq {tg l : PySem.Expr} {c : CE} (xo : XOk Φ.Γ X) (hl : PE X l (tO Φ c)) : PI X tg l (tI Φ .seq (.cons c .nil)) :=
  pixI (pi_seq hl) fun σ H R h => tO_mono (sr_cons (ti_of h)) fun x H1 h => by
    obtain ⟨ds, xs, ρ, w, ex, rp, ss, q⟩ := sr_nil h
    obtain ⟨d, rfl, s⟩ := src1 ss
    have o1 := s.o1 watch1 .refl rp
    rcases iterD_seq ex with rfl | rfl
    · obtain ⟨a, us, rfl, ha, da⟩ := o1.lst'
      refine ⟨a, rfl, .inl ⟨⟨us, SqL.of ha⟩, q _ fun ρ' σ' H' w' r' st j => ?_⟩⟩
      have o2 := s.o1 watch1 st r'
      obtain ⟨a', us', ea, ha', da'⟩ := o2.lst'
      cases ea
      refine ⟨fun hj => ⟨us', SqL.of ha', by rw [← da'.length]; exact hj⟩, fun d hd => ?_⟩
      obtain ⟨u, hu, du⟩ := da'.get hd
      refine ⟨⟨us', u, SqL.of ha', hu⟩, fun v H2 hy => ?_⟩
      obtain ⟨rfl, hy⟩ := hy
      have := hy us' (SqL.of ha')
      rw [hu] at this
      cases this
      exact ⟨r', .refl, du⟩
    · obtain ⟨a, us, rfl, ha, da⟩ := o1.tup'
      refine ⟨a, rfl, .inr ⟨⟨us, by rw [xo.K]; exact ha⟩, q _ fun ρ' σ' H' w' r' st j => ?_⟩⟩
      have o2 := s.o1 watch1 st r'
      obtain ⟨a', us', ea, ha', da'⟩ := o2.tup'
      cases ea
      rw [← xo.K] at ha'
      refine ⟨fun hj => ⟨us', ha', by rw [← da'.length]; exact hj⟩, fun d hd => ?_⟩
      obtain ⟨u, hu, du⟩ := da'.get hd
      refine ⟨⟨us', u, ha', hu⟩, fun v H2 hy => ?_⟩
      obtain ⟨rfl, hy⟩ := hy
      have := hy us' ha'
      rw [hu] at this
      cases this
      exact ⟨r', .refl, du⟩

theorem f_rng1 {tg a : PySem.Expr} {c : CE} {p pos : Pos} (xo : XOk Φ.Γ X) (hg : Gl X "range") (hm : X.mg "range" = none) (ha : PE X a (tO Φ c)) (hs : starEach [a] X.env = [(false, eval a X.env)] := by rfl) : PI X tg (.Call (.Name "range" p) [a] [] pos) (tI Φ .rng1 (.cons c .nil)) :=
  pixI (pi_range1 hg hm (pa_cons ha pa_nil hs) hs) fun σ H R h => tO_mono (sr_cons (ti_of h)) fun x H1 h => by
    obtain ⟨ds, xs, ρ, w, ex, rp, ss, q⟩ := sr_nil h
    obtain ⟨d, rfl, s⟩ := src1 ss
    have o1 := s.o1 watch1 .refl rp
    cases d with
    | int n =>
      have ex : (if -(2 ^ 62) ≤ n ∧ n < 2 ^ 62 then Res.ok ((List.range n.toNat).map fun k => D.int (k : Nat)) else .bad) = .ok xs := ex
      split at ex
      · rename_i hc
        cases ex
        have ev : x = .int n := by
          cases o1 with
          | sh h => cases h; rfl
        subst ev
        refine ⟨n, rfl, hc.1, hc.2, q _ fun ρ' σ' H' w' r' st j => ⟨fun hj => ?_, fun d hd => ?_⟩⟩
        · rw [List.length_map, List.length_range] at hj
          exact hj
        · rw [List.getElem?_map] at hd
          obtain ⟨k, hk, rfl⟩ := Option.map_eq_some_iff.mp hd
          obtain ⟨hl, ek⟩ := List.getElem?_eq_some_iff.mp hk
          rw [List.length_range] at hl
          rw [List.getElem_range] at ek
          subst ek
          refine ⟨hl, fun v H2 hy => ?_⟩
          obtain ⟨rfl, rfl⟩ := hy
          rw [Int.zero_add]
          exact ⟨r', .refl, .int _⟩
      · cases ex
    | _ => cases ex
theorem f_rng2 {tg a b : PySem.Expr} {c c2 : CE} {p pos : Pos} (xo : XOk Φ.Γ X) (hg : Gl X "range") (hm : X.mg "range" = none) (ha : PE X a (tO Φ c)) (hb : PE X b (tO Φ c2)) (hs : starEach [a, b] X.env = [(false, eval a X.env), (false, eval b X.env)] := by rfl) (hs2 : starEach [b] X.env = [(false, eval b X.env)] := by rfl) :
    PI X tg (.Call (.Name "range" p) [a, b] [] pos) (tI Φ .rng2 (.cons c (.cons c2 .nil))) :=
  pixI (pi_range2 hg hm (pa_cons ha (pa_cons hb pa_nil hs2) (by rw [hs, hs2])) hs hs2) fun σ H R h => tO_mono (sr_cons (ti_of h)) fun x H1 h => tO_mono (sr_cons h) fun y H2 h => by
    obtain ⟨ds, xs, ρ, w, ex, rp, ss, q⟩ := sr_nil h
    match ds, ss with
    | [d1, d2], ss =>
      have o1 := ss.1.o1 (ws := watchOf (.cons c (.cons c2 .nil))) (fun i e => by subst e; exact List.mem_cons_self) .refl rp
      have o2 := ss.2.1.o1 (ws := watchOf (.cons c (.cons c2 .nil))) (fun i e => by
        subst e
        cases c <;> first | exact List.mem_cons_self | exact List.mem_cons_of_mem _ List.mem_cons_self) .refl rp
      cases d1 with
      | int lo =>
        cases d2 with
        | int hi =>
          have ex : (if (-(2 ^ 62) ≤ lo ∧ lo < 2 ^ 62) ∧ (-(2 ^ 62) ≤ hi ∧ hi < 2 ^ 62) then Res.ok ((List.range (hi - lo).toNat).map fun k => D.int (lo + (k : Nat))) else .bad) = .ok xs := ex
          split at ex
          · rename_i hc
            cases ex
            have ev : x = .int lo := by
              cases o1 with
              | sh h => cases h; rfl
            have ev2 : y = .int hi := by
              cases o2 with
              | sh h => cases h; rfl
            subst ev ev2
            refine ⟨lo, hi, rfl, ⟨hc.1.1, hc.1.2, hc.2.1, hc.2.2⟩, q _ fun ρ' σ' H' w' r' st j => ⟨fun hj => ?_, fun d hd => ?_⟩⟩
            · rw [List.length_map, List.length_range] at hj
              exact hj
            · rw [List.getElem?_map] at hd
              obtain ⟨k, hk, rfl⟩ := Option.map_eq_some_iff.mp hd
              obtain ⟨hl, ek⟩ := List.getElem?_eq_some_iff.mp hk
              rw [List.length_range] at hl
              rw [List.getElem_range] at ek
              subst ek
              refine ⟨hl, fun v H2 hy => ?_⟩
              obtain ⟨rfl, rfl⟩ := hy
              exact ⟨r', .refl, .int _⟩
          · cases ex
        | _ => cases ex
      | _ => cases d2 <;> cases ex
    | d :: _ :: _ :: _, ss => exact False.elim ss.2.2
/-- a new pair, given by the iterator -/
theorem pair_new {ρ : PB.Env} {σ : L2.St} {H : Hp} {w : Own} {T : Addr} {x y : V} {dx dy : D} (r : Rep Φ.Γ Φ.N ρ σ H w) (hT : H T = none) (hx : DV Φ.Γ (hid H w) dx x) (hy : DV Φ.Γ (hid H w) dy y) :
    Rep Φ.Γ Φ.N ρ σ (upd H T (.tup [x, y])) w ∧ Stz Φ.N H w (upd H T (.tup [x, y])) w ∧ DV Φ.Γ (hid (upd H T (.tup [x, y])) w) (.tup [dx, dy]) (.ref T) := by
  have sub : Sub H (upd H T (.tup [x, y])) := fun b u e => by
    rw [upd_ne (ne_of_none e hT)]
    exact e
  have wT : w T = none := by
    cases e : w T with
    | none => rfl
    | some j =>
      obtain ⟨u, hu⟩ := r.al T j e
      rw [hT] at hu
      cases hu
  have s : Stz Φ.N H w (upd H T (.tup [x, y])) w := ⟨fun b u e _ => sub b u e, fun _ _ _ e => e, fun _ _ e _ => e, fun _ _ e _ => e⟩
  refine ⟨rep_step r sub (fun _ _ _ => rfl) fun a j e => ?_, s, .tup (SqT.of (hid_of upd_same wT)) (.cons (DV.mono s.hid hx) (.cons (DV.mono s.hid hy) .nil))⟩
  obtain ⟨u, hu⟩ := r.al a j e
  exact ⟨u, sub a u hu⟩
theorem f_enm {elts : List PySem.Expr} {kk : Nat} {tpos : Pos} {l : PySem.Expr} {c : CE} {p pos : Pos} (xo : XOk Φ.Γ X) (hg : Gl X "enumerate") (hm : X.mg "enumerate" = none) (hl : PE X l (tO Φ c)) (hs : starEach [l] X.env = [(false, eval l X.env)] := by rfl) :
    PI X (.Tuple elts kk tpos) (.Call (.Name "enumerate" p) [l] [] pos) (tI Φ .enm (.cons c .nil)) :=
  pixI (pi_enum hg hm (pa_cons hl pa_nil hs) hs) fun σ H R h => tO_mono (sr_cons (ti_of h)) fun x H1 h => by
    obtain ⟨ds, xs, ρ, w, ex, rp, ss, q⟩ := sr_nil h
    obtain ⟨d, rfl, s⟩ := src1 ss
    have o1 := s.o1 watch1 .refl rp
    cases d with
    | lst ys =>
      cases ex
      obtain ⟨a, us, rfl, ha, da⟩ := o1.lst'
      refine ⟨a, us, rfl, SqL.of ha, q _ fun ρ' σ' H' w' r' st j => ?_⟩
      obtain ⟨a', us', ea, ha', da'⟩ := (s.o1 watch1 st r').lst'
      cases ea
      refine ⟨fun hj => ⟨us', SqL.of ha', by rw [← da'.length]; simpa using hj⟩, fun d hd => ?_⟩
      rw [List.getElem?_map, List.getElem?_zipIdx] at hd
      simp only [Option.map_map] at hd
      obtain ⟨d0, hd0, rfl⟩ := Option.map_eq_some_iff.mp hd
      obtain ⟨u, hu, du⟩ := da'.get hd0
      refine ⟨⟨us', u, SqL.of ha', hu⟩, fun v H2 hy => ?_⟩
      obtain ⟨T, x, rfl, hT, rfl, hy⟩ := hy
      have := hy us' (SqL.of ha')
      rw [hu] at this
      cases this
      have pn := pair_new r' hT (.int (j : Nat)) du
      simpa using pn
    | _ => cases ex
theorem f_zip {elts : List PySem.Expr} {kk : Nat} {tpos : Pos} {l l2 : PySem.Expr} {c c2 : CE} {p pos : Pos} (xo : XOk Φ.Γ X) (hg : Gl X "zip") (hm : X.mg "zip" = none) (hl : PE X l (tO Φ c)) (hl2 : PE X l2 (tO Φ c2))
    (hs : starEach [l, l2] X.env = (false, eval l X.env) :: starEach [l2] X.env := by rfl) (hs2 : starEach [l2] X.env = (false, eval l2 X.env) :: starEach [] X.env := by rfl) (hpl : (backTo pos (starEach [l2] X.env)).any (·.1) = false := by rfl) :
    PI X (.Tuple elts kk tpos) (.Call (.Name "zip" p) [l, l2] [] pos) (tI Φ .zip (.cons c (.cons c2 .nil))) :=
  pixI (RZ.pi_zipA hg hm (pa_cons hl (pa_cons hl2 pa_nil hs2) hs) hs hpl) fun σ H R h => tO_mono (sr_cons (ti_of h)) fun x H1 h => tO_mono (sr_cons h) fun y H2 h => by
    obtain ⟨ds, xs, ρ, w, ex, rp, ss, q⟩ := sr_nil h
    match ds, ss with
    | [d1, d2], ss =>
      have w1 : ∀ i, c = .pk i → i ∈ watchOf (.cons c (.cons c2 .nil)) := fun i e => by subst e; exact List.mem_cons_self
      have w2 : ∀ i, c2 = .pk i → i ∈ watchOf (.cons c (.cons c2 .nil)) := fun i e => by
        subst e
        cases c <;> first | exact List.mem_cons_self | exact List.mem_cons_of_mem _ List.mem_cons_self
      have o1 := ss.1.o1 w1 .refl rp
      have o2 := ss.2.1.o1 w2 .refl rp
      cases d1 with
      | lst as =>
        cases d2 with
        | lst bs =>
          cases ex
          obtain ⟨a, us, rfl, ha, da⟩ := o1.lst'
          obtain ⟨b, vs, rfl, hb, db⟩ := o2.lst'
          refine ⟨a, b, us, vs, rfl, .inl ⟨SqL.of ha, SqL.of hb, q _ fun ρ' σ' H' w' r' st j => ?_⟩⟩
          obtain ⟨a', us', ea, ha', da'⟩ := (ss.1.o1 w1 st r').lst'
          obtain ⟨b', vs', eb, hb', db'⟩ := (ss.2.1.o1 w2 st r').lst'
          cases ea
          cases eb
          refine ⟨fun hj => ⟨us', vs', SqL.of ha', SqL.of hb', ?_⟩, fun d hd => ?_⟩
          · rw [List.length_zipWith] at hj
            rw [← da'.length, ← db'.length]
            omega
          · rw [List.getElem?_zipWith] at hd
            split at hd
            · rename_i u0 v0 hu0 hv0
              cases hd
              obtain ⟨u, hu, du⟩ := da'.get hu0
              obtain ⟨v, hv, dv⟩ := db'.get hv0
              refine ⟨⟨us', vs', u, v, SqL.of ha', SqL.of hb', hu, hv⟩, fun v1 H3 hy => ?_⟩
              obtain ⟨T, x1, y1, rfl, hT, rfl, hy1, hy2⟩ := hy
              have e1 := hy1 us' (SqL.of ha')
              have e2 := hy2 vs' (SqL.of hb')
              rw [hu] at e1
              rw [hv] at e2
              cases e1
              cases e2
              exact pair_new r' hT du dv
            · cases hd
        | _ => cases ex
      | tup as =>
        cases d2 with
        | tup bs =>
          cases ex
          obtain ⟨a, us, rfl, ha, da⟩ := o1.tup'
          obtain ⟨b, vs, rfl, hb, db⟩ := o2.tup'
          rw [← xo.K] at ha hb
          refine ⟨a, b, us, vs, rfl, .inr ⟨ha, hb, q _ fun ρ' σ' H' w' r' st j => ?_⟩⟩
          obtain ⟨a', us', ea, ha', da'⟩ := (ss.1.o1 w1 st r').tup'
          obtain ⟨b', vs', eb, hb', db'⟩ := (ss.2.1.o1 w2 st r').tup'
          cases ea
          cases eb
          rw [← xo.K] at ha' hb'
          refine ⟨fun hj => ⟨us', vs', ha', hb', ?_⟩, fun d hd => ?_⟩
          · rw [List.length_zipWith] at hj
            rw [← da'.length, ← db'.length]
            omega
          · rw [List.getElem?_zipWith] at hd
            split at hd
            · rename_i u0 v0 hu0 hv0
              cases hd
              obtain ⟨u, hu, du⟩ := da'.get hu0
              obtain ⟨v, hv, dv⟩ := db'.get hv0
              refine ⟨⟨us', vs', u, v, ha', hb', hu, hv⟩, fun v1 H3 hy => ?_⟩
              obtain ⟨T, x1, y1, rfl, hT, rfl, hy1, hy2⟩ := hy
              have e1 := hy1 us' ha'
              have e2 := hy2 vs' hb'
              rw [hu] at e1
              rw [hv] at e2
              cases e1
              cases e2
              exact pair_new r' hT du dv
            · cases hd
        | _ => cases ex
      | _ => cases d2 <;> cases ex
    | d :: _ :: _ :: _, ss => exact False.elim ss.2.2
end
end
section
/-! Soundness 18: for. -/
open PySem PySem.Spec PyProof.Rows L2

section
variable {Φ : Fx} {X : Cx} {z z' : List Nat}
def forF (F : Fn) (t : Tg) (body : CSs) : D → PB.Env → Res (Fl × PB.Env) := fun x ρ1 => (asgT F t (0, x) ρ1).bind fun ρ2 => denSs F body ρ2
theorem s_for {tg iter : PySem.Expr} {body : List Stmt} {t : Tg} {it : Itk} {src : CEs} {cs : CSs} {pos : Pos} (xo : XOk Φ.Γ X) (po : PassesOwn (model X.prog X.w) X.A X.env X.xe) (hi : PI X tg iter (tI Φ it src)) (hg : PG X tg (tG Φ z' t)) (hb : PSs X body (tSs Φ z' cs))
    (hz : ∀ i ∈ z', i ∈ z) (hw : ∀ i ∈ watchOf src, i ∉ z') (hs : ∀ x, foldedSetIterable iter X.env x = pure x := by intro _; rfl) : PS X (.For tg iter body [] pos) (tS Φ z (.forS t it src cs)) :=
  psI (ps_for po xo.calm hi hg hb hs) fun D σ H h => by
    obtain ⟨ρ, w, rp, lv, hw0⟩ := h
    have hw0 : Wp ((denOps Φ.F true src ρ).bind fun p => (iterD it (dsds p.1)).bind fun xs => forL (watchOf src) (forF Φ.F t cs) xs p.2) (Ex Φ H w) (SQ Φ z D σ H w) := hw0
    have hw1 : Wp ((denOps Φ.F true src ρ).bind fun p => (iterD it (dsds p.1)).bind fun xs => .ok (xs, p.2)) (Ex Φ H w) fun q => Wp (forL (watchOf src) (forF Φ.F t cs) q.1 q.2) (Ex Φ H w) (SQ Φ z D σ H w) := by
      revert hw0
      cases denOps Φ.F true src ρ with
      | ok p =>
        show Wp ((iterD it (dsds p.1)).bind fun xs => forL (watchOf src) (forF Φ.F t cs) xs p.2) _ _ → Wp ((iterD it (dsds p.1)).bind fun xs => .ok (xs, p.2)) _ _
        cases iterD it (dsds p.1) with
        | ok xs => exact fun h => h
        | exc _ _ => exact fun h => h
        | bad => exact fun h => h
      | exc _ _ => exact fun h => h
      | bad => exact fun h => h
    refine ⟨ρ, w, Φ.N + 1, rp, Nat.lt_succ_self _, lv, hw1.mono (fun _ _ e => e) fun q _ hq J H1 w1 r1 s1 fol => ?_⟩
    obtain ⟨xs, ρ1⟩ := q
    have l1 : Lv w1 (Φ.N + 1) := s1.lv (Nat.lt_succ_self _) lv
    refine ⟨fun j m σ' H' => m = xs.length - j ∧ j ≤ xs.length ∧ ∃ ρ' w', Rep Φ.Γ Φ.N ρ' σ' H' w' ∧ Lv w' (Φ.N + 1) ∧ Stay Φ.N (watchOf src) ρ1 σ H1 w1 ρ' σ' H' w' ∧ Off z' σ σ' ∧ Wp (forL (watchOf src) (forF Φ.F t cs) (xs.drop j) ρ') (Ex Φ H' w') (SQ Φ z D σ' H' w'),
      ⟨xs.length, by simp, Nat.zero_le _, ρ1, w1, r1, l1, .refl, .refl, hq.mono (fun _ _ e => e.step s1.kp) fun p _ hp => hp.step s1.kp .refl⟩, ?_⟩
    rintro j m σ' H' ⟨rfl, hj, ρ', w', r', l', st, of, hw'⟩
    obtain ⟨f1, f2⟩ := fol ρ' σ' H' w' r' st j
    by_cases hlt : j < xs.length
    · right
      have ex : xs.drop j = xs[j] :: xs.drop (j + 1) := List.drop_eq_getElem_cons hlt
      rw [ex] at hw'
      obtain ⟨g1, g2⟩ := f2 xs[j] (List.getElem?_eq_getElem hlt)
      refine ⟨g1, fun σ2 H2 => ∃ ρ2 w2, Rep Φ.Γ Φ.N ρ2 σ2 H2 w2 ∧ Lv w2 (Φ.N + 1) ∧ Stay Φ.N (watchOf src) ρ1 σ H1 w1 ρ2 σ2 H2 w2 ∧ Off z' σ σ2 ∧ Wp (forL (watchOf src) (forF Φ.F t cs) (xs.drop (j + 1)) ρ2) (Ex Φ H2 w2) (SQ Φ z D σ2 H2 w2),
        fun σ2 H2 ⟨ρ2, w2, q⟩ => ⟨xs.length - (j + 1), by omega, rfl, hlt, ρ2, w2, q⟩, fun v H2 hy => ?_⟩
      obtain ⟨r2, s2, dv⟩ := g2 v H2 hy
      have hw2 : Wp ((forF Φ.F t cs xs[j] ρ').bind fun p => match p.1 with
        | .nx => if still (watchOf src) ρ' p.2 = true then forL (watchOf src) (forF Φ.F t cs) (xs.drop (j + 1)) p.2 else .bad
        | .cnt => if still (watchOf src) ρ' p.2 = true then forL (watchOf src) (forF Φ.F t cs) (xs.drop (j + 1)) p.2 else .bad
        | .brk => .ok (.nx, p.2)
        | .ret v => .ok (.ret v, p.2)) (Ex Φ H' w') (SQ Φ z D σ' H' w') := hw'
      have hw3 : Wp ((asgT Φ.F t (0, xs[j]) ρ').bind fun ρ2 => denSs Φ.F cs ρ2) (Ex Φ H' w') _ := hw2.bind
      refine ⟨ρ', w', Φ.N + 1, Φ.N + 1 + 1, (0, xs[j]), r2, Nat.lt_succ_self _, Nat.lt_succ_self _, l'.mono (Nat.le_succ _), dv, hw3.bind.mono (fun _ _ e => e.step s2.kp) fun ρ3 _ hp σ3 H3 w3 r3 s3 o3 => ?_⟩
      have k3 : Kp Φ.N H' w' H3 w3 := s2.kp.trans (s3.kp (Nat.lt_succ_self _))
      have l3 : Lv w3 (Φ.N + 1) := s3.lv (Nat.lt_succ_self _) (l'.mono (Nat.le_succ _))
      refine ⟨ρ3, w3, r3, l3, hp.mono (fun _ _ e => e.step k3) fun p _ hp2 => ?_⟩
      have next : ∀ ρ4, (if still (watchOf src) ρ' ρ4 = true then Wp (forL (watchOf src) (forF Φ.F t cs) (xs.drop (j + 1)) ρ4) (Ex Φ H' w') (SQ Φ z D σ' H' w') else False) → ∀ σ4 H4 w4, Rep Φ.Γ Φ.N ρ4 σ4 H4 w4 → Lv w4 (Φ.N + 1) → Kp Φ.N H3 w3 H4 w4 → Off z' σ3 σ4 →
          ∃ ρ2 w2, Rep Φ.Γ Φ.N ρ2 σ4 H4 w2 ∧ Lv w2 (Φ.N + 1) ∧ Stay Φ.N (watchOf src) ρ1 σ H1 w1 ρ2 σ4 H4 w2 ∧ Off z' σ σ4 ∧ Wp (forL (watchOf src) (forF Φ.F t cs) (xs.drop (j + 1)) ρ2) (Ex Φ H4 w2) (SQ Φ z D σ4 H4 w2) := fun ρ4 hc σ4 H4 w4 r4 l4 k4 o4 => by
        split at hc
        · rename_i hst
          have k5 := k3.trans k4
          have o5 : Off z' σ' σ4 := o3.trans o4
          exact ⟨ρ4, w4, r4, l4, st.trans ⟨k5, fun i hi k d _ e => still_sl hst i hi k d e, fun i hi => o5 i (hw i hi)⟩, of.trans o5, hc.mono (fun _ _ e => e.step k5) fun p _ hp => hp.step k5 (o5.mono hz)⟩
        · exact hc.elim
      obtain ⟨f, ρ4⟩ := p
      cases f with
      | nx =>
        refine fun σ4 H4 w4 r4 l4 k4 o4 => next ρ4 ?_ σ4 H4 w4 r4 l4 k4 o4
        have hp2 : Wp (if still (watchOf src) ρ' ρ4 = true then forL (watchOf src) (forF Φ.F t cs) (xs.drop (j + 1)) ρ4 else .bad) (Ex Φ H' w') (SQ Φ z D σ' H' w') := hp2
        split at hp2
        · rename_i c
          rw [if_pos c]
          exact hp2
        · exact False.elim hp2
      | cnt =>
        refine fun σ4 H4 w4 r4 l4 k4 o4 => next ρ4 ?_ σ4 H4 w4 r4 l4 k4 o4
        have hp2 : Wp (if still (watchOf src) ρ' ρ4 = true then forL (watchOf src) (forF Φ.F t cs) (xs.drop (j + 1)) ρ4 else .bad) (Ex Φ H' w') (SQ Φ z D σ' H' w') := hp2
        split at hp2
        · rename_i c
          rw [if_pos c]
          exact hp2
        · exact False.elim hp2
      | brk =>
        have hp2 : SQ Φ z D σ' H' w' (.nx, ρ4) := hp2
        exact fun σ4 H4 w4 r4 l4 k4 o4 => hp2 σ4 H4 w4 r4 l4 (k3.trans k4) ((o3.trans o4).mono hz)
      | ret kd =>
        have hp2 : SQ Φ z D σ' H' w' (.ret kd, ρ4) := hp2
        exact fun v σ4 H4 w4 r4 l4 k4 o4 ov => hp2 v σ4 H4 w4 r4 l4 (k3.trans k4) ((o3.trans o4).mono hz) ov
    · left
      have ej : j = xs.length := by omega
      subst ej
      rw [List.drop_length] at hw'
      have hw' : SQ Φ z D σ' H' w' (.nx, ρ') := hw'
      exact ⟨f1 (Nat.le_refl _), hw' σ' H' w' r' l' .refl .refl⟩
end
end
section
/-! Soundness 19: list comprehensions. -/
open PySem PySem.Spec PyProof.Rows L2

/-! ### own slots -/
theorem wipeD_len : ∀ (own : List Nat) (ρ : PB.Env), (wipeD own ρ).length = ρ.length
  | [], _ => rfl
  | i :: r, ρ => by
    show (wipeD r (ρ.set i none)).length = _
    rw [wipeD_len r, List.length_set]
theorem wipeD_out : ∀ {own : List Nat} {ρ : PB.Env} {j : Nat}, j ∉ own → (wipeD own ρ)[j]? = ρ[j]?
  | [], _, _, _ => rfl
  | i :: r, ρ, j, h => by
    simp only [List.mem_cons, not_or] at h
    show (wipeD r (ρ.set i none))[j]? = _
    rw [wipeD_out h.2, List.getElem?_set_ne (Ne.symm h.1)]
theorem wipeD_in : ∀ {own : List Nat} {ρ : PB.Env} {j : Nat} {x : KD}, (wipeD own ρ)[j]? = some (some x) → j ∉ own
  | [], _, _, _, _ => by simp
  | i :: r, ρ, j, x, h => by
    have h : (wipeD r (ρ.set i none))[j]? = some (some x) := h
    have h1 := wipeD_in h
    rw [wipeD_out h1] at h
    simp only [List.mem_cons, not_or]
    refine ⟨fun e => ?_, h1⟩
    subst e
    by_cases hl : j < ρ.length
    · rw [List.getElem?_set_self hl] at h
      cases h
    · rw [List.getElem?_eq_none (by rw [List.length_set]; omega)] at h
      cases h
theorem unwD_len : ∀ (own : List Nat) (ρ0 ρ : PB.Env), (unwD own ρ0 ρ).length = ρ.length
  | [], _, _ => rfl
  | i :: r, ρ0, ρ => by
    show (unwD r ρ0 (ρ.set i (ρ0.getD i none))).length = _
    rw [unwD_len r, List.length_set]
theorem unwD_out : ∀ {own : List Nat} {ρ0 ρ : PB.Env} {j : Nat}, j ∉ own → (unwD own ρ0 ρ)[j]? = ρ[j]?
  | [], _, _, _, _ => rfl
  | i :: r, ρ0, ρ, j, h => by
    simp only [List.mem_cons, not_or] at h
    show (unwD r ρ0 (ρ.set i (ρ0.getD i none)))[j]? = _
    rw [unwD_out h.2, List.getElem?_set_ne (Ne.symm h.1)]
theorem unwD_in : ∀ {own : List Nat} {ρ0 ρ : PB.Env} {j : Nat}, j ∈ own → j < ρ.length → (unwD own ρ0 ρ)[j]? = some (ρ0.getD j none)
  | i :: r, ρ0, ρ, j, h, hl => by
    show (unwD r ρ0 (ρ.set i (ρ0.getD i none)))[j]? = _
    by_cases hr : j ∈ r
    · exact unwD_in hr (by rw [List.length_set]; exact hl)
    · rw [unwD_out hr]
      rcases List.mem_cons.mp h with e | e
      · subst e
        exact List.getElem?_set_self hl
      · exact absurd e hr
/-- the own slots hold nothing of their own -/
def Own0 (own : List Nat) (ρ : PB.Env) : Prop := ∀ i ∈ own, ∀ k d, ρ[i]? = some (some (k, d)) → k = 0
section
variable {Γ : Gx} {N : Nat} {σ : L2.St} {H : Hp}
theorem Rep.sh (own : List Nat) : ∀ {ρ : PB.Env} {w : Own}, Rep Γ N ρ σ H w → ∃ w', Rep Γ N (shD own ρ) σ H w' ∧ Stz N H w H w' ∧ (∀ i, i ∉ own → (shD own ρ)[i]? = ρ[i]?) ∧ (∀ i k d, (shD own ρ)[i]? = some (some (k, d)) → (∃ k', ρ[i]? = some (some (k', d)) ∧ k ≤ k') ∧ (i ∈ own → k = 0)) := by
  induction own with
  | nil => exact fun {ρ w} r => ⟨w, r, .refl, fun _ _ => rfl, fun i k d e => ⟨⟨k, e, Nat.le_refl _⟩, fun h => nomatch h⟩⟩
  | cons i own ih =>
    intro ρ w r
    have one : ∃ w1, Rep Γ N (ρ.set i ((ρ.getD i none).map fun p => (0, p.2))) σ H w1 ∧ Stz N H w H w1 := by
      by_cases hi : i < N
      · cases e : ρ[i]? with
        | none => rw [List.getElem?_eq_none_iff, r.len] at e; omega
        | some s =>
          cases s with
          | none =>
            have : ρ.getD i none = none := by rw [List.getD_eq_getElem?_getD, e]; rfl
            rw [this]
            have r1 := r.clear i
            exact ⟨_, r1, ⟨fun _ _ e _ => e, fun _ _ _ e => drop_none e, fun a l e hl => drop_ne e (by omega), fun a l e hl => (drop_some e).1⟩⟩
          | some kd =>
            have : ρ.getD i none = some kd := by rw [List.getD_eq_getElem?_getD, e]; rfl
            rw [this]
            obtain ⟨v, h1, h2⟩ := r.at_ i kd.1 kd.2 e
            have sh : DV Γ (hid H (PB.drop w i)) kd.2 v := h2.share
            have r1 := (r.clear i).put (k := 0) hi h1 sh
            rw [List.set_set] at r1
            exact ⟨_, r1, ⟨fun _ _ e _ => e, fun _ _ _ e => drop_none e, fun a l e hl => drop_ne e (by omega), fun a l e hl => (drop_some e).1⟩⟩
      · rw [List.set_eq_of_length_le (by rw [r.len]; omega)]
        exact ⟨w, r, .refl⟩
    obtain ⟨w1, r1, s1⟩ := one
    obtain ⟨w2, r2, s2, h1, h2⟩ := ih r1
    refine ⟨w2, r2, s1.trans s2, fun j hj => ?_, fun j k d e => ?_⟩
    · simp only [List.mem_cons, not_or] at hj
      exact (h1 j hj.2).trans (List.getElem?_set_ne (Ne.symm hj.1))
    · obtain ⟨⟨k', e', hk⟩, h0⟩ := h2 j k d e
      by_cases hj : i = j
      · subst hj
        by_cases hl : i < ρ.length
        · rw [List.getElem?_set_self hl] at e'
          have e' := Option.some.inj e'
          obtain ⟨p, hp, eq⟩ := Option.map_eq_some_iff.mp e'
          cases eq
          refine ⟨⟨p.1, ?_, by omega⟩, fun _ => by omega⟩
          rw [List.getD_eq_getElem?_getD] at hp
          cases q : ρ[i]? with
          | none => rw [q] at hp; cases hp
          | some s => rw [q] at hp; exact congrArg some hp
        · rw [List.getElem?_eq_none (by rw [List.length_set]; omega)] at e'
          cases e'
      · rw [List.getElem?_set_ne hj] at e'
        refine ⟨⟨k', e', hk⟩, fun hm => ?_⟩
        rcases List.mem_cons.mp hm with z | z
        · exact absurd z.symm hj
        · exact h0 z
theorem wipe_out {vs : List Nat} {j : Nat} (h : j ∉ vs) : (wipe σ vs)[j]? = σ[j]? := by
  induction vs with
  | nil => rfl
  | cons v vs ih =>
    simp only [List.mem_cons, not_or] at h
    unfold wipe
    rw [List.getElem?_set_ne (Ne.symm h.1), ih h.2]
theorem wipe_in {vs : List Nat} {j : Nat} (h : j ∈ vs) (hl : j < σ.length) : (wipe σ vs)[j]? = some none := by
  induction vs with
  | nil => cases h
  | cons v vs ih =>
    unfold wipe
    by_cases e : v = j
    · subst e
      exact List.getElem?_set_self (by rw [wipe_length]; exact hl)
    · rw [List.getElem?_set_ne e]
      rcases List.mem_cons.mp h with z | z
      · exact absurd z.symm e
      · exact ih z
theorem wipe_eq {vs : List Nat} {σ' : L2.St} (hl : σ'.length = σ.length) (h : Off vs (wipe σ vs) σ') : wipe σ' vs = wipe σ vs := by
  apply List.ext_getElem?
  intro j
  by_cases hj : j ∈ vs
  · by_cases hlt : j < σ.length
    · rw [wipe_in hj hlt, wipe_in hj (by rw [hl]; exact hlt)]
    · rw [List.getElem?_eq_none (by rw [wipe_length]; omega), List.getElem?_eq_none (by rw [wipe_length]; omega)]
  · rw [wipe_out hj, h j hj]
theorem Rep.wiped {ρ : PB.Env} {w : Own} (own : List Nat) (r : Rep Γ N ρ σ H w) : Rep Γ N (wipeD own ρ) (wipe σ own) H w where
  len := by rw [wipeD_len]; exact r.len
  lenS := by rw [wipe_length]; exact r.lenS
  at_ := fun j k d e => by
    have hj := wipeD_in e
    rw [wipeD_out hj] at e
    obtain ⟨v, h1, h2⟩ := r.at_ j k d e
    exact ⟨v, by rw [wipe_out hj]; exact h1, h2⟩
  al := r.al
/-- the own slots as they were -/
theorem Rep.unwiped {ρ0 ρ : PB.Env} {σ1 : L2.St} {H1 : Hp} {w w1 : Own} (own : List Nat) (r0 : Rep Γ N ρ0 σ H w) (o0 : Own0 own ρ0) (r : Rep Γ N ρ σ1 H1 w1) (k : Kp N H w H1 w1) (of : Off own (wipe σ own) σ1) : Rep Γ N (unwD own ρ0 ρ) σ H1 w1 where
  len := by rw [unwD_len]; exact r.len
  lenS := r0.lenS
  at_ := fun j k' d e => by
    by_cases hj : j ∈ own
    · by_cases hl : j < ρ.length
      · rw [unwD_in hj hl] at e
        have e := Option.some.inj e
        have e0 : ρ0[j]? = some (some (k', d)) := by
          rw [List.getD_eq_getElem?_getD] at e
          cases q : ρ0[j]? with
          | none => rw [q] at e; cases e
          | some s => rw [q] at e; exact congrArg some e
        obtain ⟨v, h1, h2⟩ := r0.at_ j k' d e0
        have := o0 j hj k' d e0
        subst this
        exact ⟨v, h1, DV.mono k.hid h2⟩
      · rw [List.getElem?_eq_none (by rw [unwD_len]; omega)] at e
        cases e
    · rw [unwD_out hj] at e
      obtain ⟨v, h1, h2⟩ := r.at_ j k' d e
      refine ⟨v, ?_, h2⟩
      rw [of j hj, wipe_out hj] at h1
      exact h1
  al := r.al
end

/-! ### list comprehensions -/
/-- one turn -/
def lcF (F : Fn) (own : List Nat) (t : Tg) (ifs : CT) (elt : CE) : D → PB.Env → Res (Option KD × PB.Env) := fun x ρ1 => (asgT F t (0, x) (wipeD own ρ1)).bind fun ρ2 => (denT F ifs ρ2).bind fun b =>
  if b.1 = true then (den F elt b.2).bind fun r => .ok (some r.1, unwD own ρ1 r.2) else .ok (none, unwD own ρ1 b.2)
theorem nox_calm {α : Type} (r : Res α) : r.nox.calm := by cases r <;> exact True.intro
theorem compL_calm {ws : List Nat} {f : D → PB.Env → Res (Option KD × PB.Env)} {k : Nat} : ∀ (xs : List D) (ρ : PB.Env), (compL ws f k xs ρ).calm
  | [], _ => True.intro
  | x :: r, ρ => by
    unfold compL
    refine (nox_calm _).bind fun p => ?_
    split
    · split
      · exact compL_calm r p.2
      · split
        · exact (compL_calm r p.2).bind fun _ => True.intro
        · exact True.intro
    · exact True.intro
theorem nox_okI {α : Type} {r : Res α} {a : α} (h : r.nox = .ok a) : r = .ok a := by
  cases r with
  | ok b => exact h
  | exc _ _ => cases h
  | bad => cases h
theorem bind_ok_of {α β : Type} {r : Res α} {f : α → Res β} {b : β} (h : r.bind f = .ok b) : ∃ a, r = .ok a ∧ f a = .ok b := by
  cases r with
  | ok a => exact ⟨a, rfl, h⟩
  | exc _ _ => cases h
  | bad => cases h
/-- one turn's equation -/
theorem compL_cons {ws : List Nat} {f : D → PB.Env → Res (Option KD × PB.Env)} {x : D} {r : List D} {ρ : PB.Env} {q : List D × PB.Env} (h : compL ws f 1 (x :: r) ρ = .ok q) :
    ∃ p, f x ρ = .ok p ∧ still ws ρ p.2 = true ∧ ((p.1 = none ∧ compL ws f 1 r p.2 = .ok q) ∨ ∃ kd q', p.1 = some kd ∧ compL ws f 1 r p.2 = .ok q' ∧ q = (kd.2 :: q'.1, q'.2)) := by
  unfold compL at h
  obtain ⟨p, h1, h2⟩ := bind_ok_of h
  refine ⟨p, nox_okI h1, ?_⟩
  split at h2
  · rename_i hs
    refine ⟨hs, ?_⟩
    obtain ⟨o, ρ1⟩ := p
    cases o with
    | none => exact .inl ⟨rfl, h2⟩
    | some kd =>
      right
      have h2 : (if 1 ≤ kd.1 + 1 then (compL ws f 1 r ρ1).bind fun q => .ok (kd.2 :: q.1, q.2) else .bad) = .ok q := h2
      rw [if_pos (by omega)] at h2
      obtain ⟨q', e1, e2⟩ := bind_ok_of h2
      cases e2
      exact ⟨kd, q', rfl, e1, rfl⟩
  · cases h2
def Fx.blk (Φ : Fx) : Fx := { Φ with Ew := fun _ _ _ => False }
theorem XOk.blk {Γ : Gx} {X : Cx} (xo : XOk Γ X) (s : Shared) (H : Hp) (scope : Scope) (ce : PySem.Env) (fp : List Addr) : XOk Γ (X.blk s H scope ce fp) := ⟨xo.K, xo.w, xo.calm, xo.un, xo.gd⟩
section
variable {Φ : Fx} {X : Cx}
theorem wp_ok {α : Type} {r : Res α} {a : α} {E : Nat → D → Prop} {Q : α → Prop} (e : r = .ok a) (h : Q a) : Wp r E Q := by rw [e]; exact h
/-- a temporary's own thing is changed -/
theorem Rep.mutT {Γ : Gx} {N : Nat} {ρ : PB.Env} {σ : L2.St} {H : Hp} {w : Own} (rp : Rep Γ N ρ σ H w) {a : Addr} {o : HO} {l : Nat} (wa : w a = some l) (hl : N ≤ l) : Rep Γ N ρ σ (upd H a o) w :=
  ⟨rp.len, rp.lenS, fun j k d e => by
    obtain ⟨v, h1, h2⟩ := rp.at_ j k d e
    have hj := slot_lt rp e
    refine ⟨v, h1, h2.step (fun b u hb wb => ⟨upd_sub b u hb fun z => ?_, wb⟩) (hid_mut wa)⟩
    rw [z, wa] at wb
    have := Option.some.inj wb
    omega, fun b l e => by
    by_cases hb : b = a
    · exact ⟨o, by rw [hb]; exact upd_same⟩
    · obtain ⟨u, hu⟩ := rp.al b l e
      exact ⟨u, upd_sub b u hu hb⟩⟩
/-- what holds ahead of the turn j -/
structure LcI (Φ : Fx) (ws own : List Nat) (f : D → PB.Env → Res (Option KD × PB.Env)) (xs ys : List D) (ρe ρ0 : PB.Env) (σ : L2.St) (t0 : Nat) (H1 : Hp) (w2 : Own) (L : Addr) (j : Nat) (H' : Hp) (ρ' : PB.Env) (w' : Own) (acc rest : List D) (accv : List V) : Prop where
  rep : Rep Φ.Γ Φ.N ρ' σ H' w'
  lv : Lv w' (t0 + 1)
  stp : Stp Φ.N t0 H1 w2 H' w'
  wl : w' L = some t0
  hl : H' L = some (.lst accv)
  dv : DVs Φ.Γ (hid H' w') acc accv
  st : Stay Φ.N ws ρ0 σ H1 w2 ρ' σ H' w'
  o0 : Own0 own ρ'
  eq : compL ws f 1 (xs.drop j) ρ' = .ok (rest, ρe)
  ys_ : ys = acc ++ rest
theorem own0_unw {own : List Nat} {ρ0 ρ : PB.Env} (h : Own0 own ρ0) (hl : ρ.length = ρ0.length) : Own0 own (unwD own ρ0 ρ) := fun i hi k d e => by
  by_cases hlt : i < ρ.length
  · rw [unwD_in hi hlt] at e
    refine h i hi k d ?_
    have e := Option.some.inj e
    rw [List.getD_eq_getElem?_getD] at e
    cases q : ρ0[i]? with
    | none => rw [q] at e; cases e
    | some s => rw [q] at e; exact congrArg some e
  · rw [List.getElem?_eq_none (by rw [unwD_len]; omega)] at e
    cases e
theorem lc_of {it : Itk} {src : CEs} {t : Tg} {ifs : CT} {elt : CE} {own : List Nat} {σ : L2.St} {H : Hp} {Q : VK} (hwo : ∀ i ∈ watchOf src, i ∉ own) (h : tE Φ (.lc 1 own t it src ifs elt) σ H Q) : tLc (tI Φ it src) (tG Φ.blk own t) (tT Φ.blk ifs) (tE Φ.blk elt) own σ H Q := by
  obtain ⟨ρ, w, t0, rp, hN, lv, hw⟩ := h
  have hw0 : Wp ((denOps Φ.F true src ρ).bind fun p => (iterD it (dsds p.1)).bind fun xs => (compL (watchOf src) (lcF Φ.F own t ifs elt) 1 xs (shD own p.2)).bind fun q => if q.1.length ≤ sizeL then .ok ((1, .lst q.1), q.2) else .bad) (Ex Φ H w) (fun p => ∀ v H' w', Rep Φ.Γ Φ.N p.2 σ H' w' → Stp Φ.N t0 H w H' w' → OV Φ.Γ H' w' t0 p.1.1 p.1.2 v → Q v H') := hw
  have hw1 : Wp ((denOps Φ.F true src ρ).bind fun p => (iterD it (dsds p.1)).bind fun xs => .ok (xs, p.2)) (Ex Φ H w) fun q => ∃ ys ρe, compL (watchOf src) (lcF Φ.F own t ifs elt) 1 q.1 (shD own q.2) = .ok (ys, ρe) ∧ ys.length ≤ sizeL ∧ ∀ v H' w', Rep Φ.Γ Φ.N ρe σ H' w' → Stp Φ.N t0 H w H' w' → OV Φ.Γ H' w' t0 1 (.lst ys) v → Q v H' := by
    revert hw0
    cases denOps Φ.F true src ρ with
    | ok p =>
      show Wp ((iterD it (dsds p.1)).bind fun xs => _) _ _ → Wp ((iterD it (dsds p.1)).bind fun xs => .ok (xs, p.2)) _ _
      cases iterD it (dsds p.1) with
      | ok xs =>
        intro h
        have h : Wp ((compL (watchOf src) (lcF Φ.F own t ifs elt) 1 xs (shD own p.2)).bind fun q => if q.1.length ≤ sizeL then Res.ok (((1, D.lst q.1) : KD), q.2) else .bad) _ _ := h
        obtain ⟨q, e, hq⟩ := calm_ok (compL_calm _ _) h.bind
        split at hq
        · rename_i hl
          exact ⟨q.1, q.2, e, hl, hq⟩
        · exact False.elim hq
      | exc _ _ => exact fun h => h
      | bad => exact fun h => h
    | exc _ _ => exact fun h => h
    | bad => exact fun h => h
  refine ⟨ρ, w, t0, rp, hN, lv, hw1.mono (fun _ _ e => e) fun q _ hq J H1 w1 r1 s1 fol L hL => ?_⟩
  obtain ⟨xs, ρ1⟩ := q
  obtain ⟨ys, ρe, ec, hlen, hQ⟩ := hq
  obtain ⟨w2, r2, s2, sh1, sh2⟩ := r1.sh own
  have wL : w2 L = none := by
    cases e : w2 L with
    | none => rfl
    | some j =>
      obtain ⟨u, hu⟩ := r2.al L j e
      rw [hL] at hu
      cases hu
  have ne : ∀ a u, H1 a = some u → a ≠ L := fun a u e => ne_of_none e hL
  have lv2 : Lv w2 t0 := s2.lv hN (s1.lv hN lv)
  have st0 : Stay Φ.N (watchOf src) ρ1 σ H1 w1 (shD own ρ1) σ H1 w2 := ⟨s2.kp, fun i hi k d hk e => ⟨k, hk, by rw [sh1 i (hwo i hi)]; exact e⟩, fun _ _ => rfl⟩
  have o00 : Own0 own (shD own ρ1) := fun i hi k d e => (sh2 i k d e).2 hi
  have sub0 : Sub H1 (upd H1 L (.lst [])) := fun b u e => by
    rw [upd_ne (ne b u e)]
    exact e
  refine ⟨fun j m H' => m = xs.length - j ∧ j ≤ xs.length ∧ ∃ ρ' w' acc rest accv, LcI Φ (watchOf src) own (lcF Φ.F own t ifs elt) xs ys ρe (shD own ρ1) σ t0 H1 w2 L j H' ρ' w' acc rest accv,
    ⟨xs.length, by simp, Nat.zero_le _, shD own ρ1, (fun a => if a = L then some t0 else w2 a), [], ys, [], ?_⟩, ?_⟩
  · have we : ∀ a u, H1 a = some u → (fun a => if a = L then some t0 else w2 a) a = w2 a := fun a u e => if_neg (ne a u e)
    refine ⟨rep_step r2 sub0 we fun a l e => ?_, fun a l e => ?_, stp_of sub0 we (fun a l e => ?_) r2.al, if_pos rfl, upd_same, .nil, ⟨⟨fun a u e e2 => ⟨sub0 a u e, (we a u e).trans e2⟩, fun a u e e2 => ⟨sub0 a u e, (we a u e).trans e2⟩, fun a e => by
      by_cases ha : a = L
      · have : some t0 = some Φ.N := (if_pos ha).symm.trans e
        cases this
        omega
      · exact (if_neg ha).symm.trans e⟩, fun i hi k d hk e => ⟨k, hk, e⟩, fun _ _ => rfl⟩, o00, ec, rfl⟩
    · by_cases ha : a = L
      · exact ⟨_, by rw [ha]; exact upd_same⟩
      · obtain ⟨u, hu⟩ := r2.al a l ((if_neg ha).symm.trans e)
        exact ⟨u, sub0 a u hu⟩
    · by_cases ha : a = L
      · have : some t0 = some l := (if_pos ha).symm.trans e
        cases this
        omega
      · have := lv2 a l ((if_neg ha).symm.trans e)
        omega
    · by_cases ha : a = L
      · have : some t0 = some l := (if_pos ha).symm.trans e
        cases this
        exact .inr ⟨rfl, by rw [ha]; exact hL⟩
      · exact .inl ((if_neg ha).symm.trans e)
  rintro j m H' ⟨rfl, hj, ρ', w', acc, rest, accv, I⟩
  obtain ⟨f1, f2⟩ := fol ρ' σ H' w' I.rep (st0.trans I.st) j
  by_cases hlt : j < xs.length
  · right
    have ex : xs.drop j = xs[j] :: xs.drop (j + 1) := List.drop_eq_getElem_cons hlt
    have eq := I.eq
    rw [ex] at eq
    obtain ⟨p, e1, hst, hcase⟩ := compL_cons eq
    obtain ⟨g1, g2⟩ := f2 xs[j] (List.getElem?_eq_getElem hlt)
    refine ⟨g1, fun H'' => ∃ ρ'' w'' acc' rest' accv', LcI Φ (watchOf src) own (lcF Φ.F own t ifs elt) xs ys ρe (shD own ρ1) σ t0 H1 w2 L (j + 1) H'' ρ'' w'' acc' rest' accv',
      fun H'' q => ⟨xs.length - (j + 1), by omega, rfl, hlt, q⟩, fun v H2 hy => ?_⟩
    obtain ⟨r3, s3, dv⟩ := g2 v H2 hy
    have e1' : ((asgT Φ.F t (0, xs[j]) (wipeD own ρ')).bind fun ρ2 => (denT Φ.F ifs ρ2).bind fun b =>
      if b.1 = true then (den Φ.F elt b.2).bind fun r => .ok (some r.1, unwD own ρ' r.2) else .ok (none, unwD own ρ' b.2)) = .ok p := e1
    obtain ⟨ρ2, ea, e2⟩ := bind_ok_of e1'
    obtain ⟨b, eb, e3⟩ := bind_ok_of e2
    refine ⟨wipeD own ρ', w', t0 + 1, t0 + 2, (0, xs[j]), r3.wiped own, by show Φ.N < _; omega, by omega, I.lv.mono (by omega), dv, wp_ok ea fun σ3 H3 w3 r4 s4 of => ?_⟩
    have l3 : Lv w3 (t0 + 1) := s4.lv (by show Φ.N < _; omega) (I.lv.mono (by omega))
    have z3 : Stz Φ.N H2 w' H3 w3 := s4.stz I.lv
    have wl3 : w3 L = some t0 := s4.tmp L t0 I.wl (Nat.le_of_lt hN) (by omega)
    refine ⟨wipe_eq (by rw [r4.lenS, I.rep.lenS]; rfl) of, ρ2, w3, t0 + 1, r4, by show Φ.N < _; omega, l3, wp_ok eb fun H4 w4 r5 s5 => ?_⟩
    have z4 : Stz Φ.N H' w' H4 w4 := (s3.trans z3).trans s5
    have wl4 : w4 L = some t0 := s5.tmp L t0 wl3 (Nat.le_of_lt hN)
    have hl4 : H4 L = some (.lst accv) := z4.keep L _ I.hl fun l e => by rw [I.wl] at e; cases e; exact Nat.le_of_lt hN
    cases hb : b.1 with
    | false =>
      rw [hb, if_neg (by decide)] at e3
      cases e3
      simp only [Bool.false_eq_true, if_false]
      rcases hcase with ⟨_, ecase⟩ | ⟨kd, q', ek, _⟩
      · have rr : Rep Φ.Γ Φ.N (unwD own ρ' b.2) σ H4 w4 := Rep.unwiped own I.rep I.o0 r5 z4.kp of
        refine ⟨_, w4, acc, rest, accv, rr, s5.lv (by show Φ.N < _; omega) l3, I.stp.thenZ z4, wl4, hl4, DVs.mono z4.hid I.dv, I.st.trans ⟨z4.kp, fun i hi k d _ e => still_sl hst i hi k d e, fun _ _ => rfl⟩, own0_unw I.o0 (by rw [r5.len, I.rep.len]; rfl), ecase, I.ys_⟩
      · cases ek
    | true =>
      rw [hb, if_pos rfl] at e3
      obtain ⟨r, er, e4⟩ := bind_ok_of e3
      cases e4
      simp only [if_true]
      rcases hcase with ⟨ek, _⟩ | ⟨kd, q', ek, ecase, eq2⟩
      · cases ek
      · cases ek
        have ey : rest = r.1.2 :: q'.1 := congrArg (fun p => p.1) eq2
        have ee : ρe = q'.2 := congrArg (fun p => p.2) eq2
        refine ⟨b.2, w4, t0 + 1, r5, by show Φ.N < _; omega, s5.lv (by show Φ.N < _; omega) l3, wp_ok er fun y H5 w5 r6 s6 ov => ?_⟩
        have l4 : Lv w4 (t0 + 1) := s5.lv (by show Φ.N < _; omega) l3
        have z6 : Stz Φ.N H4 w4 H5 (drop w5 (t0 + 1)) := s6.shareT l4
        have z5 : Stz Φ.N H' w' H5 (drop w5 (t0 + 1)) := z4.trans z6
        have wl5 : drop w5 (t0 + 1) L = some t0 := z6.tmp L t0 wl4 (Nat.le_of_lt hN)
        have hl5 : H5 L = some (.lst accv) := z5.keep L _ I.hl fun l e => by rw [I.wl] at e; cases e; exact Nat.le_of_lt hN
        have ly : acc.length + rest.length = ys.length := by rw [I.ys_, List.length_append]
        have hsz : sizeL = sizeLine := sz
        refine ⟨accv, hl5, by rw [← I.dv.length, ← hsz]; rw [ey] at ly; simp only [List.length_cons] at ly; omega, ?_⟩
        have rr : Rep Φ.Γ Φ.N (unwD own ρ' r.2) σ H5 (drop w5 (t0 + 1)) := Rep.unwiped own I.rep I.o0 (r6.drop (by show Φ.N < _; omega)) z5.kp of
        have dm : Sub (hid H5 (drop w5 (t0 + 1))) (hid (upd H5 L (.lst (accv ++ [y]))) (drop w5 (t0 + 1))) := hid_mut wl5
        have k6 : Kp Φ.N H' w' (upd H5 L (.lst (accv ++ [y]))) (drop w5 (t0 + 1)) := ⟨fun a o e e2 => ⟨upd_sub a o (z5.kp.non a o e e2).1 (fun zz => by rw [zz, I.wl] at e2; cases e2), (z5.kp.non a o e e2).2⟩, fun a o e e2 => ⟨upd_sub a o (z5.kp.ali a o e e2).1 (fun zz => by rw [zz, I.wl] at e2; cases e2; omega), (z5.kp.ali a o e e2).2⟩, z5.kp.bk⟩
        refine ⟨_, drop w5 (t0 + 1), acc ++ [r.1.2], q'.1, accv ++ [y], rr.mutT wl5 (Nat.le_of_lt hN), z6.lv (by omega) l4, ?_, wl5, upd_same, DVs.append (DVs.mono (z5.hid.trans dm) I.dv) (.cons (DV.mono dm ov.share) .nil), I.st.trans ⟨k6, fun i hi k d _ e => still_sl hst i hi k d e, fun _ _ => rfl⟩, own0_unw I.o0 (by rw [r6.len, I.rep.len]; rfl), ?_, by rw [I.ys_, ey]; simp⟩
        · have s7 := I.stp.thenZ z5
          exact ⟨fun a o e hl => upd_sub a o (s7.keep a o e hl) (ne a o e), s7.free, s7.tmp, s7.lab⟩
        · rw [ee]; exact ecase
  · left
    have ej : j = xs.length := by omega
    subst ej
    have eq := I.eq
    rw [List.drop_length] at eq
    cases eq
    refine ⟨f1 (Nat.le_refl _), ?_⟩
    have ey : ys = acc := by rw [I.ys_]; simp
    subst ey
    exact hQ _ H' w' I.rep ((s1.trans s2).thenP I.stp) ⟨L, accv, rfl, I.wl, I.hl, dvs_paired I.dv, .inl rfl⟩
end
end
section
/-! Soundness 20: what a def promises where no container is being shown (repr needs that). -/
open PySem PySem.Spec PyProof.Rows L2

/-- a def's promise, called where the guards are known to be none -/
structure FnG (P : Program) (w : World) (K : PySem.W.Frag) (mg : Str → Option Value) (base : Heap) (CX : CXT) (k : Nat) (f : Addr) (fd : FuncData) (ps : List Str) (sp : Sp) : Prop where
  len : ∀ vs H Q E, sp vs H Q E → vs.length = ps.length
  run : ∀ (A : Around) (outer : List PySem.Env) (s : Shared) (H : Hp) (args : Args) (us : List Value) (vs : List V) (Q : VK) (E : XK), Room k A ∧ A.guards = some [] → Env0 P w K mg base A outer s H ∧ BindsTo s fd args (ps.zip us) → Vals vs us ∧ sp vs H Q E →
    codeAny (model P w) A (.call (.ref f) args) (L2.CR CX outer P w H s Q E) s
section
variable {P : Program} {w : World} {K : PySem.W.Frag} {mg : Str → Option Value} {base : Heap} {CX : CXT} {k : Nat} {f : Addr} {fd : FuncData} {ps : List Str} {sp : Sp}
theorem FnG.mono {j : Nat} (F : FnG P w K mg base CX j f fd ps sp) (h : j ≤ k) : FnG P w K mg base CX k f fd ps sp :=
  ⟨F.len, fun A outer s H args us vs Q E hr => F.run A outer s H args us vs Q E ⟨hr.1.mono h, hr.2⟩⟩
theorem FnG.of {x qual : Str} {params : Arguments} {body : List Stmt} {scope : Scope} {N : List Str} {dvs : List V} {kws : List (Str × V)} (F : FunD K x qual params body scope dvs kws f fd) (S : FnScope N ps scope) (len : ∀ vs H Q E, sp vs H Q E → vs.length = ps.length)
    (hb : ∀ (cdv : Value) (A : Around) (outer : List PySem.Env) (s : Shared) (H : Hp) (vs : List V) (Q : VK) (E : XK), Room k (A.deeper (envOfC qual scope s.heap.objs.size f cdv)) → A.guards = some [] → sp vs H Q E →
      ∃ t, PSs (cxOf CX P w K mg base N qual scope f cdv A outer s H E) body t ∧ t { nx := fun _ H' => Q .non H', rt := Q } (start N vs) H) : FnG P w K mg base CX (k + 1) f fd ps sp := by
  obtain ⟨oc, od, dV, kV, doc, pm, an, cdv, ct, osl, e, lk, hcd, _, _⟩ := F.ex
  subst e
  refine ⟨len, ?_⟩
  intro A outer s H args us vs Q E hA hE hV
  obtain ⟨room, gu⟩ := hA
  obtain ⟨e0, bt⟩ := hE
  obtain ⟨rv, hsp⟩ := hV
  have nlen := len vs H Q E hsp
  have inH : K.In s.heap := e0.mod.kin.keeps fun b o q => (e0.bs b o q).1
  have noL : s.heap.NoLimit := e0.mod.nolimit.keeps fun b o q => (e0.bs b o q).1
  have kinds : ∀ y ∈ ps.zip us, scope.names.lookup y.1 = some .local ∨ (scope.names.lookup y.1 = some .cell ∧ ((cellsFrom (s.heap.objs.size + 1) scope.names []).lookup y.1).isSome = true) := by
    rintro ⟨nm, v⟩ hy
    have := S.par nm (List.of_mem_zip hy).1
    exact this.imp id fun q => ⟨q, PySem.W.cellsFrom_some _ _ _ (.inl q)⟩
  refine codeAny_call_function room.depth (inH f _ lk) rfl S.co S.gen rfl (PySem.W.codeRec_of inH hcd) (bt _ _ _ _ (wpAny_newFunctionEnv_cells S.kind kinds ?_))
  intro env henv s1 ic
  subst henv
  obtain ⟨t, pt, ht⟩ := hb cdv A outer s H vs Q E (room.deeper _) gu hsp
  have J0 := inv_start (CX := CX) (E := E) S room.hd e0 nlen rv ic
  refine ⟨noL.keeps ic.toInCall.keep, codeAny_func (wpAny_mono (pt.run [] s1 (start N vs) H _ J0 ht) ?_ fun _ _ z => z)⟩
  intro fl s' hfl
  cases fl with
  | brk => obtain ⟨_, _, _, z⟩ := hfl; exact z.elim
  | cont => obtain ⟨_, _, _, z⟩ := hfl; exact z.elim
  | next =>
    obtain ⟨σ', H', J, z⟩ := hfl
    exact ⟨V.non, H', J.os, J.bare, J.base, J.hok, rfl, z⟩
  | ret u =>
    obtain ⟨v, σ', H', J, rz, z⟩ := hfl
    exact ⟨v, H', J.os, J.bare, J.base, J.hok, rz, z⟩
end
section
variable {X : Cx} {CX : CXT} {k : Nat} {f : Addr} {fd : FuncData} {ps : List Str} {sp : Sp} {E : XK}
theorem runG {pins : List (Addr × Obj)} {σ : L2.St} {H : Hp} {s : Shared} {Q : VK} {us ds : List Value} {vs dvs : List V} (F : FnG X.prog X.w X.K X.mg X.base CX k f fd ps sp) (hr : Room k X.A) (gd : X.A.guards = some []) (hb : Binds X.K fd ps ds) (hd : Vals dvs ds) (hx : Passes CX X E)
    (I : L2.Inv X pins σ H s) (r : Vals vs us) (h : sp (vs ++ dvs) H Q E) : wpAny (model X.prog X.w) X.A (call (.ref f) us) (EP X pins σ Q) X.xe s := by
  have rr := r.append hd
  have nl : (us ++ ds).length = ps.length := by rw [← rr.length, F.len _ _ _ _ h]
  refine wpAny_call (codeAny_mono (F.run X.A X.stack s H ⟨us, []⟩ (us ++ ds) (vs ++ dvs) Q E ⟨hr, gd⟩ ⟨I.env0, hb s us I.kIn nl⟩ ⟨rr, h⟩) ?_)
  intro res s' hq
  cases res with
  | error e => exact hx pins σ H s e s' I hq
  | ok fl => cases fl with
    | ret u => exact I.after hq
    | next => exact hq.elim
    | brk => exact hq.elim
    | cont => exact hq.elim
/-- f(..): what is written, then what fills up -/
theorem pe_callG {x : Str} {e : PySem.Expr} {es : List PySem.Expr} {t : TA} {p pos : Pos} {ds : List Value} {dvs : List V} (F : FnG X.prog X.w X.K X.mg X.base CX k f fd ps sp) (hr : Room k X.A) (gd : X.A.guards = some []) (hg : Gl X x) (hm : X.mg x = some (.ref f)) (hk : PySem.W.keepIn X.K (.ref f) = true) (hb : Binds X.K fd ps ds) (hd : Vals dvs ds) (hx : Passes CX X E)
    (ha : PA X (e :: es) t) (hdb : (x == ("__debug__" : Str)) = false := by decide) (he : starEach (e :: es) X.env = (false, eval e X.env) :: starEach es X.env := by rfl) (hpl : (backTo pos (starEach es X.env)).any (·.1) = false := by rfl) :
    PE X (.Call (.Name x p) (e :: es) [] pos) (fun σ H Q => t σ H fun vs H1 => sp (vs ++ dvs) H1 Q E) := by
  refine ⟨fun pins s σ H Q I h => wpAny_Call_Name_kw (ld_glob I hg hm ?_ hdb)⟩
  refine PySem.W.callWith_K (h₀ := X.base) I.ok.mod.kin hk (thn (ha.run pos pins s σ H _ I h) ?_) he hpl
  rintro us s1 ⟨vs, H1, I1, r, q⟩
  exact ⟨I1.kIn, runG F hr gd hb hd hx I1 r q⟩
end
end
section
/-! Soundness 21: calls of defs; a def keeps its promise. -/
open PySem PySem.Spec PyProof.Rows L2

/-- another label -/
theorem OV.re {Γ : Gx} {H : Hp} {w w2 : Own} {i j : Nat} (hA : ∀ a, w a = some i → w2 a = some j) (hB : Sub (hid H w) (hid H w2)) : ∀ {k : Nat} {d : D} {v : V}, OV Γ H w i k d v → OV Γ H w2 j k d v
  | 0, d, v, h => DV.mono hB h
  | k + 1, d, v, h => by
    cases d with
    | lst ds =>
      obtain ⟨a, vs, rfl, wa, ha, p, ap⟩ := h
      exact ⟨a, vs, rfl, hA a wa, ha, pm p fun _ _ q => OV.re hA hB q, ap⟩
    | dct kvs =>
      rcases h with ⟨a, es, rfl, wa, ha, p, ap⟩ | ⟨a, es, rfl, wa, ha, p, ap⟩
      · exact .inl ⟨a, es, rfl, hA a wa, ha, pm p fun _ _ q => ⟨q.1, OV.re hA hB q.2⟩, ap⟩
      · exact .inr ⟨a, es, rfl, hA a wa, ha, pm p fun _ _ q => ⟨q.1, q.2.1, q.2.2.1, DV.mono hB q.2.2.2.1, OV.re hA hB q.2.2.2.2⟩, ap⟩
    | non => exact DV.mono hB h
    | bl _ => exact DV.mono hB h
    | int _ => exact DV.mono hB h
    | str _ => exact DV.mono hB h
    | tup _ => exact DV.mono hB h
    | set _ => exact DV.mono hB h
    | fn _ => exact DV.mono hB h
    | exc _ _ => exact DV.mono hB h
    | scr _ => exact DV.mono hB h
theorem OVs.get {Γ : Gx} {H : Hp} {w : Own} : ∀ {t : Nat} {kds : List KD} {vs : List V} {j : Nat} {kd : KD}, OVs Γ H w t kds vs → kds[j]? = some kd → ∃ v, vs[j]? = some v ∧ OV Γ H w (t + j) kd.1 kd.2 v
  | t, k :: r, v :: vs, 0, kd, h, e => by cases e; exact ⟨v, rfl, h.1⟩
  | t, k :: r, v :: vs, j + 1, kd, h, e => by
    obtain ⟨u, h1, h2⟩ := OVs.get (j := j) h.2 (by simpa using e)
    exact ⟨u, by simpa using h1, by rw [show t + (j + 1) = t + 1 + j by omega]; exact h2⟩
  | _, [], _, _, _, _, e => by simp at e
  | _, _ :: _, [], _, _, h, _ => h.elim
/-- what the def f promises; ew: what is wanted of an exception -/
def spF (Γ : Gx) (F : Fn) (ew : XK → Nat → D → Hp → Prop) (f np : Nat) : Sp := fun vs H Q E => vs.length = np ∧ ∃ (args : List KD) (w : Own), OVs Γ H w 0 args vs ∧ Lv w (np + 1) ∧ (∀ a l, w a = some l → ∃ o, H a = some o) ∧ Wp (F f args) (fun c d => ∀ H' w', Kp np H w H' w' → ew E c d H') fun p =>
  ∀ v H' w', Kp np H w H' w' → (∀ a l, w' a = some l → ∃ o, H' a = some o) → OV Γ H' w' (np + 1) p.1.1 p.1.2 v → (∀ (j : Nat) (kd : KD) (u : V), p.2[j]? = some kd → vs[j]? = some u → kd.1 ≠ 0 → OV Γ H' w' j kd.1 kd.2 u) → Q v H'
/-- the callee's labels, from a caller's -/
def inW (np ns : Nat) (w : Own) : Own := fun a => (w a).map fun l => if l = np then ns else l
def outW (np ns : Nat) (w : Own) : Own := fun a => (w a).bind fun l => if l = ns then some np else if l = ns + 1 then some (np + 1) else if l < np then some l else none
section
variable {P : Program} {w : World} {K : PySem.W.Frag} {mg : Str → Option Value} {base : Heap} {CX : CXT}
theorem kp_out {np ns : Nat} {H H' : Hp} {w w' : Own} (hn : np ≤ ns) (lv : Lv w (np + 1)) (k : Kp ns H (inW np ns w) H' w') : Kp np H w H' (outW np ns w') where
  non := fun a o h e => by
    obtain ⟨h1, h2⟩ := k.non a o h (by unfold inW; rw [e]; rfl)
    exact ⟨h1, by unfold outW; rw [h2]; rfl⟩
  ali := fun a o h e => by
    obtain ⟨h1, h2⟩ := k.ali a o h (by unfold inW; rw [e]; simp)
    exact ⟨h1, by unfold outW; rw [h2]; simp⟩
  bk := fun a e => by
    unfold outW at e
    cases q : w' a with
    | none => rw [q] at e; cases e
    | some l =>
      rw [q] at e
      have e : (if l = ns then some np else if l = ns + 1 then some (np + 1) else if l < np then some l else none) = some np := e
      split at e
      · rename_i hl
        subst hl
        have := k.bk a q
        unfold inW at this
        cases q2 : w a with
        | none => rw [q2] at this; cases this
        | some m =>
          rw [q2] at this
          have this : some (if m = np then l else m) = some l := this
          have this := Option.some.inj this
          by_cases hm : m = np
          · rw [hm]
          · rw [if_neg hm] at this
            have := lv a m q2
            omega
      · split at e
        · have := Option.some.inj e; omega
        · split at e
          · have := Option.some.inj e; omega
          · cases e
/-- a def by its body -/
theorem fn_F {Γ : Gx} {Pr : Nat → Option FDef} {ew : XK → Nat → D → Hp → Prop} {n k f : Nat} {c : FDef} {z : List Nat} {fa : Addr} {fd : FuncData} {x qual : Str} {params : Arguments} {body : List Stmt} {scope : Scope} {dvs : List V} {kws : List (Str × V)} {N ps : List Str}
    (D0 : FunD K x qual params body scope dvs kws fa fd) (S : FnScope N ps scope) (hP : Pr f = some c) (hnp : ps.length = c.np) (hns : N.length = c.ns) (hle : c.np ≤ c.ns) (hio : ∀ j ∈ c.io, j ∉ z)
    (hb : ∀ (cdv : Value) (A : Around) (outer : List PySem.Env) (s : Shared) (H : Hp) (E : XK), Room k (A.deeper (envOfC qual scope s.heap.objs.size fa cdv)) → A.guards = some [] →
      PSs (cxOf CX P w K mg base N qual scope fa cdv A outer s H E) body (tSs ⟨Γ, c.ns, denF Pr n, ew E⟩ z c.body)) : FnG P w K mg base CX (k + 1) fa fd ps (spF Γ (denF Pr (n + 1)) ew f c.np) := by
  refine FnG.of D0 S (fun vs H Q E h => by rw [h.1, hnp]) fun cdv A outer s H vs Q E hr gd h => ⟨_, hb cdv A outer s H E hr gd, ?_⟩
  obtain ⟨hl, args, w, ov, lv, al, hw⟩ := h
  have al2 : args.length = c.np := by rw [ov.length, hl]
  have e : denF Pr (n + 1) f args = (denSs (denF Pr n) c.body (args.map some ++ List.replicate (c.ns - c.np) none)).bind fun p => match p.1 with
      | .ret v => .ok (v, outsOf c.np c.io p.2)
      | .nx => .ok ((0, .non), outsOf c.np c.io p.2)
      | _ => .bad := by
    show (match Pr f with | none => _ | some c => _) = _
    rw [hP]
    simp only [al2, if_true] <;> rfl
  rw [e] at hw
  have hidin : Sub (hid H w) (hid H (inW c.np c.ns w)) := fun a o e => by
    obtain ⟨h1, h2⟩ := hid_some e
    exact hid_of h2 (by unfold inW; rw [h1]; rfl)
  have st : L2.start N vs = vs.map some ++ List.replicate (c.ns - c.np) none := by unfold L2.start; rw [hns, hl]
  have rep : Rep Γ c.ns (args.map some ++ List.replicate (c.ns - c.np) none) (L2.start N vs) H (inW c.np c.ns w) := by
    refine ⟨by rw [List.length_append, List.length_map, List.length_replicate, al2]; omega, by rw [st, List.length_append, List.length_map, List.length_replicate, hl]; omega, fun j k d e => ?_, fun a l e => ?_⟩
    · by_cases hj : j < c.np
      · rw [List.getElem?_append_left (by rw [List.length_map, al2]; exact hj), List.getElem?_map] at e
        obtain ⟨kd, hk, ek⟩ := Option.map_eq_some_iff.mp e
        cases ek
        obtain ⟨v, h1, h2⟩ := ov.get hk
        rw [Nat.zero_add] at h2
        refine ⟨v, ?_, h2.step (fun a o ha wa => ⟨ha, by unfold inW; rw [wa]; show some (if j = c.np then c.ns else j) = some j; rw [if_neg (by omega)]⟩) hidin⟩
        rw [st, List.getElem?_append_left (by rw [List.length_map, hl]; exact hj), List.getElem?_map, h1]
        rfl
      · rw [List.getElem?_append_right (by rw [List.length_map, al2]; omega), List.getElem?_replicate] at e
        split at e <;> cases e
    · unfold inW at e
      cases q : w a with
      | none => rw [q] at e; cases e
      | some m => exact al a m q
  have lin : Lv (inW c.np c.ns w) (c.ns + 1) := fun a l e => by
    unfold inW at e
    cases q : w a with
    | none => rw [q] at e; cases e
    | some m =>
      rw [q] at e
      have e : some (if m = c.np then c.ns else m) = some l := e
      have e := Option.some.inj e
      have := lv a m q
      split at e <;> omega
  have hidout : ∀ {H' : Hp} {w' : Own}, Sub (hid H' w') (hid H' (outW c.np c.ns w')) := fun {H' w'} a o e => by
    obtain ⟨h1, h2⟩ := hid_some e
    exact hid_of h2 (by unfold outW; rw [h1]; rfl)
  have outs : ∀ {ρ' : PB.Env} {σ' : L2.St} {H' : Hp} {w' : Own}, Rep Γ c.ns ρ' σ' H' w' → Off z (L2.start N vs) σ' → ∀ (j : Nat) (kd : KD) (u : V), (outsOf c.np c.io ρ')[j]? = some kd → vs[j]? = some u → kd.1 ≠ 0 → OV Γ H' (outW c.np c.ns w') j kd.1 kd.2 u := fun {ρ' σ' H' w'} r of j kd u e hu hk => by
    unfold outsOf at e
    rw [List.getElem?_map] at e
    obtain ⟨i, hi, ei⟩ := Option.map_eq_some_iff.mp e
    obtain ⟨hlt, ei2⟩ := List.getElem?_eq_some_iff.mp hi
    rw [List.length_range] at hlt
    rw [List.getElem_range] at ei2
    subst ei2
    split at ei
    · rename_i hj
      have e2 : ρ'[j]? = some (some kd) := by
        rw [List.getD_eq_getElem?_getD] at ei
        cases q : ρ'[j]? with
        | none => rw [q] at ei; subst ei; exact absurd rfl hk
        | some s =>
          rw [q] at ei
          cases s with
          | none => subst ei; exact absurd rfl hk
          | some kd' => exact congrArg (fun x => some (some x)) ei
      obtain ⟨v, h1, h2⟩ := r.at_ j kd.1 kd.2 e2
      rw [of j (hio j hj), st, List.getElem?_append_left (by rw [List.length_map, hl]; exact hlt), List.getElem?_map, hu] at h1
      cases h1
      refine h2.re (fun a wa => ?_) hidout
      unfold outW
      rw [wa]
      show (if j = c.ns then some c.np else if j = c.ns + 1 then some (c.np + 1) else if j < c.np then some j else none) = some j
      rw [if_neg (by omega), if_neg (by omega), if_pos hlt]
    · subst ei
      exact absurd rfl hk
  have alout : ∀ {H' : Hp} {w' : Own}, (∀ a l, w' a = some l → ∃ o, H' a = some o) → ∀ a l, outW c.np c.ns w' a = some l → ∃ o, H' a = some o := fun {H' w'} h a l e => by
    unfold outW at e
    cases q : w' a with
    | none => rw [q] at e; cases e
    | some m => exact h a m q
  refine ⟨_, _, rep, lin, hw.bind.mono (fun cc d q H' w' kk => q H' _ (kp_out hle lv kk)) fun p _ hp => ?_⟩
  obtain ⟨fl, ρ'⟩ := p
  cases fl with
  | nx => exact fun σ' H' w' r l kk of => hp .non H' (outW c.np c.ns w') (kp_out hle lv kk) (alout r.al) .non (outs r of)
  | brk => exact hp.elim
  | cnt => exact hp.elim
  | ret kd =>
    refine fun v σ' H' w' r l kk of ov => hp v H' (outW c.np c.ns w') (kp_out hle lv kk) (alout r.al) (ov.re (fun a wa => ?_) hidout) (outs r of)
    unfold outW
    rw [wa]
    show (if c.ns + 1 = c.ns then some c.np else if c.ns + 1 = c.ns + 1 then some (c.np + 1) else _) = some (c.np + 1)
    rw [if_neg (by omega), if_pos rfl]
end
end
section
/-! Soundness 22: calls. -/
open PySem PySem.Spec PyProof.Rows L2

/-- an argument, as it is given -/
def ArgR (Γ : Gx) (σ : L2.St) (H : Hp) (w : Own) : CEs → List KD → List V → Prop
  | .nil, [], [] => True
  | .cons c r, kd :: ks, v :: vs => (match c with
    | .pk i => σ[i]? = some (some v) ∧ OV Γ H w i kd.1 kd.2 v
    | _ => kd.1 = 0 ∧ DV Γ (hid H w) kd.2 v) ∧ ArgR Γ σ H w r ks vs
  | _, _, _ => False
def pks : CEs → List Nat
  | .nil => []
  | .cons (.pk i) r => i :: pks r
  | .cons _ r => pks r
theorem pks_npk {c : CE} {r : CEs} (h : npk c = true) : pks (.cons c r) = pks r := by cases c <;> first | rfl | cases h
theorem denArgs_npk {F : Fn} {c : CE} {r : CEs} {ρ : PB.Env} (h : npk c = true) : denArgs F (.cons c r) ρ = (den F c ρ).bind fun p => (denArgs F r p.2).bind fun q => .ok ((0, p.1.2) :: q.1, q.2) := by
  cases c <;> first | rfl | cases h
theorem denArgs_pk {F : Fn} {i : Nat} {r : CEs} {ρ : PB.Env} : denArgs F (.cons (.pk i) r) ρ = (if (slotD ρ i).isSome = true then (denArgs F r ρ).bind fun q => match q.2[i]? with
      | some (some kd) => .ok (kd :: q.1, q.2.set i none)
      | _ => .bad
      else .bad) := rfl
theorem npk_or {c : CE} : npk c = true ∨ ∃ i, c = .pk i := by cases c <;> first | exact .inl rfl | exact .inr ⟨_, rfl⟩
/-- what is borrowed is borrowed once, and is gone from its slot -/
theorem denArgs_pks {F : Fn} : ∀ {es : CEs} {ρ : PB.Env} {p : List KD × PB.Env}, denArgs F es ρ = .ok p → (pks es).Nodup ∧ ∀ i ∈ pks es, p.2[i]? = some none
  | .nil, ρ, p, h => ⟨List.nodup_nil, fun _ h => nomatch h⟩
  | .cons c r, ρ, p, h => by
    rcases npk_or (c := c) with hc | ⟨i, rfl⟩
    · rw [denArgs_npk hc] at h
      obtain ⟨a, _, h2⟩ := bind_ok_of h
      obtain ⟨q, e2, h3⟩ := bind_ok_of h2
      cases h3
      rw [pks_npk hc]
      obtain ⟨n1, n2⟩ := denArgs_pks e2
      exact ⟨n1, n2⟩
    · rw [denArgs_pk] at h
      split at h
      · obtain ⟨q, e2, h3⟩ := bind_ok_of h
        obtain ⟨n1, n2⟩ := denArgs_pks e2
        split at h3
        · rename_i kd e
          cases h3
          have hi : i < q.2.length := (List.getElem?_eq_some_iff.mp e).1
          refine ⟨List.nodup_cons.mpr ⟨fun hm => ?_, n1⟩, fun j hj => ?_⟩
          · rw [n2 i hm] at e
            cases e
          · by_cases hij : i = j
            · subst hij
              exact List.getElem?_set_self hi
            · rw [List.getElem?_set_ne hij]
              rcases List.mem_cons.mp hj with z | z
              · exact absurd z.symm hij
              · exact n2 j z
        · cases h3
      · cases h
section
variable {Φ : Fx} {X : Cx} {σ : L2.St} {H : Hp}
theorem ArgR.step {H' : Hp} {w w' : Own} (hA : ∀ i a o, i < Φ.N → H a = some o → w a = some i → H' a = some o ∧ w' a = some i) (hB : Sub (hid H w) (hid H' w')) : ∀ {es : CEs} {kds : List KD} {vs : List V}, (∀ i ∈ pks es, i < Φ.N) → ArgR Φ.Γ σ H w es kds vs → ArgR Φ.Γ σ H' w' es kds vs
  | .nil, [], [], _, _ => True.intro
  | .cons c r, kd :: ks, v :: vs, hp, h => by
    rcases npk_or (c := c) with hc | ⟨i, rfl⟩
    · rw [pks_npk hc] at hp
      refine ⟨?_, ArgR.step hA hB hp h.2⟩
      have h1 := h.1
      cases c <;> first | exact ⟨h1.1, DV.mono hB h1.2⟩ | cases hc
    · have h1 : σ[i]? = some (some v) ∧ OV Φ.Γ H w i kd.1 kd.2 v := h.1
      exact ⟨⟨h1.1, h1.2.step (fun a o ha wa => hA i a o (hp i List.mem_cons_self) ha wa) hB⟩, ArgR.step hA hB (fun j hj => hp j (List.mem_cons_of_mem _ hj)) h.2⟩
  | .nil, _ :: _, _, _, h => h.elim
  | .nil, [], _ :: _, _, h => h.elim
  | .cons _ _, [], _, _, h => h.elim
  | .cons _ _, _ :: _, [], _, h => h.elim
/-- arguments' -/
def tAr (Φ : Fx) (es : CEs) (dvs : List V) : TA := fun σ H Q => ∃ ρ w t, Rep Φ.Γ Φ.N ρ σ H w ∧ Φ.N < t ∧ Lv w t ∧ Wp (denArgs Φ.F es ρ) (Ex Φ H w) fun p =>
  ∀ vs H' w', Rep Φ.Γ Φ.N p.2 σ H' w' → Stz Φ.N H w H' w' → ArgR Φ.Γ σ H' w' es p.1 (vs ++ dvs) → Q vs H'
theorem ar_nil {K : List V → Hp → Prop} (h : tAr Φ .nil [] σ H K) : K [] H := by
  obtain ⟨ρ, w, t, r, hN, lv, hw⟩ := h
  exact hw [] H w r .refl True.intro
/-- a constant fills up -/
theorem ar_cst {d : D} {v : V} {K : List V → Hp → Prop} (hd : ∀ Hs, DV Φ.Γ Hs d v) (h : tAr Φ (.cons (.cst d) .nil) [v] σ H K) : K [] H := by
  obtain ⟨ρ, w, t, r, hN, lv, hw⟩ := h
  exact hw [] H w r .refl ⟨⟨rfl, hd _⟩, True.intro⟩
theorem ar_cons {c : CE} {r : CEs} {dvs : List V} {K : List V → Hp → Prop} (h : tAr Φ (.cons c r) dvs σ H K) : tO Φ c σ H fun x H1 => tAr Φ r dvs σ H1 fun xs H2 => K (x :: xs) H2 := by
  obtain ⟨ρ, w, t, rp, hN, lv, hw⟩ := h
  rcases npk_or (c := c) with hc | ⟨i, rfl⟩
  · have key : tE Φ c σ H fun x H1 => tAr Φ r dvs σ H1 fun xs H2 => K (x :: xs) H2 := by
      rw [denArgs_npk hc] at hw
      refine ⟨ρ, w, t, rp, hN, lv, hw.bind.mono (fun _ _ e => e) fun p ep hp => ?_⟩
      intro v H1 w1 r1 s1 o1
      refine ⟨p.2, w1, t + 1, r1, Nat.le_succ_of_le hN, s1.lv hN lv, hp.bind.mono (fun _ _ e => e.step (s1.kp hN)) fun q eq hq => ?_⟩
      intro vs H2 w2 r2 s2 aa
      have o2 : OV Φ.Γ H2 w2 t p.1.1 p.1.2 v := o1.stz hN s2
      have hp := (denArgs_pks eq).2
      refine hq (v :: vs) H2 (drop w2 t) (r2.drop hN) ((s1.thenZ s2).shareT lv) ⟨?_, ArgR.step (fun i a o hi ha wa => ⟨ha, drop_ne wa (by omega)⟩) hid_drop (fun i hi => slot_lt r2 (hp i hi)) aa⟩
      have dv : DV Φ.Γ (hid H2 (drop w2 t)) p.1.2 v := o2.share
      cases c <;> first | exact ⟨rfl, dv⟩ | cases hc
    cases c <;> first | exact key | cases hc
  · rw [denArgs_pk] at hw
    split at hw
    · rename_i hs
      obtain ⟨d0, hs⟩ := Option.isSome_iff_exists.mp hs
      obtain ⟨k0, e0⟩ := slotD_some hs
      obtain ⟨v, h1, _⟩ := rp.at_ i k0 d0 e0
      refine ⟨v, h1, ρ, w, t, rp, hN, lv, hw.bind.mono (fun _ _ e => e) fun q eq hq => ?_⟩
      intro vs H' w' r' s' aa
      split at hq
      · rename_i kd e
        obtain ⟨v', g1, g2⟩ := r'.at_ i kd.1 kd.2 e
        rw [h1] at g1
        cases g1
        refine hq (v :: vs) H' w' ⟨by rw [List.length_set]; exact r'.len, r'.lenS, fun j k d ej => ?_, r'.al⟩ s' ⟨⟨h1, g2⟩, aa⟩
        by_cases hj : i = j
        · subst hj
          rw [List.getElem?_set_self (by rw [r'.len]; exact slot_lt r' e)] at ej
          cases ej
        · rw [List.getElem?_set_ne hj] at ej
          exact r'.at_ j k d ej
      · exact False.elim hq
    · exact False.elim hw
theorem pa_ar0 : PA X [] (tAr Φ .nil []) := paI pa_nil fun _ _ _ h => ar_nil h
theorem pa_arc {d : D} {v : V} (hd : ∀ Hs, DV Φ.Γ Hs d v) : PA X [] (tAr Φ (.cons (.cst d) .nil) [v]) := paI pa_nil fun _ _ _ h => ar_cst hd h
theorem pa_ar {e : PySem.Expr} {es : List PySem.Expr} {c : CE} {r : CEs} {dvs : List V} (h : PE X e (tO Φ c)) (t : PA X es (tAr Φ r dvs)) (hs : starEach (e :: es) X.env = (false, eval e X.env) :: starEach es X.env := by rfl) : PA X (e :: es) (tAr Φ (.cons c r) dvs) :=
  paI (pa_cons h t hs) fun _ _ _ h => ar_cons h
/-! ### the labels of a call -/
def posOf : CEs → Nat → Option Nat
  | .nil, _ => none
  | .cons (.pk i) r, l => if i = l then some 0 else (posOf r l).map (· + 1)
  | .cons _ r, l => (posOf r l).map (· + 1)
def slotAt : CEs → Nat → Option Nat
  | .nil, _ => none
  | .cons (.pk i) _, 0 => some i
  | .cons _ _, 0 => none
  | .cons _ r, j + 1 => slotAt r j
def lenC : CEs → Nat
  | .nil => 0
  | .cons _ r => lenC r + 1
theorem posOf_npk {c : CE} {r : CEs} {l : Nat} (h : npk c = true) : posOf (.cons c r) l = (posOf r l).map (· + 1) := by cases c <;> first | rfl | cases h
theorem posOf_none : ∀ {es : CEs} {l : Nat}, l ∉ pks es → posOf es l = none
  | .nil, _, _ => rfl
  | .cons c r, l, h => by
    rcases npk_or (c := c) with hc | ⟨i, rfl⟩
    · rw [pks_npk hc] at h
      rw [posOf_npk hc, posOf_none h]
      rfl
    · simp only [pks, List.mem_cons, not_or] at h
      show (if i = l then some 0 else _) = none
      rw [if_neg (Ne.symm h.1), posOf_none h.2]
      rfl
theorem posOf_some : ∀ {es : CEs} {l : Nat}, l ∈ pks es → ∃ j, posOf es l = some j ∧ j < lenC es ∧ slotAt es j = some l
  | .cons c r, l, h => by
    rcases npk_or (c := c) with hc | ⟨i, rfl⟩
    · rw [pks_npk hc] at h
      obtain ⟨j, h1, h2, h3⟩ := posOf_some h
      refine ⟨j + 1, by rw [posOf_npk hc, h1]; rfl, Nat.succ_lt_succ h2, ?_⟩
      cases c <;> first | exact h3 | cases hc
    · by_cases hi : i = l
      · subst hi
        exact ⟨0, if_pos rfl, Nat.succ_pos _, rfl⟩
      · rcases List.mem_cons.mp h with z | z
        · exact absurd z.symm hi
        · obtain ⟨j, h1, h2, h3⟩ := posOf_some z
          exact ⟨j + 1, by show (if i = l then some 0 else (posOf r l).map (· + 1)) = _; rw [if_neg hi, h1]; rfl, Nat.succ_lt_succ h2, h3⟩
theorem slotAt_mem : ∀ {es : CEs} {j i : Nat}, slotAt es j = some i → i ∈ pks es
  | .cons c r, 0, i, h => by
    rcases npk_or (c := c) with hc | ⟨i', rfl⟩
    · cases c <;> first | (cases h; done) | cases hc
    · cases h
      exact List.mem_cons_self
  | .cons c r, j + 1, i, h => by
    have h : slotAt r j = some i := by cases c <;> exact h
    rcases npk_or (c := c) with hc | ⟨i', rfl⟩
    · rw [pks_npk hc]
      exact slotAt_mem h
    · exact List.mem_cons_of_mem _ (slotAt_mem h)
/-- the callee's labels: the borrowed ones' places; the rest that is owned is alien -/
def callW (es : CEs) (w : Own) : Own := fun a => (w a).map fun l => (posOf es l).getD (lenC es)
def backW (es : CEs) (t : Nat) (w wc : Own) : Own := fun a => (wc a).bind fun l => if l = lenC es + 1 then some t else if l = lenC es then w a else slotAt es l
theorem argR_at {w : Own} : ∀ {es : CEs} {kds : List KD} {vs : List V} {j i : Nat}, (pks es).Nodup → ArgR Φ.Γ σ H w es kds vs → slotAt es j = some i → posOf es i = some j ∧ ∃ v, vs[j]? = some v ∧ σ[i]? = some (some v)
  | .cons c r, kd :: ks, v :: vs, 0, i, nd, h, e => by
    rcases npk_or (c := c) with hc | ⟨i', rfl⟩
    · cases c <;> first | (cases e; done) | cases hc
    · cases e
      exact ⟨if_pos rfl, v, rfl, h.1.1⟩
  | .cons c r, kd :: ks, v :: vs, j + 1, i, nd, h, e => by
    have e' : slotAt r j = some i := by cases c <;> exact e
    rcases npk_or (c := c) with hc | ⟨i', rfl⟩
    · rw [pks_npk hc] at nd
      obtain ⟨h1, v', h2, h3⟩ := argR_at nd h.2 e'
      exact ⟨by rw [posOf_npk hc, h1]; rfl, v', h2, h3⟩
    · have nd' := List.nodup_cons.mp nd
      obtain ⟨h1, v', h2, h3⟩ := argR_at nd'.2 h.2 e'
      refine ⟨?_, v', h2, h3⟩
      show (if i' = i then some 0 else (posOf r i).map (· + 1)) = _
      rw [if_neg (fun z => nd'.1 (by rw [z]; exact slotAt_mem e')), h1]
      rfl
  | .nil, _, _, _, _, _, _, e => by cases e
  | .cons _ _, [], _, _, _, _, h, _ => h.elim
  | .cons _ _, _ :: _, [], _, _, _, h, _ => h.elim
theorem argR_len {w : Own} : ∀ {es : CEs} {kds : List KD} {vs : List V}, ArgR Φ.Γ σ H w es kds vs → kds.length = lenC es ∧ vs.length = lenC es
  | .nil, [], [], _ => ⟨rfl, rfl⟩
  | .cons c r, kd :: ks, v :: vs, h => by
    obtain ⟨h1, h2⟩ := argR_len h.2
    exact ⟨congrArg (· + 1) h1, congrArg (· + 1) h2⟩
  | .nil, _ :: _, _, h => h.elim
  | .nil, [], _ :: _, h => h.elim
  | .cons _ _, [], _, h => h.elim
  | .cons _ _, _ :: _, [], h => h.elim
/-- the callee's parameters -/
theorem argR_ovs {es : CEs} {w : Own} {E2 : CEs} {n : Nat} (hpos : ∀ i ∈ pks es, ∀ j, slotAt es j = some i → posOf E2 i = some (n + j)) : ∀ {kds : List KD} {vs : List V}, ArgR Φ.Γ σ H w es kds vs → OVs Φ.Γ H (callW E2 w) n kds vs := by
  have hidc : Sub (hid H w) (hid H (callW E2 w)) := fun a o e => by
    obtain ⟨h1, h2⟩ := hid_some e
    exact hid_of h2 (by unfold callW; rw [h1]; rfl)
  suffices key : ∀ (es : CEs) (n : Nat) (kds : List KD) (vs : List V), (∀ j i, slotAt es j = some i → posOf E2 i = some (n + j)) → ArgR Φ.Γ σ H w es kds vs → OVs Φ.Γ H (callW E2 w) n kds vs from
    fun {kds vs} h => key es n kds vs (fun j i e => hpos i (slotAt_mem e) j e) h
  intro es
  induction es using CEs.rec (motive_1 := fun _ => True) (motive_3 := fun _ => True) (motive_4 := fun _ => True) (motive_5 := fun _ => True) (motive_6 := fun _ => True) with
  | nil =>
    intro n kds vs _ h
    match kds, vs, h with
    | [], [], _ => exact True.intro
    | [], _ :: _, h => exact h.elim
    | _ :: _, _, h => exact h.elim
  | cons c r _ ih =>
    intro n kds vs hp h
    match kds, vs, h with
    | [], _, h => exact h.elim
    | _ :: _, [], h => exact h.elim
    | kd :: ks, v :: vs, h =>
      refine ⟨?_, ih (n + 1) ks vs (fun j i e => ?_) h.2⟩
      · rcases npk_or (c := c) with hc | ⟨i, rfl⟩
        · have h1 : kd.1 = 0 ∧ DV Φ.Γ (hid H w) kd.2 v := by
            have := h.1
            cases c <;> first | exact this | cases hc
          rw [h1.1]
          exact DV.mono hidc h1.2
        · have h1 : σ[i]? = some (some v) ∧ OV Φ.Γ H w i kd.1 kd.2 v := h.1
          refine h1.2.re (fun a wa => ?_) hidc
          unfold callW
          rw [wa]
          show some ((posOf E2 i).getD (lenC E2)) = some n
          rw [hp 0 i rfl]
          rfl
      · rw [show n + 1 + j = n + (j + 1) by omega]
        exact hp (j + 1) i (by cases c <;> exact e)
  | _ => trivial
end
end
section
/-! Soundness 23: calls, joined. -/
open PySem PySem.Spec PyProof.Rows L2

section
variable {Φ : Fx} {X : Cx} {σ : L2.St}
/-- borrowed things come back -/
theorem back_get : ∀ {es : CEs} {outs : List KD} {ρ ρ' : PB.Env}, (pks es).Nodup → backArgs es outs ρ = .ok ρ' → ρ'.length = ρ.length ∧ (∀ i, i ∉ pks es → ρ'[i]? = ρ[i]?) ∧ ∀ i ∈ pks es, i < ρ.length → ∃ j kd, slotAt es j = some i ∧ outs[j]? = some kd ∧ kd.1 ≠ 0 ∧ ρ'[i]? = some (some kd)
  | .nil, _, ρ, ρ', _, h => by
    cases h
    exact ⟨rfl, fun _ _ => rfl, fun _ h => nomatch h⟩
  | .cons c r, [], ρ, ρ', _, h => by cases h
  | .cons c r, o :: os, ρ, ρ', nd, h => by
    rcases npk_or (c := c) with hc | ⟨i', rfl⟩
    · have h : backArgs r os ρ = .ok ρ' := by cases c <;> first | exact h | cases hc
      rw [pks_npk hc] at nd ⊢
      obtain ⟨h1, h2, h3⟩ := back_get nd h
      refine ⟨h1, h2, fun i hi hl => ?_⟩
      obtain ⟨j, kd, e1, e2, e3, e4⟩ := h3 i hi hl
      exact ⟨j + 1, kd, by cases c <;> exact e1, e2, e3, e4⟩
    · have h : (if o.1 = 0 then Res.bad else backArgs r os (ρ.set i' (some o))) = .ok ρ' := h
      split at h
      · cases h
      · rename_i ho
        have nd' := List.nodup_cons.mp nd
        obtain ⟨h1, h2, h3⟩ := back_get nd'.2 h
        rw [List.length_set] at h1
        refine ⟨h1, fun i hi => ?_, fun i hi hl => ?_⟩
        · have hi' : i ≠ i' ∧ i ∉ pks r := by simpa [pks] using hi
          rw [h2 i hi'.2, List.getElem?_set_ne (Ne.symm hi'.1)]
        · by_cases hr : i ∈ pks r
          · obtain ⟨j, kd, e1, e2, e3, e4⟩ := h3 i hr (by rw [List.length_set]; exact hl)
            exact ⟨j + 1, kd, e1, e2, e3, e4⟩
          · have hii : i = i' := by
              rcases List.mem_cons.mp hi with z | z
              · exact z
              · exact absurd z hr
            subst hii
            exact ⟨0, o, rfl, rfl, ho, by rw [h2 i hr]; exact List.getElem?_set_self hl⟩
theorem back_calm {es : CEs} : ∀ (outs : List KD) (ρ : PB.Env), (backArgs es outs ρ).calm := by
  suffices key : ∀ (es : CEs) (outs : List KD) (ρ : PB.Env), (backArgs es outs ρ).calm from key es
  intro es
  induction es using CEs.rec (motive_1 := fun _ => True) (motive_3 := fun _ => True) (motive_4 := fun _ => True) (motive_5 := fun _ => True) (motive_6 := fun _ => True) with
  | nil => intro _ _; exact True.intro
  | cons c r _ ih =>
    intro outs ρ
    cases outs with
    | nil => exact True.intro
    | cons o os =>
      rcases npk_or (c := c) with hc | ⟨i', rfl⟩
      · have e : backArgs (.cons c r) (o :: os) ρ = backArgs r os ρ := by cases c <;> first | rfl | cases hc
        rw [e]
        exact ih os ρ
      · show (if o.1 = 0 then Res.bad else backArgs r os (ρ.set i' (some o)) : Res PB.Env).calm
        split
        · exact True.intro
        · exact ih os _
  | _ => trivial
theorem kp_back {es : CEs} {N t : Nat} {H H2 : Hp} {w wc : Own} (hp : ∀ i ∈ pks es, i < N) (hN : N < t) (al : ∀ a l, w a = some l → ∃ o, H a = some o) (k : Kp (lenC es) H (callW es w) H2 wc) : Stp N t H w H2 (backW es t w wc) := by
  have alien : ∀ a l, w a = some l → N ≤ l → callW es w a = some (lenC es) := fun a l e hl => by
    unfold callW
    rw [e]
    show some ((posOf es l).getD (lenC es)) = _
    rw [posOf_none fun hm => by have := hp l hm; omega]
    rfl
  have alien2 : ∀ a l, w a = some l → l ∉ pks es → callW es w a = some (lenC es) := fun a l e hl => by
    unfold callW
    rw [e]
    show some ((posOf es l).getD (lenC es)) = _
    rw [posOf_none hl]
    rfl
  have keep : ∀ a l o, H a = some o → w a = some l → l ∉ pks es → H2 a = some o ∧ backW es t w wc a = some l := fun a l o h e hl => by
    obtain ⟨h1, h2⟩ := k.ali a o h (alien2 a l e hl)
    refine ⟨h1, ?_⟩
    unfold backW
    rw [h2]
    show (if lenC es = lenC es + 1 then some t else if lenC es = lenC es then w a else slotAt es (lenC es)) = some l
    rw [if_neg (by omega), if_pos rfl, e]
  refine ⟨fun a o h hl => ?_, fun a o h e => ?_, fun a l e hl => ?_, fun a l e hl => ?_⟩
  · cases q : w a with
    | none => exact (k.non a o h (by unfold callW; rw [q]; rfl)).1
    | some l => exact (keep a l o h q fun hm => by have := hp l hm; have := hl l q; omega).1
  · have := (k.non a o h (by unfold callW; rw [e]; rfl)).2
    unfold backW
    rw [this]
    rfl
  · obtain ⟨o, h⟩ := al a l e
    exact (keep a l o h e fun hm => by have := hp l hm; omega).2
  · unfold backW at e
    cases q : wc a with
    | none => rw [q] at e; cases e
    | some m =>
      rw [q] at e
      have e : (if m = lenC es + 1 then some t else if m = lenC es then w a else slotAt es m) = some l := e
      split at e
      · have := Option.some.inj e
        exact .inr ⟨this.symm, by omega⟩
      · split at e
        · exact .inl e
        · have := hp l (slotAt_mem e)
          omega
theorem call_of {f : Nat} {es : CEs} {dvs : List V} {ew : XK → Nat → D → Hp → Prop} {E : XK} {H : Hp} {Q : VK} (hE : ∀ c d H, Φ.Ew c d H → ew E c d H) (h : tE Φ (.call f es) σ H Q) :
    tAr Φ es dvs σ H fun vs H1 => spF Φ.Γ Φ.F ew f (lenC es) (vs ++ dvs) H1 Q E := by
  obtain ⟨ρ, w, t, rp, hN, lv, hw⟩ := h
  have hw : Wp ((denArgs Φ.F es ρ).bind fun p => (Φ.F f p.1).bind fun r => (backArgs es r.2 p.2).bind fun ρ' => .ok (r.1, ρ')) (Ex Φ H w) (fun p => ∀ v H' w', Rep Φ.Γ Φ.N p.2 σ H' w' → Stp Φ.N t H w H' w' → OV Φ.Γ H' w' t p.1.1 p.1.2 v → Q v H') := hw
  refine ⟨ρ, w, t, rp, hN, lv, hw.bind.mono (fun _ _ e => e) fun p ep hp vs H1 w1 r1 s1 aa => ?_⟩
  obtain ⟨nd, gone⟩ := denArgs_pks ep
  have hpN : ∀ i ∈ pks es, i < Φ.N := fun i hi => slot_lt r1 (gone i hi)
  have hlen := argR_len aa
  refine ⟨hlen.2, p.1, callW es w1, ?_, fun a l e => ?_, fun a l e => ?_, hp.bind.mono (fun c d q H2 wc k => ?_) fun r er hr => ?_⟩
  · exact argR_ovs (E2 := es) (n := 0) (fun i hi j e => by
      rw [Nat.zero_add]
      exact (argR_at nd aa e).1) aa
  · unfold callW at e
    cases q : w1 a with
    | none => rw [q] at e; cases e
    | some m =>
      rw [q] at e
      have e : some ((posOf es m).getD (lenC es)) = some l := e
      have e := Option.some.inj e
      by_cases hm : m ∈ pks es
      · obtain ⟨j, h1, h2, _⟩ := posOf_some hm
        rw [h1] at e
        have e : j = l := e
        omega
      · rw [posOf_none hm] at e
        have e : lenC es = l := e
        omega
  · unfold callW at e
    cases q : w1 a with
    | none => rw [q] at e; cases e
    | some m => exact r1.al a m q
  · exact hE _ _ _ ((q.step s1.kp) H2 _ ((kp_back hpN hN r1.al k).kp hN))
  · intro v H2 wc k al ov outs
    have st := kp_back hpN hN r1.al k
    obtain ⟨ρ', eb, hQ⟩ := calm_ok (back_calm _ _) hr.bind
    obtain ⟨b1, b2, b3⟩ := back_get nd eb
    have hidb : Sub (hid H2 wc) (hid H2 (backW es t w1 wc)) := fun a o e => by
      obtain ⟨h1, h2⟩ := hid_some e
      exact hid_of h2 (by unfold backW; rw [h1]; rfl)
    refine hQ v H2 (backW es t w1 wc) ⟨by rw [b1]; exact r1.len, r1.lenS, fun i k' d e => ?_, fun a l e => ?_⟩ (s1.thenP st) (ov.re (fun a wa => ?_) hidb)
    · by_cases hi : i ∈ pks es
      · obtain ⟨j, kd, e1, e2, e3, e4⟩ := b3 i hi (by rw [r1.len]; exact hpN i hi)
        rw [e4] at e
        cases e
        obtain ⟨_, u, hu, hs⟩ := argR_at nd aa e1
        refine ⟨u, hs, (outs j (k', d) u e2 hu e3).re (fun a wa => ?_) hidb⟩
        have hj : j < lenC es := by
          have := (List.getElem?_eq_some_iff.mp hu).1
          rw [hlen.2] at this
          exact this
        unfold backW
        rw [wa]
        show (if j = lenC es + 1 then some t else if j = lenC es then w1 a else slotAt es j) = some i
        rw [if_neg (by omega), if_neg (by omega), e1]
      · rw [b2 i hi] at e
        obtain ⟨u, h1, h2⟩ := r1.at_ i k' d e
        refine ⟨u, h1, h2.step (fun a o ha wa => ?_) st.hid⟩
        have ca : callW es w1 a = some (lenC es) := by
          unfold callW
          rw [wa]
          show some ((posOf es i).getD (lenC es)) = _
          rw [posOf_none hi]
          rfl
        obtain ⟨q1, q2⟩ := k.ali a o ha ca
        refine ⟨q1, ?_⟩
        unfold backW
        rw [q2]
        show (if lenC es = lenC es + 1 then some t else if lenC es = lenC es then w1 a else slotAt es (lenC es)) = some i
        rw [if_neg (by omega), if_pos rfl, wa]
    · unfold backW at e
      cases q : wc a with
      | none => rw [q] at e; cases e
      | some m => exact al a m q
    · unfold backW
      rw [wa]
      show (if lenC es + 1 = lenC es + 1 then some t else _) = some t
      rw [if_pos rfl]
/-- f(e, ..) -/
theorem e_call {CX : CXT} {k f : Nat} {fa : Addr} {fd : FuncData} {ps : List Str} {E : XK} {ew : XK → Nat → D → Hp → Prop} {x : Str} {e : PySem.Expr} {es : List PySem.Expr} {cs : CEs} {p pos : Pos} {ds : List Value} {dvs : List V} {np : Nat} (xo : XOk Φ.Γ X)
    (F : FnG X.prog X.w X.K X.mg X.base CX k fa fd ps (spF Φ.Γ Φ.F ew f np)) (hr : Room k X.A) (hg : Gl X x) (hm : X.mg x = some (.ref fa)) (hk : PySem.W.keepIn X.K (.ref fa) = true) (hb : Binds X.K fd ps ds) (hd : Vals dvs ds) (hx : Passes CX X E)
    (hE : ∀ c d H, Φ.Ew c d H → ew E c d H) (hn : np = lenC cs) (ha : PA X (e :: es) (tAr Φ cs dvs)) (hdb : (x == ("__debug__" : Str)) = false := by decide) (he : starEach (e :: es) X.env = (false, eval e X.env) :: starEach es X.env := by rfl) (hpl : (backTo pos (starEach es X.env)).any (·.1) = false := by rfl) :
    PE X (.Call (.Name x p) (e :: es) [] pos) (tE Φ (.call f cs)) := by
  subst hn
  exact peI (pe_callG F hr xo.gd hg hm hk hb hd hx ha hdb he hpl) fun σ H Q h => call_of hE h
end
end
section
/-! Soundness 24: comprehensions as expressions; the rules with all that a context gives. -/
open PySem PySem.Spec PyProof.Rows L2

section
variable {Φ : Fx} {X : Cx} {z : List Nat}
theorem ts_yes : PTs X [] (tT Φ .yes) := ⟨fun pins s σ H Q I h => pts_nil.run pins s σ H Q I (by
  obtain ⟨ρ, w, t, rp, hN, lv, hw⟩ := h
  exact hw H w rp .refl)⟩
theorem ts_one {c : PySem.Expr} {ct : CT} (h : PT X c (tT Φ ct)) : PTs X [c] (tT Φ ct) := pts_one h
theorem e_lc {elt tg iter : PySem.Expr} {ifs : List PySem.Expr} {scope : Scope} {own : List (Str × Nat)} {pos : Pos} {it : Itk} {src : CEs} {t : Tg} {ci : CT} {ce : CE} (xo : XOk Φ.Γ X) (hN : X.N.Nodup) (hi : PI X tg iter (tI Φ it src)) (ok : BlkOk X.N X.env.scope scope own)
    (hg : ∀ (s : Shared) (H : Hp) (C : Addr) (cl : List (Str × Addr)) (fp : List Addr), PG (X.blk s H scope (compEnvC scope cl C X.env) fp) tg (tG Φ.blk (own.map (·.2)) t))
    (ht : ∀ (s : Shared) (H : Hp) (C : Addr) (cl : List (Str × Addr)) (fp : List Addr), PTs (X.blk s H scope (compEnvC scope cl C X.env) fp) ifs (tT Φ.blk ci))
    (he : ∀ (s : Shared) (H : Hp) (C : Addr) (cl : List (Str × Addr)) (fp : List Addr), PE (X.blk s H scope (compEnvC scope cl C X.env) fp) elt (tE Φ.blk ce)) (hwo : ∀ i ∈ watchOf src, i ∉ own.map (·.2)) (hs : ∀ x, foldedSetIterable iter X.env x = pure x := by intro _; rfl) :
    PE X (.ListComp elt [⟨tg, iter, ifs, 0⟩] scope pos) (tE Φ (.lc 1 (own.map (·.2)) t it src ci ce)) :=
  peI (pe_lc xo.calm hN hi ok hg ht he hs) fun _ _ _ h => lc_of hwo h
theorem s_setLc {i : Nat} {y : Str} {py : Pos} {elt tg iter : PySem.Expr} {ifs : List PySem.Expr} {scope : Scope} {own : List (Str × Nat)} {pos spos : Pos} {it : Itk} {src : CEs} {t : Tg} {ci : CT} {ce : CE} (xo : XOk Φ.Γ X) (hN : X.N.Nodup) (hy : X.N[i]? = some y) (hyl : X.env.scope.names.lookup y = some .local)
    (hl : i < Φ.N) (hz : i ∈ z) (hsw : swapsWith (.ListComp elt [⟨tg, iter, ifs, 0⟩] scope pos) (some (.Name y py)) spos.line X.env = pure true) (hi : PI X tg iter (tI Φ it src)) (ok : BlkOk X.N X.env.scope scope own)
    (hg : ∀ (s : Shared) (H : Hp) (C : Addr) (cl : List (Str × Addr)) (fp : List Addr), PG (X.blk s H scope (compEnvC scope cl C X.env) fp) tg (tG Φ.blk (own.map (·.2)) t))
    (ht : ∀ (s : Shared) (H : Hp) (C : Addr) (cl : List (Str × Addr)) (fp : List Addr), PTs (X.blk s H scope (compEnvC scope cl C X.env) fp) ifs (tT Φ.blk ci))
    (he : ∀ (s : Shared) (H : Hp) (C : Addr) (cl : List (Str × Addr)) (fp : List Addr), PE (X.blk s H scope (compEnvC scope cl C X.env) fp) elt (tE Φ.blk ce)) (hwo : ∀ i ∈ watchOf src, i ∉ own.map (·.2)) (hs : ∀ x, foldedSetIterable iter X.env x = pure x := by intro _; rfl) :
    PS X (.Assign [.Name y py] (.ListComp elt [⟨tg, iter, ifs, 0⟩] scope pos) spos) (tS Φ z (.asg (.nm i) (.lc 1 (own.map (·.2)) t it src ci ce))) :=
  psI (ps_setLc xo.calm hN hy hyl hsw hi ok hg ht he hs) fun D σ H h => lc_of hwo (tE_mono (asg_of h) fun v H1 h => by
    obtain ⟨ρ, w, t, t', kd, rp, hN, ht, lv, ov, hw⟩ := h
    have hw : Wp (Res.ok (ρ.set i (some kd))) (Ex Φ H1 w) _ := hw
    obtain ⟨h1, h2⟩ := rp.take (k := kd.1) (d := kd.2) hl hN ov
    exact hw _ _ _ h1 h2 (Off.set hz))
end
end
section
/-! Soundness 25: what a printed body takes. -/
open PySem PySem.Spec PyProof.Rows L2

section
variable {Φ : Fx} {X : Cx} {z : List Nat} {σ : L2.St} {H : Hp}
theorem isn_of {o : Op} {a : CE} {Q : VK} (h : tE Φ (.op o (.cons a .nil)) σ H Q) : tOp (fun x y H Q => y = .non ∧ rOp Φ.Γ o [x] H Q) (tO Φ a) (tC .non) σ H Q :=
  tO_mono (os_cons (op_of h)) fun _ _ h => ⟨rfl, os_nil h⟩
theorem e_isn {a : PySem.Expr} {ca : CE} {j : Nat} {pos p : Pos} (xo : XOk Φ.Γ X) (ha : PE X a (tO Φ ca)) : PE X (.Compare a [.Is] [.Constant .none j p] pos) (tE Φ (.op .isn (.cons ca .nil))) :=
  peI (pe_cmpR (ok_isn xo) ha pe_non (nomark _)) fun _ _ _ h => isn_of h
theorem e_notn {a : PySem.Expr} {ca : CE} {j : Nat} {pos p : Pos} (xo : XOk Φ.Γ X) (ha : PE X a (tO Φ ca)) : PE X (.Compare a [.IsNot] [.Constant .none j p] pos) (tE Φ (.op .notn (.cons ca .nil))) :=
  peI (pe_cmpR (ok_notn xo) ha pe_non (nomark _)) fun _ _ _ h => isn_of h
theorem t_cmp1 {op : CmpOp} {o : Op} {a : PySem.Expr} {ca : CE} {j : Nat} {p pos : Pos} (xo : XOk Φ.Γ X) (ho : OpR X (compareOp op) (fun x y H Q => y = .non ∧ rOp Φ.Γ o [x] H Q)) (ha : PE X a (tO Φ ca)) (hm : behindInMarks op (.Constant .none j p) = false) : PT X (.Compare a [op] [.Constant .none j p] pos) (tT Φ (.v (.op o (.cons ca .nil)))) := by
  refine ⟨fun pins s σ H Q I h => ?_⟩
  have h := isn_of (tv_of h)
  refine wpAny_isTrue_Compare1 (thn (ha.run pins s σ H _ I h) fun v s1 ⟨x, H1, I1, r1, q1⟩ => thn (pe_non.run pins s1 σ H1 _ I1 q1) fun u s2 ⟨y, H2, I2, r2, q2⟩ =>
    thn (ho pins s2 σ H2 x y v u _ I2 r1 r2 q2) fun c s3 ⟨z, H3, I3, r3, d, b, hd, hb, q⟩ => tru_dv xo I3 r3 hd hb q) hm
theorem t_isn {a : PySem.Expr} {ca : CE} {j : Nat} {pos p : Pos} (xo : XOk Φ.Γ X) (ha : PE X a (tO Φ ca)) : PT X (.Compare a [.Is] [.Constant .none j p] pos) (tT Φ (.v (.op .isn (.cons ca .nil)))) := t_cmp1 xo (ok_isn xo) ha (nomark _)
theorem t_notn {a : PySem.Expr} {ca : CE} {j : Nat} {pos p : Pos} (xo : XOk Φ.Γ X) (ha : PE X a (tO Φ ca)) : PT X (.Compare a [.IsNot] [.Constant .none j p] pos) (tT Φ (.v (.op .notn (.cons ca .nil)))) := t_cmp1 xo (ok_notn xo) ha (nomark _)
theorem isi_int (d : D) (S : String) (h : tyD d = some S) : kitB S "int" = some (isD "int" d) := by cases d <;> cases h <;> first | (show kitB _ _ = some true; decide +kernel) | (show kitB _ _ = some false; decide +kernel)
theorem isi_bool (d : D) (S : String) (h : tyD d = some S) : kitB S "bool" = some (isD "bool" d) := by cases d <;> cases h <;> first | (show kitB _ _ = some true; decide +kernel) | (show kitB _ _ = some false; decide +kernel)
theorem isi_tuple (d : D) (S : String) (h : tyD d = some S) : kitB S "tuple" = some (isD "tuple" d) := by cases d <;> cases h <;> first | (show kitB _ _ = some true; decide +kernel) | (show kitB _ _ = some false; decide +kernel)
theorem isi_str (d : D) (S : String) (h : tyD d = some S) : kitB S "str" = some (isD "str" d) := by cases d <;> cases h <;> first | (show kitB _ _ = some true; decide +kernel) | (show kitB _ _ = some false; decide +kernel)
theorem hop_int (l : List D) (kd : KD) (h : opD .isInt l = .ok kd) : ∃ d, l = [d] ∧ (tyD d).isSome = true ∧ kd = (0, .bl (isD "int" d)) := by
  have e : op_isInt l = .ok kd := h
  clear h
  unfold op_isInt at e
  split at e
  · rename_i d
    refine ⟨d, rfl, ?_⟩
    cases d <;> cases e <;> exact ⟨rfl, rfl⟩
  · cases e
theorem hop_bool (l : List D) (kd : KD) (h : opD .isBool l = .ok kd) : ∃ d, l = [d] ∧ (tyD d).isSome = true ∧ kd = (0, .bl (isD "bool" d)) := by
  have e : op_isBool l = .ok kd := h
  clear h
  unfold op_isBool at e
  split at e
  · rename_i d
    refine ⟨d, rfl, ?_⟩
    cases d <;> cases e <;> exact ⟨rfl, rfl⟩
  · cases e
theorem hop_tup (l : List D) (kd : KD) (h : opD .isTup l = .ok kd) : ∃ d, l = [d] ∧ (tyD d).isSome = true ∧ kd = (0, .bl (isD "tuple" d)) := by
  have e : op_isTup l = .ok kd := h
  clear h
  unfold op_isTup at e
  split at e
  · rename_i d
    refine ⟨d, rfl, ?_⟩
    cases d <;> cases e <;> exact ⟨rfl, rfl⟩
  · cases e
theorem hop_str (l : List D) (kd : KD) (h : opD .isStr l = .ok kd) : ∃ d, l = [d] ∧ (tyD d).isSome = true ∧ kd = (0, .bl (isD "str" d)) := by
  have e : op_isStr l = .ok kd := h
  clear h
  unfold op_isStr at e
  split at e
  · rename_i d
    refine ⟨d, rfl, ?_⟩
    cases d <;> cases e <;> exact ⟨rfl, rfl⟩
  · cases e
/-- a negative number -/
theorem e_nint {i : Int} {j : Nat} {p pos : Pos} (xo : XOk Φ.Γ X) : PE X (.UnaryOp .USub (.Constant (.int i) j p) pos) (tE Φ (.cst (.int (-i)))) :=
  peI (pe_un (ok_neg xo) (e_int (Φ := Φ))) fun σ H Q h => by
    obtain ⟨ρ, w, t, rp, hN, lv, hw⟩ := h
    have hw : Wp (Res.ok (((0, D.int (-i)) : KD), ρ)) (Ex Φ H w) _ := hw
    refine ⟨ρ, w, t, rp, hN, lv, ?_⟩
    show ∀ x H' w', Rep Φ.Γ Φ.N ρ σ H' w' → Stp Φ.N t H w H' w' → OV Φ.Γ H' w' t 0 (.int i) x → _
    intro x H' w' r' s' ov
    have ev : x = .int i := by
      have dv : DV Φ.Γ (hid H' w') (.int i) x := ov
      cases dv
      rfl
    subst ev
    have l' := s'.lv hN lv
    refine ⟨[.int i], w', t + 1, (0, .int (-i)), (fun z => by cases z), .cons (.int i) .nil, rfl, l'.ne, r'.al, ?_⟩
    intro y H2 w2 hs he lab al ov2
    have e2 : y = .int (-i) := by
      have dv : DV Φ.Γ (hid H2 w2) (.int (-i)) y := ov2
      cases dv
      rfl
    subst e2
    have s2 : Stp Φ.N (t + 1) H' w' H2 w2 := stp_of hs he lab r'.al
    exact hw (.int (-i)) H2 (drop w2 (t + 1)) ((rep_step r' hs he al).drop (by omega)) (s'.thenZ (s2.shareT l')) (DV.int _)
end
/-- no exception is told -/
def ew0 : XK → Nat → D → Hp → Prop := fun _ _ _ _ => False
/-- a def that may be called -/
structure Cl (P : Program) (w : World) (K : PySem.W.Frag) (mg : Str → Option Value) (base : Heap) (Γ : Gx) (F : Fn) (k : Nat) (nm : Str) (f : Nat) (ps : List Str) (dvs : List V) : Prop where
  ex : ∃ (fa : Addr) (fd : FuncData), FnG P w K mg base CX0 k fa fd ps (spF Γ F ew0 f ps.length) ∧ mg nm = some (.ref fa) ∧ PySem.W.keepIn K (.ref fa) = true ∧ (dvs = [] → Binds K fd ps []) ∧ (dvs ≠ [] → ∃ ds, Vals dvs ds ∧ Binds K fd ps ds)
section
variable {Φ : Fx} {X : Cx}
theorem e_callC {k f : Nat} {nm : Str} {ps : List Str} {e : PySem.Expr} {es : List PySem.Expr} {cs : CEs} {p pos : Pos} {dvs : List V} (xo : XOk Φ.Γ X) (C : Cl X.prog X.w X.K X.mg X.base Φ.Γ Φ.F k nm f ps dvs) (hr : Room k X.A) (hE : ∀ c d H, ¬ Φ.Ew c d H) (hg : Gl X nm)
    (hn : ps.length = lenC cs) (ha : PA X (e :: es) (tAr Φ cs dvs)) (hdb : (nm == ("__debug__" : Str)) = false := by decide) (he : starEach (e :: es) X.env = (false, eval e X.env) :: starEach es X.env := by rfl) (hpl : (backTo pos (starEach es X.env)).any (·.1) = false := by rfl) :
    PE X (.Call (.Name nm p) (e :: es) [] pos) (tE Φ (.call f cs)) := by
  obtain ⟨fa, fd, F, hm, hk, hb, hb2⟩ := C.ex
  by_cases hd : dvs = []
  · subst hd
    exact e_call xo F hr hg hm hk (hb rfl) .nil (E := fun _ _ _ => False) (fun _ _ _ _ _ _ _ z => z.elim) (fun c d H z => (hE c d H z).elim) hn ha hdb he hpl
  · obtain ⟨ds, hv, hb3⟩ := hb2 hd
    exact e_call xo F hr hg hm hk hb3 hv (E := fun _ _ _ => False) (fun _ _ _ _ _ _ _ z => z.elim) (fun c d H z => (hE c d H z).elim) hn ha hdb he hpl
theorem FnG.zero {P : Program} {w : World} {K : PySem.W.Frag} {mg : Str → Option Value} {base : Heap} {Γ : Gx} {Pr : Nat → Option FDef} {f : Nat} {fa : Addr} {fd : FuncData} {ps : List Str} {k : Nat} : FnG P w K mg base CX0 k fa fd ps (spF Γ (denF Pr 0) ew0 f ps.length) :=
  ⟨fun vs H Q E h => h.1, fun A outer s H args us vs Q E _ _ h => by
    obtain ⟨_, _, args, w, _, _, _, hw⟩ := h
    exact hw.elim⟩
theorem xok_of {P : Program} {w : World} {K : PySem.W.Frag} {mg : Str → Option Value} {base : Heap} {Γ : Gx} {N : List Str} {qual : Str} {scope : Scope} {fa : Addr} {cdv : Value} {A : Around} {outer : List PySem.Env} {s : Shared} {H : Hp} {E : XK} {k : Nat} (hK : K = Γ.K) (hw : w = Γ.w) (hr : Room k (A.deeper (envOfC qual scope s.heap.objs.size fa cdv))) (gd : A.guards = some []) :
    XOk Γ (cxOf CX0 P w K mg base N qual scope fa cdv A outer s H E).nox :=
  ⟨hK, hw, rfl, by
    have := hr.un
    show (A.deeper (envOfC qual scope s.heap.objs.size fa cdv)).units + 100 < cLine
    omega, gd⟩
end
end
section
/-! Soundness 26: chains of three. -/
open PySem PySem.Spec PyProof.Rows L2

section
variable {Φ : Fx} {X : Cx} {σ : L2.St}
/-- behind a yes: the last comparison -/
theorem cht1 {o : Op} {c : CE} {d : D} {y : V} {H : Hp} {ρ : PB.Env} {w : Own} {t : Nat} {Q : VK} (rp : Rep Φ.Γ Φ.N ρ σ H w) (hN : Φ.N < t) (lv : Lv w t) (dy : DV Φ.Γ (hid H w) d y)
    (hw : Wp ((den Φ.F c ρ).bind fun q => (opD o [d, q.1.2]).bind fun t' => .ok ((0, t'.2), q.2)) (Ex Φ H w) fun p : KD × PB.Env => ∀ v H' w', Rep Φ.Γ Φ.N p.2 σ H' w' → Stp Φ.N t H w H' w' → OV Φ.Γ H' w' t p.1.1 p.1.2 v → Q v H') :
    tE Φ c σ H fun x H' => rOp2 Φ.Γ o y x H' Q := by
  refine ⟨ρ, w, t, rp, hN, lv, hw.bind.mono (fun _ _ e => e) fun q _ hq x H1 w1 r1 s1 ov => ?_⟩
  obtain ⟨kd, eo, hr⟩ := calm_ok (opD_calm _ _) hq.bind
  have z1 := s1.shareT lv
  have dy1 : DV Φ.Γ (hid H1 (drop w1 t)) d y := DV.mono z1.hid dy
  have l1 := z1.lv hN lv
  refine ⟨[d, q.1.2], drop w1 t, t, kd, fun _ => .cons (.sh dy1) (.cons (.sh ov.share) .nil), .cons (DV.mono hid_sub dy1) (.cons ov.dv .nil), eo, l1.ne, (r1.drop hN).al, ?_⟩
  intro v H2 w2 hs he lab al ov2
  have s2 : Stp Φ.N t H1 (drop w1 t) H2 w2 := stp_of hs he lab (r1.drop hN).al
  have z2 := z1.trans (s2.shareT l1)
  exact hr v H2 (drop w2 t) ((rep_step (r1.drop hN) hs he al).drop hN) z2.stp ov2.share
theorem cht2 {o o' : Op} {c c' : CE} {d : D} {y : V} {H : Hp} {ρ : PB.Env} {w : Own} {t : Nat} {Q : VK} (rp : Rep Φ.Γ Φ.N ρ σ H w) (hN : Φ.N < t) (lv : Lv w t) (dy : DV Φ.Γ (hid H w) d y)
    (hw : Wp ((den Φ.F c ρ).bind fun q => (opD o [d, q.1.2]).bind fun t' => denCh Φ.F t'.2 q.1.2 (.cons o' c' .nil) q.2) (Ex Φ H w) fun p : KD × PB.Env => ∀ v H' w', Rep Φ.Γ Φ.N p.2 σ H' w' → Stp Φ.N t H w H' w' → OV Φ.Γ H' w' t p.1.1 p.1.2 v → Q v H') :
    tE Φ c σ H fun x H1 => rOp2 Φ.Γ o y x H1 fun z H2 => ∃ k, z = .bl k ∧ if k = true then tE Φ c' σ H2 (fun x' H3 => rOp2 Φ.Γ o' x x' H3 Q) else Q (.bl false) H2 := by
  refine ⟨ρ, w, t, rp, hN, lv, hw.bind.mono (fun _ _ e => e) fun q _ hq x H1 w1 r1 s1 ov => ?_⟩
  obtain ⟨kd, eo, hr⟩ := calm_ok (opD_calm _ _) hq.bind
  have z1 := s1.shareT lv
  have dy1 : DV Φ.Γ (hid H1 (drop w1 t)) d y := DV.mono z1.hid dy
  have dx1 : DV Φ.Γ (hid H1 (drop w1 t)) q.1.2 x := ov.share
  have l1 := z1.lv hN lv
  refine ⟨[d, q.1.2], drop w1 t, t, kd, fun _ => .cons (.sh dy1) (.cons (.sh dx1) .nil), .cons (DV.mono hid_sub dy1) (.cons (DV.mono hid_sub dx1) .nil), eo, l1.ne, (r1.drop hN).al, ?_⟩
  intro v H2 w2 hs he lab al ov2
  have s2 : Stp Φ.N t H1 (drop w1 t) H2 w2 := stp_of hs he lab (r1.drop hN).al
  have z2 := z1.trans (s2.shareT l1)
  have r2 := (rep_step (r1.drop hN) hs he al).drop hN
  have dx2 : DV Φ.Γ (hid H2 (drop w2 t)) q.1.2 x := DV.mono (s2.shareT l1).hid dx1
  obtain ⟨k, dd⟩ := kd
  cases dd with
  | bl b =>
    have ev : v = .bl b := by cases ov2.dv; rfl
    subst ev
    refine ⟨b, rfl, ?_⟩
    cases b with
    | true =>
      rw [if_pos rfl]
      exact cht1 r2 hN (z2.lv hN lv) dx2 (hr.mono (fun _ _ e => e.step z2.kp) fun p _ hp v' H' w' r' s' o' => hp v' H' w' r' (z2.thenP s') o')
    | false =>
      rw [if_neg (by decide)]
      exact hr (.bl false) H2 (drop w2 t) r2 z2.stp (.bl false)
  | _ => exact False.elim hr
/-- a op b, then what follows -/
theorem chn_head {o : Op} {ca cb : CE} {r : Chs} (hrn : r ≠ .nil) {H : Hp} {Q : VK} {Z : V → V → Bool → L2.St → Hp → Prop} (h : tE Φ (.chn o ca cb r) σ H Q)
    (hz : ∀ x y d H ρ w t b, Rep Φ.Γ Φ.N ρ σ H w → Φ.N < t → Lv w t → DV Φ.Γ (hid H w) d y → Wp (denCh Φ.F (.bl b) d r ρ) (Ex Φ H w) (fun p : KD × PB.Env => ∀ v H' w', Rep Φ.Γ Φ.N p.2 σ H' w' → Stp Φ.N t H w H' w' → OV Φ.Γ H' w' t p.1.1 p.1.2 v → Q v H') → Z x y b σ H) :
    tE Φ ca σ H fun x H1 => tE Φ cb σ H1 fun y H2 => rOp2 Φ.Γ o x y H2 fun z H3 => ∃ k, z = .bl k ∧ Z x y k σ H3 := by
  obtain ⟨ρ, w, t, rp, hN, lv, hw⟩ := h
  have hw : Wp ((den Φ.F ca ρ).bind fun p => (den Φ.F cb p.2).bind fun q => (opD o [p.1.2, q.1.2]).bind fun t' => denCh Φ.F t'.2 q.1.2 r q.2) (Ex Φ H w) fun p => ∀ v H' w', Rep Φ.Γ Φ.N p.2 σ H' w' → Stp Φ.N t H w H' w' → OV Φ.Γ H' w' t p.1.1 p.1.2 v → Q v H' := hw
  refine ⟨ρ, w, t, rp, hN, lv, hw.bind.mono (fun _ _ e => e) fun p _ hp x H1 w1 r1 s1 ox => ?_⟩
  refine ⟨p.2, w1, t + 1, r1, Nat.le_succ_of_le hN, s1.lv hN lv, hp.bind.mono (fun _ _ e => e.step (s1.kp hN)) fun q _ hq y H2 w2 r2 s2 oy => ?_⟩
  have z2 := s2.shareT (s1.lv hN lv)
  have ox2 := (ox.stz hN z2).share
  have rr := (r2.drop (t := t + 1) (Nat.le_succ_of_le hN)).drop hN
  have zz : Stz Φ.N H w H2 (drop (drop w2 (t + 1)) t) := (s1.thenZ z2).shareT lv
  have oy2 : DV Φ.Γ (hid H2 (drop (drop w2 (t + 1)) t)) q.1.2 y := DV.mono hid_drop oy.share
  have lz := zz.lv hN lv
  obtain ⟨kd, eo, hr⟩ := calm_ok (opD_calm _ _) hq.bind
  refine ⟨[p.1.2, q.1.2], _, t, kd, fun _ => .cons (.sh ox2) (.cons (.sh oy2) .nil), .cons (DV.mono hid_sub ox2) (.cons (DV.mono hid_sub oy2) .nil), eo, lz.ne, rr.al, ?_⟩
  intro v H3 w3 hs he lab al ov
  have s3 := stp_of (N := Φ.N) hs he lab rr.al
  have z3 := zz.trans (s3.shareT lz)
  have r4 := (rep_step rr hs he al).drop hN
  obtain ⟨k, dd⟩ := kd
  cases dd with
  | bl b =>
    have ev : v = .bl b := by cases ov.dv; rfl
    subst ev
    exact ⟨b, rfl, hz x y q.1.2 H3 q.2 (drop w3 t) t b r4 hN (z3.lv hN lv) (DV.mono (s3.shareT lz).hid oy2) (hr.mono (fun _ _ e => e.step z3.kp) fun p' _ hp' v' H' w' r' s' o' => hp' v' H' w' r' (z3.thenP s') o')⟩
  | _ => cases r <;> first | exact absurd rfl hrn | exact False.elim hr
theorem chn3_of {o o' o'' : Op} {ca cb cc cd : CE} {H : Hp} {Q : VK} (h : tE Φ (.chn o ca cb (.cons o' cc (.cons o'' cd .nil))) σ H Q) :
    tE Φ ca σ H fun x H1 => tE Φ cb σ H1 fun y H2 => rOp2 Φ.Γ o x y H2 fun z H3 => ∃ k, z = .bl k ∧ if k = true then tE Φ cc σ H3 (fun x1 H4 => rOp2 Φ.Γ o' y x1 H4 fun z' H5 => ∃ k', z' = .bl k' ∧ if k' = true then tE Φ cd σ H5 (fun x2 H6 => rOp2 Φ.Γ o'' x1 x2 H6 Q) else Q (.bl false) H5) else Q (.bl false) H3 :=
  chn_head (r := .cons o' cc (.cons o'' cd .nil)) (fun z => by cases z) (Z := fun x y k σ H3 => if k = true then tE Φ cc σ H3 (fun x1 H4 => rOp2 Φ.Γ o' y x1 H4 fun z' H5 => ∃ k', z' = .bl k' ∧ if k' = true then tE Φ cd σ H5 (fun x2 H6 => rOp2 Φ.Γ o'' x1 x2 H6 Q) else Q (.bl false) H5) else Q (.bl false) H3) h fun x y d H ρ w t b rp hN lv dy hw => by
    cases b with
    | true =>
      rw [if_pos rfl]
      exact cht2 rp hN lv dy hw
    | false =>
      rw [if_neg (by decide)]
      exact hw (.bl false) H w rp .refl (.bl false)
theorem e_chain3 {op op' op'' : CmpOp} {o o' o'' : Op} {a b c d : PySem.Expr} {ca cb cc cd : CE} {pos : Pos} (ho : OpR X (compareOp op) (rOp2 Φ.Γ o)) (ho' : OpR X (compareOp op') (rOp2 Φ.Γ o')) (ho'' : OpR X (compareOp op'') (rOp2 Φ.Γ o'')) (ha : PE X a (tE Φ ca)) (hb : PE X b (tE Φ cb)) (hc : PE X c (tE Φ cc)) (hd : PE X d (tE Φ cd))
    (hm : lastMarks [op, op', op''] [b, c, d] = false := by with_unfolding_all rfl) : PE X (.Compare a [op, op', op''] [b, c, d] pos) (tE Φ (.chn o ca cb (.cons o' cc (.cons o'' cd .nil)))) := by
  refine ⟨fun pins s σ H Q I h => ?_⟩
  have h := chn3_of h
  refine Compare_chain (thn (ha.run pins s σ H _ I h) fun v s1 ⟨x, H1, I1, r1, q1⟩ => chain_link (thn (hb.run pins s1 σ H1 _ I1 q1) fun u s2 ⟨y, H2, I2, r2, q2⟩ =>
    thn (ho pins s2 σ H2 x y v u _ I2 r1 r2 q2) fun t1 s3 ⟨z, H3, I3, r3, k, e, q3⟩ => ?_)) hm
  subst e
  cases r3
  refine wpAny_truthy_bool ?_
  cases k with
  | false => exact ite_ff ⟨.bl false, H3, I3, rfl, q3⟩
  | true =>
    refine ite_tt (chain_link (thn (hc.run pins s3 σ H3 _ I3 q3) fun u2 s4 ⟨x1, H4, I4, r4, q4⟩ => thn (ho' pins s4 σ H4 y x1 u u2 _ I4 r2 r4 q4) fun t2 s5 ⟨z', H5, I5, r5, k', e', q5⟩ => ?_))
    subst e'
    cases r5
    refine wpAny_truthy_bool ?_
    cases k' with
    | false => exact ite_ff ⟨.bl false, H5, I5, rfl, q5⟩
    | true => exact ite_tt (chain_last (thn (hd.run pins s5 σ H5 _ I5 q5) fun u3 s6 ⟨x2, H6, I6, r6, q6⟩ => ho'' pins s6 σ H6 x1 x2 u2 u3 Q I6 r4 r6 q6))
end
end
section
/-! Soundness 27: dict comprehensions, keys that are tuples. -/
open PySem PySem.Spec PyProof.Rows L2

section
variable {Γ : Gx} {Y : Cx} {pins : List (Addr × Obj)} {σ : L2.St} {H : Hp} {s : Shared}
mutual
theorem nk_is (hK : Y.K = Γ.K) (I : L2.Inv Y pins σ H s) : ∀ {d : D} {v : V} {u : Value}, DV Γ H d v → d.key = true → RelV v u → NestedIs s.heap d.nk u
  | _, _, _, .non, _, r => by cases r; exact .none
  | _, _, _, .int i, _, r => by obtain ⟨t, rfl⟩ := r; exact .int i t
  | _, _, _, .str x, _, r => by obtain ⟨t, rfl⟩ := r; exact .text x t
  | _, _, _, .tup (xs := xs) a b, h, r => by
    cases r
    rw [← hK] at a
    obtain ⟨its, rv, ⟨o, p1, c1, n, q1⟩, z⟩ := I.tuple a
    exact .tup p1 c1 q1 (by simpa using nks_is hK I b (by simpa [D.key] using h) rv)
  | _, _, _, .bl _, h, _ => by simp [D.key] at h
  | _, _, _, .lst _ _, h, _ => by simp [D.key] at h
  | _, _, _, .scr _, h, _ => by simp [D.key] at h
  | _, _, _, .dctK _ _, h, _ => by simp [D.key] at h
  | _, _, _, .dctN _ _, h, _ => by simp [D.key] at h
  | _, _, _, .fn _, h, _ => by simp [D.key] at h
theorem nks_is (hK : Y.K = Γ.K) (I : L2.Inv Y pins σ H s) : ∀ {ds : List D} {vs : List V} {us : List Value}, DVs Γ H ds vs → D.keys ds = true → Vals vs us → NestedAll s.heap (D.nks ds) us
  | _, _, _, .nil, _, .nil => .nil
  | _, _, _, .cons a b, h, .cons r t => by
    simp only [D.keys, Bool.and_eq_true] at h
    exact .cons (nk_is hK I a h.1 r) (nks_is hK I b h.2 t)
end
/-- stored: in its place, or at the end -/
def sN : List (D × Addr × V) → D → Addr → V → List (D × Addr × V)
  | [], d, t, v => [(d, t, v)]
  | e :: r, d, t, v => if e.1 = d then (e.1, e.2.1, v) :: r else e :: sN r d t v
theorem sN_len (d : D) (t : Addr) (v : V) : ∀ es : List (D × Addr × V), (sN es d t v).length ≤ es.length + 1
  | [] => Nat.le_refl _
  | e :: r => by
    unfold sN
    split
    · simp
    · have := sN_len d t v r
      simp only [List.length_cons]
      omega
theorem sN_ne (d : D) (t : Addr) (v : V) (es : List (D × Addr × V)) : sN es d t v ≠ [] := by
  cases es with
  | nil => simp [sN]
  | cons e r => unfold sN; split <;> simp
theorem sN_keys {d : D} {t : Addr} {v : V} : ∀ {es : List (D × Addr × V)} {k : D}, k ∈ (sN es d t v).map (·.1) → k = d ∨ k ∈ es.map (·.1)
  | [], k, h => by simpa [sN] using h
  | e :: r, k, h => by
    unfold sN at h
    split at h
    · exact .inr (by simpa using h)
    · rw [List.map_cons] at h
      rcases List.mem_cons.mp h with z | z
      · exact .inr (by rw [z]; simp)
      · rcases sN_keys z with q | q
        · exact .inl q
        · exact .inr (by rw [List.map_cons]; exact List.mem_cons_of_mem _ q)
theorem sN_nodup {d : D} {t : Addr} {v : V} : ∀ {es : List (D × Addr × V)}, (es.map (·.1)).Nodup → ((sN es d t v).map (·.1)).Nodup
  | [], _ => by simp [sN]
  | e :: r, nd => by
    rw [List.map_cons] at nd
    have nd' := List.nodup_cons.mp nd
    unfold sN
    split
    · exact nd
    · rename_i he
      rw [List.map_cons]
      refine List.nodup_cons.mpr ⟨fun hm => ?_, sN_nodup nd'.2⟩
      rcases sN_keys hm with q | q
      · exact he q
      · exact nd'.1 q
theorem dvn_put {Hs : Hp} {xs : List D} {t : Addr} {d : D} {v : V} (hk : D.keys xs = true) (hn : (D.tup xs).nk.depth ≤ 8) (ht : DV Γ Hs (.tup xs) (.ref t)) (hv : DV Γ Hs d v) : ∀ {kvs : List (D × D)} {es : List (D × Addr × V)}, DVn Γ Hs kvs es → DVn Γ Hs (kput kvs (.tup xs) d) (sN es (.tup xs) t v)
  | _, _, .nil => .cons hk hn ht hv .nil
  | _, _, .cons (xs := ys) k n x a b => by
    unfold kput sN
    by_cases h : D.tup ys = D.tup xs
    · rw [if_pos h, if_pos h]
      have e : ys = xs := by simpa using h
      subst e
      exact .cons k n x hv b
    · rw [if_neg h, if_neg h]
      exact .cons k n x a (dvn_put hk hn ht hv b)
/-- the entries, as the library has them -/
def xsOf (es : List (D × Addr × V)) (us : List Value) : List (NestedKey × Addr × Value) := List.zipWith (fun e u => (e.1.nk, e.2.1, u)) es us
theorem xsOf_raw {w : World} {prog : Program} : ∀ (es : List (D × Addr × V)) (us : List Value), (xsOf es us).map (entryOfKey (nestedKind prog w)) = List.zipWith (fun (e : D × Addr × V) u => (⟨e.1.nk.hash w, .ref e.2.1, u⟩ : DictEntry)) es us
  | [], _ => rfl
  | _ :: _, [] => rfl
  | e :: es, u :: us => by
    show _ :: (xsOf es us).map _ = _ :: _
    rw [xsOf_raw es us]
    rfl
/-- keys of this kind -/
def KeyD (d : D) : Prop := ∃ xs, d = .tup xs ∧ D.keys xs = true ∧ d.nk.depth ≤ 8
theorem KeyD.key {d : D} (h : KeyD d) : d.key = true := by
  obtain ⟨xs, rfl, h, _⟩ := h
  simpa [D.key] using h
theorem xsOf_keys {es : List (D × Addr × V)} {us : List Value} : es.length = us.length → (xsOf es us).map (·.1) = es.map fun e => e.1.nk := by
  induction es generalizing us with
  | nil => intro _; rfl
  | cons e es ih =>
    intro h
    cases us with
    | nil => cases h
    | cons u us =>
      show _ :: (xsOf es us).map (·.1) = _ :: _
      rw [ih (by simpa using h)]
theorem nodup_nk {es : List (D × Addr × V)} (hk : ∀ e ∈ es, KeyD e.1) (nd : (es.map (·.1)).Nodup) : (es.map fun e => e.1.nk).Nodup := by
  induction es with
  | nil => exact List.nodup_nil
  | cons e es ih =>
    have nd' := List.nodup_cons.mp nd
    rw [List.map_cons]
    refine List.nodup_cons.mpr ⟨fun hm => ?_, ih (fun x hx => hk x (List.mem_cons_of_mem _ hx)) nd'.2⟩
    obtain ⟨x, hx, ex⟩ := List.mem_map.mp hm
    have := D.nk_inj x.1 e.1 (hk x (List.mem_cons_of_mem _ hx)).key (hk e List.mem_cons_self).key ex
    exact nd'.1 (List.mem_map.mpr ⟨x, hx, this⟩)
theorem stored_hit {K : Type} [DecidableEq K] {k : K} {a b : Addr} {u v : Value} {r : List (K × Addr × Value)} (h : k ∉ r.map (·.1)) : storedH ((k, a, u) :: r) k b v = (k, a, v) :: r := by
  unfold storedH
  have e : (atKey ((k, a, u) :: r) k).isSome = true := by simp [atKey]
  rw [if_pos e, List.map_cons, map_putAt_of_not_mem r k v h]
  simp [putAt]
theorem stored_miss {K : Type} [DecidableEq K] {k k' : K} {a b : Addr} {u v : Value} {r : List (K × Addr × Value)} (h : k' ≠ k) : storedH ((k', a, u) :: r) k b v = (k', a, u) :: storedH r k b v := by
  unfold storedH
  have e : (atKey ((k', a, u) :: r) k).isSome = (atKey r k).isSome := by simp [atKey, h]
  rw [e]
  split
  · rw [List.map_cons]
    simp [putAt, h]
  · rfl
theorem xsOf_put {d : D} {t : Addr} {v : V} {r : Value} (rv : RelV v r) : ∀ {es : List (D × Addr × V)} {us : List Value}, (∀ e ∈ es, KeyD e.1) → KeyD d → (es.map (·.1)).Nodup → Paired (fun (e : D × Addr × V) u => RelV e.2.2 u) es us →
    ∃ us', Paired (fun (e : D × Addr × V) u => RelV e.2.2 u) (sN es d t v) us' ∧ storedH (xsOf es us) d.nk t r = xsOf (sN es d t v) us'
  | [], [], _, _, _, _ => ⟨[r], .cons rv .nil, rfl⟩
  | (d', a', v') :: es, u :: us, hk, hd, nd, .cons p q => by
    have nd' := List.nodup_cons.mp nd
    have hl := q.length
    unfold sN
    by_cases h : d' = d
    · subst h
      rw [if_pos rfl]
      refine ⟨r :: us, .cons rv q, ?_⟩
      show storedH ((d'.nk, a', u) :: xsOf es us) d'.nk t r = (d'.nk, a', r) :: xsOf es us
      refine stored_hit fun hm => ?_
      rw [xsOf_keys hl] at hm
      obtain ⟨x, hx, ex⟩ := List.mem_map.mp hm
      exact nd'.1 (List.mem_map.mpr ⟨x, hx, D.nk_inj x.1 d' (hk x (List.mem_cons_of_mem _ hx)).key hd.key ex⟩)
    · rw [if_neg h]
      obtain ⟨us', h1, h2⟩ := xsOf_put rv (fun e he => hk e (List.mem_cons_of_mem _ he)) hd nd'.2 q
      refine ⟨u :: us', .cons p h1, ?_⟩
      show storedH ((d'.nk, a', u) :: xsOf es us) d.nk t r = (d'.nk, a', u) :: xsOf (sN es d t v) us'
      rw [stored_miss fun e => h (D.nk_inj d' d (hk (d', a', v') List.mem_cons_self).key hd.key e), h2]
/-- d[k] = v by a comprehension, k a tuple -/
theorem dn_set {Dd t : Addr} {es : List (D × Addr × V)} {d : D} {v : V} {r : Value} {E : Value → Shared → Prop} {Q : Unit → Shared → Prop} (hK : Y.K = Γ.K) (hw : Y.w = Γ.w) (hr : Y.A.units + 100 < cLine) (I : L2.Inv Y pins σ H s) (hD : H Dd = some (dN Γ.w Dd es) ∨ (H Dd = some (.dK []) ∧ es = []))
    (hk : ∀ e ∈ es, KeyD e.1 ∧ DV Γ H e.1 (.ref e.2.1)) (hd : KeyD d) (ht : DV Γ H d (.ref t)) (hz : es.length < sizeLine) (rv : RelV v r) (h : ∀ s', L2.Inv Y pins σ (upd H Dd (dN Γ.w Dd (sN es d t v))) s' → Q () s') :
    wpAny (model Y.prog Y.w) Y.A (dictSet Dd (.ref t) r) Q E s := by
  have facts : ∃ us, Paired (fun (e : D × Addr × V) u => RelV e.2.2 u) es us ∧ (es.map (·.1)).Nodup ∧ (Dd == sysModules) = false ∧ s.heap.DictOfH (nestedKind Y.prog Y.w) Dd (xsOf es us) ∧ Mut (H Dd) := by
    rcases hD with hD | ⟨hD, rfl⟩
    · obtain ⟨⟨z, ⟨nd, _⟩, lo, us, rel, o, xs, ep, g1, g2, g3, g4⟩, _⟩ := I.hok _ _ hD
      refine ⟨us, rel, nd, lo, ⟨o, xs, ep, g1, g2, g3, by rw [g4, hw, xsOf_raw], fun x hx => ?_, ?_⟩, by rw [hD]; trivial⟩
      · have : ∀ (es : List (D × Addr × V)) (us : List Value), (∀ e ∈ es, KeyD e.1 ∧ DV Γ H e.1 (.ref e.2.1)) → ∀ x ∈ xsOf es us, (nestedKind Y.prog Y.w).is s.heap x.1 x.2.1 := by
          intro es
          induction es with
          | nil => intro us _ x hx; cases hx
          | cons e es ih =>
            intro us hk x hx
            cases us with
            | nil => cases hx
            | cons u us =>
              rcases List.mem_cons.mp (show x ∈ (e.1.nk, e.2.1, u) :: xsOf es us from hx) with z | z
              · subst z
                obtain ⟨k1, k2⟩ := hk e List.mem_cons_self
                obtain ⟨_, _, _, k3⟩ := k1
                exact ⟨nk_is hK I k2 (hk e List.mem_cons_self).1.key rfl, k3⟩
              · exact ih us (fun e he => hk e (List.mem_cons_of_mem _ he)) x z
        exact this es us hk x hx
      · rw [xsOf_keys rel.length]
        exact nodup_nk (fun e he => (hk e he).1) nd
    · obtain ⟨z, lo, vs, rel, dd⟩ := dk_of I.hok hD
      obtain ⟨o, xs, ep, g1, g2, g3, _, g5, _⟩ := dd
      cases rel
      refine ⟨[], .nil, List.nodup_nil, lo, ⟨o, xs, ep, g1, g2, g3, ?_, (fun _ z => nomatch z), List.nodup_nil⟩, by rw [hD]; trivial⟩
      cases q : xs.toList with
      | nil => rfl
      | cons _ _ => rw [q] at g5; cases g5
  obtain ⟨us, rel, nd, lo, dh, mu⟩ := facts
  have hdp : d.nk.depth ≤ 8 := hd.choose_spec.2.2
  have hlen : (xsOf es us).length ≤ sizeLine := by
    unfold xsOf
    rw [List.length_zipWith]
    omega
  refine wpAny_dictSet_heap (hsz := hlen) (show Y.A.units + 8 < cLine by omega) (show (nestedKind Y.prog Y.w).is s.heap d.nk t from ⟨nk_is hK I ht hd.key rfl, hdp⟩) dh fun h' dh' sb => h _ ?_
  obtain ⟨us', p1, p2⟩ := xsOf_put (t := t) rv (fun e he => (hk e he).1) hd nd rel
  rw [p2] at dh'
  obtain ⟨o, xs, ep, g1, g2, g3, g4, _, _⟩ := dh'
  have hs := sN_len d t v es
  refine d_write I mu sb ⟨o, g1⟩ ⟨⟨by omega, ⟨sN_nodup nd, sN_ne d t v es⟩, lo, us', p1, o, xs, ep, g1, g2, g3, ?_⟩, ⟨o, g1⟩, ?_⟩
  · rw [g4, xsOf_raw, hw]
  · rintro h1 h2 ⟨q1, q2, q3, us2, q4, o2, xs2, ep2, q5, q6⟩ k
    exact ⟨q1, q2, q3, us2, q4, o2, xs2, ep2, k _ q5, q6⟩
end
end
section
/-! Soundness 28: dict comprehensions, by a store of any kind. -/
open PySem PySem.Spec PyProof.Rows L2

/-- a store into the dict at Dd leaves o there -/
def DStep (X : Cx) (Dd : Addr) (y z : V) (H : Hp) (o : HO) : Prop := ∀ (Y : Cx) (pins : List (Addr × Obj)) (σ : L2.St) (s : Shared) (u r : Value) (E : Value → Shared → Prop) (Q : Unit → Shared → Prop), Y.prog = X.prog → Y.w = X.w → Y.K = X.K → Y.A = X.A → L2.Inv Y pins σ H s → RelV y u → RelV z r →
  (∀ s', L2.Inv Y pins σ (upd H Dd o) s' → Q () s') → wpAny (model Y.prog Y.w) Y.A (dictSet Dd u r) Q E s
def tDcx (X : Cx) (wi : TI) (g : TG) (tt : TT) (tk tv : TE) (own : List Nat) : TE := fun σ H Q => wi σ H fun J H1 => ∀ Dd, H1 Dd = none → ∃ W : Nat → Nat → Hp → Prop, (∃ m, W 0 m (upd H1 Dd (.dK []))) ∧ ∀ i m Hc, W i m Hc →
  (J.stop i Hc ∧ Q (.ref Dd) Hc) ∨ (J.go i Hc ∧ ∃ Nx : Hp → Prop, (∀ Hn, Nx Hn → ∃ m', m' < m ∧ W (i + 1) m' Hn) ∧ ∀ x Hy, J.yld i Hc x Hy → g x (wipe σ own) Hy fun σ2 H2 => wipe σ2 own = wipe σ own ∧ tt σ2 H2 fun b H3 =>
    if b = true then tk σ2 H3 fun y H4 => tv σ2 H4 fun zv H5 => ∃ o, DStep X Dd y zv H5 o ∧ Nx (upd H5 Dd o) else Nx H3)
section
variable {X : Cx}
theorem pe_dcx {kx vx tg iter : PySem.Expr} {ifs : List PySem.Expr} {scope : Scope} {own : List (Str × Nat)} {pos : Pos} {wi : TI} {g : TG} {tt : TT} {tk tv : TE} (calm : X.calm = true) (nd : X.N.Nodup) (pi : PI X tg iter wi) (ok : BlkOk X.N X.env.scope scope own)
    (bg : ∀ (s : Shared) (H : Hp) (C : Addr) (cl : List (Str × Addr)) (fp : List Addr), PG (X.blk s H scope (compEnvC scope cl C X.env) fp) tg g)
    (bt : ∀ (s : Shared) (H : Hp) (C : Addr) (cl : List (Str × Addr)) (fp : List Addr), PTs (X.blk s H scope (compEnvC scope cl C X.env) fp) ifs tt)
    (bk : ∀ (s : Shared) (H : Hp) (C : Addr) (cl : List (Str × Addr)) (fp : List Addr), PE (X.blk s H scope (compEnvC scope cl C X.env) fp) kx tk)
    (bv : ∀ (s : Shared) (H : Hp) (C : Addr) (cl : List (Str × Addr)) (fp : List Addr), PE (X.blk s H scope (compEnvC scope cl C X.env) fp) vx tv) (fold : ∀ x, foldedSetIterable iter X.env x = pure x) :
    PE X (.DictComp kx vx [⟨tg, iter, ifs, 0⟩] scope pos) (tDcx X wi g tt tk tv (own.map (·.2))) := by
  refine ⟨fun pins s0 σ H0 Q I0 rd => ?_⟩
  rw [arm_eval_DictComp]
  have captured : ∀ y ∈ scope.names, y.2 = .free → ∃ c, X.env.cells.lookup y.1 = some c := by
    intro y my ey
    exact (ok.free y my ey).elim (fun q => I0.ok.has _ (.inl q)) fun q => I0.ok.has _ (.inr q)
  refine wpAny_comprehension_free (use := none) rfl fold (closure_ok captured) ok.kind (fun y my ey => by rw [ok.uniq y my, ey]) ?_
  refine thn (pi.run pins s0 σ H0 _ I0 rd) fun xv sa ha => thn ha fun iv sb hb => ?_
  obtain ⟨itr, fp, tn, J, Hb, ei, Ib, turns, tn0, fpo, cont⟩ := hb
  subst ei
  refine wpAny_newObj_type (newEnv_comp ?_)
  have big := Ib.big
  have fresh : Hb sb.heap.objs.size = none := Ib.hok.fresh (Nat.le_refl _)
  obtain ⟨W, ⟨m0, w0⟩, each⟩ := cont sb.heap.objs.size fresh
  obtain ⟨Dd, eD⟩ : ∃ Dd, sb.heap.objs.size = Dd := ⟨_, rfl⟩
  rw [eD] at fresh w0 each
  -- the state with the new dict
  obtain ⟨sc, esc⟩ : ∃ sc : Shared, sc = { sb with heap := sb.heap.push { cls := .type "dict", data := .dict #[] } } := ⟨_, rfl⟩
  have hsc : sc.heap = sb.heap.push { cls := .type "dict", data := .dict #[] } := by rw [esc]
  have Ic : L2.Inv X pins σ (upd Hb Dd (.dK [])) sc := by
    rw [esc]
    refine Ib.laid (t' := sb.toks) (fun b o q => Heap.get?_push_of_some _ q) (Nat.le_of_eq eD) ?_
    have := dk_empty (P := X.prog) (w := X.w) (H := upd Hb Dd (.dK [])) sb.heap big
    rw [eD] at this
    exact this
  have fpc : ∀ b ∈ fp, FpOk X pins (upd Hb Dd (.dK [])) b ∧ b < sc.heap.objs.size := by
    intro b mb
    obtain ⟨o, q, _⟩ := turns.obj _ _ tn0 b mb
    have lb := Heap.lt_size q
    refine ⟨⟨?_, (fpo b mb).2⟩, by rw [hsc, Heap.size_push]; exact Nat.lt_succ_of_lt lb⟩
    rw [upd_ne (by rw [← eD]; exact Nat.ne_of_lt lb)]
    exact (fpo b mb).1
  have tnc : tn 0 sc.heap := turns.keep _ _ _ tn0 fun b _ o q => by rw [hsc]; exact Heap.get?_push_of_some _ q
  have Id := block_start Ic ok nd fpc
  rw [← esc]
  obtain ⟨ce, ece⟩ : ∃ ce : PySem.Env, ce = compEnvC scope (cellsFrom (sc.heap.objs.size + 1) scope.names (cloFrom X.env.cells scope.names [])) sc.heap.objs.size X.env := ⟨_, rfl⟩
  have locC : ce.locals = sc.heap.objs.size := by rw [ece]; rfl
  have pg := bg sc (upd Hb Dd (.dK [])) sc.heap.objs.size (cellsFrom (sc.heap.objs.size + 1) scope.names (cloFrom X.env.cells scope.names [])) fp
  have pt := bt sc (upd Hb Dd (.dK [])) sc.heap.objs.size (cellsFrom (sc.heap.objs.size + 1) scope.names (cloFrom X.env.cells scope.names [])) fp
  have pk := bk sc (upd Hb Dd (.dK [])) sc.heap.objs.size (cellsFrom (sc.heap.objs.size + 1) scope.names (cloFrom X.env.cells scope.names [])) fp
  have pv := bv sc (upd Hb Dd (.dK [])) sc.heap.objs.size (cellsFrom (sc.heap.objs.size + 1) scope.names (cloFrom X.env.cells scope.names [])) fp
  rw [← ece] at Id pg pt pk pv
  obtain ⟨sd, esd⟩ : ∃ sd : Shared, sd = { sc with heap := pushCells (sc.heap.push { cls := .type "dict", data := .dict #[] }) scope.names } := ⟨_, rfl⟩
  rw [← esd] at Id
  show codeAny _ _ (.compStart (.DictComp kx vx [⟨tg, iter, ifs, 0⟩] scope pos) 0 (.ref itr) (.ref sb.heap.objs.size) (compEnvC scope (cellsFrom (sc.heap.objs.size + 1) scope.names (cloFrom X.env.cells scope.names [])) sc.heap.objs.size X.env)) (compPost (model X.prog X.w) X.A X.xe none (EP X pins σ Q) (.ref sb.heap.objs.size) sc.heap.objs.size) { sc with heap := pushCells (sc.heap.push { cls := .type "dict", data := .dict #[] }) scope.names }
  rw [← ece, ← esd, eD]
  have tnd : tn 0 sd.heap := turns.keep _ _ _ tnc fun b _ o q => by rw [esd]; exact pushCells_keeps _ _ _ _ (Heap.get?_push_of_some _ q)
  have none0 : ∀ b ∈ fp, (upd Hb Dd (.dK [])) b = none := fun b mb => (fpc b mb).1.1
  generalize upd Hb Dd (.dK []) = Hc at Ic Id pg pt pk pv w0 none0 fpc
  have stays : ∀ {σ' : L2.St} {H' : Hp} {s' : Shared}, L2.Inv (X.blk sc Hc scope ce fp) [] σ' H' s' → (∀ b ∈ fp, H' b = none) → ∀ b ∈ fp, FpOk (X.blk sc Hc scope ce fp) [] H' b := by
    intro σ' H' s' J' nb b mb
    exact ⟨nb b mb, (J'.ok.exf b mb).1, J'.ok.exfs b mb, .inl mb, fun x c q => (J'.ok.exf b mb).2 x c q, fun p hp => (List.not_mem_nil (show p ∈ ([] : List (Addr × Obj)) from by simpa using hp)).elim⟩
  have loop : codeAny (model X.prog X.w) X.A (.compLoop (.DictComp kx vx [⟨tg, iter, ifs, 0⟩] scope pos) 0 (.ref itr) (.ref Dd) ce) (compPost (model X.prog X.w) X.A X.xe none (EP X pins σ Q) (.ref Dd) sc.heap.objs.size) sd := by
    refine compLoop_anyD (fun n s' => ∃ i H', L2.Inv (X.blk sc Hc scope ce fp) [] (wipe σ (own.map (·.2))) H' s' ∧ tn i s'.heap ∧ (∀ b ∈ fp, H' b = none) ∧ W i n H') ?_ m0 ⟨0, Hc, Id, tnd, none0, w0⟩
    rintro n s5 ⟨i, H5, I5, tn5, n5, w5⟩
    rcases each i n H5 w5 with ⟨stop, end_⟩ | ⟨go, Nx, less, step⟩
    · refine thnF (turns.done (X.blk sc Hc scope ce fp) rfl rfl rfl calm i [] s5 _ H5 (fun _ _ => False) I5 (stays I5 n5) tn5 stop) ?_
      rintro r s6 ⟨hr, I6⟩
      subst hr
      have I7 : L2.Inv X pins σ H5 s6 := Ic.call' (ch := fp) I6.os I6.base I6.hok I6.bare fun b mb => by
        obtain ⟨⟨_, q1, _, q2, q3, q4⟩, _⟩ := fpc b mb
        exact ⟨q2, q1, q3, q4⟩
      have cN : H5 sc.heap.objs.size = none := by
        have q : H5 ce.locals = none := I6.free
        rwa [locC] at q
      obtain ⟨mm, hn, _⟩ := I6.loc
      have hn : s6.heap.Ns ce.locals mm := hn
      rw [locC] at hn
      obtain ⟨z0, z1, z2, z3, z4, z5⟩ := Ic.fpOk (Nat.le_refl _) cN
      exact ⟨mm, hn, fun h'' sm => ⟨.ref Dd, H5, I7.turned (t' := s6.toks) (fun b o nb q => (sm.2 b nb).trans q) z0 z1 z3 z4 z5, rfl, end_⟩⟩
    · refine thnF (turns.item (X.blk sc Hc scope ce fp) rfl rfl rfl calm i [] s5 _ H5 (fun _ _ => False) I5 (stays I5 n5) tn5 go) ?_
      rintro r s6 ⟨u, hr, h6⟩
      subst hr
      refine thnF h6 ?_
      rintro _ s7 ⟨x, H7, I7, r7, y7, tn7, n7⟩
      have Ip := I7.pinned (stays I7 n7) (turns.obj _ _ tn7)
      have finish : ∀ {σ8 : L2.St} {s' : Shared} {H' : Hp}, wipe σ8 (own.map (·.2)) = wipe σ (own.map (·.2)) → L2.Inv (X.blk sc Hc scope ce fp) ([] ++ pinsAt fp s7.heap) σ8 H' s' → Nx H' →
          ∃ m, m < n ∧ ∃ i H', L2.Inv (X.blk sc Hc scope ce fp) [] (wipe σ (own.map (·.2))) H' s' ∧ tn i s'.heap ∧ (∀ b ∈ fp, H' b = none) ∧ W i m H' := by
        intro σ8 s' H' ew J' nx
        obtain ⟨m', lt, w'⟩ := less H' nx
        have pinned : ∀ b ∈ fp, ∀ o, s7.heap.get? b = some o → s'.heap.get? b = some o ∧ H' b = none := fun b mb o q => by
          have := J'.pin (b, o) (List.mem_append_right _ (List.mem_append_right _ (mem_pinsAt mb q)))
          exact ⟨this.1, this.2.1⟩
        refine ⟨m', lt, i + 1, H', (J'.unpinned (pins := [])).weak (by rw [← ew, wipe_length]) (fun j v q => ?_), turns.keep _ _ _ tn7 fun b mb o q => (pinned b mb o q).1, fun b mb => ?_, w'⟩
        · rw [← ew] at q
          exact (wipe_some q).1
        · obtain ⟨o, q, _⟩ := turns.obj _ _ tn7 b mb
          exact (pinned b mb o q).2
      refine thnF (pg.run _ s7 _ H7 x u _ Ip r7 (step x H7 y7)) ?_
      rintro _ s8 ⟨σ8, H8, I8, ew, q8⟩
      refine thnF (pt.run _ s8 σ8 H8 _ I8 q8) ?_
      rintro b s9 ⟨H9, I9, q9⟩
      cases b with
      | false =>
        simp only [Bool.false_eq_true, if_false] at q9 ⊢
        exact finish ew I9 q9
      | true =>
        simp only [if_true] at q9 ⊢
        refine thnF (pk.run _ s9 σ8 H9 _ I9 q9) ?_
        rintro ku sk ⟨yk, Hk, Ik, rk, qk⟩
        refine thnF (pv.run _ sk σ8 Hk _ Ik qk) ?_
        rintro vu sv ⟨yv, Hv, Iv, rv, o, ds, nx⟩
        exact ds (X.blk sc Hc scope ce fp) _ σ8 sv ku vu _ _ rfl rfl rfl rfl Iv rk rv fun s' J' => finish ew J' nx
  exact codeAny_compStart_dict loop (turns.self X.A 0 _ _ _ tnd loop)
end
end
section
/-! Soundness 29: dict comprehensions over Core. -/
open PySem PySem.Spec PyProof.Rows L2

theorem flat_key_ok {d : D} (h : d.flat = true) : d.key = true := by cases d <;> first | rfl | cases h
theorem flats_keys : ∀ {xs : List D}, xs.all D.flat = true → D.keys xs = true
  | [], _ => by simp [D.keys]
  | x :: r, h => by
    simp only [List.all_cons, Bool.and_eq_true] at h
    simp only [D.keys, flat_key_ok h.1, flats_keys h.2, Bool.and_self]
theorem flat_depth {d : D} (h : d.flat = true) : d.nk.depth ≤ 1 := by
  cases d with
  | int i => simp [D.nk, NestedKey.depth]
  | str i => simp [D.nk, NestedKey.depth]
  | _ => cases h
theorem flats_depth : ∀ {xs : List D}, xs.all D.flat = true → NestedKey.depthAll (D.nks xs) ≤ 1
  | [], _ => by simp [D.nks, NestedKey.depthAll]
  | x :: r, h => by
    simp only [List.all_cons, Bool.and_eq_true] at h
    have h1 := flat_depth h.1
    have h2 := flats_depth h.2
    simp only [D.nks, NestedKey.depthAll]
    omega
theorem tk_KeyD {d : D} (h : d.tk = true) : KeyD d := by
  cases d with
  | tup xs =>
    have h : xs.all D.flat = true := h
    refine ⟨xs, rfl, flats_keys h, ?_⟩
    have := flats_depth h
    simp only [D.nk, NestedKey.depth]
    omega
  | _ => cases h
theorem fromN {Γ : Gx} {H : Hp} : ∀ {kvs : List (D × D)} {es : List (D × Addr × V)}, DVn Γ H kvs es → Paired (fun (p : D × D) (q : D × Addr × V) => p.1 = q.1 ∧ (∃ xs, q.1 = .tup xs ∧ D.keys xs = true) ∧ q.1.nk.depth ≤ 8 ∧ DV Γ H q.1 (.ref q.2.1) ∧ DV Γ H p.2 q.2.2) kvs es
  | _, _, .nil => .nil
  | _, _, .cons k n x a b => .cons ⟨rfl, ⟨_, rfl, k⟩, n, x, a⟩ (fromN b)
theorem dvn_facts {Γ : Gx} {H : Hp} : ∀ {kvs : List (D × D)} {es : List (D × Addr × V)}, DVn Γ H kvs es → ∀ e ∈ es, KeyD e.1 ∧ DV Γ H e.1 (.ref e.2.1)
  | _, _, .nil, _, h => nomatch h
  | _, _, .cons k n x a b, e, h => by
    rcases List.mem_cons.mp h with z | z
    · subst z
      exact ⟨⟨_, rfl, k, n⟩, x⟩
    · exact dvn_facts b e z
theorem putK_nodup {k : L2.Key} {v : V} {es : List (L2.Key × V)} (nd : (es.map (·.1)).Nodup) : ((putK es k v).map (·.1)).Nodup := by
  unfold putK
  split
  · have : (es.map fun kv => if kv.1 = k then (kv.1, v) else kv).map (·.1) = es.map (·.1) := by
      rw [List.map_map]
      refine List.map_congr_left fun x _ => ?_
      by_cases h : x.1 = k <;> simp [h]
    rw [this]
    exact nd
  · rename_i h
    rw [List.map_append]
    refine List.nodup_append.mpr ⟨nd, by simp, fun a ha b hb => ?_⟩
    have eb : b = k := by simpa using hb
    subst eb
    intro e
    subst e
    obtain ⟨x, hx, ex⟩ := List.mem_map.mp ha
    exact h (List.any_eq_true.mpr ⟨x, hx, by simp [ex]⟩)
/-- a dict that a comprehension makes -/
def DcI (Γ : Gx) (H : Hp) (w : Own) (Dd : Addr) (acc : List (D × D)) : Prop := (∃ es, H Dd = some (.dK es) ∧ DVk Γ (hid H w) acc es ∧ (es.map (·.1)).Nodup) ∨ ∃ es, H Dd = some (dN Γ.w Dd es) ∧ DVn Γ (hid H w) acc es ∧ acc ≠ []
theorem DcI.step {Γ : Gx} {H H' : Hp} {w w' : Own} {Dd : Addr} {acc : List (D × D)} (h : DcI Γ H w Dd acc) (e : ∀ o, H Dd = some o → H' Dd = some o) (s : Sub (hid H w) (hid H' w')) : DcI Γ H' w' Dd acc := by
  rcases h with ⟨es, h1, h2, h3⟩ | ⟨es, h1, h2, h3⟩
  · exact .inl ⟨es, e _ h1, DVk.mono s h2, h3⟩
  · exact .inr ⟨es, e _ h1, DVn.mono s h2, h3⟩
theorem DcI.ov {Γ : Gx} {H : Hp} {w : Own} {Dd : Addr} {acc : List (D × D)} {t : Nat} (h : DcI Γ H w Dd acc) (wd : w Dd = some t) : OV Γ H w t 1 (.dct acc) (.ref Dd) := by
  rcases h with ⟨es, h1, h2, _⟩ | ⟨es, h1, h2, _⟩
  · exact .inl ⟨Dd, es, rfl, wd, h1, fromK h2, .inl rfl⟩
  · exact .inr ⟨Dd, es, rfl, wd, h1, fromN h2, .inl rfl⟩
section
variable {Γ : Gx} {X : Cx}
/-- one store -/
theorem dc_store (xo : XOk Γ X) {H : Hp} {w : Own} {Dd : Addr} {t : Nat} {acc : List (D × D)} {k d : D} {y z : V} (h : DcI Γ H w Dd acc) (wd : w Dd = some t) (hy : DV Γ (hid H w) k y) (hz : DV Γ (hid H w) d z) (hk : kIn acc k = true) (hl : acc.length < sizeL) :
    ∃ o, DStep X Dd y z H o ∧ DcI Γ (upd H Dd o) w Dd (kput acc k d) := by
  unfold kIn at hk
  simp only [Bool.or_eq_true, Bool.and_eq_true] at hk
  rcases hk with ⟨hf, ha⟩ | ⟨ht, ha⟩
  · obtain ⟨kk, rfl⟩ := flat_key hf
    have ey := flat_kV hy
    subst ey
    rcases h with ⟨es, h1, h2, h3⟩ | ⟨es, h1, h2, h3⟩
    · refine ⟨.dK (putK es kk z), ?_, .inl ⟨_, upd_same, DVk.mono (hid_mut wd) (kput_put hz h2 h3), putK_nodup h3⟩⟩
      intro Y pins σ s u r E Q e1 e2 e3 e4 I ry rz q
      exact L2.d_dictSet I h1 (by rw [← h2.length, ← sz]; exact hl) ry rz q
    · cases h2 with
      | nil => exact absurd rfl h3
      | cons k n x a b => simp [D.flat] at ha
  · have kd := tk_KeyD ht
    obtain ⟨xs, rfl, k1, k2⟩ := kd
    obtain ⟨ta, us, rfl, g1, g2⟩ := hy.tup'
    rcases h with ⟨es, h1, h2, h3⟩ | ⟨es, h1, h2, h3⟩
    · cases h2 with
      | nil =>
        refine ⟨dN Γ.w Dd (sN [] (.tup xs) ta z), ?_, .inr ⟨_, upd_same, DVn.mono (hid_mut wd) (dvn_put (kvs := []) k1 k2 hy hz .nil), by simp [kput]⟩⟩
        intro Y pins σ s u r E Q e1 e2 e3 e4 I ry rz q
        cases ry
        have hu := xo.un
        rw [← e4] at hu
        exact dn_set (Γ := Γ) (e3.trans xo.K) (e2.trans xo.w) hu I (.inr ⟨h1, rfl⟩) (fun _ z => nomatch z) ⟨xs, rfl, k1, k2⟩ (DV.mono hid_sub hy) (by rw [← sz]; exact Nat.lt_of_le_of_lt (Nat.zero_le _) hl) rz q
      | cons a b =>
        rename_i kk' _ _ _ _
        cases kk' <;> simp [kD, D.tk] at ha
    · refine ⟨dN Γ.w Dd (sN es (.tup xs) ta z), ?_, .inr ⟨_, upd_same, DVn.mono (hid_mut wd) (dvn_put k1 k2 hy hz h2), ?_⟩⟩
      · intro Y pins σ s u r E Q e1 e2 e3 e4 I ry rz q
        cases ry
        have hu := xo.un
        rw [← e4] at hu
        exact dn_set (Γ := Γ) (e3.trans xo.K) (e2.trans xo.w) hu I (.inl h1) (fun e he => ⟨(dvn_facts h2 e he).1, DV.mono hid_sub (dvn_facts h2 e he).2⟩) ⟨xs, rfl, k1, k2⟩ (DV.mono hid_sub hy) (by rw [← h2.length, ← sz]; exact hl) rz q
      · cases acc with
        | nil => exact absurd rfl h3
        | cons p r => unfold kput; split <;> simp
end
/-- one turn -/
def dcF (F : Fn) (own : List Nat) (t : Tg) (ifs : CT) (key val : CE) : D → List (D × D) → PB.Env → Res (List (D × D) × PB.Env) := fun x a ρ1 => (asgT F t (0, x) (wipeD own ρ1)).bind fun ρ2 => (denT F ifs ρ2).bind fun b =>
  if b.1 = true then (den F key b.2).bind fun kk => (den F val kk.2).bind fun vv =>
    if 1 ≤ vv.1.1 + 1 ∧ kIn a kk.1.2 = true ∧ a.length < sizeL then .ok (kput a kk.1.2 vv.1.2, unwD own ρ1 vv.2) else .bad
  else .ok (a, unwD own ρ1 b.2)
theorem compDL_calm {ws : List Nat} {f : D → List (D × D) → PB.Env → Res (List (D × D) × PB.Env)} : ∀ (xs : List D) (a : List (D × D)) (ρ : PB.Env), (compDL ws f xs a ρ).calm
  | [], _, _ => True.intro
  | x :: r, a, ρ => by
    unfold compDL
    refine (nox_calm _).bind fun p => ?_
    split
    · exact compDL_calm r p.1 p.2
    · exact True.intro
theorem compDL_cons {ws : List Nat} {f : D → List (D × D) → PB.Env → Res (List (D × D) × PB.Env)} {x : D} {r : List D} {a : List (D × D)} {ρ : PB.Env} {q : List (D × D) × PB.Env} (h : compDL ws f (x :: r) a ρ = .ok q) :
    ∃ p, f x a ρ = .ok p ∧ still ws ρ p.2 = true ∧ compDL ws f r p.1 p.2 = .ok q := by
  unfold compDL at h
  obtain ⟨p, h1, h2⟩ := bind_ok_of h
  split at h2
  · exact ⟨p, nox_okI h1, by assumption, h2⟩
  · cases h2
/-- what holds ahead of the turn j -/
structure DctI (Φ : Fx) (ws own : List Nat) (f : D → List (D × D) → PB.Env → Res (List (D × D) × PB.Env)) (xs : List D) (ys : List (D × D)) (ρe ρ0 : PB.Env) (σ : L2.St) (t0 : Nat) (H1 : Hp) (w2 : Own) (L : Addr) (j : Nat) (H' : Hp) (ρ' : PB.Env) (w' : Own) (acc : List (D × D)) : Prop where
  rep : Rep Φ.Γ Φ.N ρ' σ H' w'
  lv : Lv w' (t0 + 1)
  stp : Stp Φ.N t0 H1 w2 H' w'
  wl : w' L = some t0
  dc : DcI Φ.Γ H' w' L acc
  st : Stay Φ.N ws ρ0 σ H1 w2 ρ' σ H' w'
  o0 : Own0 own ρ'
  eq : compDL ws f (xs.drop j) acc ρ' = .ok (ys, ρe)
section
variable {Φ : Fx} {X : Cx}
theorem dc_of (xo : XOk Φ.Γ X) {it : Itk} {src : CEs} {t : Tg} {ifs : CT} {key val : CE} {own : List Nat} {σ : L2.St} {H : Hp} {Q : VK} (hwo : ∀ i ∈ watchOf src, i ∉ own) (h : tE Φ (.dc 1 own t it src ifs key val) σ H Q) :
    tDcx X (tI Φ it src) (tG Φ.blk own t) (tT Φ.blk ifs) (tE Φ.blk key) (tE Φ.blk val) own σ H Q := by
  obtain ⟨ρ, w, t0, rp, hN, lv, hw⟩ := h
  have hNle := Nat.le_of_lt hN
  have hw0 : Wp ((denOps Φ.F true src ρ).bind fun p => (iterD it (dsds p.1)).bind fun xs => (compDL (watchOf src) (dcF Φ.F own t ifs key val) xs [] (shD own p.2)).bind fun q => .ok ((1, .dct q.1), q.2)) (Ex Φ H w) (fun p => ∀ v H' w', Rep Φ.Γ Φ.N p.2 σ H' w' → Stp Φ.N t0 H w H' w' → OV Φ.Γ H' w' t0 p.1.1 p.1.2 v → Q v H') := hw
  have hw1 : Wp ((denOps Φ.F true src ρ).bind fun p => (iterD it (dsds p.1)).bind fun xs => .ok (xs, p.2)) (Ex Φ H w) fun q => ∃ ys ρe, compDL (watchOf src) (dcF Φ.F own t ifs key val) q.1 [] (shD own q.2) = .ok (ys, ρe) ∧ ∀ v H' w', Rep Φ.Γ Φ.N ρe σ H' w' → Stp Φ.N t0 H w H' w' → OV Φ.Γ H' w' t0 1 (.dct ys) v → Q v H' := by
    revert hw0
    cases denOps Φ.F true src ρ with
    | ok p =>
      show Wp ((iterD it (dsds p.1)).bind fun xs => _) _ _ → Wp ((iterD it (dsds p.1)).bind fun xs => .ok (xs, p.2)) _ _
      cases iterD it (dsds p.1) with
      | ok xs =>
        intro h
        have h : Wp ((compDL (watchOf src) (dcF Φ.F own t ifs key val) xs [] (shD own p.2)).bind fun q => Res.ok (((1, D.dct q.1) : KD), q.2)) _ _ := h
        obtain ⟨q, e, hq⟩ := calm_ok (compDL_calm _ _ _) h.bind
        exact ⟨q.1, q.2, e, hq⟩
      | exc _ _ => exact fun h => h
      | bad => exact fun h => h
    | exc _ _ => exact fun h => h
    | bad => exact fun h => h
  refine ⟨ρ, w, t0, rp, hN, lv, hw1.mono (fun _ _ e => e) fun q _ hq J H1 w1 r1 s1 fol L hL => ?_⟩
  obtain ⟨xs, ρ1⟩ := q
  obtain ⟨ys, ρe, ec, hQ⟩ := hq
  obtain ⟨w2, r2, s2, sh1, sh2⟩ := r1.sh own
  have ne : ∀ a u, H1 a = some u → a ≠ L := fun a u e => ne_of_none e hL
  have lv2 : Lv w2 t0 := s2.lv hN (s1.lv hN lv)
  have st0 : Stay Φ.N (watchOf src) ρ1 σ H1 w1 (shD own ρ1) σ H1 w2 := ⟨s2.kp, fun i hi k d hk e => ⟨k, hk, by rw [sh1 i (hwo i hi)]; exact e⟩, fun _ _ => rfl⟩
  have o00 : Own0 own (shD own ρ1) := fun i hi k d e => (sh2 i k d e).2 hi
  have sub0 : Sub H1 (upd H1 L (.dK [])) := fun b u e => by
    rw [upd_ne (ne b u e)]
    exact e
  refine ⟨fun j m H' => m = xs.length - j ∧ j ≤ xs.length ∧ ∃ ρ' w' acc, DctI Φ (watchOf src) own (dcF Φ.F own t ifs key val) xs ys ρe (shD own ρ1) σ t0 H1 w2 L j H' ρ' w' acc,
    ⟨xs.length, by simp, Nat.zero_le _, shD own ρ1, (fun a => if a = L then some t0 else w2 a), [], ?_⟩, ?_⟩
  · have we : ∀ a u, H1 a = some u → (fun a => if a = L then some t0 else w2 a) a = w2 a := fun a u e => if_neg (ne a u e)
    refine ⟨rep_step r2 sub0 we fun a l e => ?_, fun a l e => ?_, stp_of sub0 we (fun a l e => ?_) r2.al, if_pos rfl, .inl ⟨[], upd_same, .nil, List.nodup_nil⟩, ⟨⟨fun a u e e2 => ⟨sub0 a u e, (we a u e).trans e2⟩, fun a u e e2 => ⟨sub0 a u e, (we a u e).trans e2⟩, fun a e => ?_⟩, fun i hi k d hk e => ⟨k, hk, e⟩, fun _ _ => rfl⟩, o00, ec⟩
    · by_cases ha : a = L
      · exact ⟨_, by rw [ha]; exact upd_same⟩
      · obtain ⟨u, hu⟩ := r2.al a l ((if_neg ha).symm.trans e)
        exact ⟨u, sub0 a u hu⟩
    · by_cases ha : a = L
      · have : some t0 = some l := (if_pos ha).symm.trans e
        cases this
        omega
      · have := lv2 a l ((if_neg ha).symm.trans e)
        omega
    · by_cases ha : a = L
      · have : some t0 = some l := (if_pos ha).symm.trans e
        cases this
        exact .inr ⟨rfl, by rw [ha]; exact hL⟩
      · exact .inl ((if_neg ha).symm.trans e)
    · by_cases ha : a = L
      · have : some t0 = some Φ.N := (if_pos ha).symm.trans e
        cases this
        omega
      · exact (if_neg ha).symm.trans e
  rintro j m H' ⟨rfl, hj, ρ', w', acc, I⟩
  obtain ⟨f1, f2⟩ := fol ρ' σ H' w' I.rep (st0.trans I.st) j
  by_cases hlt : j < xs.length
  · right
    have ex : xs.drop j = xs[j] :: xs.drop (j + 1) := List.drop_eq_getElem_cons hlt
    have eq := I.eq
    rw [ex] at eq
    obtain ⟨p, e1, hst, ecase⟩ := compDL_cons eq
    obtain ⟨g1, g2⟩ := f2 xs[j] (List.getElem?_eq_getElem hlt)
    refine ⟨g1, fun H'' => ∃ ρ'' w'' acc', DctI Φ (watchOf src) own (dcF Φ.F own t ifs key val) xs ys ρe (shD own ρ1) σ t0 H1 w2 L (j + 1) H'' ρ'' w'' acc',
      fun H'' q => ⟨xs.length - (j + 1), by omega, rfl, hlt, q⟩, fun v H2 hy => ?_⟩
    obtain ⟨r3, s3, dv⟩ := g2 v H2 hy
    have e1' : ((asgT Φ.F t (0, xs[j]) (wipeD own ρ')).bind fun ρ2 => (denT Φ.F ifs ρ2).bind fun b =>
      if b.1 = true then (den Φ.F key b.2).bind fun kk => (den Φ.F val kk.2).bind fun vv =>
        if 1 ≤ vv.1.1 + 1 ∧ kIn acc kk.1.2 = true ∧ acc.length < sizeL then .ok (kput acc kk.1.2 vv.1.2, unwD own ρ' vv.2) else .bad
      else .ok (acc, unwD own ρ' b.2)) = .ok p := e1
    obtain ⟨ρ2, ea, e2⟩ := bind_ok_of e1'
    obtain ⟨b, eb, e3⟩ := bind_ok_of e2
    refine ⟨wipeD own ρ', w', t0 + 1, t0 + 2, (0, xs[j]), r3.wiped own, by show Φ.N < _; omega, by omega, I.lv.mono (by omega), dv, wp_ok ea fun σ3 H3 w3 r4 s4 of => ?_⟩
    have l3 : Lv w3 (t0 + 1) := s4.lv (by show Φ.N < _; omega) (I.lv.mono (by omega))
    have z3 : Stz Φ.N H2 w' H3 w3 := s4.stz I.lv
    have wl3 : w3 L = some t0 := s4.tmp L t0 I.wl hNle (by omega)
    refine ⟨wipe_eq (by rw [r4.lenS, I.rep.lenS]; rfl) of, ρ2, w3, t0 + 1, r4, by show Φ.N < _; omega, l3, wp_ok eb fun H4 w4 r5 s5 => ?_⟩
    have z4 : Stz Φ.N H' w' H4 w4 := (s3.trans z3).trans s5
    have wl4 : w4 L = some t0 := s5.tmp L t0 wl3 hNle
    have l4 : Lv w4 (t0 + 1) := s5.lv (by show Φ.N < _; omega) l3
    have hl4 : ∀ o, H' L = some o → H4 L = some o := fun o q => z4.keep L o q fun l e => by rw [I.wl] at e; cases e; exact hNle
    cases hb : b.1 with
    | false =>
      rw [hb, if_neg (by decide)] at e3
      cases e3
      simp only [Bool.false_eq_true, if_false]
      have rr : Rep Φ.Γ Φ.N (unwD own ρ' b.2) σ H4 w4 := Rep.unwiped own I.rep I.o0 r5 z4.kp of
      exact ⟨_, w4, acc, rr, l4, I.stp.thenZ z4, wl4, I.dc.step hl4 z4.hid, I.st.trans ⟨z4.kp, fun i hi k d _ e => still_sl hst i hi k d e, fun _ _ => rfl⟩, own0_unw I.o0 (by rw [r5.len, I.rep.len]; rfl), ecase⟩
    | true =>
      rw [hb, if_pos rfl] at e3
      obtain ⟨kk, ek, e4⟩ := bind_ok_of e3
      obtain ⟨vv, ev, e5⟩ := bind_ok_of e4
      split at e5
      · rename_i hc
        cases e5
        simp only [if_true]
        refine ⟨b.2, w4, t0 + 1, r5, by show Φ.N < _; omega, l4, wp_ok ek fun y H5 w5 r6 s6 ov => ?_⟩
        have l5 : Lv w5 (t0 + 2) := s6.lv (by show Φ.N < _; omega) l4
        refine ⟨kk.2, w5, t0 + 2, r6, by show Φ.N < _; omega, l5, wp_ok ev fun zv H6 w6 r7 s7 ov2 => ?_⟩
        -- the key and the value given free
        have s7z : Stz Φ.N H5 w5 H6 (drop w6 (t0 + 2)) := s7.shareT l5
        have ovk : OV Φ.Γ H6 (drop w6 (t0 + 2)) (t0 + 1) kk.1.1 kk.1.2 y := OV.stz (N := Φ.N) (by omega) s7z ov
        have z6 : Stz Φ.N H4 w4 H6 (drop (drop w6 (t0 + 2)) (t0 + 1)) := Stp.shareT (s6.thenZ s7z) l4
        have dk : DV Φ.Γ (hid H6 (drop (drop w6 (t0 + 2)) (t0 + 1))) kk.1.2 y := ovk.share
        have dvv : DV Φ.Γ (hid H6 (drop (drop w6 (t0 + 2)) (t0 + 1))) vv.1.2 zv := DV.mono hid_drop ov2.share
        have r8 := (r7.drop (t := t0 + 2) (by show Φ.N < _; omega)).drop (t := t0 + 1) (by show Φ.N < _; omega)
        generalize drop (drop w6 (t0 + 2)) (t0 + 1) = w7 at *
        have z5 : Stz Φ.N H' w' H6 w7 := z4.trans z6
        have wl7 : w7 L = some t0 := z6.tmp L t0 wl4 hNle
        have hl7 : ∀ o, H' L = some o → H6 L = some o := fun o q => z5.keep L o q fun l e => by rw [I.wl] at e; cases e; exact hNle
        obtain ⟨o, ds, dn⟩ := dc_store xo (I.dc.step hl7 z5.hid) wl7 dk dvv hc.2.1 hc.2.2
        have rr : Rep Φ.Γ Φ.N (unwD own ρ' vv.2) σ H6 w7 := Rep.unwiped own I.rep I.o0 r8 z5.kp of
        have k6 : Kp Φ.N H' w' (upd H6 L o) w7 := ⟨fun a u e e2 => ⟨upd_sub a u (z5.kp.non a u e e2).1 (fun zz => by rw [zz, I.wl] at e2; cases e2), (z5.kp.non a u e e2).2⟩, fun a u e e2 => ⟨upd_sub a u (z5.kp.ali a u e e2).1 (fun zz => by rw [zz, I.wl] at e2; cases e2; omega), (z5.kp.ali a u e e2).2⟩, z5.kp.bk⟩
        refine ⟨o, ds, _, w7, kput acc kk.1.2 vv.1.2, rr.mutT wl7 hNle, z6.lv (by omega) l4, ?_, wl7, dn, I.st.trans ⟨k6, fun i hi k d _ e => still_sl hst i hi k d e, fun _ _ => rfl⟩, own0_unw I.o0 (by rw [r7.len, I.rep.len]; rfl), ecase⟩
        have s8 := I.stp.thenZ z5
        exact ⟨fun a u e hl => upd_sub a u (s8.keep a u e hl) (ne a u e), s8.free, s8.tmp, s8.lab⟩
      · cases e5
  · left
    have ej : j = xs.length := by omega
    subst ej
    have eq := I.eq
    rw [List.drop_length] at eq
    cases eq
    exact ⟨f1 (Nat.le_refl _), hQ _ H' w' I.rep ((s1.trans s2).thenP I.stp) (I.dc.ov I.wl)⟩
theorem e_dc {kx vx tg iter : PySem.Expr} {ifs : List PySem.Expr} {scope : Scope} {own : List (Str × Nat)} {pos : Pos} {it : Itk} {src : CEs} {t : Tg} {ci : CT} {ck cv : CE} (xo : XOk Φ.Γ X) (hN : X.N.Nodup) (hi : PI X tg iter (tI Φ it src)) (ok : BlkOk X.N X.env.scope scope own)
    (hg : ∀ (s : Shared) (H : Hp) (C : Addr) (cl : List (Str × Addr)) (fp : List Addr), PG (X.blk s H scope (compEnvC scope cl C X.env) fp) tg (tG Φ.blk (own.map (·.2)) t))
    (ht : ∀ (s : Shared) (H : Hp) (C : Addr) (cl : List (Str × Addr)) (fp : List Addr), PTs (X.blk s H scope (compEnvC scope cl C X.env) fp) ifs (tT Φ.blk ci))
    (hk : ∀ (s : Shared) (H : Hp) (C : Addr) (cl : List (Str × Addr)) (fp : List Addr), PE (X.blk s H scope (compEnvC scope cl C X.env) fp) kx (tE Φ.blk ck))
    (hv : ∀ (s : Shared) (H : Hp) (C : Addr) (cl : List (Str × Addr)) (fp : List Addr), PE (X.blk s H scope (compEnvC scope cl C X.env) fp) vx (tE Φ.blk cv)) (hwo : ∀ i ∈ watchOf src, i ∉ own.map (·.2)) (hs : ∀ x, foldedSetIterable iter X.env x = pure x := by intro _; rfl) :
    PE X (.DictComp kx vx [⟨tg, iter, ifs, 0⟩] scope pos) (tE Φ (.dc 1 (own.map (·.2)) t it src ci ck cv)) :=
  peI (pe_dcx xo.calm hN hi ok hg ht hk hv hs) fun _ _ _ h => dc_of xo hwo h
end
end
section
/-! Soundness 30: the law's def, called from the top with its script. -/
open PySem PySem.Spec PyProof.Rows L2

/-- the script's object, as the heap has it -/
def scrO (vs : List Value) : Obj := { cls := .type "list", data := .seq vs.toArray }
/-- what is tracked at the start: the script alone, unless the module keeps it -/
def scrH (K : PySem.W.Frag) (a : Addr) (vs : List Value) (ns : List Int) : Hp := fun b =>
  if b = a ∧ K.lookup a = none then some (.frz (scrO vs) (.lst (ns.map V.int))) else none
section
variable {P : Program} {w : World} {K : PySem.W.Frag} {a : Addr} {vs : List Value} {ns : List Int}
theorem scrH_inv {b : Addr} {u : HO} (h : scrH K a vs ns b = some u) : b = a ∧ K.lookup a = none ∧ u = .frz (scrO vs) (.lst (ns.map V.int)) := by
  unfold scrH at h
  split at h
  · rename_i c; exact ⟨c.1, c.2, (Option.some.inj h).symm⟩
  · cases h
theorem scrH_only : Only (scrH K a vs ns) := fun b => by
  cases e : scrH K a vs ns b with
  | none => exact .inl rfl
  | some u => exact .inr ⟨_, _, by rw [(scrH_inv e).2.2]⟩
theorem scrH_hok {h : Heap} (ha : h.get? a = some (scrO vs)) (hi : IntsAre vs ns) (hl : ns.length ≤ sizeLine) : HOk P w (scrH K a vs ns) h := fun b u e => by
  obtain ⟨e1, _, e3⟩ := scrH_inv e
  subst e1 e3
  exact ⟨ha, by simpa using hl, vs, _, vals_ints hi, ha⟩
theorem scrH_sql {h : Heap} (KX : K.In h) (ha : h.get? a = some (scrO vs)) (hi : IntsAre vs ns) (hl : ns.length ≤ sizeLine) : SqL K (scrH K a vs ns) a (ns.map V.int) := by
  cases q : K.lookup a with
  | none => exact .inl (.inr ⟨scrO vs, by simp [scrH, q]⟩)
  | some o =>
    have e := KX a o q
    rw [ha] at e
    cases e
    refine .inr ⟨_, vs.toArray, _, q, rfl, rfl, rfl, ?_, ?_⟩
    · have := hi.length
      simpa [this] using hl
    · simpa using vals_ints hi
end
/-- the law's def, called with the script where nothing is being shown -/
theorem call_top {P : Program} {w : World} {K : PySem.W.Frag} {mg mb : Str → Option Value} {CX : CXT} {k : Nat} {fa a : Addr} {fd : FuncData} {x : Str} {sp : Sp} {s₁ : Shared} {vs : List Value} {ns : List Int}
    (KX : K.In s₁.heap) (hns : s₁.heap.Ns mainGlobals mg) (hb : s₁.heap.Ns builtinsNs mb) (hbb : ∀ x : Str, x ≠ "__name__" → mb x = bootBuiltins x) (hlim : s₁.heap.NoLimit) (hg : s₁.gens = #[])
    (ha : s₁.heap.get? a = some (scrO vs)) (hi : IntsAre vs ns) (hl : ns.length ≤ sizeLine) (hr : Room k callerA)
    (F : ∀ base : Heap, K.In base → base.Ns mainGlobals mg → FnG P w K mg base CX k fa fd [x] sp) (hbind : ∀ (s : Shared) (u : Value), BindsTo s fd ⟨[u], []⟩ [(x, u)])
    (hsp : ∀ H : Hp, Only H → SqL K H a (ns.map V.int) → sp [.ref a] H (fun v _ => v = .bl true) fun _ _ _ => False)
    (hCX : ∀ H e s', CX [] H s₁ (fun _ _ _ => False) e s' → False) :
    codeAny (model P w) callerA (.call (.ref fa) ⟨[.ref a], []⟩) (fun r s' => r = .ok (.ret (.bool true)) ∧ OldK s₁.heap s'.heap ∧ s'.os = s₁.os ∧ AllBare s'.gens) s₁ := by
  have ok0 : HOk P w (scrH K a vs ns) s₁.heap := scrH_hok ha hi hl
  -- what is not tracked stays
  have seen : ∀ {b : Addr} {o : Obj}, s₁.heap.get? b = some o → (scrH K a vs ns b = none) → (hidT s₁.heap (scrH K a vs ns)).get? b = some o := fun e n => hidT_get e n
  have dictFree : ∀ {b : Addr} {o : Obj} {es : Array DictEntry} {ep : Nat}, s₁.heap.get? b = some o → o.data = .dict es ep → scrH K a vs ns b = none := by
    intro b o es ep e d
    cases q : scrH K a vs ns b with
    | none => rfl
    | some u =>
      obtain ⟨e1, _, _⟩ := scrH_inv q
      rw [e1, ha] at e
      cases e
      exact nomatch d
  have spaces : ∀ {b : Addr} {m : Str → Option Value}, s₁.heap.Ns b m → (hidT s₁.heap (scrH K a vs ns)).Ns b m := by
    rintro b m ⟨o, es, ep, e, d, r⟩
    exact ⟨o, es, ep, seen e (dictFree e d), d, r⟩
  have kin : K.In (hidT s₁.heap (scrH K a vs ns)) := by
    intro b o e
    refine seen (KX b o e) ?_
    cases q : scrH K a vs ns b with
    | none => rfl
    | some u =>
      obtain ⟨e1, e2, _⟩ := scrH_inv q
      rw [e1, e2] at e
      cases e
  have md : Mod K mg (hidT s₁.heap (scrH K a vs ns)) := by
    obtain ⟨mc, l1, l2⟩ := hlim
    exact ⟨kin, spaces hns, ⟨mb, spaces hb, hbb⟩, ⟨mc, spaces l1, l2⟩⟩
  have env : Env0 P w K mg (hidT s₁.heap (scrH K a vs ns)) callerA [] s₁ (scrH K a vs ns) :=
    ⟨rfl, md, fun b o e => of_hidT e, Nat.le_of_eq (hidT_size _ _), trivial, fun b z => absurd z List.not_mem_nil, ok0, .of_eq hg⟩
  refine codeAny_mono ((F _ kin (spaces hns)).run callerA [] s₁ _ ⟨[.ref a], []⟩ [.ref a] [.ref a] _ _ ⟨hr, rfl⟩ ⟨env, hbind s₁ (.ref a)⟩ ⟨.cons rfl .nil, hsp _ scrH_only (scrH_sql KX ha hi hl)⟩) ?_
  rintro (e | fl) s' h
  · exact (hCX _ e s' h).elim
  cases fl with
  | next => exact h.elim
  | brk => exact h.elim
  | cont => exact h.elim
  | ret u =>
    obtain ⟨v, H', hos, hbare, un, ok1, rel, q⟩ := h
    have qv : v = .bl true := q
    rw [qv] at rel
    obtain rfl : u = Value.bool true := rel
    refine ⟨rfl, OldK.of_keep (fun b o e => ?_), hos, hbare⟩
    cases q : scrH K a vs ns b with
    | none => exact un.keep b o e q (fun z => absurd z List.not_mem_nil) (by simp)
    | some t =>
      obtain ⟨e1, _, e3⟩ := scrH_inv q
      subst e1 e3
      obtain ⟨g1, _⟩ := ok0 b _ q
      obtain ⟨g2, _⟩ := ok1 b _ (un.frzs b _ _ q)
      rw [← e, g1]
      exact g2
/-- a law by its def's promise -/
theorem law_by {l : PySem.W.OpenLaw} {n k : Nat} {q : Program} {loose : List Str} {XP : (Str → Option Value) → Heap → Prop} {YP : World → Heap → Prop} {d : DefRec} {CX : CXT} {x : Str}
    (hn : l.most = some n) (hn2 : n ≤ sizeLine) (hdf : d.params.defaults = []) (hr : Room k callerA)
    (F : ∀ (w : World) (mg : Str → Option Value) (fa : Addr) (h : Heap), YP w h → h.Ns mainGlobals mg → mg d.name = some (.ref fa) →
      ∃ (K : PySem.W.Frag) (fd : FuncData) (sp : Sp), K.In h ∧ (∀ (s : Shared) (u : Value), BindsTo s fd ⟨[u], []⟩ [(x, u)]) ∧
        (∀ (H : Hp) (a : Addr) (ns : List Int), ns.length ≤ n → Only H → SqL K H a (ns.map V.int) → sp [.ref a] H (fun v _ => v = .bl true) fun _ _ _ => False) ∧
        ∀ base : Heap, K.In base → base.Ns mainGlobals mg → FnG l.prog w K mg base CX k fa fd [x] sp)
    (hCX : ∀ (H : Hp) (s : Shared) (e : Value) (s' : Shared), CX [] H s (fun _ _ _ => False) e s' → False) :
    PySem.W.WalkO q loose XP YP l.row.toRowW d [] (fun f vs => PySem.call f vs) := by
  refine Att.attach_call hn hdf ?_
  intro w s₀ s₁ mg mb fa o pm cd doc a vs ns G Y ho hd hcd hmg hobj hints hlen hg
  obtain ⟨K, fd, sp, kx, hbd, hs, hf⟩ := F w mg fa _ Y G.T.g hmg
  exact call_top kx G.T.g G.T.b G.T.builtins G.T.nolimit hg hobj hints (Nat.le_trans hlen hn2) hr hf hbd (fun H => hs H a ns hlen) (fun H => hCX H s₁)
end
section
open PySem (Str PyData)
def c_is_integer : FDef := ⟨1, 1, [], .cons (.ret (.andV (.op .isInt (.cons (.pk 0) .nil)) (.tst (.not (.v (.op .isBool (.cons (.pk 0) .nil))))))) .nil⟩
def c_is_edge : FDef := ⟨2, 2, [], .cons (.ifS (.or (.not (.v (.op .isTup (.cons (.pk 0) .nil)))) (.or (.v (.op .ne (.cons (.op .len (.cons (.pk 0) .nil)) (.cons (.cst (.int 2)) .nil)))) (.or (.not (.v (.call 1 (.cons (.op .ix (.cons (.pk 0) (.cons (.cst (.int 0)) .nil))) .nil)))) (.not (.v (.call 1 (.cons (.op .ix (.cons (.pk 0) (.cons (.cst (.int 1)) .nil))) .nil))))))) (.cons (.ret (.cst (.bl false))) .nil) .nil) (.cons (.ret (.chn .le (.cst (.int 0)) (.op .ix (.cons (.pk 0) (.cons (.cst (.int 0)) .nil))) (.cons .lt (.op .ix (.cons (.pk 0) (.cons (.cst (.int 1)) .nil))) (.cons .lt (.var 1) .nil)))) .nil)⟩
def c_is_graph : FDef := ⟨1, 4, [], .cons (.ifS (.or (.not (.v (.op .isTup (.cons (.pk 0) .nil)))) (.or (.v (.op .ne (.cons (.op .len (.cons (.pk 0) .nil)) (.cons (.cst (.int 2)) .nil)))) (.or (.not (.v (.call 1 (.cons (.op .ix (.cons (.pk 0) (.cons (.cst (.int 0)) .nil))) .nil)))) (.not (.v (.op .isTup (.cons (.op .ix (.cons (.pk 0) (.cons (.cst (.int 1)) .nil))) .nil))))))) (.cons (.ret (.cst (.bl false))) .nil) .nil) (.cons (.ifS (.or (.not (.v (.chn .le (.cst (.int 0)) (.op .ix (.cons (.pk 0) (.cons (.cst (.int 0)) .nil))) (.cons .le (.cst (.int 20)) .nil)))) (.not (.v (.op .all (.cons (.lc 1 [3] (.nm 3) .seq (.cons (.op .ix (.cons (.pk 0) (.cons (.cst (.int 1)) .nil))) .nil) .yes (.call 2 (.cons (.var 3) (.cons (.op .ix (.cons (.pk 0) (.cons (.cst (.int 0)) .nil))) .nil)))) .nil))))) (.cons (.ret (.cst (.bl false))) .nil) .nil) (.cons (.ret (.op .all (.cons (.lc 1 [1, 2] (.tp (.cons (.nm 1) (.cons (.nm 2) .nil))) .zip (.cons (.op .ix (.cons (.pk 0) (.cons (.cst (.int 1)) .nil))) (.cons (.op .slL (.cons (.op .ix (.cons (.pk 0) (.cons (.cst (.int 1)) .nil))) (.cons (.cst (.int 1)) .nil))) .nil)) .yes (.op .lt (.cons (.pk 1) (.cons (.pk 2) .nil)))) .nil))) .nil))⟩
def c_check_graph : FDef := ⟨2, 2, [], .cons (.ifS (.not (.v (.call 3 (.cons (.var 0) .nil)))) (.cons (.rse 40 (.var 1)) .nil) .nil) .nil⟩
def c_edge_in : FDef := ⟨2, 2, [], .cons (.ret (.ite (.v (.op .lt (.cons (.pk 0) (.cons (.pk 1) .nil)))) (.op .mkT (.cons (.var 0) (.cons (.var 1) .nil))) (.op .mkT (.cons (.var 1) (.cons (.var 0) .nil))))) .nil⟩
def c_graph_in : FDef := ⟨2, 4, [], .cons (.ret (.op .mkT (.cons (.var 0) (.cons (.op .tupOf (.cons (.op .srt (.cons (.dc 1 [2, 3] (.tp (.cons (.nm 2) (.cons (.nm 3) .nil))) .seq (.cons (.pk 1) .nil) .yes (.call 6 (.cons (.var 2) (.cons (.var 3) .nil))) (.cst (.bl true))) .nil)) .nil)) .nil)))) .nil⟩
def c_is_deed : FDef := ⟨2, 2, [], .cons (.ifS (.or (.not (.v (.op .isTup (.cons (.pk 0) .nil)))) (.or (.not (.p 0)) (.v (.op .notIn (.cons (.op .ix (.cons (.pk 0) (.cons (.cst (.int 0)) .nil))) (.cons (.op .mkT (.cons (.cst (.str "leave")) (.cons (.cst (.str "cut")) (.cons (.cst (.str "draw")) .nil)))) .nil)))))) (.cons (.ret (.cst (.bl false))) .nil) .nil) (.cons (.ifS (.v (.op .eq (.cons (.op .ix (.cons (.pk 0) (.cons (.cst (.int 0)) .nil))) (.cons (.cst (.str "leave")) .nil)))) (.cons (.ret (.andV (.op .eq (.cons (.op .len (.cons (.pk 0) .nil)) (.cons (.cst (.int 2)) .nil))) (.andV (.call 1 (.cons (.op .ix (.cons (.pk 0) (.cons (.cst (.int 1)) .nil))) .nil)) (.chn .le (.cst (.int 0)) (.op .ix (.cons (.pk 0) (.cons (.cst (.int 1)) .nil))) (.cons .lt (.op .ix (.cons (.pk 1) (.cons (.cst (.int 0)) .nil))) .nil))))) .nil) .nil) (.cons (.ret (.andV (.op .eq (.cons (.op .len (.cons (.pk 0) .nil)) (.cons (.cst (.int 3)) .nil))) (.andV (.call 2 (.cons (.op .slL (.cons (.pk 0) (.cons (.cst (.int 1)) .nil))) (.cons (.op .ix (.cons (.pk 1) (.cons (.cst (.int 0)) .nil))) .nil))) (.op .isIn (.cons (.op .slL (.cons (.pk 0) (.cons (.cst (.int 1)) .nil))) (.cons (.op .ix (.cons (.pk 1) (.cons (.cst (.int 1)) .nil))) .nil)))))) .nil))⟩
def c_numbers_in : FDef := ⟨2, 5, [], .cons (.ifS (.v (.op .eq (.cons (.op .ix (.cons (.pk 1) (.cons (.cst (.int 0)) .nil))) (.cons (.cst (.str "cut")) .nil)))) (.cons (.ret (.op .lrng1 (.cons (.op .ix (.cons (.pk 0) (.cons (.cst (.int 0)) .nil))) .nil))) .nil) .nil) (.cons (.asg (.nm 2) (.ite (.v (.op .eq (.cons (.op .ix (.cons (.pk 1) (.cons (.cst (.int 0)) .nil))) (.cons (.cst (.str "leave")) .nil)))) (.op .ix (.cons (.pk 1) (.cons (.cst (.int 1)) .nil))) (.op .ix (.cons (.pk 1) (.cons (.cst (.int 2)) .nil))))) (.cons (.asg (.nm 3) (.lc 1 [4] (.nm 4) .rng1 (.cons (.op .ix (.cons (.pk 0) (.cons (.cst (.int 0)) .nil))) .nil) .yes (.ite (.v (.op .lt (.cons (.pk 4) (.cons (.pk 2) .nil)))) (.var 4) (.op .sub (.cons (.pk 4) (.cons (.cst (.int 1)) .nil)))))) (.cons (.asg (.sb 3 (.var 2)) (.ite (.v (.op .eq (.cons (.op .ix (.cons (.pk 1) (.cons (.cst (.int 0)) .nil))) (.cons (.cst (.str "leave")) .nil)))) (.cst (.non)) (.op .ix (.cons (.pk 1) (.cons (.cst (.int 1)) .nil))))) (.cons (.ret (.mv 3)) .nil))))⟩
def c_done_in : FDef := ⟨2, 7, [], .cons (.ifS (.v (.op .eq (.cons (.op .ix (.cons (.pk 1) (.cons (.cst (.int 0)) .nil))) (.cons (.cst (.str "cut")) .nil)))) (.cons (.ret (.op .mkT (.cons (.op .ix (.cons (.pk 0) (.cons (.cst (.int 0)) .nil))) (.cons (.op .tupOf (.cons (.lc 1 [6] (.nm 6) .seq (.cons (.op .ix (.cons (.pk 0) (.cons (.cst (.int 1)) .nil))) .nil) (.v (.op .ne (.cons (.pk 6) (.cons (.op .slL (.cons (.pk 1) (.cons (.cst (.int 1)) .nil))) .nil)))) (.var 6)) .nil)) .nil)))) .nil) .nil) (.cons (.asg (.nm 2) (.call 68 (.cons (.var 0) (.cons (.var 1) .nil)))) (.cons (.asg (.nm 3) (.lc 1 [4, 5] (.tp (.cons (.nm 4) (.cons (.nm 5) .nil))) .seq (.cons (.op .ix (.cons (.pk 0) (.cons (.cst (.int 1)) .nil))) .nil) .yes (.op .mkT (.cons (.op .ix (.cons (.pk 2) (.cons (.pk 4) .nil))) (.cons (.op .ix (.cons (.pk 2) (.cons (.pk 5) .nil))) .nil))))) (.cons (.ret (.call 7 (.cons (.op .sub (.cons (.op .ix (.cons (.pk 0) (.cons (.cst (.int 0)) .nil))) (.cons (.cst (.int 1)) .nil))) (.cons (.lc 1 [6] (.nm 6) .seq (.cons (.pk 3) .nil) (.and (.v (.op .notIn (.cons (.cst (.non)) (.cons (.pk 6) .nil)))) (.v (.op .ne (.cons (.op .ix (.cons (.pk 6) (.cons (.cst (.int 0)) .nil))) (.cons (.op .ix (.cons (.pk 6) (.cons (.cst (.int 1)) .nil))) .nil))))) (.var 6)) .nil)))) .nil)))⟩
def c_done : FDef := ⟨2, 2, [], .cons (.ex (.call 4 (.cons (.var 0) (.cons (.cst (.str "graph")) .nil)))) (.cons (.ifS (.not (.v (.call 67 (.cons (.var 1) (.cons (.var 0) .nil))))) (.cons (.rse 40 (.cst (.str "deed"))) .nil) .nil) (.cons (.ret (.call 69 (.cons (.var 0) (.cons (.var 1) .nil)))) .nil))⟩
def c_deeds_of : FDef := ⟨1, 1, [], .cons (.ex (.call 4 (.cons (.var 0) (.cons (.cst (.str "graph")) .nil)))) (.cons (.ret (.op .tupOf (.cons (.call 72 (.cons (.var 0) .nil)) .nil))) .nil)⟩
def c_all_deeds : FDef := ⟨1, 3, [], .cons (.asg (.nm 1) (.lc 1 [2] (.nm 2) .seq (.cons (.op .ix (.cons (.pk 0) (.cons (.cst (.int 1)) .nil))) .nil) .yes (.op .add (.cons (.op .mkT (.cons (.cst (.str "cut")) .nil)) (.cons (.pk 2) .nil))))) (.cons (.ret (.op .add (.cons (.op .add (.cons (.lc 1 [2] (.nm 2) .rng1 (.cons (.op .ix (.cons (.pk 0) (.cons (.cst (.int 0)) .nil))) .nil) .yes (.op .mkT (.cons (.cst (.str "leave")) (.cons (.var 2) .nil)))) (.cons (.pk 1) .nil))) (.cons (.lc 1 [2] (.nm 2) .seq (.cons (.op .ix (.cons (.pk 0) (.cons (.cst (.int 1)) .nil))) .nil) .yes (.op .add (.cons (.op .mkT (.cons (.cst (.str "draw")) .nil)) (.cons (.pk 2) .nil)))) .nil)))) .nil)⟩
def c_traced_in : FDef := ⟨2, 8, [], .cons (.asg (.nm 2) (.lc 1 [4] (.nm 4) .rng1 (.cons (.op .ix (.cons (.pk 0) (.cons (.cst (.int 0)) .nil))) .nil) .yes (.dsp 1 (.cons (.var 4) .nil)))) (.cons (.forS (.nm 3) .seq (.cons (.pk 1) .nil) (.cons (.par (.cons (.nm 5) (.cons (.nm 6) .nil)) (.cons (.call 68 (.cons (.var 0) (.cons (.var 3) .nil))) (.cons (.dctE 1) .nil))) (.cons (.forS (.tp (.cons (.nm 4) (.cons (.nm 7) .nil))) .enm (.cons (.pk 5) .nil) (.cons (.ifS (.v (.op .notn (.cons (.pk 7) .nil))) (.cons (.asg (.sb 6 (.var 7)) (.op .add (.cons (.ask .get2 6 (.cons (.var 7) (.cons (.dsp 1 .nil) .nil))) (.cons (.op .ix (.cons (.pk 2) (.cons (.pk 4) .nil))) .nil)))) .nil) .nil) .nil)) (.cons (.asg (.nm 0) (.call 69 (.cons (.var 0) (.cons (.var 3) .nil)))) (.cons (.asg (.nm 2) (.lc 1 [4] (.nm 4) .rng1 (.cons (.op .ix (.cons (.pk 0) (.cons (.cst (.int 0)) .nil))) .nil) .yes (.op .srt (.cons (.op .ix (.cons (.pk 6) (.cons (.pk 4) .nil))) .nil)))) .nil))))) (.cons (.ret (.op .mkT (.cons (.var 0) (.cons (.var 2) .nil)))) .nil))⟩
def c_traced : FDef := ⟨2, 7, [], .cons (.ex (.call 4 (.cons (.var 0) (.cons (.cst (.str "graph")) .nil)))) (.cons (.ifS (.or (.not (.v (.op .isTup (.cons (.pk 1) .nil)))) (.v (.op .gt (.cons (.op .len (.cons (.pk 1) .nil)) (.cons (.cst (.int 200)) .nil))))) (.cons (.rse 40 (.cst (.str "deeds"))) .nil) .nil) (.cons (.asg (.nm 2) (.var 0)) (.cons (.forS (.nm 3) .seq (.cons (.pk 1) .nil) (.cons (.ifS (.not (.v (.call 67 (.cons (.var 3) (.cons (.var 2) .nil))))) (.cons (.rse 40 (.cst (.str "deeds"))) .nil) .nil) (.cons (.asg (.nm 2) (.call 69 (.cons (.var 2) (.cons (.var 3) .nil)))) .nil))) (.cons (.asg (.tp (.cons (.nm 4) (.cons (.nm 5) .nil))) (.call 73 (.cons (.var 0) (.cons (.var 1) .nil)))) (.cons (.ret (.op .mkT (.cons (.var 4) (.cons (.op .tupOf (.cons (.lc 1 [6] (.nm 6) .seq (.cons (.pk 5) .nil) .yes (.op .tupOf (.cons (.pk 6) .nil))) .nil)) .nil)))) .nil)))))⟩
def c__law_start : FDef := ⟨1, 3, [], .cons (.asg (.nm 1) (.cst (.int 7))) (.cons (.forS (.nm 2) .seq (.cons (.op .slU (.cons (.pk 0) (.cons (.cst (.int 63)) .nil))) .nil) (.cons (.asg (.nm 1) (.op .add (.cons (.op .mod (.cons (.op .int (.cons (.op .add (.cons (.op .mul (.cons (.pk 1) (.cons (.cst (.int 48271)) .nil))) (.cons (.pk 2) .nil))) .nil)) (.cons (.cst (.int 2147483629)) .nil))) (.cons (.cst (.int 1)) .nil)))) .nil)) (.cons (.ret (.dsp 1 (.cons (.lc 1 [2] (.nm 2) .seq (.cons (.op .slU (.cons (.pk 0) (.cons (.cst (.int 63)) .nil))) .nil) .yes (.op .abs (.cons (.op .int (.cons (.pk 2) .nil)) .nil))) (.cons (.cst (.int 0)) (.cons (.cst (.int 0)) (.cons (.cst (.int 0)) (.cons (.var 1) (.cons (.cst (.int 0)) .nil)))))))) .nil))⟩
def c__law_draw : FDef := ⟨2, 3, [0], .cons (.ifS (.and (.v (.op .eq (.cons (.op .ix (.cons (.pk 0) (.cons (.cst (.int 3)) .nil))) (.cons (.cst (.int 0)) .nil)))) (.v (.op .lt (.cons (.op .ix (.cons (.pk 0) (.cons (.cst (.int 1)) .nil))) (.cons (.op .len (.cons (.op .ix (.cons (.pk 0) (.cons (.cst (.int 0)) .nil))) .nil)) .nil))))) (.cons (.par (.cons (.sb 0 (.cst (.int 2))) (.cons (.sb 0 (.cst (.int 3))) (.cons (.sb 0 (.cst (.int 1))) .nil))) (.cons (.op .ix (.cons (.op .ix (.cons (.pk 0) (.cons (.cst (.int 0)) .nil))) (.cons (.op .ix (.cons (.pk 0) (.cons (.cst (.int 1)) .nil))) .nil))) (.cons (.cst (.int 60)) (.cons (.op .add (.cons (.op .ix (.cons (.pk 0) (.cons (.cst (.int 1)) .nil))) (.cons (.cst (.int 1)) .nil))) .nil)))) .nil) .nil) (.cons (.ifS (.v (.op .gt (.cons (.op .ix (.cons (.pk 0) (.cons (.cst (.int 3)) .nil))) (.cons (.cst (.int 0)) .nil)))) (.cons (.asg (.nm 2) (.op .mod (.cons (.op .int (.cons (.op .ix (.cons (.pk 0) (.cons (.cst (.int 2)) .nil))) .nil)) (.cons (.pk 1) .nil)))) (.cons (.asg (.sb 0 (.cst (.int 2))) (.op .fdiv (.cons (.op .ix (.cons (.pk 0) (.cons (.cst (.int 2)) .nil))) (.cons (.pk 1) .nil)))) (.cons (.asg (.sb 0 (.cst (.int 3))) (.ite (.v (.op .gt (.cons (.op .ix (.cons (.pk 0) (.cons (.cst (.int 2)) .nil))) (.cons (.cst (.int 0)) .nil)))) (.op .sub (.cons (.op .ix (.cons (.pk 0) (.cons (.cst (.int 3)) .nil))) (.cons (.cst (.int 1)) .nil))) (.cst (.int 0)))) (.cons (.ret (.mv 2)) .nil)))) .nil) (.cons (.asg (.sb 0 (.cst (.int 5))) (.op .add (.cons (.op .ix (.cons (.pk 0) (.cons (.cst (.int 5)) .nil))) (.cons (.cst (.int 1)) .nil)))) (.cons (.asg (.sb 0 (.cst (.int 4))) (.op .mod (.cons (.op .int (.cons (.op .add (.cons (.op .add (.cons (.op .mul (.cons (.op .ix (.cons (.pk 0) (.cons (.cst (.int 4)) .nil))) (.cons (.cst (.int 48271)) .nil))) (.cons (.op .mul (.cons (.op .mul (.cons (.op .ix (.cons (.pk 0) (.cons (.cst (.int 5)) .nil))) (.cons (.op .ix (.cons (.pk 0) (.cons (.cst (.int 5)) .nil))) .nil))) (.cons (.cst (.int 69621)) .nil))) .nil))) (.cons (.cst (.int 11)) .nil))) .nil)) (.cons (.cst (.int 2147483647)) .nil)))) (.cons (.ret (.op .mod (.cons (.op .int (.cons (.op .fdiv (.cons (.op .ix (.cons (.pk 0) (.cons (.cst (.int 4)) .nil))) (.cons (.cst (.int 13)) .nil))) .nil)) (.cons (.pk 1) .nil)))) .nil))))⟩
def c__law_pick : FDef := ⟨2, 2, [0], .cons (.ret (.op .ix (.cons (.pk 1) (.cons (.call 26 (.cons (.pk 0) (.cons (.op .len (.cons (.pk 1) .nil)) .nil))) .nil)))) .nil⟩
def c__law_same : FDef := ⟨2, 2, [], .cons (.ret (.andV (.op .eq (.cons (.pk 0) (.cons (.pk 1) .nil))) (.op .eq (.cons (.op .rep (.cons (.pk 0) .nil)) (.cons (.op .rep (.cons (.pk 1) .nil)) .nil))))) .nil⟩
def c__law_pairs : FDef := ⟨1, 4, [], .cons (.asg (.nm 1) (.dsp 1 .nil)) (.cons (.forS (.nm 2) .rng1 (.cons (.pk 0) .nil) (.cons (.ex (.mth .extend 1 (.cons (.lc 1 [3] (.nm 3) .rng1 (.cons (.pk 2) .nil) .yes (.op .mkT (.cons (.var 3) (.cons (.var 2) .nil)))) .nil))) .nil)) (.cons (.ret (.op .srt (.cons (.pk 1) .nil))) .nil))⟩
def c__law_graph : FDef := ⟨2, 5, [0], .cons (.par (.cons (.nm 2) (.cons (.nm 3) .nil)) (.cons (.call 26 (.cons (.pk 0) (.cons (.op .add (.cons (.pk 1) (.cons (.cst (.int 1)) .nil))) .nil))) (.cons (.op .add (.cons (.cst (.int 1)) (.cons (.call 26 (.cons (.pk 0) (.cons (.cst (.int 4)) .nil))) .nil))) .nil))) (.cons (.ret (.op .mkT (.cons (.var 2) (.cons (.op .tupOf (.cons (.lc 1 [4] (.nm 4) .seq (.cons (.call 29 (.cons (.var 2) .nil)) .nil) (.v (.op .eq (.cons (.call 26 (.cons (.pk 0) (.cons (.op .add (.cons (.pk 3) (.cons (.cst (.int 1)) .nil))) .nil))) (.cons (.cst (.int 0)) .nil)))) (.var 4)) .nil)) .nil)))) .nil)⟩
def c__law_done : FDef := ⟨3, 10, [], .cons (.par (.cons (.nm 5) (.cons (.nm 6) .nil)) (.cons (.op .ix (.cons (.pk 2) (.cons (.cst (.int 0)) .nil))) (.cons (.op .ix (.cons (.pk 2) (.cons (.cst (.int (-1))) .nil))) .nil))) (.cons (.ifS (.v (.op .eq (.cons (.pk 5) (.cons (.cst (.str "cut")) .nil)))) (.cons (.ret (.op .mkT (.cons (.var 0) (.cons (.lc 1 [9] (.nm 9) .seq (.cons (.pk 1) .nil) (.v (.op .ne (.cons (.pk 9) (.cons (.op .slL (.cons (.pk 2) (.cons (.cst (.int 1)) .nil))) .nil)))) (.var 9)) .nil)))) .nil) .nil) (.cons (.ifS (.v (.op .eq (.cons (.pk 5) (.cons (.cst (.str "draw")) .nil)))) (.cons (.asg (.nm 7) (.op .ix (.cons (.pk 2) (.cons (.cst (.int 1)) .nil)))) (.cons (.asg (.nm 0) (.op .add (.cons (.op .add (.cons (.op .slU (.cons (.pk 0) (.cons (.pk 7) .nil))) (.cons (.dsp 1 (.cons (.op .tupOf (.cons (.op .srt (.cons (.op .add (.cons (.op .ix (.cons (.pk 0) (.cons (.pk 7) .nil))) (.cons (.op .ix (.cons (.pk 0) (.cons (.pk 6) .nil))) .nil))) .nil)) .nil)) .nil)) .nil))) (.cons (.op .slL (.cons (.pk 0) (.cons (.op .add (.cons (.pk 7) (.cons (.cst (.int 1)) .nil))) .nil))) .nil)))) (.cons (.asg (.nm 1) (.lc 1 [8] (.nm 8) .seq (.cons (.pk 1) .nil) .yes (.op .tupOf (.cons (.lc 1 [9] (.nm 9) .seq (.cons (.pk 8) .nil) .yes (.ite (.v (.op .eq (.cons (.pk 9) (.cons (.pk 6) .nil)))) (.var 7) (.var 9))) .nil)))) .nil))) .nil) (.cons (.asg (.nm 3) (.lc 1 [8] (.nm 8) .seq (.cons (.pk 1) .nil) (.and (.v (.op .notIn (.cons (.pk 6) (.cons (.pk 8) .nil)))) (.v (.op .ne (.cons (.op .ix (.cons (.pk 8) (.cons (.cst (.int 0)) .nil))) (.cons (.op .ix (.cons (.pk 8) (.cons (.cst (.int 1)) .nil))) .nil))))) (.var 8))) (.cons (.asg (.nm 4) (.lc 1 [8] (.nm 8) .seq (.cons (.pk 3) .nil) .yes (.op .tupOf (.cons (.op .srt (.cons (.lc 1 [9] (.nm 9) .seq (.cons (.pk 8) .nil) .yes (.ite (.v (.op .gt (.cons (.pk 9) (.cons (.pk 6) .nil)))) (.op .sub (.cons (.pk 9) (.cons (.cst (.int 1)) .nil))) (.var 9))) .nil)) .nil)))) (.cons (.ret (.op .mkT (.cons (.op .add (.cons (.op .slU (.cons (.pk 0) (.cons (.pk 6) .nil))) (.cons (.op .slL (.cons (.pk 0) (.cons (.op .add (.cons (.pk 6) (.cons (.cst (.int 1)) .nil))) .nil))) .nil))) (.cons (.op .srtSet (.cons (.pk 4) .nil)) .nil)))) .nil)))))⟩
def c__law_deeds : FDef := ⟨2, 3, [], .cons (.ret (.op .tupOf (.cons (.op .add (.cons (.op .add (.cons (.lc 1 [2] (.nm 2) .rng1 (.cons (.pk 0) .nil) .yes (.op .mkT (.cons (.cst (.str "leave")) (.cons (.var 2) .nil)))) (.cons (.lc 1 [2] (.nm 2) .seq (.cons (.pk 1) .nil) .yes (.op .add (.cons (.op .mkT (.cons (.cst (.str "cut")) .nil)) (.cons (.pk 2) .nil)))) .nil))) (.cons (.lc 1 [2] (.nm 2) .seq (.cons (.pk 1) .nil) .yes (.op .add (.cons (.op .mkT (.cons (.cst (.str "draw")) .nil)) (.cons (.pk 2) .nil)))) .nil))) .nil))) .nil⟩
def c_law : FDef := ⟨1, 12, [], .cons (.asg (.nm 1) (.call 25 (.cons (.var 0) .nil))) (.cons (.forS (.nm 2) .rng1 (.cons (.cst (.int 8)) .nil) (.cons (.asg (.nm 3) (.call 30 (.cons (.pk 1) (.cons (.cst (.int 10)) .nil)))) (.cons (.par (.cons (.nm 5) (.cons (.nm 6) (.cons (.nm 7) (.cons (.nm 8) .nil)))) (.cons (.lc 1 [11] (.nm 11) .rng1 (.cons (.op .ix (.cons (.pk 3) (.cons (.cst (.int 0)) .nil))) .nil) .yes (.op .mkT (.cons (.var 11) .nil))) (.cons (.op .lstOf (.cons (.op .ix (.cons (.pk 3) (.cons (.cst (.int 1)) .nil))) .nil)) (.cons (.dsp 1 .nil) (.cons (.var 3) .nil))))) (.cons (.forS (.nm 4) .rng1 (.cons (.cst (.int 12)) .nil) (.cons (.asg (.nm 9) (.call 76 (.cons (.op .len (.cons (.pk 5) .nil)) (.cons (.var 6) .nil)))) (.cons (.ifS (.not (.v (.call 28 (.cons (.call 71 (.cons (.var 8) .nil)) (.cons (.var 9) .nil))))) (.cons (.ret (.cst (.bl false))) .nil) .nil) (.cons (.ifS (.not (.p 9)) (.cons .brk .nil) .nil) (.cons (.asg (.nm 10) (.call 27 (.cons (.pk 1) (.cons (.var 9) .nil)))) (.cons (.asg (.tp (.cons (.nm 5) (.cons (.nm 6) .nil))) (.call 75 (.cons (.var 5) (.cons (.var 6) (.cons (.var 10) .nil))))) (.cons (.ex (.mth .append 7 (.cons (.var 10) .nil))) (.cons (.ifS (.not (.v (.call 28 (.cons (.call 70 (.cons (.var 8) (.cons (.var 10) .nil))) (.cons (.op .mkT (.cons (.op .len (.cons (.pk 5) .nil)) (.cons (.op .tupOf (.cons (.pk 6) .nil)) .nil))) .nil))))) (.cons (.ret (.cst (.bl false))) .nil) .nil) (.cons (.asg (.nm 8) (.op .mkT (.cons (.op .len (.cons (.pk 5) .nil)) (.cons (.op .tupOf (.cons (.pk 6) .nil)) .nil)))) .nil))))))))) (.cons (.ifS (.not (.v (.call 28 (.cons (.dsp 1 (.cons (.call 74 (.cons (.var 3) (.cons (.op .tupOf (.cons (.pk 7) .nil)) .nil))) (.cons (.call 74 (.cons (.var 3) (.cons (.op .mkT .nil) .nil))) .nil))) (.cons (.dsp 1 (.cons (.op .mkT (.cons (.var 8) (.cons (.op .tupOf (.cons (.pk 5) .nil)) .nil))) (.cons (.op .mkT (.cons (.var 3) (.cons (.op .tupOf (.cons (.lc 1 [11] (.nm 11) .rng1 (.cons (.op .ix (.cons (.pk 3) (.cons (.cst (.int 0)) .nil))) .nil) .yes (.op .mkT (.cons (.var 11) .nil))) .nil)) .nil))) .nil))) .nil))))) (.cons (.ret (.cst (.bl false))) .nil) .nil) .nil))))) (.cons (.ret (.cst (.bl true))) .nil))⟩
abbrev f_is_integer : Nat := 1
abbrev f_is_edge : Nat := 2
abbrev f_is_graph : Nat := 3
abbrev f_check_graph : Nat := 4
abbrev f_edge_in : Nat := 6
abbrev f_graph_in : Nat := 7
abbrev f_is_deed : Nat := 67
abbrev f_numbers_in : Nat := 68
abbrev f_done_in : Nat := 69
abbrev f_done : Nat := 70
abbrev f_deeds_of : Nat := 71
abbrev f_all_deeds : Nat := 72
abbrev f_traced_in : Nat := 73
abbrev f_traced : Nat := 74
abbrev f__law_start : Nat := 25
abbrev f__law_draw : Nat := 26
abbrev f__law_pick : Nat := 27
abbrev f__law_same : Nat := 28
abbrev f__law_pairs : Nat := 29
abbrev f__law_graph : Nat := 30
abbrev f__law_done : Nat := 75
abbrev f__law_deeds : Nat := 76
abbrev f_law : Nat := 38
abbrev e_PartError : Nat := 39
abbrev e_ArgumentError : Nat := 40
def tab (f : Nat) : Option FDef := match f with
  | 1 => some c_is_integer
  | 2 => some c_is_edge
  | 3 => some c_is_graph
  | 4 => some c_check_graph
  | 6 => some c_edge_in
  | 7 => some c_graph_in
  | 67 => some c_is_deed
  | 68 => some c_numbers_in
  | 69 => some c_done_in
  | 70 => some c_done
  | 71 => some c_deeds_of
  | 72 => some c_all_deeds
  | 73 => some c_traced_in
  | 74 => some c_traced
  | 25 => some c__law_start
  | 26 => some c__law_draw
  | 27 => some c__law_pick
  | 28 => some c__law_same
  | 29 => some c__law_pairs
  | 30 => some c__law_graph
  | 75 => some c__law_done
  | 76 => some c__law_deeds
  | 38 => some c_law
  | _ => none
theorem tab_is_integer : tab f_is_integer = some c_is_integer := rfl
theorem tab_is_edge : tab f_is_edge = some c_is_edge := rfl
theorem tab_is_graph : tab f_is_graph = some c_is_graph := rfl
theorem tab_check_graph : tab f_check_graph = some c_check_graph := rfl
theorem tab_edge_in : tab f_edge_in = some c_edge_in := rfl
theorem tab_graph_in : tab f_graph_in = some c_graph_in := rfl
theorem tab_is_deed : tab f_is_deed = some c_is_deed := rfl
theorem tab_numbers_in : tab f_numbers_in = some c_numbers_in := rfl
theorem tab_done_in : tab f_done_in = some c_done_in := rfl
theorem tab_done : tab f_done = some c_done := rfl
theorem tab_deeds_of : tab f_deeds_of = some c_deeds_of := rfl
theorem tab_all_deeds : tab f_all_deeds = some c_all_deeds := rfl
theorem tab_traced_in : tab f_traced_in = some c_traced_in := rfl
theorem tab_traced : tab f_traced = some c_traced := rfl
theorem tab__law_start : tab f__law_start = some c__law_start := rfl
theorem tab__law_draw : tab f__law_draw = some c__law_draw := rfl
theorem tab__law_pick : tab f__law_pick = some c__law_pick := rfl
theorem tab__law_same : tab f__law_same = some c__law_same := rfl
theorem tab__law_pairs : tab f__law_pairs = some c__law_pairs := rfl
theorem tab__law_graph : tab f__law_graph = some c__law_graph := rfl
theorem tab__law_done : tab f__law_done = some c__law_done := rfl
theorem tab__law_deeds : tab f__law_deeds = some c__law_deeds := rfl
theorem tab_law : tab f_law = some c_law := rfl
end
section
section
open PySem (Str PyData)
/-! ### the evaluator, step by step -/
theorem denF_succ {P : Nat → Option FDef} {n f : Nat} {args : List KD} {c : FDef} (h : P f = some c) (hl : args.length = c.np) : denF P (n + 1) f args = (denSs (denF P n) c.body (args.map some ++ List.replicate (c.ns - c.np) none)).bind fun p => match p.1 with
      | .ret v => .ok (v, outsOf c.np c.io p.2)
      | .nx => .ok ((0, .non), outsOf c.np c.io p.2)
      | _ => .bad := by
  show (match P f with | none => _ | some c => _) = _
  rw [h]
  simp only [hl, if_true] <;> rfl
theorem bind_ok {α β : Type} (a : α) (f : α → Res β) : (Res.ok a).bind f = f a := rfl
theorem bind_exc {α β : Type} (c : Nat) (d : D) (f : α → Res β) : (Res.exc c d).bind f = .exc c d := rfl
theorem bind_bad {α β : Type} (f : α → Res β) : (Res.bad).bind f = .bad := rfl
theorem sz0 : 0 ≤ sizeL := Nat.zero_le _
theorem sz1 : 1 ≤ sizeL := by decide
theorem sz2 : 2 ≤ sizeL := by decide
theorem sz3 : 3 ≤ sizeL := by decide
theorem sz4 : 4 ≤ sizeL := by decide
theorem sz5 : 5 ≤ sizeL := by decide
theorem sz6 : 6 ≤ sizeL := by decide
theorem sz_of {n : Nat} (h : n ≤ 1000000) : n ≤ sizeL := Nat.le_trans h (by decide)
theorem szlt_of {n : Nat} (h : n ≤ 1000000) : n < sizeL := Nat.lt_of_le_of_lt h (by decide)
theorem at20 (x y : D) : L2.atI [x, y] 0 = some x := rfl
theorem at21 (x y : D) : L2.atI [x, y] 1 = some y := rfl
theorem at30 (x y z : D) : L2.atI [x, y, z] 0 = some x := rfl
theorem at31 (x y z : D) : L2.atI [x, y, z] 1 = some y := rfl
theorem at32 (x y z : D) : L2.atI [x, y, z] 2 = some z := rfl
theorem bind_lazy {α β : Type} {x x' : Res α} {f : α → Res β} (h : x = x') : x.bind f = x'.bind f := h ▸ rfl
theorem compL_lazy {w : List Nat} {f : D → Env → Res (Option KD × Env)} {k : Nat} {xs xs' : List D} {ρ ρ' : Env} (h : xs = xs') (h' : ρ = ρ') : compL w f k xs ρ = compL w f k xs' ρ' := h ▸ h' ▸ rfl
theorem compDL_lazy {w : List Nat} {f : D → List (D × D) → Env → Res (List (D × D) × Env)} {xs xs' : List D} {a : List (D × D)} {ρ ρ' : Env} (h : xs = xs') (h' : ρ = ρ') : compDL w f xs a ρ = compDL w f xs' a ρ' := h ▸ h' ▸ rfl
theorem forL_lazy {w : List Nat} {f : D → Env → Res (Fl × Env)} {xs xs' : List D} {ρ ρ' : Env} (h : xs = xs') (h' : ρ = ρ') : forL w f xs ρ = forL w f xs' ρ' := h ▸ h' ▸ rfl
/-! ### walks -/
theorem still_nil (ρ ρ' : Env) : still [] ρ ρ' = true := rfl
/-- a comprehension that leaves the places as they are -/
theorem compL_fm {w : List Nat} {f : D → Env → Res (Option KD × Env)} {k : Nat} {ρ : Env} {g : D → Option KD} (hs : still w ρ ρ = true) :
    ∀ xs : List D, (∀ x ∈ xs, f x ρ = .ok (g x, ρ) ∧ ∀ kd, g x = some kd → k ≤ kd.1 + 1) → compL w f k xs ρ = .ok (xs.filterMap fun x => (g x).map (·.2), ρ)
  | [], _ => rfl
  | x :: r, h => by
    obtain ⟨e, hk⟩ := h x (List.mem_cons_self ..)
    have ih := compL_fm (g := g) hs r fun y hy => h y (List.mem_cons_of_mem _ hy)
    unfold compL
    rw [e]
    simp only [Res.nox_ok, bind_ok, hs, if_true]
    cases e2 : g x with
    | none => simp only [ih, List.filterMap_cons, e2, Option.map_none]
    | some kd => simp only [ih, List.filterMap_cons, e2, Option.map_some, hk kd e2, if_true, bind_ok]
theorem compL_map {w : List Nat} {f : D → Env → Res (Option KD × Env)} {k : Nat} {ρ : Env} {g : D → D} (kx : D → Nat) (hs : still w ρ ρ = true) (xs : List D)
    (h : ∀ x ∈ xs, f x ρ = .ok (some (kx x, g x), ρ) ∧ k ≤ kx x + 1) : compL w f k xs ρ = .ok (xs.map g, ρ) := by
  rw [compL_fm (g := fun x => some (kx x, g x)) hs xs fun x hx => ⟨(h x hx).1, fun kd e => by cases e; exact (h x hx).2⟩]
  simp only [Option.map_some, List.filterMap_eq_map']
theorem compL_filter {w : List Nat} {f : D → Env → Res (Option KD × Env)} {k : Nat} {ρ : Env} {p : D → Bool} (hs : still w ρ ρ = true) (hk : k ≤ 1) (xs : List D)
    (h : ∀ x ∈ xs, f x ρ = .ok (if p x = true then some (0, x) else none, ρ)) : compL w f k xs ρ = .ok (xs.filter p, ρ) := by
  rw [compL_fm (g := fun x => if p x = true then some (0, x) else none) hs xs fun x hx => ⟨h x hx, fun kd e => by split at e <;> cases e; exact hk⟩]
  congr 2
  induction xs with
  | nil => rfl
  | cons x r ih =>
    have ih' := ih fun y hy => h y (List.mem_cons_of_mem _ hy)
    by_cases hp : p x = true
    · simp only [List.filterMap_cons, List.filter_cons, hp, if_true, Option.map_some, ih']
    · simp only [List.filterMap_cons, List.filter_cons, hp, if_false, Option.map_none, ih', Bool.false_eq_true]
/-- .. by an invariant of the places -/
theorem compL_inv {w : List Nat} {f : D → Env → Res (Option KD × Env)} {k : Nat} (I : List D → Env → Prop) :
    ∀ (xs : List D) (done : List D) (ρ : Env), I done ρ → (∀ a x b ρ, done ++ xs = a ++ x :: b → I a ρ → ∃ o ρ', f x ρ = .ok (o, ρ') ∧ still w ρ ρ' = true ∧ (∀ kd, o = some kd → k ≤ kd.1 + 1) ∧ I (a ++ [x]) ρ') →
      ∃ ys ρ', compL w f k xs ρ = .ok (ys, ρ') ∧ I (done ++ xs) ρ'
  | [], done, ρ, h, _ => ⟨[], ρ, rfl, by simpa using h⟩
  | x :: r, done, ρ, h, hf => by
    obtain ⟨o, ρ1, e, hs, hk, hI⟩ := hf done x r ρ rfl h
    obtain ⟨ys, ρ2, e2, h2⟩ := compL_inv I r (done ++ [x]) ρ1 hI fun a y b ρ' q => hf a y b ρ' (by simpa using q)
    cases o with
    | none => exact ⟨ys, ρ2, by unfold compL; rw [e]; simp only [Res.nox_ok, bind_ok, hs, if_true, e2], by simpa using h2⟩
    | some kd => exact ⟨kd.2 :: ys, ρ2, by unfold compL; rw [e]; simp only [Res.nox_ok, bind_ok, hs, if_true, e2, hk kd rfl], by simpa using h2⟩
theorem compDL_fold {w : List Nat} {f : D → List (D × D) → Env → Res (List (D × D) × Env)} {ρ : Env} {g : List (D × D) → D → List (D × D)} (I : Nat → List (D × D) → Prop) (hs : still w ρ ρ = true) :
    ∀ (xs : List D) (n : Nat) (a : List (D × D)), I n a → (∀ x ∈ xs, ∀ i a, i < n + xs.length → I i a → f x a ρ = .ok (g a x, ρ) ∧ I (i + 1) (g a x)) → compDL w f xs a ρ = .ok (xs.foldl g a, ρ)
  | [], n, a, _, _ => rfl
  | x :: r, n, a, ha, h => by
    obtain ⟨e, hI⟩ := h x (List.mem_cons_self ..) n a (by simp) ha
    unfold compDL
    rw [e]
    simp only [Res.nox_ok, bind_ok, hs, if_true, List.foldl_cons]
    exact compDL_fold I hs r (n + 1) (g a x) hI fun y hy i a hi => h y (List.mem_cons_of_mem _ hy) i a (by simp only [List.length_cons]; omega)
/-- a for that goes to its end: each turn keeps the invariant of what is done -/
theorem forL_inv {w : List Nat} {f : D → Env → Res (Fl × Env)} (I : List D → Env → Prop) :
    ∀ (xs done : List D) (ρ : Env), I done ρ → (∀ a x b ρ, done ++ xs = a ++ x :: b → I a ρ → ∃ c ρ', f x ρ = .ok (c, ρ') ∧ (c = .nx ∨ c = .cnt) ∧ still w ρ ρ' = true ∧ I (a ++ [x]) ρ') →
      ∃ ρ', forL w f xs ρ = .ok (.nx, ρ') ∧ I (done ++ xs) ρ'
  | [], done, ρ, h, _ => ⟨ρ, rfl, by simpa using h⟩
  | x :: r, done, ρ, h, hf => by
    obtain ⟨c, ρ1, e, hc, hs, hI⟩ := hf done x r ρ rfl h
    obtain ⟨ρ2, e2, h2⟩ := forL_inv I r (done ++ [x]) ρ1 hI fun a y b ρ' q => hf a y b ρ' (by simpa using q)
    refine ⟨ρ2, ?_, by simpa using h2⟩
    unfold forL
    rw [e]
    rcases hc with rfl | rfl <;> simp only [bind_ok, hs, if_true, e2]
/-- a for that may break -/
theorem forL_brk {w : List Nat} {f : D → Env → Res (Fl × Env)} (I : List D → Env → Prop) (Q : Env → Prop) :
    ∀ (xs done : List D) (ρ : Env), I done ρ → (∀ a x b ρ, done ++ xs = a ++ x :: b → I a ρ → ∃ c ρ', f x ρ = .ok (c, ρ') ∧ ((c = .nx ∧ still w ρ ρ' = true ∧ I (a ++ [x]) ρ') ∨ (c = .brk ∧ Q ρ'))) →
      (∀ ρ, I (done ++ xs) ρ → Q ρ) → ∃ ρ', forL w f xs ρ = .ok (.nx, ρ') ∧ Q ρ'
  | [], done, ρ, h, _, hq => ⟨ρ, rfl, hq ρ (by simpa using h)⟩
  | x :: r, done, ρ, h, hf, hq => by
    obtain ⟨c, ρ1, e, hc⟩ := hf done x r ρ rfl h
    rcases hc with ⟨rfl, hs, hI⟩ | ⟨rfl, hQ⟩
    · obtain ⟨ρ2, e2, h2⟩ := forL_brk I Q r (done ++ [x]) ρ1 hI (fun a y b ρ' q => hf a y b ρ' (by simpa using q)) (by simpa using hq)
      refine ⟨ρ2, ?_, h2⟩
      unfold forL
      rw [e]
      simp only [bind_ok, hs, if_true, e2]
    · refine ⟨ρ1, ?_, hQ⟩
      unfold forL
      rw [e]
      simp only [bind_ok]
/-! ### small data: equal to itself, and shown -/
mutual
/-- ints from 0 to 63, short texts -/
def D.tiny : D → Bool
  | .non => true
  | .bl _ => true
  | .int i => decide (0 ≤ i) && decide (i < 64)
  | .str x => x.cps.toList.all (fun c => decide (c < 128)) && decide (x.cps.size ≤ 64)
  | .tup xs => D.tinys xs
  | .lst xs => D.tinys xs
  | _ => false
def D.tinys : List D → Bool
  | [] => true
  | x :: r => D.tiny x && D.tinys r
end
mutual
/-- how heavy at most -/
def D.wt : D → Nat
  | .int _ => 7
  | .str _ => 64
  | .tup xs => D.wts xs
  | .lst xs => D.wts xs
  | _ => 0
def D.wts : List D → Nat
  | [] => 0
  | x :: r => D.wt x + 1 + D.wts r
end
mutual
def D.dp : D → Nat
  | .tup xs => D.dps xs + 1
  | .lst xs => D.dps xs + 1
  | _ => 0
def D.dps : List D → Nat
  | [] => 0
  | x :: r => max (D.dp x) (D.dps r)
end
mutual
theorem plain_tiny : ∀ d : D, d.tiny = true → d.plain = true
  | .non, _ => rfl
  | .bl _, _ => rfl
  | .int _, _ => rfl
  | .str _, _ => rfl
  | .tup xs, h => plains_tiny xs h
  | .lst xs, h => plains_tiny xs h
theorem plains_tiny : ∀ xs : List D, D.tinys xs = true → D.plains xs = true
  | [], _ => rfl
  | x :: r, h => by
    have h' : x.tiny = true ∧ D.tinys r = true := by simpa only [D.tinys, Bool.and_eq_true] using h
    simp only [D.plains, plain_tiny x h'.1, plains_tiny r h'.2, Bool.and_self]
end
theorem shown_int64 : ∀ i : Fin 64, (PyData.shown (.int ((i.1 : Nat) : Int))).length ≤ 8 := by decide
theorem log64 : ∀ i : Fin 64, (PyData.weight (.int ((i.1 : Nat) : Int))) ≤ 7 := by decide
theorem int64 {i : Int} (h : (D.int i).tiny = true) : ∃ j : Fin 64, i = ((j.1 : Nat) : Int) := by
  have h' : 0 ≤ i ∧ i < 64 := by simpa only [D.tiny, Bool.and_eq_true, decide_eq_true_eq] using h
  exact ⟨⟨i.toNat, by omega⟩, by simp only; omega⟩
mutual
theorem leaves_tiny : ∀ d : D, d.tiny = true → d.py.leavesShort 8 = true
  | .non, _ => rfl
  | .bl _, _ => rfl
  | .int i, h => by
    obtain ⟨j, rfl⟩ := int64 h
    simpa only [D.py, PyData.leavesShort, decide_eq_true_eq] using shown_int64 j
  | .str x, h => by
    have h' : (x.cps.toList.all (fun c => decide (c < 128))) = true := by
      simp only [D.tiny, Bool.and_eq_true] at h
      exact h.1
    simp only [D.py, PyData.leavesShort, List.all_eq_true, decide_eq_true_eq] at h' ⊢
    intro c hc
    have := h' c hc
    exact Nat.lt_of_lt_of_le this (by decide)
  | .tup xs, h => leavess_tiny xs h
  | .lst xs, h => leavess_tiny xs h
theorem leavess_tiny : ∀ xs : List D, D.tinys xs = true → PyData.leavesShortAll 8 (D.pys xs) = true
  | [], _ => rfl
  | x :: r, h => by
    have h' : x.tiny = true ∧ D.tinys r = true := by simpa only [D.tinys, Bool.and_eq_true] using h
    simp only [D.pys, PyData.leavesShortAll, leaves_tiny x h'.1, leavess_tiny r h'.2, Bool.and_self]
end
mutual
theorem show_tiny : ∀ d : D, d.tiny = true → d.py.showable = true
  | .non, _ => rfl
  | .bl _, _ => rfl
  | .int i, h => by
    obtain ⟨j, rfl⟩ := int64 h
    have := log64 j
    simp only [D.py, PyData.showable, decide_eq_true_eq]
    simp only [PyData.weight] at this
    split at this
    · rename_i h0
      have : ((j.1 : Nat) : Int) = 0 := by simpa using h0
      rw [this]; decide
    · omega
  | .str x, h => rfl
  | .tup xs, h => shows_tiny xs h
  | .lst xs, h => shows_tiny xs h
theorem shows_tiny : ∀ xs : List D, D.tinys xs = true → PyData.showableAll (D.pys xs) = true
  | [], _ => rfl
  | x :: r, h => by
    have h' : x.tiny = true ∧ D.tinys r = true := by simpa only [D.tinys, Bool.and_eq_true] using h
    simp only [D.pys, PyData.showableAll, show_tiny x h'.1, shows_tiny r h'.2, Bool.and_self]
end
mutual
theorem wt_le : ∀ d : D, d.tiny = true → d.py.weight ≤ d.wt
  | .non, _ => Nat.zero_le _
  | .bl _, _ => Nat.zero_le _
  | .int i, h => by
    obtain ⟨j, rfl⟩ := int64 h
    exact log64 j
  | .str x, h => by
    simp only [D.tiny, Bool.and_eq_true, decide_eq_true_eq] at h
    exact h.2
  | .tup xs, h => wts_le xs h
  | .lst xs, h => wts_le xs h
theorem wts_le : ∀ xs : List D, D.tinys xs = true → PyData.weightAll (D.pys xs) ≤ D.wts xs
  | [], _ => Nat.le_refl _
  | x :: r, h => by
    have h' : x.tiny = true ∧ D.tinys r = true := by simpa only [D.tinys, Bool.and_eq_true] using h
    have h1 := wt_le x h'.1
    have h2 := wts_le r h'.2
    simp only [D.pys, PyData.weightAll, D.wts]
    omega
end
mutual
theorem dp_eq : ∀ d : D, d.plain = true → d.py.depth = d.dp
  | .non, _ => rfl
  | .bl _, _ => rfl
  | .int i, h => rfl
  | .str x, h => rfl
  | .tup xs, h => by simp only [D.py, PyData.depth, D.dp, dps_eq xs h]
  | .lst xs, h => by simp only [D.py, PyData.depth, D.dp, dps_eq xs h]
theorem dps_eq : ∀ xs : List D, D.plains xs = true → PyData.depthAll (D.pys xs) = D.dps xs
  | [], _ => rfl
  | x :: r, h => by
    have h' : x.plain = true ∧ D.plains r = true := by simpa only [D.plains, Bool.and_eq_true] using h
    simp only [D.pys, PyData.depthAll, D.dps, dp_eq x h'.1, dps_eq r h'.2]
end
theorem pys_mapQ : ∀ xs : List D, D.pys xs = xs.map D.py
  | [] => rfl
  | x :: r => by simp only [D.pys, pys_mapQ r, List.map_cons]
theorem plains_all : ∀ xs : List D, D.plains xs = xs.all D.plain
  | [] => rfl
  | x :: r => by simp only [D.plains, plains_all r, List.all_cons]
theorem tinys_all : ∀ xs : List D, D.tinys xs = xs.all D.tiny
  | [] => rfl
  | x :: r => by simp only [D.tinys, tinys_all r, List.all_cons]
theorem wts_le_of {b : Nat} : ∀ xs : List D, (∀ x ∈ xs, x.wt ≤ b) → D.wts xs ≤ (b + 1) * xs.length
  | [], _ => Nat.zero_le _
  | x :: r, h => by
    have h1 := h x (List.mem_cons_self ..)
    have h2 := wts_le_of r fun y hy => h y (List.mem_cons_of_mem _ hy)
    have e : (b + 1) * (r.length + 1) = (b + 1) * r.length + (b + 1) := Nat.mul_succ _ _
    simp only [D.wts, List.length_cons]
    omega
theorem dps_le_of {b : Nat} : ∀ xs : List D, (∀ x ∈ xs, x.dp ≤ b) → D.dps xs ≤ b
  | [], _ => Nat.zero_le _
  | x :: r, h => by
    have h1 := h x (List.mem_cons_self ..)
    have h2 := dps_le_of r fun y hy => h y (List.mem_cons_of_mem _ hy)
    simp only [D.dps]
    omega
mutual
theorem eqv_self : ∀ d : D, d.plain = true → PyData.eqv d.py d.py = true
  | .non, _ => rfl
  | .bl b, _ => by simp [D.py, PyData.eqv]
  | .int i, h => by simp [D.py, PyData.eqv]
  | .str x, h => by simp [D.py, PyData.eqv]
  | .tup xs, h => by simp only [D.py, PyData.eqv]; exact eqvs_self xs h
  | .lst xs, h => by simp only [D.py, PyData.eqv]; exact eqvs_self xs h
theorem eqvs_self : ∀ xs : List D, D.plains xs = true → PyData.eqvAll (D.pys xs) (D.pys xs) = true
  | [], _ => rfl
  | x :: r, h => by
    have h' : x.plain = true ∧ D.plains r = true := by simpa only [D.plains, Bool.and_eq_true] using h
    simp only [D.pys, PyData.eqvAll, eqv_self x h'.1, eqvs_self r h'.2, Bool.and_self]
end
theorem shapedQ {d : D} (h : d.plain = true) (hd : d.dp ≤ 60) : shapedD d = true := by
  unfold shapedD
  rw [dp_eq d h, h]
  simpa using hd
theorem eqD_self {d : D} (h : d.plain = true) (hd : d.dp ≤ 60) : eqD d d = .ok true := by
  have hs := shapedQ h hd
  unfold eqD
  split
  · simp
  · simp
  · simp
  · rw [if_pos ⟨hs, hs⟩, eqv_self d h]
theorem rep_ok {d : D} (h : d.tiny = true) (hd : d.dp ≤ 60) (hw : d.wt ≤ 1000000) : op_rep [d] = .ok (0, .str d.py.shown) := by
  have h1 := PyData.shown_le 8 (by decide) d.py (leaves_tiny d h)
  have h2 := wt_le d h
  have h3 : d.py.shown.length ≤ sizeL := by
    have : sizeL = 16777216 := rfl
    omega
  have h4 : d.py.depth ≤ 60 := by rw [dp_eq d (plain_tiny d h)]; exact hd
  unfold op_rep
  simp only
  rw [if_pos ⟨plain_tiny d h, show_tiny d h, h4, h3⟩]
end
section
open PySem (Str PyData)
open PySem.W (keyToks keyToksAll dataLt_tuple dataLt_int)
open PyProof.Rows (itemOrd lex_self lex_cons lex_irrefl itemLt)
/-! ### pairs of ints: their order -/
abbrev IP := Int × Int
def pD (p : IP) : D := .tup [.int p.1, .int p.2]
def plt (p q : IP) : Prop := p.1 < q.1 ∨ (p.1 = q.1 ∧ p.2 < q.2)
instance (p q : IP) : Decidable (plt p q) := by unfold plt; infer_instance
theorem plt_irrefl (p : IP) : ¬ plt p p := by unfold plt; omega
theorem plt_trans {p q r : IP} (h : plt p q) (h' : plt q r) : plt p r := by unfold plt at *; omega
theorem plt_asymm {p q : IP} (h : plt p q) (h' : plt q p) : False := by unfold plt at *; omega
theorem plt_total {p q : IP} (h : ¬ plt p q) (h' : ¬ plt q p) : p = q := by
  unfold plt at *
  have h1 : p.1 = q.1 := by omega
  have h2 : p.2 = q.2 := by omega
  exact Prod.ext h1 h2
theorem pD_inj {p q : IP} (h : pD p = pD q) : p = q := by
  unfold pD at h
  injection h with h
  injection h with h1 h2
  injection h2 with h2 _
  injection h1 with h1
  injection h2 with h2
  exact Prod.ext h1 h2
theorem lt_pD (p q : IP) : PySem.W.dataLt (pD p).py (pD q).py = decide (plt p q) := by
  unfold pD
  simp only [D.py, D.pys]
  rw [dataLt_tuple]
  simp only [keyToksAll, keyToks, List.cons_append, List.nil_append]
  rw [lex_self, lex_cons, lex_self, lex_cons, lex_irrefl]
  show (decide (p.1 < q.1) || (!decide (q.1 < p.1) && (decide (p.2 < q.2) || (!decide (q.2 < p.2) && false)))) = _
  unfold plt
  by_cases h1 : p.1 < q.1 <;> by_cases h2 : q.1 < p.1 <;> by_cases h3 : p.2 < q.2 <;> simp [h1, h2, h3] <;> omega
theorem lt_int (a b : Int) : PySem.W.dataLt (D.int a).py (D.int b).py = decide (a < b) := dataLt_int a b
theorem plain_pD (p : IP) : (pD p).plain = true := rfl
theorem dp_pD (p : IP) : (pD p).dp = 1 := rfl
theorem wt_pD (p : IP) : (pD p).wt = 16 := rfl
theorem alike_pD (p q : IP) : PySem.W.alike (pD p).py (pD q).py = true := by
  unfold pD
  simp [D.py, D.pys, PySem.W.alike, PySem.W.alikeAll]
theorem alike_int (a b : Int) : PySem.W.alike (D.int a).py (D.int b).py = true := by
  simp [D.py, PySem.W.alike]
theorem ltD_pD (p q : IP) : ltD (pD p) (pD q) = .ok (decide (plt p q)) := by
  have h : ltD (pD p) (pD q) = if (pD p).plain = true ∧ (pD q).plain = true ∧ PySem.W.alike (pD p).py (pD q).py = true ∧ (pD p).py.depth ≤ 60 ∧ pD p ≠ .non then .ok (PySem.W.dataLt (pD p).py (pD q).py) else .bad := rfl
  rw [h, if_pos ⟨rfl, rfl, alike_pD p q, by rw [dp_eq _ rfl]; exact (by decide : 1 ≤ 60), by unfold pD; simp⟩, lt_pD]
def ple (p q : IP) : Bool := !decide (plt q p)
theorem leD_pD (p q : IP) : leD (pD p) (pD q) = ple p q := by
  show (!PySem.W.dataLt (pD q).py (pD p).py) = _
  rw [lt_pD]; rfl
theorem leD_int (a b : Int) : leD (.int a) (.int b) = decide (a ≤ b) := by
  show (!PySem.W.dataLt (D.int b).py (D.int a).py) = _
  rw [lt_int, ← decide_not]
  exact decide_eq_decide.mpr Int.not_lt
def pSort (ps : List IP) : List IP := ps.mergeSort ple
def iSort (ns : List Int) : List Int := ns.mergeSort fun a b => decide (a ≤ b)
theorem sortOk_pD (ps : List IP) (h : ps.length ≤ 1000000) : sortOk (ps.map pD) = true := by
  unfold sortOk
  simp only [List.length_map, Bool.and_eq_true, decide_eq_true_eq, List.all_eq_true, Bool.or_eq_true, List.mem_map, forall_exists_index, and_imp, forall_apply_eq_imp_iff₂]
  refine ⟨⟨⟨sz_of h, fun p _ => ⟨rfl, by rw [dp_eq _ rfl]; exact (by decide : 1 ≤ 60)⟩⟩, fun p _ q _ => alike_pD p q⟩, .inl fun p _ => rfl⟩
theorem sortOk_int (ns : List Int) (h : ns.length ≤ 1000000) : sortOk (ns.map D.int) = true := by
  unfold sortOk
  simp only [List.length_map, Bool.and_eq_true, decide_eq_true_eq, List.all_eq_true, Bool.or_eq_true, List.mem_map, forall_exists_index, and_imp, forall_apply_eq_imp_iff₂]
  refine ⟨⟨⟨sz_of h, fun p _ => ⟨rfl, by rw [dp_eq _ rfl]; exact Nat.zero_le _⟩⟩, fun p _ q _ => alike_int p q⟩, .inr fun p _ => trivial⟩
theorem sortR_pD (ps : List IP) (h : ps.length ≤ 1000000) : sortR (ps.map pD) = .ok (1, .lst ((pSort ps).map pD)) := by
  unfold sortR pSort
  rw [if_pos (sortOk_pD ps h), List.map_mergeSort fun a _ b _ => (leD_pD a b).symm]
theorem sortR_int (ns : List Int) (h : ns.length ≤ 1000000) : sortR (ns.map D.int) = .ok (1, .lst ((iSort ns).map D.int)) := by
  unfold sortR iSort
  rw [if_pos (sortOk_int ns h), List.map_mergeSort fun a _ b _ => (leD_int a b).symm]
/-- rising pairs -/
def SS (ps : List IP) : Prop := ps.Pairwise plt
theorem mem_pSort {ps : List IP} {p : IP} : p ∈ pSort ps ↔ p ∈ ps := (List.mergeSort_perm ps ple).mem_iff
theorem len_pSort (ps : List IP) : (pSort ps).length = ps.length := (List.mergeSort_perm ps ple).length_eq
theorem ple_total (a b : IP) : (ple a b || ple b a) = true := by
  unfold ple
  by_cases h : plt b a
  · have : ¬ plt a b := fun h' => plt_asymm h h'
    simp [this]
  · simp [h]
theorem ple_trans (a b c : IP) (h : ple a b = true) (h' : ple b c = true) : ple a c = true := by
  unfold ple at *
  simp only [Bool.not_eq_true', decide_eq_false_iff_not] at *
  unfold plt at *
  omega
theorem pSort_le (ps : List IP) : (pSort ps).Pairwise fun a b => ple a b = true := List.pairwise_mergeSort ple_trans ple_total ps
theorem SS_pSort {ps : List IP} (h : ps.Nodup) : SS (pSort ps) := by
  have h1 := pSort_le ps
  have h2 : (pSort ps).Nodup := (List.mergeSort_perm ps ple).nodup_iff.mpr h
  refine (h1.and h2).imp fun {a b} ⟨h3, h4⟩ => ?_
  unfold ple at h3
  simp only [Bool.not_eq_true', decide_eq_false_iff_not] at h3
  by_cases h5 : plt a b
  · exact h5
  · exact absurd (plt_total h5 h3) h4
theorem SS.nodup {ps : List IP} (h : SS ps) : ps.Nodup := by
  refine List.Pairwise.imp (fun {a b} h => ?_) h
  intro e
  subst e
  exact plt_irrefl _ h
/-- rising rows of the same pairs are the same -/
theorem SS_ext : ∀ {ps qs : List IP}, SS ps → SS qs → (∀ p, p ∈ ps ↔ p ∈ qs) → ps = qs
  | [], [], _, _, _ => rfl
  | [], q :: _, _, _, h => absurd ((h q).mpr (List.mem_cons_self ..)) (by simp)
  | p :: _, [], _, _, h => absurd ((h p).mp (List.mem_cons_self ..)) (by simp)
  | p :: ps, q :: qs, hp, hq, h => by
    have hp' := List.pairwise_cons.mp hp
    have hq' := List.pairwise_cons.mp hq
    have e : p = q := by
      rcases List.mem_cons.mp ((h p).mp (List.mem_cons_self ..)) with e | m
      · exact e
      · rcases List.mem_cons.mp ((h q).mpr (List.mem_cons_self ..)) with e | m'
        · exact e.symm
        · exact (plt_asymm (hp'.1 q m') (hq'.1 p m)).elim
    subst e
    congr 1
    refine SS_ext hp'.2 hq'.2 fun x => ⟨fun m => ?_, fun m => ?_⟩
    · rcases List.mem_cons.mp ((h x).mp (List.mem_cons_of_mem _ m)) with e | m'
      · exact (plt_irrefl p (e ▸ hp'.1 x m)).elim
      · exact m'
    · rcases List.mem_cons.mp ((h x).mpr (List.mem_cons_of_mem _ m)) with e | m'
      · exact (plt_irrefl p (e ▸ hq'.1 x m)).elim
      · exact m'
theorem SS.filter {ps : List IP} (h : SS ps) (f : IP → Bool) : SS (ps.filter f) := List.Pairwise.filter f h
/-! ### a dict's keys: each once, as they first come -/
theorem kget_some_mem : ∀ {a : List (D × D)} {k v : D}, kget a k = some v → (k, v) ∈ a
  | (k', v') :: r, k, v, h => by
    unfold kget at h
    split at h
    · rename_i e
      cases h
      subst e
      exact List.mem_cons_self ..
    · exact List.mem_cons_of_mem _ (kget_some_mem h)
theorem kget_none {a : List (D × D)} {k : D} : kget a k = none ↔ k ∉ a.map (·.1) := by
  induction a with
  | nil => simp [kget]
  | cons p r ih =>
    obtain ⟨k', v'⟩ := p
    unfold kget
    by_cases e : k' = k
    · simp [e]
    · simp only [e, if_false, ih, List.map_cons, List.mem_cons, not_or]
      exact ⟨fun h => ⟨fun q => e q.symm, h⟩, fun h => h.2⟩
theorem kput_keys (a : List (D × D)) (k v : D) : (kput a k v).map (·.1) = if k ∈ a.map (·.1) then a.map (·.1) else a.map (·.1) ++ [k] := by
  induction a with
  | nil => simp [kput]
  | cons p r ih =>
    obtain ⟨k', v'⟩ := p
    unfold kput
    by_cases e : k' = k
    · simp [e]
    · have e' : ¬ k = k' := fun q => e q.symm
      simp only [e, if_false, List.map_cons, ih, List.mem_cons, e', false_or]
      split <;> simp
theorem kget_kput (a : List (D × D)) (k v x : D) : kget (kput a k v) x = if k = x then some v else kget a x := by
  induction a with
  | nil => simp [kput, kget]
  | cons p r ih =>
    obtain ⟨k', v'⟩ := p
    unfold kput
    by_cases e : k' = k
    · subst e
      by_cases e2 : k' = x <;> simp [kget, e2]
    · simp only [e, if_false]
      unfold kget
      by_cases e2 : k' = x
      · have : ¬ k = x := fun q => e (e2.trans q.symm)
        simp [e2, this]
      · simp only [e2, if_false, ih]
theorem kput_len (a : List (D × D)) (k v : D) : (kput a k v).length ≤ a.length + 1 := by
  induction a with
  | nil => simp [kput]
  | cons p r ih =>
    obtain ⟨k', v'⟩ := p
    unfold kput
    split <;> simp <;> omega
/-- pairs, each once -/
def pDup (ps : List IP) : List IP := ps.foldl (fun a p => if p ∈ a then a else a ++ [p]) []
theorem pDup_go (ps : List IP) : ∀ a : List IP, a.Nodup → (ps.foldl (fun a p => if p ∈ a then a else a ++ [p]) a).Nodup ∧ ∀ x, x ∈ ps.foldl (fun a p => if p ∈ a then a else a ++ [p]) a ↔ x ∈ a ∨ x ∈ ps := by
  induction ps with
  | nil => intro a h; simp [h]
  | cons p r ih =>
    intro a h
    simp only [List.foldl_cons]
    by_cases e : p ∈ a
    · simp only [e, if_true]
      refine ⟨(ih a h).1, fun x => ?_⟩
      rw [(ih a h).2 x]
      simp only [List.mem_cons]
      constructor
      · rintro (m | m)
        · exact .inl m
        · exact .inr (.inr m)
      · rintro (m | rfl | m)
        · exact .inl m
        · exact .inl e
        · exact .inr m
    · simp only [e, if_false]
      have h' : (a ++ [p]).Nodup := by
        rw [List.nodup_append]
        exact ⟨h, by simp, fun x hx y hy => by simp at hy; subst hy; exact fun q => e (q ▸ hx)⟩
      refine ⟨(ih _ h').1, fun x => ?_⟩
      rw [(ih _ h').2 x]
      simp only [List.mem_append, List.mem_cons, List.not_mem_nil, or_false]
      exact or_assoc
theorem pDup_nodup (ps : List IP) : (pDup ps).Nodup := (pDup_go ps [] List.nodup_nil).1
theorem mem_pDup {ps : List IP} {x : IP} : x ∈ pDup ps ↔ x ∈ ps := by
  have := (pDup_go ps [] List.nodup_nil).2 x
  unfold pDup
  rw [this]
  simp
theorem pDup_len (ps : List IP) : (pDup ps).length ≤ ps.length := by
  have : ∀ (ps a : List IP), (ps.foldl (fun a p => if p ∈ a then a else a ++ [p]) a).length ≤ a.length + ps.length := by
    intro ps
    induction ps with
    | nil => intro a; simp
    | cons p r ih =>
      intro a
      simp only [List.foldl_cons, List.length_cons]
      by_cases e : p ∈ a
      · simp only [e, if_true]
        have := ih a
        omega
      · simp only [e, if_false]
        have := ih (a ++ [p])
        simp only [List.length_append, List.length_cons, List.length_nil] at this
        omega
  have := this ps []
  unfold pDup
  simpa using this
/-- the edge between two points -/
def mkE (a b : Int) : IP := if a < b then (a, b) else (b, a)
/-- the edges of pairs: rising, each once -/
def edgesOf (ps : List IP) : List IP := pSort (pDup (ps.map fun p => mkE p.1 p.2))
theorem SS_edgesOf (ps : List IP) : SS (edgesOf ps) := SS_pSort (pDup_nodup _)
theorem mem_edgesOf {ps : List IP} {e : IP} : e ∈ edgesOf ps ↔ ∃ p ∈ ps, mkE p.1 p.2 = e := by
  unfold edgesOf
  rw [mem_pSort, mem_pDup, List.mem_map]
theorem edgesOf_len (ps : List IP) : (edgesOf ps).length ≤ ps.length := by
  unfold edgesOf
  rw [len_pSort]
  have := pDup_len (ps.map fun p => mkE p.1 p.2)
  simpa using this
end
section
open PySem (Str PyData)
theorem ev_den_var (F : Fn) (s : Slot) (ρ : Env) (i : Nat) : den F (.var i) (s :: ρ) = match (s :: ρ)[i]? with
     | some (some (_, d)) => .ok ((0, d), (s :: ρ).set i (some (0, d)))
     | _ => .bad := by first | exact Eq.trans rfl rfl | rw [den]
theorem ev_den_mv (F : Fn) (s : Slot) (ρ : Env) (i : Nat) : den F (.mv i) (s :: ρ) = match (s :: ρ)[i]? with
     | some (some kd) => .ok (kd, (s :: ρ).set i none)
     | _ => .bad := by first | exact Eq.trans rfl rfl | rw [den]
theorem ev_den_cst (F : Fn) (s : Slot) (ρ : Env) (d : D) : den F (.cst d) (s :: ρ) = .ok ((0, d), (s :: ρ)) := by first | exact Eq.trans rfl rfl | rw [den]
theorem ev_den_op (F : Fn) (s : Slot) (ρ : Env) (o : Op) (es : CEs) : den F (.op o es) (s :: ρ) = (denOps F o.esc es (s :: ρ)).bind fun p => (opD o (dsds p.1)).bind fun kd => .ok (kd, p.2) := by first | exact Eq.trans rfl rfl | rw [den]
theorem ev_den_dsp (F : Fn) (s : Slot) (ρ : Env) (k : Nat) (es : CEs) : den F (.dsp k es) (s :: ρ) = (denOps F true es (s :: ρ)).bind fun p => if minK k p.1 = true ∧ p.1.length ≤ sizeL then .ok ((k, .lst (dsds p.1)), p.2) else .bad := by first | exact Eq.trans rfl rfl | rw [den]
theorem ev_den_dctE (F : Fn) (s : Slot) (ρ : Env) (k : Nat) : den F (.dctE k) (s :: ρ) = .ok ((k, .dct []), (s :: ρ)) := by first | exact Eq.trans rfl rfl | rw [den]
theorem ev_den_andV (F : Fn) (s : Slot) (ρ : Env) (a : CE) (b : CE) : den F (.andV a b) (s :: ρ) = (den F a (s :: ρ)).bind fun p => match p.1.2 with
     | .bl true => den F b p.2
     | .bl false => .ok ((0, .bl false), p.2)
     | _ => .bad := by first | exact Eq.trans rfl rfl | rw [den]
theorem ev_den_orV (F : Fn) (s : Slot) (ρ : Env) (a : CE) (b : CE) : den F (.orV a b) (s :: ρ) = (den F a (s :: ρ)).bind fun p => match p.1.2 with
     | .bl false => den F b p.2
     | .bl true => .ok ((0, .bl true), p.2)
     | _ => .bad := by first | exact Eq.trans rfl rfl | rw [den]
theorem ev_den_tst (F : Fn) (s : Slot) (ρ : Env) (t : CT) : den F (.tst t) (s :: ρ) = (denT F t (s :: ρ)).bind fun p => .ok ((0, .bl p.1), p.2) := by first | exact Eq.trans rfl rfl | rw [den]
theorem ev_den_ite (F : Fn) (s : Slot) (ρ : Env) (t : CT) (a : CE) (b : CE) : den F (.ite t a b) (s :: ρ) = (denT F t (s :: ρ)).bind fun p => if p.1 = true then den F a p.2 else den F b p.2 := by first | exact Eq.trans rfl rfl | rw [den]
theorem ev_den_chn (F : Fn) (s : Slot) (ρ : Env) (o : Op) (a : CE) (b : CE) (r : Chs) : den F (.chn o a b r) (s :: ρ) = (den F a (s :: ρ)).bind fun p => (den F b p.2).bind fun q => (opD o [p.1.2, q.1.2]).bind fun t => denCh F t.2 q.1.2 r q.2 := by first | exact Eq.trans rfl rfl | rw [den]
theorem ev_den_call (F : Fn) (s : Slot) (ρ : Env) (f : Nat) (es : CEs) : den F (.call f es) (s :: ρ) = (denArgs F es (s :: ρ)).bind fun p => (F f p.1).bind fun r => (backArgs es r.2 p.2).bind fun ρ' => .ok (r.1, ρ') := by first | exact Eq.trans rfl rfl | rw [den]
theorem ev_den_callV (F : Fn) (s : Slot) (ρ : Env) (i : Nat) (es : CEs) : den F (.callV i es) (s :: ρ) = (denArgs F es (s :: ρ)).bind fun p => match slotD p.2 i with
     | some (.fn f) => (F f p.1).bind fun r => (backArgs es r.2 p.2).bind fun ρ' => .ok (r.1, ρ')
     | _ => .bad := by first | exact Eq.trans rfl rfl | rw [den]
theorem ev_den_lc (F : Fn) (s : Slot) (ρ : Env) (k : Nat) (own : List Nat) (t : Tg) (it : Itk) (src : CEs) (ifs : CT) (elt : CE) : den F (.lc k own t it src ifs elt) (s :: ρ) = (denOps F true src (s :: ρ)).bind fun p => (iterD it (dsds p.1)).bind fun xs =>
       (compL (watchOf src) (fun x ρ1 => (asgT F t (0, x) (wipeD own ρ1)).bind fun ρ2 => (denT F ifs ρ2).bind fun b =>
         if b.1 = true then (den F elt b.2).bind fun r => .ok (some r.1, unwD own ρ1 r.2) else .ok (none, unwD own ρ1 b.2)) k xs (shD own p.2)).bind fun q => if q.1.length ≤ sizeL then .ok ((k, .lst q.1), q.2) else .bad := by first | exact Eq.trans rfl rfl | rw [den]
theorem ev_den_lc2 (F : Fn) (s : Slot) (ρ : Env) (k : Nat) (own : List Nat) (own2 : List Nat) (t : Tg) (it : Itk) (src : CEs) (ifs : CT) (t2 : Tg) (it2 : Itk) (src2 : CEs) (ifs2 : CT) (elt : CE) : den F (.lc2 k own own2 t it src ifs t2 it2 src2 ifs2 elt) (s :: ρ) = (denOps F true src (s :: ρ)).bind fun p => (iterD it (dsds p.1)).bind fun xs =>
       (compLL (watchOf src) (fun x ρ1 => (asgT F t (0, x) (wipeD own ρ1)).bind fun ρ2 => (denT F ifs ρ2).bind fun b =>
         if b.1 = true then ((denOps F true src2 b.2).bind fun p2 => (iterD it2 (dsds p2.1)).bind fun ys =>
           (compL (watchOf src2) (fun y ρ3 => (asgT F t2 (0, y) (wipeD own2 ρ3)).bind fun ρ4 => (denT F ifs2 ρ4).bind fun b2 =>
             if b2.1 = true then (den F elt b2.2).bind fun r => .ok (some r.1, unwD own2 ρ3 r.2) else .ok (none, unwD own2 ρ3 b2.2)) k ys p2.2).bind fun q => .ok (q.1, unwD own ρ1 q.2))
         else .ok ([], unwD own ρ1 b.2)) xs p.2).bind fun q => if q.1.length ≤ sizeL then .ok ((k, .lst q.1), q.2) else .bad := by first | exact Eq.trans rfl rfl | rw [den]
theorem ev_den_dc (F : Fn) (s : Slot) (ρ : Env) (k : Nat) (own : List Nat) (t : Tg) (it : Itk) (src : CEs) (ifs : CT) (key : CE) (val : CE) : den F (.dc k own t it src ifs key val) (s :: ρ) = (denOps F true src (s :: ρ)).bind fun p => (iterD it (dsds p.1)).bind fun xs =>
       (compDL (watchOf src) (fun x a ρ1 => (asgT F t (0, x) (wipeD own ρ1)).bind fun ρ2 => (denT F ifs ρ2).bind fun b =>
         if b.1 = true then (den F key b.2).bind fun kk => (den F val kk.2).bind fun vv =>
           if k ≤ vv.1.1 + 1 ∧ kIn a kk.1.2 = true ∧ a.length < sizeL then .ok (kput a kk.1.2 vv.1.2, unwD own ρ1 vv.2) else .bad
         else .ok (a, unwD own ρ1 b.2)) xs [] (shD own p.2)).bind fun q => .ok ((k, .dct q.1), q.2) := by first | exact Eq.trans rfl rfl | rw [den]
theorem ev_den_dc2 (F : Fn) (s : Slot) (ρ : Env) (k : Nat) (own : List Nat) (own2 : List Nat) (t : Tg) (it : Itk) (src : CEs) (ifs : CT) (t2 : Tg) (it2 : Itk) (src2 : CEs) (ifs2 : CT) (key : CE) (val : CE) : den F (.dc2 k own own2 t it src ifs t2 it2 src2 ifs2 key val) (s :: ρ) = (denOps F true src (s :: ρ)).bind fun p => (iterD it (dsds p.1)).bind fun xs =>
       (compDL (watchOf src) (fun x a ρ1 => (asgT F t (0, x) (wipeD own ρ1)).bind fun ρ2 => (denT F ifs ρ2).bind fun b =>
         if b.1 = true then ((denOps F true src2 b.2).bind fun p2 => (iterD it2 (dsds p2.1)).bind fun ys =>
           (compDL (watchOf src2) (fun y a ρ3 => (asgT F t2 (0, y) (wipeD own2 ρ3)).bind fun ρ4 => (denT F ifs2 ρ4).bind fun b2 =>
             if b2.1 = true then (den F key b2.2).bind fun kk => (den F val kk.2).bind fun vv =>
               if k ≤ vv.1.1 + 1 ∧ kIn a kk.1.2 = true ∧ a.length < sizeL then .ok (kput a kk.1.2 vv.1.2, unwD own2 ρ3 vv.2) else .bad
             else .ok (a, unwD own2 ρ3 b2.2)) ys a p2.2).bind fun q => .ok (q.1, unwD own ρ1 q.2))
         else .ok (a, unwD own ρ1 b.2)) xs [] p.2).bind fun q => .ok ((k, .dct q.1), q.2) := by first | exact Eq.trans rfl rfl | rw [den]
theorem ev_den_mth (F : Fn) (s : Slot) (ρ : Env) (m : Mth) (i : Nat) (es : CEs) : den F (.mth m i es) (s :: ρ) = if mthOk m (slotD (s :: ρ) i) = true then (denOps F true es (s :: ρ)).bind fun p => match p.2[i]? with
     | some (some kd) => (mthD m kd (dsds p.1)).bind fun r => .ok (r.1, p.2.set i (some r.2))
     | _ => .bad
     else .bad := by first | exact Eq.trans rfl rfl | rw [den]
theorem ev_den_ask (F : Fn) (s : Slot) (ρ : Env) (o : Op) (i : Nat) (es : CEs) : den F (.ask o i es) (s :: ρ) = if askOk o (slotD (s :: ρ) i) = true then (denOps F true es (s :: ρ)).bind fun p => match p.2[i]? with
     | some (some (k, d)) => if k ≤ 2 then (opD o (d :: dsds p.1)).bind fun kd => .ok (kd, p.2.set i (some (min k 1, d))) else .bad
     | _ => .bad
     else .bad := by first | exact Eq.trans rfl rfl | rw [den]
theorem ev_den_mth1 (F : Fn) (s : Slot) (ρ : Env) (m : Mth) (i : Nat) (ix : CE) (es : CEs) : den F (.mth1 m i ix es) (s :: ρ) = (den F ix (s :: ρ)).bind fun x => (denOps F true es x.2).bind fun p => match p.2[i]? with
     | some (some kd) => (getO kd x.1.2).bind fun c => (mthD m c (dsds p.1)).bind fun r => (putI kd x.1.2 r.2).bind fun kd' => .ok (r.1, p.2.set i (some kd'))
     | _ => .bad := by first | exact Eq.trans rfl rfl | rw [den]
theorem ev_denT_v (F : Fn) (s : Slot) (ρ : Env) (e : CE) : denT F (.v e) (s :: ρ) = (den F e (s :: ρ)).bind fun p => (truth p.1.2).bind fun b => .ok (b, p.2) := by first | exact Eq.trans rfl rfl | rw [denT]
theorem ev_denT_p (F : Fn) (s : Slot) (ρ : Env) (i : Nat) : denT F (.p i) (s :: ρ) = match slotD (s :: ρ) i with
     | some d => (truth d).bind fun b => .ok (b, (s :: ρ))
     | none => .bad := by first | exact Eq.trans rfl rfl | rw [denT]
theorem ev_denT_and (F : Fn) (s : Slot) (ρ : Env) (a : CT) (b : CT) : denT F (.and a b) (s :: ρ) = (denT F a (s :: ρ)).bind fun p => if p.1 = true then denT F b p.2 else .ok (false, p.2) := by first | exact Eq.trans rfl rfl | rw [denT]
theorem ev_denT_or (F : Fn) (s : Slot) (ρ : Env) (a : CT) (b : CT) : denT F (.or a b) (s :: ρ) = (denT F a (s :: ρ)).bind fun p => if p.1 = true then .ok (true, p.2) else denT F b p.2 := by first | exact Eq.trans rfl rfl | rw [denT]
theorem ev_denT_not (F : Fn) (s : Slot) (ρ : Env) (a : CT) : denT F (.not a) (s :: ρ) = (denT F a (s :: ρ)).bind fun p => .ok (!p.1, p.2) := by first | exact Eq.trans rfl rfl | rw [denT]
theorem ev_denT_yes (F : Fn) (s : Slot) (ρ : Env)  : denT F .yes (s :: ρ) = .ok (true, (s :: ρ)) := by first | exact Eq.trans rfl rfl | rw [denT]
theorem ev_denS_asg (F : Fn) (s : Slot) (ρ : Env) (t : Tg) (e : CE) : denS F (.asg t e) (s :: ρ) = (den F e (s :: ρ)).bind fun p => (asgT F t p.1 p.2).bind fun ρ' => .ok (.nx, ρ') := by first | exact Eq.trans rfl rfl | rw [denS]
theorem ev_denS_par (F : Fn) (s : Slot) (ρ : Env) (ts : Tgs) (es : CEs) : denS F (.par ts es) (s :: ρ) = (denOps F true es (s :: ρ)).bind fun p => if p.1.length = lenT ts ∧ p.1.length ≤ sizeL then (asgK F ts p.1 p.2).bind fun ρ' => .ok (.nx, ρ') else .bad := by first | exact Eq.trans rfl rfl | rw [denS]
theorem ev_denS_ex (F : Fn) (s : Slot) (ρ : Env) (e : CE) : denS F (.ex e) (s :: ρ) = (den F e (s :: ρ)).bind fun p => .ok (.nx, p.2) := by first | exact Eq.trans rfl rfl | rw [denS]
theorem ev_denS_set2 (F : Fn) (s : Slot) (ρ : Env) (i : Nat) (a : CE) (b : CE) (e : CE) : denS F (.set2 i a b e) (s :: ρ) = (den F e (s :: ρ)).bind fun y => (den F a y.2).bind fun u => (den F b u.2).bind fun v => match v.2[i]? with
     | some (some kd) => (getO kd u.1.2).bind fun c => (putI c v.1.2 y.1).bind fun c' => (putI kd u.1.2 c').bind fun kd' => .ok (.nx, v.2.set i (some kd'))
     | _ => .bad := by first | exact Eq.trans rfl rfl | rw [denS]
theorem ev_denS_augN (F : Fn) (s : Slot) (ρ : Env) (i : Nat) (o : Op) (e : CE) : denS F (.augN i o e) (s :: ρ) = (den F e (s :: ρ)).bind fun y => match slotD y.2 i with
     | some d => (opD o [d, y.1.2]).bind fun r => match r.2 with
       | .int _ => .ok (.nx, y.2.set i (some r))
       | _ => .bad
     | none => .bad := by first | exact Eq.trans rfl rfl | rw [denS]
theorem ev_denS_augI (F : Fn) (s : Slot) (ρ : Env) (i : Nat) (ix : CE) (o : Op) (e : CE) : denS F (.augI i ix o e) (s :: ρ) = (den F ix (s :: ρ)).bind fun x => (den F e x.2).bind fun y => match y.2[i]? with
     | some (some kd) => (getO kd x.1.2).bind fun c => (opD o [c.2, y.1.2]).bind fun r => match r.2 with
       | .int _ => (putI kd x.1.2 (9, r.2)).bind fun kd' => .ok (.nx, y.2.set i (some kd'))
       | _ => .bad
     | _ => .bad := by first | exact Eq.trans rfl rfl | rw [denS]
theorem ev_denS_ret (F : Fn) (s : Slot) (ρ : Env) (e : CE) : denS F (.ret e) (s :: ρ) = (den F e (s :: ρ)).bind fun p => .ok (.ret p.1, p.2) := by first | exact Eq.trans rfl rfl | rw [denS]
theorem ev_denS_retN (F : Fn) (s : Slot) (ρ : Env)  : denS F .retN (s :: ρ) = .ok (.ret (0, .non), (s :: ρ)) := by first | exact Eq.trans rfl rfl | rw [denS]
theorem ev_denS_ifS (F : Fn) (s : Slot) (ρ : Env) (t : CT) (a : CSs) (b : CSs) : denS F (.ifS t a b) (s :: ρ) = (denT F t (s :: ρ)).bind fun p => if p.1 = true then denSs F a p.2 else denSs F b p.2 := by first | exact Eq.trans rfl rfl | rw [denS]
theorem ev_denS_forS (F : Fn) (s : Slot) (ρ : Env) (t : Tg) (it : Itk) (src : CEs) (body : CSs) : denS F (.forS t it src body) (s :: ρ) = (denOps F true src (s :: ρ)).bind fun p => (iterD it (dsds p.1)).bind fun xs =>
       forL (watchOf src) (fun x ρ1 => (asgT F t (0, x) ρ1).bind fun ρ2 => denSs F body ρ2) xs p.2 := by first | exact Eq.trans rfl rfl | rw [denS]
theorem ev_denS_whl (F : Fn) (s : Slot) (ρ : Env) (t : CT) (body : CSs) : denS F (.whl t body) (s :: ρ) = whileL (fun ρ => (denT F t ρ).bind fun p => if p.1 = true then (denSs F body p.2).bind fun q => match q.1 with
       | .nx => .ok (.inl q.2)
       | .cnt => .ok (.inl q.2)
       | .brk => .ok (.inr (.nx, q.2))
       | .ret v => .ok (.inr (.ret v, q.2))
       else .ok (.inr (.nx, p.2))) (s :: ρ) := by first | exact Eq.trans rfl rfl | rw [denS]
theorem ev_denS_brk (F : Fn) (s : Slot) (ρ : Env)  : denS F .brk (s :: ρ) = .ok (.brk, (s :: ρ)) := by first | exact Eq.trans rfl rfl | rw [denS]
theorem ev_denS_cnt (F : Fn) (s : Slot) (ρ : Env)  : denS F .cnt (s :: ρ) = .ok (.cnt, (s :: ρ)) := by first | exact Eq.trans rfl rfl | rw [denS]
theorem ev_denS_pss (F : Fn) (s : Slot) (ρ : Env)  : denS F .pss (s :: ρ) = .ok (.nx, (s :: ρ)) := by first | exact Eq.trans rfl rfl | rw [denS]
theorem ev_denS_rse (F : Fn) (s : Slot) (ρ : Env) (c : Nat) (e : CE) : denS F (.rse c e) (s :: ρ) = (den F e (s :: ρ)).bind fun p => .exc c p.1.2 := by first | exact Eq.trans rfl rfl | rw [denS]
theorem ev_denSs_nil (F : Fn) (s : Slot) (ρ : Env) : denSs F .nil (s :: ρ) = .ok (.nx, (s :: ρ)) := by first | exact Eq.trans rfl rfl | rw [denSs]
theorem ev_denSs_cons (F : Fn) (s : Slot) (ρ : Env) (c : CS) (r : CSs) : denSs F (.cons c r) (s :: ρ) = (denS F c (s :: ρ)).bind fun p => match p.1 with
    | .nx => denSs F r p.2
    | f => .ok (f, p.2) := by first | exact Eq.trans rfl rfl | rw [denSs]
theorem ev_denCh_nil (F : Fn) (s : Slot) (ρ : Env) (t left : D) : denCh F t left .nil (s :: ρ) = .ok ((0, t), (s :: ρ)) := by first | exact Eq.trans rfl rfl | rw [denCh]
theorem ev_denCh_t (F : Fn) (s : Slot) (ρ : Env) (left : D) (o : Op) (e : CE) (r : Chs) : denCh F (.bl true) left (.cons o e r) (s :: ρ) = (den F e (s :: ρ)).bind fun q => (opD o [left, q.1.2]).bind fun t' => denCh F t'.2 q.1.2 r q.2 := by first | exact Eq.trans rfl rfl | rw [denCh]
theorem ev_denCh_f (F : Fn) (s : Slot) (ρ : Env) (left : D) (o : Op) (e : CE) (r : Chs) : denCh F (.bl false) left (.cons o e r) (s :: ρ) = .ok ((0, .bl false), (s :: ρ)) := by first | exact Eq.trans rfl rfl | rw [denCh]
theorem ev_denOps_nil (F : Fn) (s : Slot) (ρ : Env) (esc : Bool) : denOps F esc .nil (s :: ρ) = .ok ([], (s :: ρ)) := by first | exact Eq.trans rfl rfl | rw [denOps]
theorem ev_denArgs_nil (F : Fn) (s : Slot) (ρ : Env) : denArgs F .nil (s :: ρ) = .ok ([], (s :: ρ)) := by first | exact Eq.trans rfl rfl | rw [denArgs]
theorem ev_denOps_pk (F : Fn) (s : Slot) (ρ : Env) (esc : Bool) (i : Nat) (r : CEs) : denOps F esc (.cons (.pk i) r) (s :: ρ) = if (slotD (s :: ρ) i).isSome = true then (denOps F esc r (s :: ρ)).bind fun q => match q.2[i]? with
      | some (some (k, d)) => if k ≤ 2 then .ok ((0, d) :: q.1, if esc = true then q.2.set i (some (min k 1, d)) else q.2) else .bad
      | _ => .bad
      else .bad := by first | exact Eq.trans rfl rfl | rw [denOps]
theorem ev_denArgs_pk (F : Fn) (s : Slot) (ρ : Env) (i : Nat) (r : CEs) : denArgs F (.cons (.pk i) r) (s :: ρ) = if (slotD (s :: ρ) i).isSome = true then (denArgs F r (s :: ρ)).bind fun q => match q.2[i]? with
      | some (some kd) => .ok (kd :: q.1, q.2.set i none)
      | _ => .bad
      else .bad := by first | exact Eq.trans rfl rfl | rw [denArgs]
theorem ev_denOps_var (F : Fn) (s : Slot) (ρ : Env) (esc : Bool) (i : Nat) (r : CEs) : denOps F esc (.cons (.var i) r) (s :: ρ) = (den F (.var i) (s :: ρ)).bind fun p => (denOps F esc r p.2).bind fun q => .ok (p.1 :: q.1, q.2) := by first | exact Eq.trans rfl rfl | rw [denOps]
theorem ev_denArgs_var (F : Fn) (s : Slot) (ρ : Env) (i : Nat) (r : CEs) : denArgs F (.cons (.var i) r) (s :: ρ) = (den F (.var i) (s :: ρ)).bind fun p => (denArgs F r p.2).bind fun q => .ok ((0, p.1.2) :: q.1, q.2) := by first | exact Eq.trans rfl rfl | rw [denArgs]
theorem ev_denOps_mv (F : Fn) (s : Slot) (ρ : Env) (esc : Bool) (i : Nat) (r : CEs) : denOps F esc (.cons (.mv i) r) (s :: ρ) = (den F (.mv i) (s :: ρ)).bind fun p => (denOps F esc r p.2).bind fun q => .ok (p.1 :: q.1, q.2) := by first | exact Eq.trans rfl rfl | rw [denOps]
theorem ev_denArgs_mv (F : Fn) (s : Slot) (ρ : Env) (i : Nat) (r : CEs) : denArgs F (.cons (.mv i) r) (s :: ρ) = (den F (.mv i) (s :: ρ)).bind fun p => (denArgs F r p.2).bind fun q => .ok ((0, p.1.2) :: q.1, q.2) := by first | exact Eq.trans rfl rfl | rw [denArgs]
theorem ev_denOps_cst (F : Fn) (s : Slot) (ρ : Env) (esc : Bool) (d : D) (r : CEs) : denOps F esc (.cons (.cst d) r) (s :: ρ) = (den F (.cst d) (s :: ρ)).bind fun p => (denOps F esc r p.2).bind fun q => .ok (p.1 :: q.1, q.2) := by first | exact Eq.trans rfl rfl | rw [denOps]
theorem ev_denArgs_cst (F : Fn) (s : Slot) (ρ : Env) (d : D) (r : CEs) : denArgs F (.cons (.cst d) r) (s :: ρ) = (den F (.cst d) (s :: ρ)).bind fun p => (denArgs F r p.2).bind fun q => .ok ((0, p.1.2) :: q.1, q.2) := by first | exact Eq.trans rfl rfl | rw [denArgs]
theorem ev_denOps_op (F : Fn) (s : Slot) (ρ : Env) (esc : Bool) (o : Op) (es1 : CEs) (r : CEs) : denOps F esc (.cons (.op o es1) r) (s :: ρ) = (den F (.op o es1) (s :: ρ)).bind fun p => (denOps F esc r p.2).bind fun q => .ok (p.1 :: q.1, q.2) := by first | exact Eq.trans rfl rfl | rw [denOps]
theorem ev_denArgs_op (F : Fn) (s : Slot) (ρ : Env) (o : Op) (es1 : CEs) (r : CEs) : denArgs F (.cons (.op o es1) r) (s :: ρ) = (den F (.op o es1) (s :: ρ)).bind fun p => (denArgs F r p.2).bind fun q => .ok ((0, p.1.2) :: q.1, q.2) := by first | exact Eq.trans rfl rfl | rw [denArgs]
theorem ev_denOps_dsp (F : Fn) (s : Slot) (ρ : Env) (esc : Bool) (k : Nat) (es1 : CEs) (r : CEs) : denOps F esc (.cons (.dsp k es1) r) (s :: ρ) = (den F (.dsp k es1) (s :: ρ)).bind fun p => (denOps F esc r p.2).bind fun q => .ok (p.1 :: q.1, q.2) := by first | exact Eq.trans rfl rfl | rw [denOps]
theorem ev_denArgs_dsp (F : Fn) (s : Slot) (ρ : Env) (k : Nat) (es1 : CEs) (r : CEs) : denArgs F (.cons (.dsp k es1) r) (s :: ρ) = (den F (.dsp k es1) (s :: ρ)).bind fun p => (denArgs F r p.2).bind fun q => .ok ((0, p.1.2) :: q.1, q.2) := by first | exact Eq.trans rfl rfl | rw [denArgs]
theorem ev_denOps_dctE (F : Fn) (s : Slot) (ρ : Env) (esc : Bool) (k : Nat) (r : CEs) : denOps F esc (.cons (.dctE k) r) (s :: ρ) = (den F (.dctE k) (s :: ρ)).bind fun p => (denOps F esc r p.2).bind fun q => .ok (p.1 :: q.1, q.2) := by first | exact Eq.trans rfl rfl | rw [denOps]
theorem ev_denArgs_dctE (F : Fn) (s : Slot) (ρ : Env) (k : Nat) (r : CEs) : denArgs F (.cons (.dctE k) r) (s :: ρ) = (den F (.dctE k) (s :: ρ)).bind fun p => (denArgs F r p.2).bind fun q => .ok ((0, p.1.2) :: q.1, q.2) := by first | exact Eq.trans rfl rfl | rw [denArgs]
theorem ev_denOps_andV (F : Fn) (s : Slot) (ρ : Env) (esc : Bool) (a b : CE) (r : CEs) : denOps F esc (.cons (.andV a b) r) (s :: ρ) = (den F (.andV a b) (s :: ρ)).bind fun p => (denOps F esc r p.2).bind fun q => .ok (p.1 :: q.1, q.2) := by first | exact Eq.trans rfl rfl | rw [denOps]
theorem ev_denArgs_andV (F : Fn) (s : Slot) (ρ : Env) (a b : CE) (r : CEs) : denArgs F (.cons (.andV a b) r) (s :: ρ) = (den F (.andV a b) (s :: ρ)).bind fun p => (denArgs F r p.2).bind fun q => .ok ((0, p.1.2) :: q.1, q.2) := by first | exact Eq.trans rfl rfl | rw [denArgs]
theorem ev_denOps_orV (F : Fn) (s : Slot) (ρ : Env) (esc : Bool) (a b : CE) (r : CEs) : denOps F esc (.cons (.orV a b) r) (s :: ρ) = (den F (.orV a b) (s :: ρ)).bind fun p => (denOps F esc r p.2).bind fun q => .ok (p.1 :: q.1, q.2) := by first | exact Eq.trans rfl rfl | rw [denOps]
theorem ev_denArgs_orV (F : Fn) (s : Slot) (ρ : Env) (a b : CE) (r : CEs) : denArgs F (.cons (.orV a b) r) (s :: ρ) = (den F (.orV a b) (s :: ρ)).bind fun p => (denArgs F r p.2).bind fun q => .ok ((0, p.1.2) :: q.1, q.2) := by first | exact Eq.trans rfl rfl | rw [denArgs]
theorem ev_denOps_tst (F : Fn) (s : Slot) (ρ : Env) (esc : Bool) (t : CT) (r : CEs) : denOps F esc (.cons (.tst t) r) (s :: ρ) = (den F (.tst t) (s :: ρ)).bind fun p => (denOps F esc r p.2).bind fun q => .ok (p.1 :: q.1, q.2) := by first | exact Eq.trans rfl rfl | rw [denOps]
theorem ev_denArgs_tst (F : Fn) (s : Slot) (ρ : Env) (t : CT) (r : CEs) : denArgs F (.cons (.tst t) r) (s :: ρ) = (den F (.tst t) (s :: ρ)).bind fun p => (denArgs F r p.2).bind fun q => .ok ((0, p.1.2) :: q.1, q.2) := by first | exact Eq.trans rfl rfl | rw [denArgs]
theorem ev_denOps_ite (F : Fn) (s : Slot) (ρ : Env) (esc : Bool) (t : CT) (a b : CE) (r : CEs) : denOps F esc (.cons (.ite t a b) r) (s :: ρ) = (den F (.ite t a b) (s :: ρ)).bind fun p => (denOps F esc r p.2).bind fun q => .ok (p.1 :: q.1, q.2) := by first | exact Eq.trans rfl rfl | rw [denOps]
theorem ev_denArgs_ite (F : Fn) (s : Slot) (ρ : Env) (t : CT) (a b : CE) (r : CEs) : denArgs F (.cons (.ite t a b) r) (s :: ρ) = (den F (.ite t a b) (s :: ρ)).bind fun p => (denArgs F r p.2).bind fun q => .ok ((0, p.1.2) :: q.1, q.2) := by first | exact Eq.trans rfl rfl | rw [denArgs]
theorem ev_denOps_chn (F : Fn) (s : Slot) (ρ : Env) (esc : Bool) (o : Op) (a b : CE) (r1 : Chs) (r : CEs) : denOps F esc (.cons (.chn o a b r1) r) (s :: ρ) = (den F (.chn o a b r1) (s :: ρ)).bind fun p => (denOps F esc r p.2).bind fun q => .ok (p.1 :: q.1, q.2) := by first | exact Eq.trans rfl rfl | rw [denOps]
theorem ev_denArgs_chn (F : Fn) (s : Slot) (ρ : Env) (o : Op) (a b : CE) (r1 : Chs) (r : CEs) : denArgs F (.cons (.chn o a b r1) r) (s :: ρ) = (den F (.chn o a b r1) (s :: ρ)).bind fun p => (denArgs F r p.2).bind fun q => .ok ((0, p.1.2) :: q.1, q.2) := by first | exact Eq.trans rfl rfl | rw [denArgs]
theorem ev_denOps_call (F : Fn) (s : Slot) (ρ : Env) (esc : Bool) (f : Nat) (es1 : CEs) (r : CEs) : denOps F esc (.cons (.call f es1) r) (s :: ρ) = (den F (.call f es1) (s :: ρ)).bind fun p => (denOps F esc r p.2).bind fun q => .ok (p.1 :: q.1, q.2) := by first | exact Eq.trans rfl rfl | rw [denOps]
theorem ev_denArgs_call (F : Fn) (s : Slot) (ρ : Env) (f : Nat) (es1 : CEs) (r : CEs) : denArgs F (.cons (.call f es1) r) (s :: ρ) = (den F (.call f es1) (s :: ρ)).bind fun p => (denArgs F r p.2).bind fun q => .ok ((0, p.1.2) :: q.1, q.2) := by first | exact Eq.trans rfl rfl | rw [denArgs]
theorem ev_denOps_callV (F : Fn) (s : Slot) (ρ : Env) (esc : Bool) (i : Nat) (es1 : CEs) (r : CEs) : denOps F esc (.cons (.callV i es1) r) (s :: ρ) = (den F (.callV i es1) (s :: ρ)).bind fun p => (denOps F esc r p.2).bind fun q => .ok (p.1 :: q.1, q.2) := by first | exact Eq.trans rfl rfl | rw [denOps]
theorem ev_denArgs_callV (F : Fn) (s : Slot) (ρ : Env) (i : Nat) (es1 : CEs) (r : CEs) : denArgs F (.cons (.callV i es1) r) (s :: ρ) = (den F (.callV i es1) (s :: ρ)).bind fun p => (denArgs F r p.2).bind fun q => .ok ((0, p.1.2) :: q.1, q.2) := by first | exact Eq.trans rfl rfl | rw [denArgs]
theorem ev_denOps_lc (F : Fn) (s : Slot) (ρ : Env) (esc : Bool) (k : Nat) (own : List Nat) (t : Tg) (it : Itk) (src : CEs) (ifs : CT) (elt : CE) (r : CEs) : denOps F esc (.cons (.lc k own t it src ifs elt) r) (s :: ρ) = (den F (.lc k own t it src ifs elt) (s :: ρ)).bind fun p => (denOps F esc r p.2).bind fun q => .ok (p.1 :: q.1, q.2) := by first | exact Eq.trans rfl rfl | rw [denOps]
theorem ev_denArgs_lc (F : Fn) (s : Slot) (ρ : Env) (k : Nat) (own : List Nat) (t : Tg) (it : Itk) (src : CEs) (ifs : CT) (elt : CE) (r : CEs) : denArgs F (.cons (.lc k own t it src ifs elt) r) (s :: ρ) = (den F (.lc k own t it src ifs elt) (s :: ρ)).bind fun p => (denArgs F r p.2).bind fun q => .ok ((0, p.1.2) :: q.1, q.2) := by first | exact Eq.trans rfl rfl | rw [denArgs]
theorem ev_denOps_lc2 (F : Fn) (s : Slot) (ρ : Env) (esc : Bool) (k : Nat) (own own2 : List Nat) (t : Tg) (it : Itk) (src : CEs) (ifs : CT) (t2 : Tg) (it2 : Itk) (src2 : CEs) (ifs2 : CT) (elt : CE) (r : CEs) : denOps F esc (.cons (.lc2 k own own2 t it src ifs t2 it2 src2 ifs2 elt) r) (s :: ρ) = (den F (.lc2 k own own2 t it src ifs t2 it2 src2 ifs2 elt) (s :: ρ)).bind fun p => (denOps F esc r p.2).bind fun q => .ok (p.1 :: q.1, q.2) := by first | exact Eq.trans rfl rfl | rw [denOps]
theorem ev_denArgs_lc2 (F : Fn) (s : Slot) (ρ : Env) (k : Nat) (own own2 : List Nat) (t : Tg) (it : Itk) (src : CEs) (ifs : CT) (t2 : Tg) (it2 : Itk) (src2 : CEs) (ifs2 : CT) (elt : CE) (r : CEs) : denArgs F (.cons (.lc2 k own own2 t it src ifs t2 it2 src2 ifs2 elt) r) (s :: ρ) = (den F (.lc2 k own own2 t it src ifs t2 it2 src2 ifs2 elt) (s :: ρ)).bind fun p => (denArgs F r p.2).bind fun q => .ok ((0, p.1.2) :: q.1, q.2) := by first | exact Eq.trans rfl rfl | rw [denArgs]
theorem ev_denOps_dc (F : Fn) (s : Slot) (ρ : Env) (esc : Bool) (k : Nat) (own : List Nat) (t : Tg) (it : Itk) (src : CEs) (ifs : CT) (key val : CE) (r : CEs) : denOps F esc (.cons (.dc k own t it src ifs key val) r) (s :: ρ) = (den F (.dc k own t it src ifs key val) (s :: ρ)).bind fun p => (denOps F esc r p.2).bind fun q => .ok (p.1 :: q.1, q.2) := by first | exact Eq.trans rfl rfl | rw [denOps]
theorem ev_denArgs_dc (F : Fn) (s : Slot) (ρ : Env) (k : Nat) (own : List Nat) (t : Tg) (it : Itk) (src : CEs) (ifs : CT) (key val : CE) (r : CEs) : denArgs F (.cons (.dc k own t it src ifs key val) r) (s :: ρ) = (den F (.dc k own t it src ifs key val) (s :: ρ)).bind fun p => (denArgs F r p.2).bind fun q => .ok ((0, p.1.2) :: q.1, q.2) := by first | exact Eq.trans rfl rfl | rw [denArgs]
theorem ev_denOps_dc2 (F : Fn) (s : Slot) (ρ : Env) (esc : Bool) (k : Nat) (own own2 : List Nat) (t : Tg) (it : Itk) (src : CEs) (ifs : CT) (t2 : Tg) (it2 : Itk) (src2 : CEs) (ifs2 : CT) (key val : CE) (r : CEs) : denOps F esc (.cons (.dc2 k own own2 t it src ifs t2 it2 src2 ifs2 key val) r) (s :: ρ) = (den F (.dc2 k own own2 t it src ifs t2 it2 src2 ifs2 key val) (s :: ρ)).bind fun p => (denOps F esc r p.2).bind fun q => .ok (p.1 :: q.1, q.2) := by first | exact Eq.trans rfl rfl | rw [denOps]
theorem ev_denArgs_dc2 (F : Fn) (s : Slot) (ρ : Env) (k : Nat) (own own2 : List Nat) (t : Tg) (it : Itk) (src : CEs) (ifs : CT) (t2 : Tg) (it2 : Itk) (src2 : CEs) (ifs2 : CT) (key val : CE) (r : CEs) : denArgs F (.cons (.dc2 k own own2 t it src ifs t2 it2 src2 ifs2 key val) r) (s :: ρ) = (den F (.dc2 k own own2 t it src ifs t2 it2 src2 ifs2 key val) (s :: ρ)).bind fun p => (denArgs F r p.2).bind fun q => .ok ((0, p.1.2) :: q.1, q.2) := by first | exact Eq.trans rfl rfl | rw [denArgs]
theorem ev_denOps_mth (F : Fn) (s : Slot) (ρ : Env) (esc : Bool) (m : Mth) (i : Nat) (es1 : CEs) (r : CEs) : denOps F esc (.cons (.mth m i es1) r) (s :: ρ) = (den F (.mth m i es1) (s :: ρ)).bind fun p => (denOps F esc r p.2).bind fun q => .ok (p.1 :: q.1, q.2) := by first | exact Eq.trans rfl rfl | rw [denOps]
theorem ev_denArgs_mth (F : Fn) (s : Slot) (ρ : Env) (m : Mth) (i : Nat) (es1 : CEs) (r : CEs) : denArgs F (.cons (.mth m i es1) r) (s :: ρ) = (den F (.mth m i es1) (s :: ρ)).bind fun p => (denArgs F r p.2).bind fun q => .ok ((0, p.1.2) :: q.1, q.2) := by first | exact Eq.trans rfl rfl | rw [denArgs]
theorem ev_denOps_ask (F : Fn) (s : Slot) (ρ : Env) (esc : Bool) (o : Op) (i : Nat) (es1 : CEs) (r : CEs) : denOps F esc (.cons (.ask o i es1) r) (s :: ρ) = (den F (.ask o i es1) (s :: ρ)).bind fun p => (denOps F esc r p.2).bind fun q => .ok (p.1 :: q.1, q.2) := by first | exact Eq.trans rfl rfl | rw [denOps]
theorem ev_denArgs_ask (F : Fn) (s : Slot) (ρ : Env) (o : Op) (i : Nat) (es1 : CEs) (r : CEs) : denArgs F (.cons (.ask o i es1) r) (s :: ρ) = (den F (.ask o i es1) (s :: ρ)).bind fun p => (denArgs F r p.2).bind fun q => .ok ((0, p.1.2) :: q.1, q.2) := by first | exact Eq.trans rfl rfl | rw [denArgs]
theorem ev_denOps_mth1 (F : Fn) (s : Slot) (ρ : Env) (esc : Bool) (m : Mth) (i : Nat) (ix : CE) (es1 : CEs) (r : CEs) : denOps F esc (.cons (.mth1 m i ix es1) r) (s :: ρ) = (den F (.mth1 m i ix es1) (s :: ρ)).bind fun p => (denOps F esc r p.2).bind fun q => .ok (p.1 :: q.1, q.2) := by first | exact Eq.trans rfl rfl | rw [denOps]
theorem ev_denArgs_mth1 (F : Fn) (s : Slot) (ρ : Env) (m : Mth) (i : Nat) (ix : CE) (es1 : CEs) (r : CEs) : denArgs F (.cons (.mth1 m i ix es1) r) (s :: ρ) = (den F (.mth1 m i ix es1) (s :: ρ)).bind fun p => (denArgs F r p.2).bind fun q => .ok ((0, p.1.2) :: q.1, q.2) := by first | exact Eq.trans rfl rfl | rw [denArgs]
theorem ev_back_nil (l : List KD) (ρ : Env) : backArgs .nil l ρ = .ok ρ := by first | exact Eq.trans rfl rfl | rw [backArgs]
theorem ev_back_pk (i : Nat) (r : CEs) (o : KD) (os : List KD) (ρ : Env) : backArgs (.cons (.pk i) r) (o :: os) ρ = if o.1 = 0 then .bad else backArgs r os (ρ.set i (some o)) := by first | exact Eq.trans rfl rfl | rw [backArgs]
theorem ev_back_var (i : Nat) (r : CEs) (o : KD) (os : List KD) (ρ : Env) : backArgs (.cons (.var i) r) (o :: os) ρ = backArgs r os ρ := by first | exact Eq.trans rfl rfl | rw [backArgs]
theorem ev_back_mv (i : Nat) (r : CEs) (o : KD) (os : List KD) (ρ : Env) : backArgs (.cons (.mv i) r) (o :: os) ρ = backArgs r os ρ := by first | exact Eq.trans rfl rfl | rw [backArgs]
theorem ev_back_cst (d : D) (r : CEs) (o : KD) (os : List KD) (ρ : Env) : backArgs (.cons (.cst d) r) (o :: os) ρ = backArgs r os ρ := by first | exact Eq.trans rfl rfl | rw [backArgs]
theorem ev_back_op (o1 : Op) (es1 : CEs) (r : CEs) (o : KD) (os : List KD) (ρ : Env) : backArgs (.cons (.op o1 es1) r) (o :: os) ρ = backArgs r os ρ := by first | exact Eq.trans rfl rfl | rw [backArgs]
theorem ev_back_dsp (k : Nat) (es1 : CEs) (r : CEs) (o : KD) (os : List KD) (ρ : Env) : backArgs (.cons (.dsp k es1) r) (o :: os) ρ = backArgs r os ρ := by first | exact Eq.trans rfl rfl | rw [backArgs]
theorem ev_back_dctE (k : Nat) (r : CEs) (o : KD) (os : List KD) (ρ : Env) : backArgs (.cons (.dctE k) r) (o :: os) ρ = backArgs r os ρ := by first | exact Eq.trans rfl rfl | rw [backArgs]
theorem ev_back_andV (a b : CE) (r : CEs) (o : KD) (os : List KD) (ρ : Env) : backArgs (.cons (.andV a b) r) (o :: os) ρ = backArgs r os ρ := by first | exact Eq.trans rfl rfl | rw [backArgs]
theorem ev_back_orV (a b : CE) (r : CEs) (o : KD) (os : List KD) (ρ : Env) : backArgs (.cons (.orV a b) r) (o :: os) ρ = backArgs r os ρ := by first | exact Eq.trans rfl rfl | rw [backArgs]
theorem ev_back_tst (t : CT) (r : CEs) (o : KD) (os : List KD) (ρ : Env) : backArgs (.cons (.tst t) r) (o :: os) ρ = backArgs r os ρ := by first | exact Eq.trans rfl rfl | rw [backArgs]
theorem ev_back_ite (t : CT) (a b : CE) (r : CEs) (o : KD) (os : List KD) (ρ : Env) : backArgs (.cons (.ite t a b) r) (o :: os) ρ = backArgs r os ρ := by first | exact Eq.trans rfl rfl | rw [backArgs]
theorem ev_back_chn (o1 : Op) (a b : CE) (r1 : Chs) (r : CEs) (o : KD) (os : List KD) (ρ : Env) : backArgs (.cons (.chn o1 a b r1) r) (o :: os) ρ = backArgs r os ρ := by first | exact Eq.trans rfl rfl | rw [backArgs]
theorem ev_back_call (f : Nat) (es1 : CEs) (r : CEs) (o : KD) (os : List KD) (ρ : Env) : backArgs (.cons (.call f es1) r) (o :: os) ρ = backArgs r os ρ := by first | exact Eq.trans rfl rfl | rw [backArgs]
theorem ev_back_callV (i : Nat) (es1 : CEs) (r : CEs) (o : KD) (os : List KD) (ρ : Env) : backArgs (.cons (.callV i es1) r) (o :: os) ρ = backArgs r os ρ := by first | exact Eq.trans rfl rfl | rw [backArgs]
theorem ev_back_lc (k : Nat) (own : List Nat) (t : Tg) (it : Itk) (src : CEs) (ifs : CT) (elt : CE) (r : CEs) (o : KD) (os : List KD) (ρ : Env) : backArgs (.cons (.lc k own t it src ifs elt) r) (o :: os) ρ = backArgs r os ρ := by first | exact Eq.trans rfl rfl | rw [backArgs]
theorem ev_back_lc2 (k : Nat) (own own2 : List Nat) (t : Tg) (it : Itk) (src : CEs) (ifs : CT) (t2 : Tg) (it2 : Itk) (src2 : CEs) (ifs2 : CT) (elt : CE) (r : CEs) (o : KD) (os : List KD) (ρ : Env) : backArgs (.cons (.lc2 k own own2 t it src ifs t2 it2 src2 ifs2 elt) r) (o :: os) ρ = backArgs r os ρ := by first | exact Eq.trans rfl rfl | rw [backArgs]
theorem ev_back_dc (k : Nat) (own : List Nat) (t : Tg) (it : Itk) (src : CEs) (ifs : CT) (key val : CE) (r : CEs) (o : KD) (os : List KD) (ρ : Env) : backArgs (.cons (.dc k own t it src ifs key val) r) (o :: os) ρ = backArgs r os ρ := by first | exact Eq.trans rfl rfl | rw [backArgs]
theorem ev_back_dc2 (k : Nat) (own own2 : List Nat) (t : Tg) (it : Itk) (src : CEs) (ifs : CT) (t2 : Tg) (it2 : Itk) (src2 : CEs) (ifs2 : CT) (key val : CE) (r : CEs) (o : KD) (os : List KD) (ρ : Env) : backArgs (.cons (.dc2 k own own2 t it src ifs t2 it2 src2 ifs2 key val) r) (o :: os) ρ = backArgs r os ρ := by first | exact Eq.trans rfl rfl | rw [backArgs]
theorem ev_back_mth (m : Mth) (i : Nat) (es1 : CEs) (r : CEs) (o : KD) (os : List KD) (ρ : Env) : backArgs (.cons (.mth m i es1) r) (o :: os) ρ = backArgs r os ρ := by first | exact Eq.trans rfl rfl | rw [backArgs]
theorem ev_back_ask (o1 : Op) (i : Nat) (es1 : CEs) (r : CEs) (o : KD) (os : List KD) (ρ : Env) : backArgs (.cons (.ask o1 i es1) r) (o :: os) ρ = backArgs r os ρ := by first | exact Eq.trans rfl rfl | rw [backArgs]
theorem ev_back_mth1 (m : Mth) (i : Nat) (ix : CE) (es1 : CEs) (r : CEs) (o : KD) (os : List KD) (ρ : Env) : backArgs (.cons (.mth1 m i ix es1) r) (o :: os) ρ = backArgs r os ρ := by first | exact Eq.trans rfl rfl | rw [backArgs]
theorem ev_asgT_nm (F : Fn) (s : Slot) (ρ : Env) (i : Nat) (kd : KD) : asgT F (.nm i) kd (s :: ρ) = .ok ((s :: ρ).set i (some kd)) := by first | exact Eq.trans rfl rfl | rw [asgT]
theorem ev_asgT_tp (F : Fn) (s : Slot) (ρ : Env) (ts : Tgs) (k : Nat) (xs : List D) : asgT F (.tp ts) (k, .tup xs) (s :: ρ) = if xs.length = lenT ts then asgTs F ts xs (s :: ρ) else .bad := by first | exact Eq.trans rfl rfl | rw [asgT]
theorem ev_asgT_sb (F : Fn) (s : Slot) (ρ : Env) (i : Nat) (ix : CE) (y : KD) : asgT F (.sb i ix) y (s :: ρ) = if (slotD (s :: ρ) i).isSome = true then (den F ix (s :: ρ)).bind fun x => match x.2[i]? with
    | some (some kd) => (putI kd x.1.2 y).bind fun kd' => .ok (x.2.set i (some kd'))
    | _ => .bad
    else .bad := by first | exact Eq.trans rfl rfl | rw [asgT]
theorem ev_asgTs_nil (F : Fn) (s : Slot) (ρ : Env) : asgTs F .nil [] (s :: ρ) = .ok (s :: ρ) := by first | exact Eq.trans rfl rfl | rw [asgTs]
theorem ev_asgTs_cons (F : Fn) (s : Slot) (ρ : Env) (t : Tg) (r : Tgs) (x : D) (l : List D) : asgTs F (.cons t r) (x :: l) (s :: ρ) = (asgT F t (0, x) (s :: ρ)).bind fun ρ' => asgTs F r l ρ' := by first | exact Eq.trans rfl rfl | rw [asgTs]
theorem ev_asgK_nil (F : Fn) (s : Slot) (ρ : Env) : asgK F .nil [] (s :: ρ) = .ok (s :: ρ) := by first | exact Eq.trans rfl rfl | rw [asgK]
theorem ev_asgK_cons (F : Fn) (s : Slot) (ρ : Env) (t : Tg) (r : Tgs) (x : KD) (l : List KD) : asgK F (.cons t r) (x :: l) (s :: ρ) = (asgT F t x (s :: ρ)).bind fun ρ' => asgK F r l ρ' := by first | exact Eq.trans rfl rfl | rw [asgK]
theorem ev_zero : ((0 : Nat) : Int) = 0 := rfl
theorem ev_one : ((1 : Nat) : Int) = 1 := rfl
theorem ev_two : ((2 : Nat) : Int) = 2 := rfl
theorem ev_three : ((3 : Nat) : Int) = 3 := rfl
theorem ev_isInt_non  : op_isInt [.non ] = okB false := Eq.trans rfl rfl
theorem ev_isInt_bl (b : Bool) : op_isInt [.bl b] = okB true := Eq.trans rfl rfl
theorem ev_isInt_int (i : Int) : op_isInt [.int i] = okB true := Eq.trans rfl rfl
theorem ev_isInt_str (x : Str) : op_isInt [.str x] = okB false := Eq.trans rfl rfl
theorem ev_isInt_tup (xs : List D) : op_isInt [.tup xs] = okB false := Eq.trans rfl rfl
theorem ev_isInt_lst (xs : List D) : op_isInt [.lst xs] = okB false := Eq.trans rfl rfl
theorem ev_isBool_non  : op_isBool [.non ] = okB false := Eq.trans rfl rfl
theorem ev_isBool_bl (b : Bool) : op_isBool [.bl b] = okB true := Eq.trans rfl rfl
theorem ev_isBool_int (i : Int) : op_isBool [.int i] = okB false := Eq.trans rfl rfl
theorem ev_isBool_str (x : Str) : op_isBool [.str x] = okB false := Eq.trans rfl rfl
theorem ev_isBool_tup (xs : List D) : op_isBool [.tup xs] = okB false := Eq.trans rfl rfl
theorem ev_isBool_lst (xs : List D) : op_isBool [.lst xs] = okB false := Eq.trans rfl rfl
theorem ev_isTup_non  : op_isTup [.non ] = okB false := Eq.trans rfl rfl
theorem ev_isTup_bl (b : Bool) : op_isTup [.bl b] = okB false := Eq.trans rfl rfl
theorem ev_isTup_int (i : Int) : op_isTup [.int i] = okB false := Eq.trans rfl rfl
theorem ev_isTup_str (x : Str) : op_isTup [.str x] = okB false := Eq.trans rfl rfl
theorem ev_isTup_tup (xs : List D) : op_isTup [.tup xs] = okB true := Eq.trans rfl rfl
theorem ev_isTup_lst (xs : List D) : op_isTup [.lst xs] = okB false := Eq.trans rfl rfl
theorem ev_isStr_non  : op_isStr [.non ] = okB false := Eq.trans rfl rfl
theorem ev_isStr_bl (b : Bool) : op_isStr [.bl b] = okB false := Eq.trans rfl rfl
theorem ev_isStr_int (i : Int) : op_isStr [.int i] = okB false := Eq.trans rfl rfl
theorem ev_isStr_str (x : Str) : op_isStr [.str x] = okB true := Eq.trans rfl rfl
theorem ev_isStr_tup (xs : List D) : op_isStr [.tup xs] = okB false := Eq.trans rfl rfl
theorem ev_isStr_lst (xs : List D) : op_isStr [.lst xs] = okB false := Eq.trans rfl rfl
theorem ev_mthOk_append (xs : List D) : mthOk .append (some (.lst xs)) = true := Eq.trans rfl rfl
theorem ev_mthOk_extend (xs : List D) : mthOk .extend (some (.lst xs)) = true := Eq.trans rfl rfl
theorem ev_mthOk_pop (xs : List D) : mthOk .pop (some (.lst xs)) = true := Eq.trans rfl rfl
theorem ev_mthOk_popAt (xs : List D) : mthOk .popAt (some (.lst xs)) = true := Eq.trans rfl rfl
theorem ev_mthOk_popK (xs : List D) : mthOk .popK (some (.lst xs)) = true := Eq.trans rfl rfl
theorem ev_mthOk_remove (xs : List D) : mthOk .remove (some (.lst xs)) = true := Eq.trans rfl rfl
theorem ev_mthOk_sort (xs : List D) : mthOk .sort (some (.lst xs)) = true := Eq.trans rfl rfl
theorem ev_mthOk_setdef (xs : List D) : mthOk .setdef (some (.lst xs)) = true := Eq.trans rfl rfl
theorem ev_mthOk_insert (xs : List D) : mthOk .insert (some (.lst xs)) = true := Eq.trans rfl rfl
theorem ev_mthOk_clear (xs : List D) : mthOk .clear (some (.lst xs)) = true := Eq.trans rfl rfl
theorem ev_at10 (a : D) : L2.atI [a] 0 = some a := Eq.trans rfl rfl
theorem ev_at1m (a : D) : L2.atI [a] (-1) = some a := Eq.trans rfl rfl
theorem ev_ix10 : L2.ixN 1 0 = some 0 := Eq.trans rfl rfl
theorem ev_mkT1 (a : D) : op_mkT [a] = .ok (0, .tup [a]) := by
  unfold op_mkT
  exact if_pos (sz_of (by simp))
theorem ev_sz1 : 1 ≤ sizeL := by decide
theorem ev_at20 (a b : D) : L2.atI [a, b] 0 = some a := Eq.trans rfl rfl
theorem ev_at21 (a b : D) : L2.atI [a, b] 1 = some b := Eq.trans rfl rfl
theorem ev_at2m (a b : D) : L2.atI [a, b] (-1) = some b := Eq.trans rfl rfl
theorem ev_ix20 : L2.ixN 2 0 = some 0 := Eq.trans rfl rfl
theorem ev_ix21 : L2.ixN 2 1 = some 1 := Eq.trans rfl rfl
theorem ev_mkT2 (a b : D) : op_mkT [a, b] = .ok (0, .tup [a, b]) := by
  unfold op_mkT
  exact if_pos (sz_of (by simp))
theorem ev_sz2 : 2 ≤ sizeL := by decide
theorem ev_at30 (a b c : D) : L2.atI [a, b, c] 0 = some a := Eq.trans rfl rfl
theorem ev_at31 (a b c : D) : L2.atI [a, b, c] 1 = some b := Eq.trans rfl rfl
theorem ev_at32 (a b c : D) : L2.atI [a, b, c] 2 = some c := Eq.trans rfl rfl
theorem ev_at3m (a b c : D) : L2.atI [a, b, c] (-1) = some c := Eq.trans rfl rfl
theorem ev_ix30 : L2.ixN 3 0 = some 0 := Eq.trans rfl rfl
theorem ev_ix31 : L2.ixN 3 1 = some 1 := Eq.trans rfl rfl
theorem ev_ix32 : L2.ixN 3 2 = some 2 := Eq.trans rfl rfl
theorem ev_mkT3 (a b c : D) : op_mkT [a, b, c] = .ok (0, .tup [a, b, c]) := by
  unfold op_mkT
  exact if_pos (sz_of (by simp))
theorem ev_sz3 : 3 ≤ sizeL := by decide
theorem ev_at40 (a b c d : D) : L2.atI [a, b, c, d] 0 = some a := Eq.trans rfl rfl
theorem ev_at41 (a b c d : D) : L2.atI [a, b, c, d] 1 = some b := Eq.trans rfl rfl
theorem ev_at42 (a b c d : D) : L2.atI [a, b, c, d] 2 = some c := Eq.trans rfl rfl
theorem ev_at43 (a b c d : D) : L2.atI [a, b, c, d] 3 = some d := Eq.trans rfl rfl
theorem ev_at4m (a b c d : D) : L2.atI [a, b, c, d] (-1) = some d := Eq.trans rfl rfl
theorem ev_ix40 : L2.ixN 4 0 = some 0 := Eq.trans rfl rfl
theorem ev_ix41 : L2.ixN 4 1 = some 1 := Eq.trans rfl rfl
theorem ev_ix42 : L2.ixN 4 2 = some 2 := Eq.trans rfl rfl
theorem ev_ix43 : L2.ixN 4 3 = some 3 := Eq.trans rfl rfl
theorem ev_mkT4 (a b c d : D) : op_mkT [a, b, c, d] = .ok (0, .tup [a, b, c, d]) := by
  unfold op_mkT
  exact if_pos (sz_of (by simp))
theorem ev_sz4 : 4 ≤ sizeL := by decide
theorem ev_at50 (a b c d e : D) : L2.atI [a, b, c, d, e] 0 = some a := Eq.trans rfl rfl
theorem ev_at51 (a b c d e : D) : L2.atI [a, b, c, d, e] 1 = some b := Eq.trans rfl rfl
theorem ev_at52 (a b c d e : D) : L2.atI [a, b, c, d, e] 2 = some c := Eq.trans rfl rfl
theorem ev_at53 (a b c d e : D) : L2.atI [a, b, c, d, e] 3 = some d := Eq.trans rfl rfl
theorem ev_at54 (a b c d e : D) : L2.atI [a, b, c, d, e] 4 = some e := Eq.trans rfl rfl
theorem ev_at5m (a b c d e : D) : L2.atI [a, b, c, d, e] (-1) = some e := Eq.trans rfl rfl
theorem ev_ix50 : L2.ixN 5 0 = some 0 := Eq.trans rfl rfl
theorem ev_ix51 : L2.ixN 5 1 = some 1 := Eq.trans rfl rfl
theorem ev_ix52 : L2.ixN 5 2 = some 2 := Eq.trans rfl rfl
theorem ev_ix53 : L2.ixN 5 3 = some 3 := Eq.trans rfl rfl
theorem ev_ix54 : L2.ixN 5 4 = some 4 := Eq.trans rfl rfl
theorem ev_mkT5 (a b c d e : D) : op_mkT [a, b, c, d, e] = .ok (0, .tup [a, b, c, d, e]) := by
  unfold op_mkT
  exact if_pos (sz_of (by simp))
theorem ev_sz5 : 5 ≤ sizeL := by decide
theorem ev_at60 (a b c d e f : D) : L2.atI [a, b, c, d, e, f] 0 = some a := Eq.trans rfl rfl
theorem ev_at61 (a b c d e f : D) : L2.atI [a, b, c, d, e, f] 1 = some b := Eq.trans rfl rfl
theorem ev_at62 (a b c d e f : D) : L2.atI [a, b, c, d, e, f] 2 = some c := Eq.trans rfl rfl
theorem ev_at63 (a b c d e f : D) : L2.atI [a, b, c, d, e, f] 3 = some d := Eq.trans rfl rfl
theorem ev_at64 (a b c d e f : D) : L2.atI [a, b, c, d, e, f] 4 = some e := Eq.trans rfl rfl
theorem ev_at65 (a b c d e f : D) : L2.atI [a, b, c, d, e, f] 5 = some f := Eq.trans rfl rfl
theorem ev_at6m (a b c d e f : D) : L2.atI [a, b, c, d, e, f] (-1) = some f := Eq.trans rfl rfl
theorem ev_ix60 : L2.ixN 6 0 = some 0 := Eq.trans rfl rfl
theorem ev_ix61 : L2.ixN 6 1 = some 1 := Eq.trans rfl rfl
theorem ev_ix62 : L2.ixN 6 2 = some 2 := Eq.trans rfl rfl
theorem ev_ix63 : L2.ixN 6 3 = some 3 := Eq.trans rfl rfl
theorem ev_ix64 : L2.ixN 6 4 = some 4 := Eq.trans rfl rfl
theorem ev_ix65 : L2.ixN 6 5 = some 5 := Eq.trans rfl rfl
theorem ev_mkT6 (a b c d e f : D) : op_mkT [a, b, c, d, e, f] = .ok (0, .tup [a, b, c, d, e, f]) := by
  unfold op_mkT
  exact if_pos (sz_of (by simp))
theorem ev_sz6 : 6 ≤ sizeL := by decide
theorem ev_mkT0 : op_mkT [] = .ok (0, .tup []) := by
  unfold op_mkT
  exact if_pos (sz_of (by simp))
theorem ev_sz0 : 0 ≤ sizeL := by decide
theorem ev_rng0 : List.range 0 = [] := Eq.trans rfl rfl
theorem ev_rng1 : List.range 1 = [0] := Eq.trans rfl rfl
theorem ev_rng2 : List.range 2 = [0, 1] := Eq.trans rfl rfl
theorem ev_rng3 : List.range 3 = [0, 1, 2] := Eq.trans rfl rfl
theorem ev_rng4 : List.range 4 = [0, 1, 2, 3] := Eq.trans rfl rfl
theorem ev_rng5 : List.range 5 = [0, 1, 2, 3, 4] := Eq.trans rfl rfl
theorem ev_rng6 : List.range 6 = [0, 1, 2, 3, 4, 5] := Eq.trans rfl rfl
theorem ev_rng7 : List.range 7 = [0, 1, 2, 3, 4, 5, 6] := Eq.trans rfl rfl
theorem ev_rng8 : List.range 8 = [0, 1, 2, 3, 4, 5, 6, 7] := Eq.trans rfl rfl
theorem ev_op_addeq_1 : type_of% @op_add.eq_1 := id @op_add.eq_1
theorem ev_op_addeq_2 : type_of% @op_add.eq_2 := id @op_add.eq_2
theorem ev_op_addeq_3 : type_of% @op_add.eq_3 := id @op_add.eq_3
theorem ev_op_addeq_4 : type_of% @op_add.eq_4 := id @op_add.eq_4
theorem ev_op_subeq_1 : type_of% @op_sub.eq_1 := id @op_sub.eq_1
theorem ev_op_muleq_1 : type_of% @op_mul.eq_1 := id @op_mul.eq_1
theorem ev_op_muleq_2 : type_of% @op_mul.eq_2 := id @op_mul.eq_2
theorem ev_op_fdiveq_1 : type_of% @op_fdiv.eq_1 := id @op_fdiv.eq_1
theorem ev_op_modeq_1 : type_of% @op_mod.eq_1 := id @op_mod.eq_1
theorem ev_op_negeq_1 : type_of% @op_neg.eq_1 := id @op_neg.eq_1
theorem ev_op_shleq_1 : type_of% @op_shl.eq_1 := id @op_shl.eq_1
theorem ev_op_lteq_1 : type_of% @op_lt.eq_1 := id @op_lt.eq_1
theorem ev_op_gteq_1 : type_of% @op_gt.eq_1 := id @op_gt.eq_1
theorem ev_op_leeq_1 : type_of% @op_le.eq_1 := id @op_le.eq_1
theorem ev_op_geeq_1 : type_of% @op_ge.eq_1 := id @op_ge.eq_1
theorem ev_op_eqeq_1 : type_of% @op_eq.eq_1 := id @op_eq.eq_1
theorem ev_op_neeq_1 : type_of% @op_ne.eq_1 := id @op_ne.eq_1
theorem ev_op_isneq_1 : type_of% @op_isn.eq_1 := id @op_isn.eq_1
theorem ev_op_notneq_1 : type_of% @op_notn.eq_1 := id @op_notn.eq_1
theorem ev_op_isIneq_1 : type_of% @op_isIn.eq_1 := id @op_isIn.eq_1
theorem ev_op_isIneq_2 : type_of% @op_isIn.eq_2 := id @op_isIn.eq_2
theorem ev_op_isIneq_3 : type_of% @op_isIn.eq_3 := id @op_isIn.eq_3
theorem ev_op_notIneq_1 : type_of% @op_notIn.eq_1 := id @op_notIn.eq_1
theorem ev_op_notIneq_2 : type_of% @op_notIn.eq_2 := id @op_notIn.eq_2
theorem ev_op_notIneq_3 : type_of% @op_notIn.eq_3 := id @op_notIn.eq_3
theorem ev_op_ixeq_1 : type_of% @op_ix.eq_1 := id @op_ix.eq_1
theorem ev_op_ixeq_2 : type_of% @op_ix.eq_2 := id @op_ix.eq_2
theorem ev_op_ixeq_3 : type_of% @op_ix.eq_3 := id @op_ix.eq_3
theorem ev_op_slLeq_1 : type_of% @op_slL.eq_1 := id @op_slL.eq_1
theorem ev_op_slLeq_2 : type_of% @op_slL.eq_2 := id @op_slL.eq_2
theorem ev_op_slUeq_1 : type_of% @op_slU.eq_1 := id @op_slU.eq_1
theorem ev_op_slUeq_2 : type_of% @op_slU.eq_2 := id @op_slU.eq_2
theorem ev_op_slUeq_3 : type_of% @op_slU.eq_3 := id @op_slU.eq_3
theorem ev_op_slLUeq_1 : type_of% @op_slLU.eq_1 := id @op_slLU.eq_1
theorem ev_op_slLUeq_2 : type_of% @op_slLU.eq_2 := id @op_slLU.eq_2
theorem ev_op_slReveq_1 : type_of% @op_slRev.eq_1 := id @op_slRev.eq_1
theorem ev_op_slReveq_2 : type_of% @op_slRev.eq_2 := id @op_slRev.eq_2
theorem ev_op_slAlleq_1 : type_of% @op_slAll.eq_1 := id @op_slAll.eq_1
theorem ev_op_leneq_1 : type_of% @op_len.eq_1 := id @op_len.eq_1
theorem ev_op_leneq_2 : type_of% @op_len.eq_2 := id @op_len.eq_2
theorem ev_op_leneq_3 : type_of% @op_len.eq_3 := id @op_len.eq_3
theorem ev_op_leneq_4 : type_of% @op_len.eq_4 := id @op_len.eq_4
theorem ev_op_abseq_1 : type_of% @op_abs.eq_1 := id @op_abs.eq_1
theorem ev_op_inteq_1 : type_of% @op_int.eq_1 := id @op_int.eq_1
theorem ev_op_tupOfeq_1 : type_of% @op_tupOf.eq_1 := id @op_tupOf.eq_1
theorem ev_op_tupOfeq_2 : type_of% @op_tupOf.eq_2 := id @op_tupOf.eq_2
theorem ev_op_lstOfeq_1 : type_of% @op_lstOf.eq_1 := id @op_lstOf.eq_1
theorem ev_op_lstOfeq_2 : type_of% @op_lstOf.eq_2 := id @op_lstOf.eq_2
theorem ev_op_setOfeq_1 : type_of% @op_setOf.eq_1 := id @op_setOf.eq_1
theorem ev_op_setOfeq_2 : type_of% @op_setOf.eq_2 := id @op_setOf.eq_2
theorem ev_op_srteq_1 : type_of% @op_srt.eq_1 := id @op_srt.eq_1
theorem ev_op_srtReveq_1 : type_of% @op_srtRev.eq_1 := id @op_srtRev.eq_1
theorem ev_op_mn1eq_1 : type_of% @op_mn1.eq_1 := id @op_mn1.eq_1
theorem ev_op_mn1eq_2 : type_of% @op_mn1.eq_2 := id @op_mn1.eq_2
theorem ev_op_mx1eq_1 : type_of% @op_mx1.eq_1 := id @op_mx1.eq_1
theorem ev_op_mx1eq_2 : type_of% @op_mx1.eq_2 := id @op_mx1.eq_2
theorem ev_op_lrng1eq_1 : type_of% @op_lrng1.eq_1 := id @op_lrng1.eq_1
theorem ev_op_lrng2eq_1 : type_of% @op_lrng2.eq_1 := id @op_lrng2.eq_1
theorem ev_op_mn2eq_1 : type_of% @op_mn2.eq_1 := id @op_mn2.eq_1
theorem ev_op_mx2eq_1 : type_of% @op_mx2.eq_1 := id @op_mx2.eq_1
theorem ev_op_sumeq_1 : type_of% @op_sum.eq_1 := id @op_sum.eq_1
theorem ev_op_get1eq_1 : type_of% @op_get1.eq_1 := id @op_get1.eq_1
theorem ev_op_get2eq_1 : type_of% @op_get2.eq_1 := id @op_get2.eq_1
theorem ev_op_indexeq_1 : type_of% @op_index.eq_1 := id @op_index.eq_1
theorem ev_op_indexeq_2 : type_of% @op_index.eq_2 := id @op_index.eq_2
theorem ev_trutheq_1 : type_of% @truth.eq_1 := id @truth.eq_1
theorem ev_trutheq_2 : type_of% @truth.eq_2 := id @truth.eq_2
theorem ev_trutheq_3 : type_of% @truth.eq_3 := id @truth.eq_3
theorem ev_trutheq_4 : type_of% @truth.eq_4 := id @truth.eq_4
theorem ev_trutheq_5 : type_of% @truth.eq_5 := id @truth.eq_5
theorem ev_trutheq_6 : type_of% @truth.eq_6 := id @truth.eq_6
theorem ev_trutheq_7 : type_of% @truth.eq_7 := id @truth.eq_7
theorem ev_iterDeq_1 : type_of% @iterD.eq_1 := id @iterD.eq_1
theorem ev_iterDeq_2 : type_of% @iterD.eq_2 := id @iterD.eq_2
theorem ev_iterDeq_3 : type_of% @iterD.eq_3 := id @iterD.eq_3
theorem ev_iterDeq_4 : type_of% @iterD.eq_4 := id @iterD.eq_4
theorem ev_iterDeq_5 : type_of% @iterD.eq_5 := id @iterD.eq_5
theorem ev_iterDeq_6 : type_of% @iterD.eq_6 := id @iterD.eq_6
theorem ev_iterDeq_7 : type_of% @iterD.eq_7 := id @iterD.eq_7
theorem ev_putIeq_1 : type_of% @putI.eq_1 := id @putI.eq_1
theorem ev_putIeq_2 : type_of% @putI.eq_2 := id @putI.eq_2
theorem ev_getOeq_1 : type_of% @getO.eq_1 := id @getO.eq_1
theorem ev_getOeq_2 : type_of% @getO.eq_2 := id @getO.eq_2
theorem ev_mthDeq_1 : type_of% @mthD.eq_1 := id @mthD.eq_1
theorem ev_mthDeq_2 : type_of% @mthD.eq_2 := id @mthD.eq_2
theorem ev_mthDeq_3 : type_of% @mthD.eq_3 := id @mthD.eq_3
theorem ev_mthDeq_4 : type_of% @mthD.eq_4 := id @mthD.eq_4
theorem ev_askOkeq_1 : type_of% @askOk.eq_1 := id @askOk.eq_1
theorem ev_askOkeq_2 : type_of% @askOk.eq_2 := id @askOk.eq_2
theorem ev_askOkeq_3 : type_of% @askOk.eq_3 := id @askOk.eq_3
theorem ev_askOkeq_4 : type_of% @askOk.eq_4 := id @askOk.eq_4
theorem ev_mthOkeq_1 : type_of% @mthOk.eq_1 := id @mthOk.eq_1
theorem ev_ltDeq_1 : type_of% @ltD.eq_1 := id @ltD.eq_1
theorem ev_eqDeq_1 : type_of% @eqD.eq_1 := id @eqD.eq_1
theorem ev_eqDeq_2 : type_of% @eqD.eq_2 := id @eqD.eq_2
theorem ev_eqDeq_3 : type_of% @eqD.eq_3 := id @eqD.eq_3
end
end
namespace PQ
section
local macro_rules | `(tactic| walk_at "sx") => `(tactic| simp -implicitDefEqProofs only [*, List.map_cons, List.map_nil, List.cons_append, List.nil_append, List.length_cons, List.length_nil, Nat.sub_self, List.replicate, List.getElem?_cons_zero, List.getElem?_cons_succ, List.set_cons_zero, List.set_cons_succ, List.getD_cons_zero, List.getD_cons_succ, List.mem_cons, List.not_mem_nil, or_false, false_or, or_true, true_or, Bool.not_true, Bool.not_false, Bool.true_eq_false, Bool.false_eq_true, not_true_eq_false, not_false_eq_true, ne_eq, if_true, if_false, Option.isSome, Nat.reduceAdd, Nat.reduceSub, Nat.reduceLeDiff, Nat.reduceEqDiff, Nat.zero_ne_one, Nat.one_ne_zero, Nat.zero_le, Nat.zero_add, Nat.min_self, Nat.zero_min, Nat.min_zero, Nat.le_refl, Int.reduceLE, Int.reduceLT, Int.reduceEq, Int.reduceNeg, Int.reduceAdd, Int.reduceSub, ev_two, ev_three, ev_one, ev_zero, decide_true, decide_false, ite_self, and_self, and_true, true_and, false_and, and_false, Bool.and_true, Bool.true_and, Bool.and_false, Bool.false_and, reduceCtorEq, reduceIte, Option.some.injEq, opD, okB, okI, dsds, outsOf, Op.esc, slotD, bind_ok, bind_exc, bind_bad, Res.nox_ok, watchOf, wipeD, unwD, shD, lenT, List.foldl_cons, List.foldl_nil, Option.map_some, Option.map_none, Option.getD_some, Option.getD_none, minK, List.all_cons, List.all_nil, List.isEmpty_cons, List.isEmpty_nil, items?, still, ev_den_var, ev_den_mv, ev_den_cst, ev_den_op, ev_den_dsp, ev_den_dctE, ev_den_andV, ev_den_orV, ev_den_tst, ev_den_ite, ev_den_chn, ev_den_call, ev_den_callV, ev_den_lc, ev_den_lc2, ev_den_dc, ev_den_dc2, ev_den_mth, ev_den_ask, ev_den_mth1, ev_denT_v, ev_denT_p, ev_denT_and, ev_denT_or, ev_denT_not, ev_denT_yes, ev_denS_asg, ev_denS_par, ev_denS_ex, ev_denS_set2, ev_denS_augN, ev_denS_augI, ev_denS_ret, ev_denS_retN, ev_denS_ifS, ev_denS_forS, ev_denS_whl, ev_denS_brk, ev_denS_cnt, ev_denS_pss, ev_denS_rse, ev_denSs_nil, ev_denSs_cons, ev_denCh_nil, ev_denCh_t, ev_denCh_f, ev_denOps_nil, ev_denArgs_nil, ev_denOps_pk, ev_denArgs_pk, ev_denOps_var, ev_denArgs_var, ev_denOps_mv, ev_denArgs_mv, ev_denOps_cst, ev_denArgs_cst, ev_denOps_op, ev_denArgs_op, ev_denOps_dsp, ev_denArgs_dsp, ev_denOps_dctE, ev_denArgs_dctE, ev_denOps_andV, ev_denArgs_andV, ev_denOps_orV, ev_denArgs_orV, ev_denOps_tst, ev_denArgs_tst, ev_denOps_ite, ev_denArgs_ite, ev_denOps_chn, ev_denArgs_chn, ev_denOps_call, ev_denArgs_call, ev_denOps_callV, ev_denArgs_callV, ev_denOps_lc, ev_denArgs_lc, ev_denOps_lc2, ev_denArgs_lc2, ev_denOps_dc, ev_denArgs_dc, ev_denOps_dc2, ev_denArgs_dc2, ev_denOps_mth, ev_denArgs_mth, ev_denOps_ask, ev_denArgs_ask, ev_denOps_mth1, ev_denArgs_mth1, ev_back_nil, ev_back_pk, ev_back_var, ev_back_mv, ev_back_cst, ev_back_op, ev_back_dsp, ev_back_dctE, ev_back_andV, ev_back_orV, ev_back_tst, ev_back_ite, ev_back_chn, ev_back_call, ev_back_callV, ev_back_lc, ev_back_lc2, ev_back_dc, ev_back_dc2, ev_back_mth, ev_back_ask, ev_back_mth1, ev_asgT_nm, ev_asgT_tp, ev_asgT_sb, ev_asgTs_nil, ev_asgTs_cons, ev_asgK_nil, ev_asgK_cons, ev_isInt_non, ev_isInt_bl, ev_isInt_int, ev_isInt_str, ev_isInt_tup, ev_isInt_lst, ev_isBool_non, ev_isBool_bl, ev_isBool_int, ev_isBool_str, ev_isBool_tup, ev_isBool_lst, ev_isTup_non, ev_isTup_bl, ev_isTup_int, ev_isTup_str, ev_isTup_tup, ev_isTup_lst, ev_isStr_non, ev_isStr_bl, ev_isStr_int, ev_isStr_str, ev_isStr_tup, ev_isStr_lst, ev_mthOk_append, ev_mthOk_extend, ev_mthOk_pop, ev_mthOk_popAt, ev_mthOk_popK, ev_mthOk_remove, ev_mthOk_sort, ev_mthOk_setdef, ev_mthOk_insert, ev_mthOk_clear, ev_at10, ev_at1m, ev_ix10, ev_mkT1, ev_sz1, ev_at20, ev_at21, ev_at2m, ev_ix20, ev_ix21, ev_mkT2, ev_sz2, ev_at30, ev_at31, ev_at32, ev_at3m, ev_ix30, ev_ix31, ev_ix32, ev_mkT3, ev_sz3, ev_at40, ev_at41, ev_at42, ev_at43, ev_at4m, ev_ix40, ev_ix41, ev_ix42, ev_ix43, ev_mkT4, ev_sz4, ev_at50, ev_at51, ev_at52, ev_at53, ev_at54, ev_at5m, ev_ix50, ev_ix51, ev_ix52, ev_ix53, ev_ix54, ev_mkT5, ev_sz5, ev_at60, ev_at61, ev_at62, ev_at63, ev_at64, ev_at65, ev_at6m, ev_ix60, ev_ix61, ev_ix62, ev_ix63, ev_ix64, ev_ix65, ev_mkT6, ev_sz6, ev_mkT0, ev_sz0, ev_rng0, ev_rng1, ev_rng2, ev_rng3, ev_rng4, ev_rng5, ev_rng6, ev_rng7, ev_rng8, ev_op_addeq_1, ev_op_addeq_2, ev_op_addeq_3, ev_op_addeq_4, ev_op_subeq_1, ev_op_muleq_1, ev_op_muleq_2, ev_op_fdiveq_1, ev_op_modeq_1, ev_op_negeq_1, ev_op_shleq_1, ev_op_lteq_1, ev_op_gteq_1, ev_op_leeq_1, ev_op_geeq_1, ev_op_eqeq_1, ev_op_neeq_1, ev_op_isneq_1, ev_op_notneq_1, ev_op_isIneq_1, ev_op_isIneq_2, ev_op_isIneq_3, ev_op_notIneq_1, ev_op_notIneq_2, ev_op_notIneq_3, ev_op_ixeq_1, ev_op_ixeq_2, ev_op_ixeq_3, ev_op_slLeq_1, ev_op_slLeq_2, ev_op_slUeq_1, ev_op_slUeq_2, ev_op_slUeq_3, ev_op_slLUeq_1, ev_op_slLUeq_2, ev_op_slReveq_1, ev_op_slReveq_2, ev_op_slAlleq_1, ev_op_leneq_1, ev_op_leneq_2, ev_op_leneq_3, ev_op_leneq_4, ev_op_abseq_1, ev_op_inteq_1, ev_op_tupOfeq_1, ev_op_tupOfeq_2, ev_op_lstOfeq_1, ev_op_lstOfeq_2, ev_op_setOfeq_1, ev_op_setOfeq_2, ev_op_srteq_1, ev_op_srtReveq_1, ev_op_mn1eq_1, ev_op_mn1eq_2, ev_op_mx1eq_1, ev_op_mx1eq_2, ev_op_lrng1eq_1, ev_op_lrng2eq_1, ev_op_mn2eq_1, ev_op_mx2eq_1, ev_op_sumeq_1, ev_op_get1eq_1, ev_op_get2eq_1, ev_op_indexeq_1, ev_op_indexeq_2, ev_trutheq_1, ev_trutheq_2, ev_trutheq_3, ev_trutheq_4, ev_trutheq_5, ev_trutheq_6, ev_trutheq_7, ev_iterDeq_1, ev_iterDeq_2, ev_iterDeq_3, ev_iterDeq_4, ev_iterDeq_5, ev_iterDeq_6, ev_iterDeq_7, ev_putIeq_1, ev_putIeq_2, ev_getOeq_1, ev_getOeq_2, ev_mthDeq_1, ev_mthDeq_2, ev_mthDeq_3, ev_mthDeq_4, ev_askOkeq_1, ev_askOkeq_2, ev_askOkeq_3, ev_askOkeq_4, ev_mthOkeq_1, ev_ltDeq_1, ev_eqDeq_1, ev_eqDeq_2, ev_eqDeq_3])
local macro_rules | `(tactic| walk_at "sa") => `(tactic| simp -implicitDefEqProofs only [Res.bind_assoc, *, List.map_cons, List.map_nil, List.cons_append, List.nil_append, List.length_cons, List.length_nil, Nat.sub_self, List.replicate, List.getElem?_cons_zero, List.getElem?_cons_succ, List.set_cons_zero, List.set_cons_succ, List.getD_cons_zero, List.getD_cons_succ, List.mem_cons, List.not_mem_nil, or_false, false_or, or_true, true_or, Bool.not_true, Bool.not_false, Bool.true_eq_false, Bool.false_eq_true, not_true_eq_false, not_false_eq_true, ne_eq, if_true, if_false, Option.isSome, Nat.reduceAdd, Nat.reduceSub, Nat.reduceLeDiff, Nat.reduceEqDiff, Nat.zero_ne_one, Nat.one_ne_zero, Nat.zero_le, Nat.zero_add, Nat.min_self, Nat.zero_min, Nat.min_zero, Nat.le_refl, Int.reduceLE, Int.reduceLT, Int.reduceEq, Int.reduceNeg, Int.reduceAdd, Int.reduceSub, ev_two, ev_three, ev_one, ev_zero, decide_true, decide_false, ite_self, and_self, and_true, true_and, false_and, and_false, Bool.and_true, Bool.true_and, Bool.and_false, Bool.false_and, reduceCtorEq, reduceIte, Option.some.injEq, opD, okB, okI, dsds, outsOf, Op.esc, slotD, bind_ok, bind_exc, bind_bad, Res.nox_ok, watchOf, wipeD, unwD, shD, lenT, List.foldl_cons, List.foldl_nil, Option.map_some, Option.map_none, Option.getD_some, Option.getD_none, minK, List.all_cons, List.all_nil, List.isEmpty_cons, List.isEmpty_nil, items?, still, ev_den_var, ev_den_mv, ev_den_cst, ev_den_op, ev_den_dsp, ev_den_dctE, ev_den_andV, ev_den_orV, ev_den_tst, ev_den_ite, ev_den_chn, ev_den_call, ev_den_callV, ev_den_lc, ev_den_lc2, ev_den_dc, ev_den_dc2, ev_den_mth, ev_den_ask, ev_den_mth1, ev_denT_v, ev_denT_p, ev_denT_and, ev_denT_or, ev_denT_not, ev_denT_yes, ev_denS_asg, ev_denS_par, ev_denS_ex, ev_denS_set2, ev_denS_augN, ev_denS_augI, ev_denS_ret, ev_denS_retN, ev_denS_ifS, ev_denS_forS, ev_denS_whl, ev_denS_brk, ev_denS_cnt, ev_denS_pss, ev_denS_rse, ev_denSs_nil, ev_denSs_cons, ev_denCh_nil, ev_denCh_t, ev_denCh_f, ev_denOps_nil, ev_denArgs_nil, ev_denOps_pk, ev_denArgs_pk, ev_denOps_var, ev_denArgs_var, ev_denOps_mv, ev_denArgs_mv, ev_denOps_cst, ev_denArgs_cst, ev_denOps_op, ev_denArgs_op, ev_denOps_dsp, ev_denArgs_dsp, ev_denOps_dctE, ev_denArgs_dctE, ev_denOps_andV, ev_denArgs_andV, ev_denOps_orV, ev_denArgs_orV, ev_denOps_tst, ev_denArgs_tst, ev_denOps_ite, ev_denArgs_ite, ev_denOps_chn, ev_denArgs_chn, ev_denOps_call, ev_denArgs_call, ev_denOps_callV, ev_denArgs_callV, ev_denOps_lc, ev_denArgs_lc, ev_denOps_lc2, ev_denArgs_lc2, ev_denOps_dc, ev_denArgs_dc, ev_denOps_dc2, ev_denArgs_dc2, ev_denOps_mth, ev_denArgs_mth, ev_denOps_ask, ev_denArgs_ask, ev_denOps_mth1, ev_denArgs_mth1, ev_back_nil, ev_back_pk, ev_back_var, ev_back_mv, ev_back_cst, ev_back_op, ev_back_dsp, ev_back_dctE, ev_back_andV, ev_back_orV, ev_back_tst, ev_back_ite, ev_back_chn, ev_back_call, ev_back_callV, ev_back_lc, ev_back_lc2, ev_back_dc, ev_back_dc2, ev_back_mth, ev_back_ask, ev_back_mth1, ev_asgT_nm, ev_asgT_tp, ev_asgT_sb, ev_asgTs_nil, ev_asgTs_cons, ev_asgK_nil, ev_asgK_cons, ev_isInt_non, ev_isInt_bl, ev_isInt_int, ev_isInt_str, ev_isInt_tup, ev_isInt_lst, ev_isBool_non, ev_isBool_bl, ev_isBool_int, ev_isBool_str, ev_isBool_tup, ev_isBool_lst, ev_isTup_non, ev_isTup_bl, ev_isTup_int, ev_isTup_str, ev_isTup_tup, ev_isTup_lst, ev_isStr_non, ev_isStr_bl, ev_isStr_int, ev_isStr_str, ev_isStr_tup, ev_isStr_lst, ev_mthOk_append, ev_mthOk_extend, ev_mthOk_pop, ev_mthOk_popAt, ev_mthOk_popK, ev_mthOk_remove, ev_mthOk_sort, ev_mthOk_setdef, ev_mthOk_insert, ev_mthOk_clear, ev_at10, ev_at1m, ev_ix10, ev_mkT1, ev_sz1, ev_at20, ev_at21, ev_at2m, ev_ix20, ev_ix21, ev_mkT2, ev_sz2, ev_at30, ev_at31, ev_at32, ev_at3m, ev_ix30, ev_ix31, ev_ix32, ev_mkT3, ev_sz3, ev_at40, ev_at41, ev_at42, ev_at43, ev_at4m, ev_ix40, ev_ix41, ev_ix42, ev_ix43, ev_mkT4, ev_sz4, ev_at50, ev_at51, ev_at52, ev_at53, ev_at54, ev_at5m, ev_ix50, ev_ix51, ev_ix52, ev_ix53, ev_ix54, ev_mkT5, ev_sz5, ev_at60, ev_at61, ev_at62, ev_at63, ev_at64, ev_at65, ev_at6m, ev_ix60, ev_ix61, ev_ix62, ev_ix63, ev_ix64, ev_ix65, ev_mkT6, ev_sz6, ev_mkT0, ev_sz0, ev_rng0, ev_rng1, ev_rng2, ev_rng3, ev_rng4, ev_rng5, ev_rng6, ev_rng7, ev_rng8, ev_op_addeq_1, ev_op_addeq_2, ev_op_addeq_3, ev_op_addeq_4, ev_op_subeq_1, ev_op_muleq_1, ev_op_muleq_2, ev_op_fdiveq_1, ev_op_modeq_1, ev_op_negeq_1, ev_op_shleq_1, ev_op_lteq_1, ev_op_gteq_1, ev_op_leeq_1, ev_op_geeq_1, ev_op_eqeq_1, ev_op_neeq_1, ev_op_isneq_1, ev_op_notneq_1, ev_op_isIneq_1, ev_op_isIneq_2, ev_op_isIneq_3, ev_op_notIneq_1, ev_op_notIneq_2, ev_op_notIneq_3, ev_op_ixeq_1, ev_op_ixeq_2, ev_op_ixeq_3, ev_op_slLeq_1, ev_op_slLeq_2, ev_op_slUeq_1, ev_op_slUeq_2, ev_op_slUeq_3, ev_op_slLUeq_1, ev_op_slLUeq_2, ev_op_slReveq_1, ev_op_slReveq_2, ev_op_slAlleq_1, ev_op_leneq_1, ev_op_leneq_2, ev_op_leneq_3, ev_op_leneq_4, ev_op_abseq_1, ev_op_inteq_1, ev_op_tupOfeq_1, ev_op_tupOfeq_2, ev_op_lstOfeq_1, ev_op_lstOfeq_2, ev_op_setOfeq_1, ev_op_setOfeq_2, ev_op_srteq_1, ev_op_srtReveq_1, ev_op_mn1eq_1, ev_op_mn1eq_2, ev_op_mx1eq_1, ev_op_mx1eq_2, ev_op_lrng1eq_1, ev_op_lrng2eq_1, ev_op_mn2eq_1, ev_op_mx2eq_1, ev_op_sumeq_1, ev_op_get1eq_1, ev_op_get2eq_1, ev_op_indexeq_1, ev_op_indexeq_2, ev_trutheq_1, ev_trutheq_2, ev_trutheq_3, ev_trutheq_4, ev_trutheq_5, ev_trutheq_6, ev_trutheq_7, ev_iterDeq_1, ev_iterDeq_2, ev_iterDeq_3, ev_iterDeq_4, ev_iterDeq_5, ev_iterDeq_6, ev_iterDeq_7, ev_putIeq_1, ev_putIeq_2, ev_getOeq_1, ev_getOeq_2, ev_mthDeq_1, ev_mthDeq_2, ev_mthDeq_3, ev_mthDeq_4, ev_askOkeq_1, ev_askOkeq_2, ev_askOkeq_3, ev_askOkeq_4, ev_mthOkeq_1, ev_ltDeq_1, ev_eqDeq_1, ev_eqDeq_2, ev_eqDeq_3])

section
open PySem (Str PyData)
theorem edge_in_spec (n : Nat) (a b : Int) : denF tab (n + 1) f_edge_in [(0, .int a), (0, .int b)] = .ok ((0, pD (mkE a b)), [(0, .non), (0, .non)]) := by
  rw [denF_succ tab_edge_in rfl, c_edge_in]
  unfold pD mkE
  by_cases h : a < b
  · walk_at "sx"
  · walk_at "sx"
theorem int_spec (n : Nat) (i : Int) : denF tab (n + 1) f_is_integer [(0, .int i)] = .ok ((0, .bl true), [(0, .non)]) := by
  rw [denF_succ tab_is_integer rfl, c_is_integer]
  walk_at "sx"
theorem edge_spec (n : Nat) (a b many : Int) (h0 : 0 ≤ a) (h1 : a < b) (h2 : b < many) : denF tab (n + 2) f_is_edge [(0, pD (a, b)), (0, .int many)] = .ok ((0, .bl true), [(0, .non), (0, .non)]) := by
  rw [denF_succ tab_is_edge rfl, c_is_edge]
  have i1 := int_spec n a
  have i2 := int_spec n b
  have h3 : ¬ a < 0 := by omega
  unfold pD
  walk_at "sx"
/-- good graphs -/
structure Gd (m : Int) (n : Int) (es : List IP) : Prop where
  n0 : 0 ≤ n
  n1 : n ≤ m
  ss : SS es
  rng : ∀ e ∈ es, 0 ≤ e.1 ∧ e.1 < e.2 ∧ e.2 < n
  len : es.length ≤ 400
def gD (n : Int) (es : List IP) : D := .tup [.int n, .tup (es.map pD)]
theorem all_true (xs : List D) (h : ∀ x ∈ xs, x = .bl true) : op_all [.lst xs] = okB true := by
  unfold op_all
  have e : ∀ xs : List D, (∀ x ∈ xs, x = .bl true) → D.plains xs = true ∧ xs.all D.fit = true ∧ xs.all D.tru = true := by
    intro xs
    induction xs with
    | nil => intro _; exact ⟨rfl, rfl, rfl⟩
    | cons x r ih =>
      intro h
      have h1 := h x (List.mem_cons_self ..)
      obtain ⟨a, b, c⟩ := ih fun y hy => h y (List.mem_cons_of_mem _ hy)
      subst h1
      refine ⟨?_, ?_, ?_⟩
      · simp only [D.plains, D.plain, a, Bool.and_self]
      · simp only [List.all_cons, b, D.fit, Bool.and_self]
      · simp only [List.all_cons, c, Bool.and_true]; rfl
  obtain ⟨a, b, c⟩ := e xs h
  simp only [a, b, c, and_self, if_true]
theorem zip_tail_SS : ∀ {ps : List IP}, SS ps → ∀ q ∈ List.zipWith (fun x y => (x, y)) ps (ps.drop 1), plt q.1 q.2
  | [], _, q, h => by simp at h
  | [p], _, q, h => by simp at h
  | p :: p' :: r, hs, q, h => by
    simp only [List.drop_succ_cons, List.drop_zero, List.zipWith_cons_cons, List.mem_cons] at h
    rcases h with rfl | h
    · exact (List.pairwise_cons.mp hs).1 p' (List.mem_cons_self ..)
    · exact zip_tail_SS (List.pairwise_cons.mp hs).2 q (by simpa using h)
theorem cut1 (xs : List D) : cutD xs (some 1) none = xs.drop 1 := by
  unfold cutD
  cases xs with
  | nil => rfl
  | cons x r =>
    have h1 : HT.sIx (x :: r).length 0 (some 1) = 1 := by simp [HT.sIx]
    have h2 : HT.sIx (x :: r).length (x :: r).length none = (x :: r).length := rfl
    rw [h1, h2]
    simp
theorem graph_spec (n : Nat) {m k : Int} {es : List IP} (hm : m ≤ 20) (g : Gd m k es) : denF tab (n + 3) f_is_graph [(0, gD k es)] = .ok ((0, .bl true), [(0, .non)]) := by
  rw [denF_succ tab_is_graph rfl, c_is_graph]
  have i1 := int_spec (n + 1) k
  have h3 : ¬ k < 0 := by have := g.n0; omega
  have h4 : ¬ 20 < k := by have := g.n1; omega
  unfold gD
  walk_at "sx"
  rw [compL_map (fun _ => 0) (g := fun _ => .bl true) rfl _ ?a]
  case a =>
    intro x hx
    obtain ⟨⟨a, b⟩, he, rfl⟩ := List.mem_map.mp hx
    have r := g.rng _ he
    have e1 := edge_spec n a b k r.1 r.2.1 r.2.2
    refine ⟨?_, by decide⟩
    walk_at "sx"
  have l1 : (List.map (fun _ => D.bl true) (List.map pD es)).length ≤ sizeL := sz_of (by have := g.len; simp; omega)
  have a1 := all_true (List.map (fun _ => D.bl true) (List.map pD es)) (by intro x hx; simp at hx; exact hx.2.symm)
  have c1 := cut1 (List.map pD es)
  walk_at "sx"
  rw [compL_map (fun _ => 0) (g := fun _ => .bl true) rfl _ ?b]
  case b =>
    intro x hx
    rw [← List.map_drop, List.zipWith_map] at hx
    have h5 : ∃ p q, plt p q ∧ x = .tup [pD p, pD q] := by
      have : List.zipWith (fun a b => D.tup [pD a, pD b]) es (List.drop 1 es) = (List.zipWith (fun x y => (x, y)) es (List.drop 1 es)).map fun q => D.tup [pD q.1, pD q.2] := by
        rw [List.map_zipWith]
      rw [this] at hx
      obtain ⟨q, hq, rfl⟩ := List.mem_map.mp hx
      exact ⟨q.1, q.2, zip_tail_SS g.ss q hq, rfl⟩
    obtain ⟨p, q, hpq, rfl⟩ := h5
    have l := ltD_pD p q
    refine ⟨?_, by decide⟩
    walk_at "sx"
  have l2 : (List.map (fun _ => D.bl true) (List.zipWith (fun x y => D.tup [x, y]) (List.map pD es) (List.drop 1 (List.map pD es)))).length ≤ sizeL := sz_of (by have := g.len; simp; omega)
  have a2 := all_true (List.map (fun _ => D.bl true) (List.zipWith (fun x y => D.tup [x, y]) (List.map pD es) (List.drop 1 (List.map pD es)))) (by intro x hx; rw [List.mem_map] at hx; obtain ⟨_, _, h⟩ := hx; exact h.symm)
  walk_at "sx"
theorem check_spec (n : Nat) {m k : Int} {es : List IP} (hm : m ≤ 20) (g : Gd m k es) : denF tab (n + 4) f_check_graph [(0, gD k es), (0, .str "graph")] = .ok ((0, .non), [(0, .non), (0, .non)]) := by
  rw [denF_succ tab_check_graph rfl, c_check_graph]
  have h := graph_spec n hm g
  walk_at "sx"
theorem foldE (ps : List IP) : ∀ (a : List (D × D)) (q : List IP), a.map (·.1) = q.map pD →
    (ps.foldl (fun a p => kput a (pD (mkE p.1 p.2)) (.bl true)) a).map (·.1) = ((ps.map fun p => mkE p.1 p.2).foldl (fun a p => if p ∈ a then a else a ++ [p]) q).map pD := by
  induction ps with
  | nil => intro a q h; exact h
  | cons p r ih =>
    intro a q h
    simp only [List.foldl_cons, List.map_cons]
    refine ih _ _ ?_
    rw [kput_keys, h]
    have : pD (mkE p.1 p.2) ∈ q.map pD ↔ mkE p.1 p.2 ∈ q := by
      rw [List.mem_map]
      exact ⟨fun ⟨x, hx, e⟩ => pD_inj e ▸ hx, fun hx => ⟨_, hx, rfl⟩⟩
    simp only [this]
    split <;> simp
theorem graph_in_spec (n : Nat) (k : Int) (ps : List IP) (hl : ps.length ≤ 400) : denF tab (n + 2) f_graph_in [(0, .int k), (0, .lst (ps.map pD))] = .ok ((0, gD k (edgesOf ps)), [(0, .non), (0, .non)]) := by
  rw [denF_succ tab_graph_in rfl, c_graph_in]
  walk_at "sx"
  rw [compDL_fold (g := fun a d => match d with | .tup [.int x, .int y] => kput a (pD (mkE x y)) (.bl true) | _ => a) (fun i a => a.length ≤ i ∧ a.all (fun p => p.1.tk) = true) (by simp [still]) _ 0 _ ⟨Nat.zero_le _, rfl⟩ ?a]
  case a =>
    intro x hx i a hi hI
    obtain ⟨⟨p, q⟩, he, rfl⟩ := List.mem_map.mp hx
    have e1 := edge_in_spec n p q
    have hk : kIn a (pD (mkE p q)) = true := by
      unfold kIn
      have : (pD (mkE p q)).tk = true := rfl
      simp [this, hI.2]
    have hlen : a.length < sizeL := szlt_of (by simp at hi; omega)
    refine ⟨?_, ?_, ?_⟩
    · show _ = Res.ok (kput a (pD (mkE p q)) (.bl true), _)
      generalize pD (mkE p q) = z at *
      unfold pD
      clear hi hI
      walk_at "sx"
    · have := kput_len a (pD (mkE p q)) (.bl true)
      have := hI.1
      show (kput a (pD (mkE p q)) (.bl true)).length ≤ i + 1
      omega
    · show (kput a (pD (mkE p q)) (.bl true)).all (fun p => p.1.tk) = true
      have h1 := kput_keys a (pD (mkE p q)) (.bl true)
      have h2 : ∀ l : List (D × D), l.all (fun p => p.1.tk) = (l.map (·.1)).all D.tk := by intro l; rw [List.all_map]; rfl
      rw [h2, h1]
      rw [h2] at hI
      split
      · exact hI.2
      · rw [List.all_append, hI.2]; rfl
  have e2 : ∀ (a : List (D × D)), (ps.map pD).foldl (fun a d => match d with | .tup [.int x, .int y] => kput a (pD (mkE x y)) (.bl true) | _ => a) a = ps.foldl (fun a p => kput a (pD (mkE p.1 p.2)) (.bl true)) a := by
    intro a
    rw [List.foldl_map]
    rfl
  rw [e2]
  have e3 := foldE ps [] [] rfl
  have e4 : sortR ((pDup (ps.map fun p => mkE p.1 p.2)).map pD) = _ := sortR_pD _ (by have := pDup_len (ps.map fun p => mkE p.1 p.2); simp at this; omega)
  have e5 : op_srt [.dct (ps.foldl (fun a p => kput a (pD (mkE p.1 p.2)) (.bl true)) [])] = .ok (1, .lst ((edgesOf ps).map pD)) := by
    show sortR (List.map (fun p => p.1) (ps.foldl (fun a p => kput a (pD (mkE p.1 p.2)) (.bl true)) [])) = _
    rw [e3]
    exact e4
  clear e2 e3 e4
  unfold gD
  walk_at "sx"
/-! ### deeds -/
inductive Deed where
  | leave (v : Int) | cut (a b : Int) | draw (a b : Int)
def Deed.d : Deed → D
  | .leave v => .tup [.str "leave", .int v]
  | .cut a b => .tup [.str "cut", .int a, .int b]
  | .draw a b => .tup [.str "draw", .int a, .int b]
def Deed.ok (n : Int) (es : List IP) : Deed → Prop
  | .leave v => 0 ≤ v ∧ v < n
  | .cut a b => (a, b) ∈ es
  | .draw a b => (a, b) ∈ es
theorem isIn_pD {es : List IP} {p : IP} (h : p ∈ es) : isInSeq (pD p) (es.map pD) = okB true := by
  have h1 : shapedD (pD p) = true := shapedQ rfl (by rw [dp_pD]; decide)
  have h2 : shapedD (.lst (es.map pD)) = true := shapedQ (by
      show D.plains (es.map pD) = true
      rw [plains_all, List.all_map, List.all_eq_true]
      intro x _
      rfl) (by
      show D.dps (es.map pD) + 1 ≤ 60
      have := dps_le_of (b := 1) (es.map pD) (by intro x hx; obtain ⟨y, _, rfl⟩ := List.mem_map.mp hx; exact Nat.le_refl _)
      omega)
  unfold isInSeq
  rw [if_pos ⟨h1, h2⟩]
  have : ((es.map pD).any fun z => PyData.eqv z.py (pD p).py) = true := List.any_eq_true.mpr ⟨pD p, List.mem_map.mpr ⟨p, h, rfl⟩, eqv_self _ rfl⟩
  rw [this]
theorem isIn_w1 : isInSeq (.str "leave") [.str "leave", .str "cut", .str "draw"] = okB true := by
  unfold isInSeq
  rw [if_pos ⟨shapedQ rfl (by decide), shapedQ rfl (by decide)⟩]
  rfl
theorem isIn_w2 : isInSeq (.str "cut") [.str "leave", .str "cut", .str "draw"] = okB true := by
  unfold isInSeq
  rw [if_pos ⟨shapedQ rfl (by decide), shapedQ rfl (by decide)⟩]
  rfl
theorem isIn_w3 : isInSeq (.str "draw") [.str "leave", .str "cut", .str "draw"] = okB true := by
  unfold isInSeq
  rw [if_pos ⟨shapedQ rfl (by decide), shapedQ rfl (by decide)⟩]
  rfl
theorem ne_lc : ¬ ("leave" : Str) = "cut" := by decide
theorem ne_ld : ¬ ("leave" : Str) = "draw" := by decide
theorem ne_cl : ¬ ("cut" : Str) = "leave" := by decide
theorem ne_cd : ¬ ("cut" : Str) = "draw" := by decide
theorem ne_dl : ¬ ("draw" : Str) = "leave" := by decide
theorem ne_dc : ¬ ("draw" : Str) = "cut" := by decide
theorem deed_spec (n : Nat) {m k : Int} {es : List IP} (g : Gd m k es) {d : Deed} (hd : d.ok k es) : denF tab (n + 3) f_is_deed [(0, d.d), (0, gD k es)] = .ok ((0, .bl true), [(0, .non), (0, .non)]) := by
  rw [denF_succ tab_is_deed rfl, c_is_deed]
  have w1 := isIn_w1
  have w2 := isIn_w2
  have w3 := isIn_w3
  have q1 := ne_lc
  have q2 := ne_ld
  have q3 := ne_cl
  have q4 := ne_cd
  have q5 := ne_dl
  have q6 := ne_dc
  have q0 : cutD [D.str "cut", D.int 0] (some 1) none = [D.int 0] := cut1 _
  cases d with
  | leave v =>
    have i1 := int_spec (n + 1) v
    obtain ⟨h1, h2⟩ : 0 ≤ v ∧ v < k := hd
    have h3 : ¬ v < 0 := by omega
    unfold gD Deed.d
    walk_at "sx"
  | cut a b =>
    have r := g.rng _ hd
    have e1 := edge_spec n a b k r.1 r.2.1 r.2.2
    have e2 : isInSeq (pD (a, b)) (es.map pD) = _ := isIn_pD hd
    have e3 : cutD [D.str "cut", D.int a, D.int b] (some 1) none = [.int a, .int b] := cut1 _
    unfold gD Deed.d
    unfold pD at e1 e2 ⊢
    walk_at "sx"
  | draw a b =>
    have r := g.rng _ hd
    have e1 := edge_spec n a b k r.1 r.2.1 r.2.2
    have e2 : isInSeq (pD (a, b)) (es.map pD) = _ := isIn_pD hd
    have e3 : cutD [D.str "draw", D.int a, D.int b] (some 1) none = [.int a, .int b] := cut1 _
    unfold gD Deed.d
    unfold pD at e1 e2 ⊢
    walk_at "sx"
end
section
open PySem (Str PyData)
theorem eqStr (a b : Str) : eqD (.str a) (.str b) = .ok (decide (a = b)) := rfl
/-! ### rows by a rule -/
def tabl {α : Type} (n : Int) (g : Int → α) : List α := (List.range n.toNat).map fun k => g (k : Nat)
theorem tabl_len {α : Type} (n : Int) (g : Int → α) : (tabl n g).length = n.toNat := by simp [tabl]
theorem tabl_map {α β : Type} (n : Int) (g : Int → α) (h : α → β) : (tabl n g).map h = tabl n fun i => h (g i) := by
  simp only [tabl, List.map_map]
  rfl
theorem tabl_congr {α : Type} {n : Int} {g h : Int → α} (e : ∀ i, 0 ≤ i → i < n → g i = h i) : tabl n g = tabl n h := by
  unfold tabl
  refine List.map_congr_left fun k hk => ?_
  have := List.mem_range.mp hk
  exact e _ (by omega) (by omega)
theorem mem_tabl {α : Type} {n : Int} {g : Int → α} {x : α} : x ∈ tabl n g ↔ ∃ i : Int, 0 ≤ i ∧ i < n ∧ g i = x := by
  unfold tabl
  rw [List.mem_map]
  constructor
  · rintro ⟨k, hk, rfl⟩
    have := List.mem_range.mp hk
    exact ⟨k, by omega, by omega, rfl⟩
  · rintro ⟨i, h0, h1, rfl⟩
    exact ⟨i.toNat, List.mem_range.mpr (by omega), by rw [Int.toNat_of_nonneg h0]⟩
theorem get_tabl {α : Type} {n : Int} {g : Int → α} {k : Nat} (h : k < n.toNat) : (tabl n g)[k]? = some (g (k : Nat)) := by
  unfold tabl
  rw [List.getElem?_map, List.getElem?_range h]
  rfl
theorem ixN_tabl {α : Type} {n i : Int} {g : Int → α} (h0 : 0 ≤ i) (h1 : i < n) : L2.ixN (tabl n g).length i = some i.toNat := by
  unfold L2.ixN
  rw [tabl_len, if_pos h0, if_pos (by omega)]
theorem atI_tabl {α : Type} {n i : Int} {g : Int → α} (h0 : 0 ≤ i) (h1 : i < n) : L2.atI (tabl n g) i = some (g i) := by
  unfold L2.atI
  rw [ixN_tabl h0 h1]
  show (tabl n g)[i.toNat]? = _
  rw [get_tabl (by omega), Int.toNat_of_nonneg h0]
theorem set_tabl {α : Type} {n i : Int} {g : Int → α} {x : α} (h0 : 0 ≤ i) : (tabl n g).set i.toNat x = tabl n fun j => if j = i then x else g j := by
  refine List.ext_getElem? fun k => ?_
  rw [List.getElem?_set, tabl_len]
  by_cases hk : k < n.toNat
  · rw [get_tabl (g := fun j => if j = i then x else g j) hk]
    by_cases e : i.toNat = k
    · have : (k : Int) = i := by omega
      simp [e, hk, this]
    · have : ¬ (k : Int) = i := by omega
      simp only [e, if_false, this, get_tabl hk]
  · have h1 : (tabl n fun j => if j = i then x else g j)[k]? = none := List.getElem?_eq_none (by rw [tabl_len]; omega)
    have h2 : (tabl n g)[k]? = none := List.getElem?_eq_none (by rw [tabl_len]; omega)
    rw [h1, h2]
    split <;> simp_all
theorem lrng1_ok {n : Int} (h0 : -1000 ≤ n) (h1 : n ≤ 1000) : op_lrng1 [.int n] = .ok (1, .lst (tabl n D.int)) := by
  have : op_lrng1 [.int n] = if -(2 ^ 62) ≤ n ∧ n < 2 ^ 62 ∧ n.toNat ≤ sizeL then .ok (1, .lst ((List.range n.toNat).map fun k => .int (k : Nat))) else .bad := rfl
  rw [this, if_pos ⟨by omega, by omega, sz_of (by omega)⟩]; rfl
theorem rng1_ok {n : Int} (h0 : -1000 ≤ n) (h1 : n ≤ 1000) : iterD .rng1 [.int n] = .ok (tabl n D.int) := by
  have : iterD .rng1 [.int n] = if -(2 ^ 62) ≤ n ∧ n < 2 ^ 62 then .ok ((List.range n.toNat).map fun k => .int (k : Nat)) else .bad := rfl
  rw [this, if_pos ⟨by omega, by omega⟩]; rfl
/-! ### the new numbers -/
def rl (v x : Int) : Int := if x < v then x else x - 1
def rd (a b x : Int) : Int := if x = b then a else rl b x
/-- what numbers_in tells of a deed -/
def Deed.num : Deed → Int → D
  | .leave v => fun i => if i = v then .non else .int (rl v i)
  | .cut _ _ => D.int
  | .draw a b => fun i => .int (rd a b i)
theorem numbers_spec (n : Nat) {m k : Int} {es : List IP} (hm : m ≤ 20) (g : Gd m k es) {d : Deed} (hd : d.ok k es) : denF tab (n + 1) f_numbers_in [(0, gD k es), (0, d.d)] = .ok ((1, .lst (tabl k d.num)), [(0, .non), (0, .non)]) := by
  rw [denF_succ tab_numbers_in rfl, c_numbers_in]
  have q1 := ne_lc
  have q2 := ne_ld
  have q3 := ne_cl
  have q4 := ne_cd
  have q5 := ne_dl
  have q6 := ne_dc
  have hk0 := g.n0
  have hk1 := g.n1
  have r1 := lrng1_ok (n := k) (by omega) (by omega)
  have r2 := rng1_ok (n := k) (by omega) (by omega)
  clear hk0 hk1
  cases d with
  | cut a b =>
    unfold gD Deed.d Deed.num
    walk_at "sx"
  | leave v =>
    obtain ⟨h1, h2⟩ : 0 ≤ v ∧ v < k := hd
    unfold gD Deed.d Deed.num
    walk_at "sx"
    rw [compL_map (fun _ => 0) (g := fun d => match d with | .int i => .int (rl v i) | _ => d) rfl _ ?a]
    case a =>
      intro x hx
      obtain ⟨i, h3, h4, rfl⟩ := mem_tabl.mp hx
      refine ⟨?_, by decide⟩
      unfold rl
      by_cases h : i < v
      · walk_at "sx"
      · walk_at "sx"
    rw [tabl_map]
    have l1 : (tabl k fun i => D.int (rl v i)).length ≤ sizeL := sz_of (by rw [tabl_len]; have := g.n1; omega)
    have x1 := ixN_tabl (g := fun i => D.int (rl v i)) h1 h2
    have x2 := set_tabl (n := k) (g := fun i => D.int (rl v i)) (x := D.non) h1
    walk_at "sx"
  | draw a b =>
    have r := g.rng _ hd
    have h1 : 0 ≤ b := by omega
    have h2 : b < k := r.2.2
    unfold gD Deed.d Deed.num
    walk_at "sx"
    rw [compL_map (fun _ => 0) (g := fun d => match d with | .int i => .int (rl b i) | _ => d) rfl _ ?a]
    case a =>
      intro x hx
      obtain ⟨i, h3, h4, rfl⟩ := mem_tabl.mp hx
      refine ⟨?_, by decide⟩
      unfold rl
      clear r
      by_cases h : i < b
      · walk_at "sx"
      · walk_at "sx"
    rw [tabl_map]
    have l1 : (tabl k fun i => D.int (rl b i)).length ≤ sizeL := sz_of (by rw [tabl_len]; have := g.n1; omega)
    have x1 := ixN_tabl (g := fun i => D.int (rl b i)) h1 h2
    have x2 := set_tabl (n := k) (g := fun i => D.int (rl b i)) (x := D.int a) h1
    have x3 : (tabl k fun j => if j = b then D.int a else D.int (rl b j)) = tabl k fun i => D.int (rd a b i) := tabl_congr fun i _ _ => by unfold rd; split <;> rfl
    rw [x3] at x2
    clear x3 r
    walk_at "sx"
end
section
open PySem (Str PyData)
/-! ### the graph behind a deed -/
def stepE (es : List IP) : Deed → List IP
  | .cut a b => es.filter fun e => decide (e ≠ (a, b))
  | .leave v => edgesOf ((es.filter fun e => decide (e.1 ≠ v ∧ e.2 ≠ v ∧ rl v e.1 ≠ rl v e.2)).map fun e => (rl v e.1, rl v e.2))
  | .draw a b => edgesOf ((es.filter fun e => decide (rd a b e.1 ≠ rd a b e.2)).map fun e => (rd a b e.1, rd a b e.2))
def stepN (n : Int) : Deed → Int
  | .cut _ _ => n
  | _ => n - 1
theorem eq_pD (p q : IP) : eqD (pD p) (pD q) = .ok (decide (p = q)) := by
  have h1 : shapedD (pD p) = true := shapedQ rfl (by rw [dp_pD]; decide)
  have h2 : shapedD (pD q) = true := shapedQ rfl (by rw [dp_pD]; decide)
  have h : eqD (pD p) (pD q) = if shapedD (pD p) = true ∧ shapedD (pD q) = true then .ok (PyData.eqv (pD p).py (pD q).py) else .bad := rfl
  rw [h, if_pos ⟨h1, h2⟩]
  congr 1
  obtain ⟨a, b⟩ := p
  obtain ⟨c, d⟩ := q
  simp [pD, D.py, D.pys, PyData.eqv, PyData.eqvAll, Prod.ext_iff]
  by_cases e1 : a = c <;> by_cases e2 : b = d <;> simp [e1, e2]
theorem notIn_non (x y : D) (hx : (∃ i, x = .int i) ∨ x = .non) (hy : (∃ i, y = .int i) ∨ y = .non) : isInSeq .non [x, y] = okB (decide (x = .non ∨ y = .non)) := by
  unfold isInSeq
  rcases hx with ⟨i, rfl⟩ | rfl <;> rcases hy with ⟨j, rfl⟩ | rfl <;> rw [if_pos ⟨shapedQ rfl (by decide), shapedQ rfl (by simp [D.dp, D.dps])⟩] <;> simp [D.py, PyData.eqv]
theorem done_in_cut (n : Nat) {k : Int} {es : List IP} {a b : Int} (hl : es.length ≤ 400) : denF tab (n + 1) f_done_in [(0, gD k es), (0, (Deed.cut a b).d)] = .ok ((0, gD k (stepE es (.cut a b))), [(0, .non), (0, .non)]) := by
  rw [denF_succ tab_done_in rfl, c_done_in]
  have e3 : cutD [D.str "cut", D.int a, D.int b] (some 1) none = [.int a, .int b] := cut1 _
  unfold gD Deed.d
  walk_at "sx"
  rw [compL_filter (p := fun d => match d with | .tup [.int x, .int y] => decide ((x, y) ≠ (a, b)) | _ => false) rfl (by decide) _ ?a]
  case a =>
    intro x hx
    obtain ⟨⟨c, d⟩, he, rfl⟩ := List.mem_map.mp hx
    have e1 := eq_pD (c, d) (a, b)
    unfold pD at e1 ⊢
    clear hx he
    by_cases h : (c, d) = (a, b)
    · walk_at "sx"
    · walk_at "sx"
  have l1 : (List.filter (fun d => match d with | .tup [.int x, .int y] => decide ((x, y) ≠ (a, b)) | _ => false) (List.map pD es)) = (stepE es (.cut a b)).map pD := by
    rw [List.filter_map]
    rfl
  have l2 : ((stepE es (.cut a b)).map pD).length ≤ sizeL := sz_of (by
    rw [List.length_map]
    exact Nat.le_trans (List.length_filter_le _ _) (by omega))
  walk_at "sx"
theorem num_kind (d : Deed) (i : Int) : (∃ j, d.num i = .int j) ∨ d.num i = .non := by
  cases d with
  | cut a b => exact .inl ⟨i, rfl⟩
  | draw a b => exact .inl ⟨_, rfl⟩
  | leave v =>
    by_cases h : i = v
    · exact .inr (if_pos h)
    · exact .inl ⟨_, if_neg h⟩
/-- the pairs that stay -/
def okPair (d : D) : Bool := match d with
  | .tup [.int x, .int y] => decide (x ≠ y)
  | _ => false
theorem done_in_ren (n : Nat) {m k : Int} {es : List IP} (hm : m ≤ 20) (g : Gd m k es) {d : Deed} (hd : d.ok k es) (hc : ∀ a b, d ≠ .cut a b) {ps : List IP}
    (hp : (List.map (fun e : IP => D.tup [d.num e.1, d.num e.2]) es).filter okPair = ps.map pD) (hl : ps.length ≤ 400) :
    denF tab (n + 3) f_done_in [(0, gD k es), (0, d.d)] = .ok ((0, gD (k - 1) (edgesOf ps)), [(0, .non), (0, .non)]) := by
  rw [denF_succ tab_done_in rfl, c_done_in]
  have nm := numbers_spec (n + 1) hm g hd
  have w : ∃ w rest, d.d = .tup (.str w :: rest) ∧ ¬ w = ("cut" : Str) := by
    cases d with
    | cut a b => exact absurd rfl (hc a b)
    | leave v => exact ⟨_, _, rfl, ne_lc⟩
    | draw a b => exact ⟨_, _, rfl, ne_dc⟩
  obtain ⟨w, rest, e, hw⟩ := w
  have at0 : L2.atI (D.str w :: rest) 0 = some (.str w) := by
    unfold L2.atI L2.ixN
    simp
  rw [e] at nm ⊢
  unfold gD at nm ⊢
  walk_at "sx"
  rw [compL_map (fun _ => 0) (g := fun x => match x with | .tup [.int x, .int y] => .tup [d.num x, d.num y] | _ => .non) (by simp [still]) _ ?a]
  case a =>
    intro x hx
    obtain ⟨⟨p, q⟩, he, rfl⟩ := List.mem_map.mp hx
    have r := g.rng _ he
    have a1 := atI_tabl (g := d.num) (n := k) (i := p) r.1 (by have := r.2.1; have := r.2.2; simp at *; omega)
    have a2 := atI_tabl (g := d.num) (n := k) (i := q) (by have := r.1; have := r.2.1; simp at *; omega) r.2.2
    clear hx r at0 nm e hp
    refine ⟨?_, by decide⟩
    unfold pD
    walk_at "sx"
  have e1 : List.map (fun x => match x with | .tup [.int x, .int y] => .tup [d.num x, d.num y] | _ => .non) (List.map pD es) = List.map (fun e : IP => D.tup [d.num e.1, d.num e.2]) es := by
    rw [List.map_map]
    rfl
  rw [e1]
  have l1 : (List.map (fun e : IP => D.tup [d.num e.1, d.num e.2]) es).length ≤ sizeL := sz_of (by rw [List.length_map]; have := g.len; omega)
  clear e1
  walk_at "sx"
  rw [compL_filter (p := okPair) (by simp [still]) (by decide) _ ?b]
  case b =>
    intro x hx
    obtain ⟨⟨p, q⟩, he, rfl⟩ := List.mem_map.mp hx
    have k1 := num_kind d p
    have k2 := num_kind d q
    generalize d.num p = u at *
    generalize d.num q = v at *
    have ni := notIn_non u v k1 k2
    clear hx at0 nm e hp l1
    rcases k1 with ⟨i, rfl⟩ | rfl
    · rcases k2 with ⟨j, rfl⟩ | rfl
      · unfold okPair
        by_cases h : i = j
        · subst h
          walk_at "sx"
        · walk_at "sx"
      · unfold okPair
        walk_at "sx"
    · unfold okPair
      walk_at "sx"
  have gi := graph_in_spec n (k - 1) ps hl
  unfold gD at gi
  have l2 : (ps.map pD).length ≤ sizeL := sz_of (by rw [List.length_map]; omega)
  walk_at "sx"
theorem done_in_spec (n : Nat) {m k : Int} {es : List IP} (hm : m ≤ 20) (g : Gd m k es) {d : Deed} (hd : d.ok k es) : denF tab (n + 3) f_done_in [(0, gD k es), (0, d.d)] = .ok ((0, gD (stepN k d) (stepE es d)), [(0, .non), (0, .non)]) := by
  cases d with
  | cut a b => exact done_in_cut (n + 2) g.len
  | leave v =>
    refine done_in_ren n hm g hd (fun a b e => by cases e) ?_ (by rw [List.length_map]; exact Nat.le_trans (List.length_filter_le _ _) g.len)
    rw [List.filter_map, List.map_map]
    have e : List.filter (okPair ∘ fun e : IP => D.tup [Deed.num (.leave v) e.1, Deed.num (.leave v) e.2]) es = es.filter fun e => decide (e.1 ≠ v ∧ e.2 ≠ v ∧ rl v e.1 ≠ rl v e.2) := by
      refine List.filter_congr fun e _ => ?_
      simp only [Function.comp, Deed.num, okPair]
      by_cases h1 : e.1 = v <;> by_cases h2 : e.2 = v <;> simp [h1, h2]
    rw [e]
    refine List.map_congr_left fun e he => ?_
    have := (List.mem_filter.mp he).2
    simp only [decide_eq_true_eq] at this
    simp [Deed.num, this, pD, Function.comp]
  | draw a b =>
    refine done_in_ren n hm g hd (fun a b e => by cases e) ?_ (by rw [List.length_map]; exact Nat.le_trans (List.length_filter_le _ _) g.len)
    rw [List.filter_map, List.map_map]
    rfl
end
section
open PySem (Str PyData)
/-! ### all deeds -/
def allDeeds (n : Int) (es : List IP) : List Deed := tabl n Deed.leave ++ es.map (fun e => .cut e.1 e.2) ++ es.map fun e => .draw e.1 e.2
theorem add_w (w : Str) (p : IP) : op_add [.tup [.str w], pD p] = .ok (0, .tup [.str w, .int p.1, .int p.2]) := by
  have h : op_add [.tup [.str w], pD p] = if 1 + 2 ≤ sizeL then .ok (0, .tup [.str w, .int p.1, .int p.2]) else .bad := rfl
  rw [h, if_pos (sz_of (by decide))]
def cutT (x : D) : D := match x with | .tup [a, b] => .tup [.str "cut", a, b] | _ => x
def drawT (x : D) : D := match x with | .tup [a, b] => .tup [.str "draw", a, b] | _ => x
def leaveT (x : D) : D := .tup [.str "leave", x]
theorem allD_eq (n : Int) (es : List IP) : (allDeeds n es).map Deed.d = (tabl n D.int).map leaveT ++ (es.map pD).map cutT ++ (es.map pD).map drawT := by
  unfold allDeeds
  rw [List.map_append, List.map_append, tabl_map, tabl_map, List.map_map, List.map_map, List.map_map, List.map_map]
  rfl
theorem add_lst (xs ys : List D) (h : xs.length + ys.length ≤ 1000000) : op_add [.lst xs, .lst ys] = .ok (1, .lst (xs ++ ys)) := by
  have e : op_add [.lst xs, .lst ys] = if xs.length + ys.length ≤ sizeL then .ok (1, .lst (xs ++ ys)) else .bad := rfl
  rw [e, if_pos (sz_of h)]
theorem all_deeds_spec (n : Nat) {m k : Int} {es : List IP} (hm : m ≤ 20) (g : Gd m k es) : denF tab (n + 1) f_all_deeds [(0, gD k es)] = .ok ((1, .lst ((allDeeds k es).map Deed.d)), [(0, .non)]) := by
  rw [denF_succ tab_all_deeds rfl, c_all_deeds, allD_eq]
  have hk0 := g.n0
  have hk1 := g.n1
  have hl := g.len
  have r2 := rng1_ok (n := k) (by omega) (by omega)
  have l0 : (es.map pD).length ≤ 400 := by rw [List.length_map]; omega
  have l9 : (tabl k D.int).length ≤ 400 := by rw [tabl_len]; omega
  clear hk0 hk1 hl
  unfold gD
  walk_at "sx"
  rw [compL_map (fun _ => 0) (g := cutT) rfl _ ?a]
  case a =>
    intro x hx
    obtain ⟨⟨p, q⟩, he, rfl⟩ := List.mem_map.mp hx
    have a1 := add_w "cut" (p, q)
    refine ⟨?_, by decide⟩
    clear hx l0 l9
    unfold pD at a1 ⊢
    first | unfold cutT | unfold drawT
    walk_at "sx"
  have l1 : (List.map cutT (es.map pD)).length ≤ 400 := by rw [List.length_map]; omega
  generalize List.map cutT (es.map pD) = c1 at *
  have l1' : c1.length ≤ sizeL := sz_of (by omega)
  walk_at "sx"
  rw [compL_map (fun _ => 0) (g := leaveT) (by simp [still]) _ ?b]
  case b =>
    intro x hx
    refine ⟨?_, by decide⟩
    clear hx l0 l9 l1 l1'
    unfold leaveT
    walk_at "sx"
  have l2 : (List.map leaveT (tabl k D.int)).length ≤ 400 := by rw [List.length_map]; omega
  generalize (List.map leaveT (tabl k D.int)) = c2 at *
  have l2' : c2.length ≤ sizeL := sz_of (by omega)
  have a2 := add_lst c2 c1 (by omega)
  walk_at "sx"
  rw [compL_map (fun _ => 0) (g := drawT) (by simp [still]) _ ?c]
  case c =>
    intro x hx
    obtain ⟨⟨p, q⟩, he, rfl⟩ := List.mem_map.mp hx
    have a1 := add_w "draw" (p, q)
    refine ⟨?_, by decide⟩
    clear hx l0 l9 a2 l1 l2 l1' l2' 
    unfold pD at a1 ⊢
    first | unfold cutT | unfold drawT
    walk_at "sx"
  have l3 : (List.map drawT (es.map pD)).length ≤ 400 := by rw [List.length_map]; omega
  generalize List.map drawT (es.map pD) = c3 at *
  have l3' : c3.length ≤ sizeL := sz_of (by omega)
  have a3 := add_lst (c2 ++ c1) c3 (by simp; omega)
  walk_at "sx"
theorem deeds_of_spec (n : Nat) {m k : Int} {es : List IP} (hm : m ≤ 20) (g : Gd m k es) : denF tab (n + 5) f_deeds_of [(0, gD k es)] = .ok ((0, .tup ((allDeeds k es).map Deed.d)), [(0, .non)]) := by
  rw [denF_succ tab_deeds_of rfl, c_deeds_of]
  have c := check_spec n hm g
  have a := all_deeds_spec (n + 3) hm g
  unfold gD at *
  walk_at "sx"
theorem law_deeds_spec (n : Nat) {m k : Int} {es : List IP} (hm : m ≤ 20) (g : Gd m k es) : denF tab (n + 1) f__law_deeds [(0, .int k), (0, .lst (es.map pD))] = .ok ((0, .tup ((allDeeds k es).map Deed.d)), [(0, .non), (0, .non)]) := by
  rw [denF_succ tab__law_deeds rfl, c__law_deeds, allD_eq]
  have hk0 := g.n0
  have hk1 := g.n1
  have hl := g.len
  have r2 := rng1_ok (n := k) (by omega) (by omega)
  have l0 : (es.map pD).length ≤ 400 := by rw [List.length_map]; omega
  have l9 : (tabl k D.int).length ≤ 400 := by rw [tabl_len]; omega
  clear hk0 hk1 hl
  walk_at "sx"
  rw [compL_map (fun _ => 0) (g := leaveT) (by simp [still]) _ ?b]
  case b =>
    intro x hx
    refine ⟨?_, by decide⟩
    clear hx l0 l9
    unfold leaveT
    walk_at "sx"
  have l2 : (List.map leaveT (tabl k D.int)).length ≤ 400 := by rw [List.length_map]; omega
  generalize (List.map leaveT (tabl k D.int)) = c2 at *
  have l2' : c2.length ≤ sizeL := sz_of (by omega)
  walk_at "sx"
  rw [compL_map (fun _ => 0) (g := cutT) (by simp [still]) _ ?a]
  case a =>
    intro x hx
    obtain ⟨⟨p, q⟩, he, rfl⟩ := List.mem_map.mp hx
    have a1 := add_w "cut" (p, q)
    refine ⟨?_, by decide⟩
    clear hx l0 l9 l2 l2'
    unfold pD at a1 ⊢
    first | unfold cutT | unfold drawT
    walk_at "sx"
  have l1 : (List.map cutT (es.map pD)).length ≤ 400 := by rw [List.length_map]; omega
  generalize List.map cutT (es.map pD) = c1 at *
  have l1' : c1.length ≤ sizeL := sz_of (by omega)
  have a2 := add_lst c2 c1 (by omega)
  walk_at "sx"
  rw [compL_map (fun _ => 0) (g := drawT) (by simp [still]) _ ?c]
  case c =>
    intro x hx
    obtain ⟨⟨p, q⟩, he, rfl⟩ := List.mem_map.mp hx
    have a1 := add_w "draw" (p, q)
    refine ⟨?_, by decide⟩
    clear hx l0 l9 a2 l1 l2 l1' l2' 
    unfold pD at a1 ⊢
    first | unfold cutT | unfold drawT
    walk_at "sx"
  have l3 : (List.map drawT (es.map pD)).length ≤ 400 := by rw [List.length_map]; omega
  generalize List.map drawT (es.map pD) = c3 at *
  have l3' : c3.length ≤ sizeL := sz_of (by omega)
  have a3 := add_lst (c2 ++ c1) c3 (by simp; omega)
  walk_at "sx"
/-! ### good graphs stay good -/
theorem rl_rng {v x k : Int} (h0 : 0 ≤ x) (h1 : x < k) (hv : 0 ≤ v) (hv' : v < k) (hne : x ≠ v) : 0 ≤ rl v x ∧ rl v x < k - 1 := by
  unfold rl; split <;> omega
theorem rd_rng {a b x k : Int} (h0 : 0 ≤ x) (h1 : x < k) (ha : 0 ≤ a) (hab : a < b) (hb : b < k) : 0 ≤ rd a b x ∧ rd a b x < k - 1 := by
  unfold rd rl; split
  · omega
  · split <;> omega
theorem mkE_rng {x y k : Int} (hx : 0 ≤ x ∧ x < k) (hy : 0 ≤ y ∧ y < k) (h : x ≠ y) : 0 ≤ (mkE x y).1 ∧ (mkE x y).1 < (mkE x y).2 ∧ (mkE x y).2 < k := by
  unfold mkE; split <;> simp only <;> omega
theorem Gd.step {m k : Int} {es : List IP} (g : Gd m k es) {d : Deed} (hd : d.ok k es) : Gd m (stepN k d) (stepE es d) := by
  cases d with
  | cut a b =>
    exact ⟨g.n0, g.n1, g.ss.filter _, fun e he => g.rng e (List.mem_filter.mp he).1, Nat.le_trans (List.length_filter_le _ _) g.len⟩
  | leave v =>
    obtain ⟨h1, h2⟩ : 0 ≤ v ∧ v < k := hd
    refine ⟨?_, ?_, SS_edgesOf _, ?_, ?_⟩
    · show 0 ≤ k - 1; omega
    · show k - 1 ≤ m; have := g.n1; omega
    · intro e he
      obtain ⟨p, hp, rfl⟩ := mem_edgesOf.mp he
      obtain ⟨q, hq, rfl⟩ := List.mem_map.mp hp
      obtain ⟨hq1, hq2⟩ := List.mem_filter.mp hq
      simp only [decide_eq_true_eq] at hq2
      have r := g.rng q hq1
      exact mkE_rng (rl_rng r.1 (by omega) h1 h2 hq2.1) (rl_rng (by omega) r.2.2 h1 h2 hq2.2.1) hq2.2.2
    · refine Nat.le_trans (edgesOf_len _) ?_
      rw [List.length_map]
      exact Nat.le_trans (List.length_filter_le _ _) g.len
  | draw a b =>
    have rr := g.rng _ hd
    simp only at rr
    refine ⟨?_, ?_, SS_edgesOf _, ?_, ?_⟩
    · show 0 ≤ k - 1; omega
    · show k - 1 ≤ m; have := g.n1; omega
    · intro e he
      obtain ⟨p, hp, rfl⟩ := mem_edgesOf.mp he
      obtain ⟨q, hq, rfl⟩ := List.mem_map.mp hp
      obtain ⟨hq1, hq2⟩ := List.mem_filter.mp hq
      simp only [decide_eq_true_eq] at hq2
      have r := g.rng q hq1
      exact mkE_rng (rd_rng r.1 (by omega) rr.1 rr.2.1 rr.2.2) (rd_rng (by omega) r.2.2 rr.1 rr.2.1 rr.2.2) hq2
    · refine Nat.le_trans (edgesOf_len _) ?_
      rw [List.length_map]
      exact Nat.le_trans (List.length_filter_le _ _) g.len
theorem stepE_len {es : List IP} (d : Deed) : (stepE es d).length ≤ es.length := by
  cases d with
  | cut a b => exact List.length_filter_le _ _
  | leave v => exact Nat.le_trans (edgesOf_len _) (by rw [List.length_map]; exact List.length_filter_le _ _)
  | draw a b => exact Nat.le_trans (edgesOf_len _) (by rw [List.length_map]; exact List.length_filter_le _ _)
theorem done_spec (n : Nat) {m k : Int} {es : List IP} (hm : m ≤ 20) (g : Gd m k es) {d : Deed} (hd : d.ok k es) : denF tab (n + 5) f_done [(0, gD k es), (0, d.d)] = .ok ((0, gD (stepN k d) (stepE es d)), [(0, .non), (0, .non)]) := by
  rw [denF_succ tab_done rfl, c_done]
  have c := check_spec n hm g
  have a := deed_spec (n + 1) g hd
  have b := done_in_spec (n + 1) hm g hd
  generalize gD k es = G at *
  generalize gD (stepN k d) (stepE es d) = G' at *
  generalize d.d = dd at *
  walk_at "sx"
end
section
open PySem (Str PyData)
/-! ### sorted(set(..)) of pairs -/
def toL (p : IP) : List Int := [p.1, p.2]
def fromL (l : List Int) : IP := match l with | [x, y] => (x, y) | _ => (0, 0)
theorem tupIs_pD : ∀ ps : List IP, tupIs (ps.map pD) = some (ps.map toL)
  | [] => rfl
  | p :: r => by
    have ih := tupIs_pD r
    simp only [List.map_cons]
    unfold pD tupIs
    rw [show (List.map (fun p : IP => D.tup [.int p.1, .int p.2]) r) = r.map pD from rfl, ih]
    rfl
theorem eraseDups_nodup {α : Type} [BEq α] [LawfulBEq α] : ∀ (n : Nat) (l : List α), l.length ≤ n → l.eraseDups.Nodup
  | _, [], _ => by simp
  | 0, a :: r, h => by simp at h
  | n + 1, a :: r, h => by
    rw [List.eraseDups_cons, List.nodup_cons]
    refine ⟨?_, eraseDups_nodup n _ ?_⟩
    · rw [List.mem_eraseDups, List.mem_filter]
      rintro ⟨_, h⟩
      simp at h
    · have := List.length_filter_le (fun b => !b == a) r
      simp only [List.length_cons] at h
      omega
theorem srtSet_pD {ps : List IP} (hl : ps.length < 64) (hr : ∀ p ∈ ps, (0 ≤ p.1 ∧ p.1 < 64) ∧ 0 ≤ p.2 ∧ p.2 < 64) : op_srtSet [.lst (ps.map pD)] = .ok (1, .lst ((pSort (pDup ps)).map pD)) := by
  have key : ((ps.map toL).eraseDups.mergeSort codeLe).map (fun ms => D.tup (ms.map .int)) = (pSort (pDup ps)).map pD := by
    have hm : ∀ l, l ∈ (ps.map toL).eraseDups.mergeSort codeLe ↔ ∃ p ∈ ps, toL p = l := by
      intro l
      rw [List.mem_mergeSort, List.mem_eraseDups, List.mem_map]
    have hn : ((ps.map toL).eraseDups.mergeSort codeLe).Nodup := (List.mergeSort_perm _ _).nodup_iff.mpr (eraseDups_nodup _ _ (Nat.le_refl _))
    have hs : ((ps.map toL).eraseDups.mergeSort codeLe).Pairwise fun a b => codeLe a b = true := by
      refine List.pairwise_mergeSort ?_ ?_ _
      · intro a b c h h'
        simp only [codeLe, decide_eq_true_eq] at *
        omega
      · intro a b
        simp only [codeLe, Bool.or_eq_true, decide_eq_true_eq]
        omega
    generalize (ps.map toL).eraseDups.mergeSort codeLe = R at *
    have e1 : pSort (pDup ps) = R.map fromL := by
      refine SS_ext (SS_pSort (pDup_nodup _)) ?_ ?_
      · show List.Pairwise plt _
        rw [List.pairwise_map]
        refine List.Pairwise.imp_of_mem ?_ (hs.and hn)
        rintro a b ha hb ⟨h1, h2⟩
        obtain ⟨p, hp, rfl⟩ := (hm a).mp ha
        obtain ⟨q, hq, rfl⟩ := (hm b).mp hb
        have r1 := hr p hp
        have r2 := hr q hq
        have h3 : ¬ (p.1 = q.1 ∧ p.2 = q.2) := fun h => h2 (by unfold toL; rw [h.1, h.2])
        simp only [codeLe, decide_eq_true_eq, toL, TS.code, List.length_cons, List.length_nil] at h1
        show plt (p.1, p.2) (q.1, q.2)
        unfold plt
        simp only
        omega
      · intro p
        rw [mem_pSort, mem_pDup, List.mem_map]
        constructor
        · intro h
          exact ⟨toL p, (hm _).mpr ⟨p, h, rfl⟩, rfl⟩
        · rintro ⟨l, h, rfl⟩
          obtain ⟨q, hq, rfl⟩ := (hm l).mp h
          exact hq
    rw [e1, List.map_map]
    refine List.map_congr_left fun l h => ?_
    obtain ⟨q, hq, rfl⟩ := (hm l).mp h
    rfl
  unfold op_srtSet
  simp only [tupIs_pD]
  cases ps with
  | nil =>
    rw [← key]
    simp
  | cons p r =>
    rw [← key]
    simp only [List.map_cons]
    rw [if_pos]
    refine ⟨by simpa using hl, by simp [toL], ?_⟩
    rw [← List.map_cons, List.all_map, List.all_eq_true]
    intro q hq
    have := hr q hq
    simp [toL, bd64, this]
/-! ### the law's own deeds -/
def tI (l : List Int) : D := .tup (l.map D.int)
def hD (hs : List (List Int)) : D := .lst (hs.map tI)
def stepH (hs : List (List Int)) : Deed → List (List Int)
  | .cut _ _ => hs
  | .leave v => hs.eraseIdx v.toNat
  | .draw a b => (hs.set a.toNat (iSort (hs.getD a.toNat [] ++ hs.getD b.toNat []))).eraseIdx b.toNat
theorem cutU (xs : List D) {i : Int} (h0 : 0 ≤ i) (h1 : i ≤ xs.length) : cutD xs none (some i) = xs.take i.toNat := by
  unfold cutD
  have e1 : HT.sIx xs.length 0 none = 0 := rfl
  have e2 : HT.sIx xs.length xs.length (some i) = i.toNat := by
    simp only [HT.sIx]
    rw [if_neg (by omega)]
    omega
  rw [e1, e2]
  simp
theorem cutL (xs : List D) {i : Int} (h0 : 0 ≤ i) (h1 : i ≤ xs.length) : cutD xs (some i) none = xs.drop i.toNat := by
  unfold cutD
  have e1 : HT.sIx xs.length xs.length none = xs.length := rfl
  have e2 : HT.sIx xs.length 0 (some i) = i.toNat := by
    simp only [HT.sIx]
    rw [if_neg (by omega)]
    omega
  rw [e1, e2]
  rw [List.take_of_length_le]
  simp
theorem isIn_int (a x y : Int) : isInSeq (.int a) [.int x, .int y] = okB (decide (x = a ∨ y = a)) := by
  unfold isInSeq
  rw [if_pos ⟨shapedQ rfl (by simp [D.dp]), shapedQ rfl (by simp [D.dp, D.dps])⟩]
  simp only [List.any_cons, List.any_nil, D.py, PyData.eqv, Bool.or_false]
  by_cases h1 : x = a <;> by_cases h2 : y = a <;> simp [h1, h2, beq_eq_false_iff_ne.mpr]
theorem iSort2 (x y : Int) : (iSort [x, y]).map D.int = [.int (if x ≤ y then x else y), .int (if x ≤ y then y else x)] := by
  unfold iSort
  by_cases h : x ≤ y
  · rw [List.mergeSort_of_pairwise (by simp [h])]
    simp [h]
  · have h' : y ≤ x := by omega
    have : ([x, y].mergeSort fun a b => decide (a ≤ b)) = [y, x] := by
      have hp := List.mergeSort_perm [x, y] fun a b => decide (a ≤ b)
      have hs := List.pairwise_mergeSort (le := fun a b : Int => decide (a ≤ b)) (by intro a b c; simp; omega) (by intro a b; simp; omega) [x, y]
      refine List.Perm.eq_of_pairwise (le := fun a b : Int => a ≤ b) (fun a b _ _ h1 h2 => by omega) (hs.imp fun {a b} h => by simpa using h) (by simp [h']) (hp.trans (List.Perm.swap y x []))
    rw [this]
    simp [h]
/-- the edges of some pairs, one point out and the others lower -/
def lowE (es : List IP) (v : Int) : List IP := pSort (pDup ((es.filter fun e => decide (¬ (e.1 = v ∨ e.2 = v) ∧ e.1 ≠ e.2)).map fun e => mkE (rl v e.1) (rl v e.2)))
theorem SS_lowE (es : List IP) (v : Int) : SS (lowE es v) := SS_pSort (pDup_nodup _)
theorem mem_lowE {es : List IP} {v : Int} {p : IP} : p ∈ lowE es v ↔ ∃ e ∈ es, (e.1 ≠ v ∧ e.2 ≠ v ∧ e.1 ≠ e.2) ∧ mkE (rl v e.1) (rl v e.2) = p := by
  unfold lowE
  rw [mem_pSort, mem_pDup, List.mem_map]
  constructor
  · rintro ⟨e, he, h⟩
    obtain ⟨h1, h2⟩ := List.mem_filter.mp he
    simp only [decide_eq_true_eq, not_or] at h2
    exact ⟨e, h1, ⟨h2.1.1, h2.1.2, h2.2⟩, h⟩
  · rintro ⟨e, h1, h2, h⟩
    exact ⟨e, List.mem_filter.mpr ⟨h1, by simpa [not_or, and_assoc] using h2⟩, h⟩
theorem rl_inj {v x y : Int} (hx : x ≠ v) (hy : y ≠ v) : rl v x = rl v y ↔ x = y := by
  unfold rl
  split <;> split <;> omega
theorem low_leave {m k : Int} {es : List IP} {v : Int} : lowE es v = stepE es (.leave v) := by
  refine SS_ext (SS_lowE _ _) (SS_edgesOf _) fun p => ?_
  rw [mem_lowE]
  show _ ↔ p ∈ edgesOf _
  rw [mem_edgesOf]
  constructor
  · rintro ⟨e, he, h, rfl⟩
    exact ⟨_, List.mem_map.mpr ⟨e, List.mem_filter.mpr ⟨he, by simpa [rl_inj h.1 h.2.1] using h⟩, rfl⟩, rfl⟩
  · rintro ⟨q, hq, rfl⟩
    obtain ⟨e, he, rfl⟩ := List.mem_map.mp hq
    obtain ⟨h1, h2⟩ := List.mem_filter.mp he
    simp only [decide_eq_true_eq] at h2
    exact ⟨e, h1, ⟨h2.1, h2.2.1, fun q => h2.2.2 (by rw [q])⟩, rfl⟩
def subE (a b : Int) (e : IP) : IP := (if e.1 = b then a else e.1, if e.2 = b then a else e.2)
theorem low_draw {m k : Int} {es : List IP} (g : Gd m k es) {a b : Int} (h : (a, b) ∈ es) : lowE (es.map (subE a b)) b = stepE es (.draw a b) := by
  have r := g.rng _ h
  simp only at r
  have key : ∀ x, rl b (if x = b then a else x) = rd a b x := by
    intro x
    unfold rd rl
    by_cases e : x = b
    · simp [e]; omega
    · simp [e]
  have ne : ∀ x, (if x = b then a else x) ≠ b := by
    intro x
    by_cases e : x = b
    · simp [e]; omega
    · simp [e]
  refine SS_ext (SS_lowE _ _) (SS_edgesOf _) fun p => ?_
  rw [mem_lowE]
  show _ ↔ p ∈ edgesOf _
  rw [mem_edgesOf]
  constructor
  · rintro ⟨e', he', hh, rfl⟩
    obtain ⟨e, he, rfl⟩ := List.mem_map.mp he'
    refine ⟨_, List.mem_map.mpr ⟨e, List.mem_filter.mpr ⟨he, ?_⟩, rfl⟩, ?_⟩
    · simp only [decide_eq_true_eq, ← key]
      exact fun q => hh.2.2 ((rl_inj (ne _) (ne _)).mp q)
    · simp only [subE, key]
  · rintro ⟨q, hq, rfl⟩
    obtain ⟨e, he, rfl⟩ := List.mem_map.mp hq
    obtain ⟨h1, h2⟩ := List.mem_filter.mp he
    simp only [decide_eq_true_eq] at h2
    refine ⟨subE a b e, List.mem_map.mpr ⟨e, h1, rfl⟩, ⟨ne _, ne _, ?_⟩, ?_⟩
    · intro q
      simp only [subE] at q
      exact h2 (by rw [← key, ← key, q])
    · simp only [subE, key]
theorem low_cut (es : List IP) (a b : Int) : stepE es (.cut a b) = es.filter fun e => decide (e ≠ (a, b)) := rfl
/-- what is kept of a pair's turn -/
def keepP (v : Int) (d : D) : Bool := match d with | .tup [.int x, .int y] => decide (¬ (x = v ∨ y = v) ∧ x ≠ y) | _ => false
def lowP (v : Int) (d : D) : D := match d with | .tup [.int x, .int y] => pD (mkE (rl v x) (rl v y)) | _ => d
def subP (a b : Int) (d : D) : D := match d with | .tup [.int x, .int y] => .tup [.int (if x = b then a else x), .int (if y = b then a else y)] | _ => d
end
section
open PySem (Str PyData)
theorem srt2_spec (x y : Int) : op_srt [.lst [.int x, .int y]] = .ok (1, .lst [.int (if x ≤ y then x else y), .int (if x ≤ y then y else x)]) := by
  show sortR ([x, y].map D.int) = _
  rw [sortR_int _ (by simp), iSort2]
theorem mkE_le {x y : Int} : pD (mkE x y) = .tup [.int (if x ≤ y then x else y), .int (if x ≤ y then y else x)] := by
  unfold pD mkE
  by_cases h : x < y
  · have : x ≤ y := by omega
    simp [h, this]
  · by_cases e : x = y
    · subst e; simp
    · have : ¬ x ≤ y := by omega
      simp [h, this]
theorem compL_two {w : List Nat} {f : D → Env → Res (Option KD × Env)} {k kx ky : Nat} {ρ : Env} {x y x' y' : D} (hs : still w ρ ρ = true) (hx : f x ρ = .ok (some (kx, x'), ρ)) (hy : f y ρ = .ok (some (ky, y'), ρ)) (h1 : k ≤ kx + 1) (h2 : k ≤ ky + 1) :
    compL w f k [x, y] ρ = .ok ([x', y'], ρ) := by
  simp only [compL, hx, hy, Res.nox_ok, bind_ok, hs, if_true, h1, h2]
theorem eraseIdx_map' {α β : Type} (f : α → β) (l : List α) (i : Nat) : (l.map f).eraseIdx i = (l.eraseIdx i).map f := by
  rw [List.eraseIdx_eq_take_drop_succ, List.eraseIdx_eq_take_drop_succ, List.map_append, List.map_take, List.map_drop]
theorem rl_gt (v x : Int) (h : x ≠ v) : rl v x = if v < x then x - 1 else x := by
  unfold rl
  split <;> split <;> omega
theorem low_map (es : List IP) (v : Int) : List.map (lowP v) (List.filter (keepP v) (es.map pD)) = ((es.filter fun e => decide (¬ (e.1 = v ∨ e.2 = v) ∧ e.1 ≠ e.2)).map fun e => mkE (rl v e.1) (rl v e.2)).map pD := by
  rw [List.filter_map, List.map_map, List.map_map]
  rfl
theorem low_rng {es : List IP} {v : Int} (hv : 0 ≤ v) (hr : ∀ e ∈ es, (0 ≤ e.1 ∧ e.1 < 64) ∧ 0 ≤ e.2 ∧ e.2 < 64) :
    ∀ p ∈ (es.filter fun e => decide (¬ (e.1 = v ∨ e.2 = v) ∧ e.1 ≠ e.2)).map fun e => mkE (rl v e.1) (rl v e.2), (0 ≤ p.1 ∧ p.1 < 64) ∧ 0 ≤ p.2 ∧ p.2 < 64 := by
  intro p hp
  obtain ⟨e, he, rfl⟩ := List.mem_map.mp hp
  obtain ⟨h1, h2⟩ := List.mem_filter.mp he
  simp only [decide_eq_true_eq, not_or] at h2
  have r := hr e h1
  have rr : ∀ x, 0 ≤ x → x < 64 → x ≠ v → 0 ≤ rl v x ∧ rl v x < 64 := by
    intro x a b c
    unfold rl
    split <;> omega
  have r1 := rr e.1 r.1.1 r.1.2 h2.1.1
  have r2 := rr e.2 r.2.1 r.2.2 h2.1.2
  unfold mkE
  split
  · exact ⟨r1, r2⟩
  · exact ⟨r2, r1⟩
theorem law_done_cut (n : Nat) {es : List IP} {hs : List (List Int)} {a b : Int} (hl : es.length ≤ 400) : denF tab (n + 1) f__law_done [(0, hD hs), (0, .lst (es.map pD)), (0, (Deed.cut a b).d)] = .ok ((0, .tup [hD (stepH hs (.cut a b)), .lst ((stepE es (.cut a b)).map pD)]), [(0, .non), (0, .non), (0, .non)]) := by
  rw [denF_succ tab__law_done rfl, c__law_done]
  have e3 : cutD [D.str "cut", D.int a, D.int b] (some 1) none = [.int a, .int b] := cut1 _
  unfold hD Deed.d
  walk_at "sx"
  rw [compL_filter (p := fun d => match d with | .tup [.int x, .int y] => decide ((x, y) ≠ (a, b)) | _ => false) (by simp [still]) (by decide) _ ?a]
  case a =>
    intro x hx
    obtain ⟨⟨c, d⟩, he, rfl⟩ := List.mem_map.mp hx
    have e1 := eq_pD (c, d) (a, b)
    unfold pD at e1 ⊢
    clear hx he
    by_cases h : (c, d) = (a, b)
    · walk_at "sx"
    · walk_at "sx"
  have l1 : (List.filter (fun d => match d with | .tup [.int x, .int y] => decide ((x, y) ≠ (a, b)) | _ => false) (List.map pD es)) = (stepE es (.cut a b)).map pD := by
    rw [List.filter_map]
    rfl
  have l2 : ((stepE es (.cut a b)).map pD).length ≤ sizeL := sz_of (by
    rw [List.length_map]
    exact Nat.le_trans (List.length_filter_le _ _) (by omega))
  have l3 : stepH hs (.cut a b) = hs := rfl
  rw [l1, l3]
  clear l1 l3
  walk_at "sx"
theorem law_done_leave (n : Nat) {m k : Int} {es : List IP} {hs : List (List Int)} (hm : m ≤ 20) (g : Gd m k es) (hl : es.length ≤ 45) (hh : hs.length = k.toNat) {v : Int} (h0 : 0 ≤ v) (h1 : v < k) :
    denF tab (n + 1) f__law_done [(0, hD hs), (0, .lst (es.map pD)), (0, (Deed.leave v).d)] = .ok ((0, .tup [hD (stepH hs (.leave v)), .lst ((stepE es (.leave v)).map pD)]), [(0, .non), (0, .non), (0, .non)]) := by
  rw [denF_succ tab__law_done rfl, c__law_done]
  have q1 := ne_lc
  have q2 := ne_ld
  have hk := g.n1
  unfold hD Deed.d
  walk_at "sx"
  rw [compL_filter (p := keepP v) (by simp [still]) (by decide) _ ?a]
  case a =>
    intro x hx
    obtain ⟨⟨c, d⟩, he, rfl⟩ := List.mem_map.mp hx
    have e1 := isIn_int v c d
    unfold pD keepP
    clear hx he
    by_cases h : c = v ∨ d = v
    · walk_at "sx"
    · by_cases h' : c = d
      · subst h'
        walk_at "sx"
      · walk_at "sx"
  have l1 : (List.filter (keepP v) (List.map pD es)).length ≤ sizeL := sz_of (Nat.le_trans (List.length_filter_le _ _) (by simp; omega))
  walk_at "sx"
  rw [compL_map (fun _ => 0) (g := lowP v) (by simp [still]) _ ?b]
  case b =>
    intro x hx
    obtain ⟨hx1, hx2⟩ := List.mem_filter.mp hx
    obtain ⟨⟨c, d⟩, he, rfl⟩ := List.mem_map.mp hx1
    refine ⟨?_, by decide⟩
    have ne : ¬ (c = v ∨ d = v) ∧ c ≠ d := by
      have : decide (¬ (c = v ∨ d = v) ∧ c ≠ d) = true := hx2
      simpa using this
    have s2 := srt2_spec (rl v c) (rl v d)
    have ml := mkE_le (x := rl v c) (y := rl v d)
    show _ = Res.ok (some (0, pD (mkE (rl v c) (rl v d))), _)
    rw [ml]
    clear ml hx hx1 hx2 he l1
    unfold pD
    walk_at "sx"
    rw [compL_two (kx := 0) (ky := 0) (x' := .int (rl v c)) (y' := .int (rl v d)) (by simp [still]) ?u ?v (by decide) (by decide)]
    case u =>
      rw [rl_gt v c fun e => ne.1 (.inl e)]
      by_cases h : v < c
      · walk_at "sx"
      · walk_at "sx"
    case v =>
      rw [rl_gt v d fun e => ne.1 (.inr e)]
      by_cases h : v < d
      · walk_at "sx"
      · walk_at "sx"
    walk_at "sx"
  have e1 := low_map es v
  rw [e1]
  have l2 : (((es.filter fun e => decide (¬ (e.1 = v ∨ e.2 = v) ∧ e.1 ≠ e.2)).map fun e => mkE (rl v e.1) (rl v e.2)).map pD).length ≤ 45 := by
    rw [List.length_map, List.length_map]
    exact Nat.le_trans (List.length_filter_le _ _) hl
  have s1 := srtSet_pD (ps := (es.filter fun e => decide (¬ (e.1 = v ∨ e.2 = v) ∧ e.1 ≠ e.2)).map fun e => mkE (rl v e.1) (rl v e.2)) (by rw [List.length_map] at l2; omega) (low_rng h0 fun e he => by have := g.rng e he; omega)
  have e2 : lowE es v = stepE es (.leave v) := low_leave (m := m) (k := k)
  unfold lowE at e2
  rw [e2] at s1
  generalize ((es.filter fun e => decide (¬ (e.1 = v ∨ e.2 = v) ∧ e.1 ≠ e.2)).map fun e => mkE (rl v e.1) (rl v e.2)).map pD = ps at *
  have l2' : ps.length ≤ sizeL := sz_of (by omega)
  have c1 := cutU (hs.map tI) h0 (by simp; omega)
  have c2 := cutL (hs.map tI) (i := v + 1) (by omega) (by simp; omega)
  have e4 : (v + 1).toNat = v.toNat + 1 := by omega
  rw [e4] at c2
  have a1 := add_lst ((hs.map tI).take v.toNat) ((hs.map tI).drop (v.toNat + 1)) (by simp; omega)
  rw [← List.eraseIdx_eq_take_drop_succ, eraseIdx_map'] at a1
  have e3 : stepH hs (.leave v) = hs.eraseIdx v.toNat := rfl
  rw [← e3] at a1
  clear e1 e2 e3 e4 l2 hk
  walk_at "sx"
theorem law_done_draw (n : Nat) {m k : Int} {es : List IP} {hs : List (List Int)} (hm : m ≤ 20) (g : Gd m k es) (hl : es.length ≤ 45) (hh : hs.length = k.toNat) (hb : ∀ h ∈ hs, h.length ≤ 10000) {a b : Int} (hab : (a, b) ∈ es) :
    denF tab (n + 1) f__law_done [(0, hD hs), (0, .lst (es.map pD)), (0, (Deed.draw a b).d)] = .ok ((0, .tup [hD (stepH hs (.draw a b)), .lst ((stepE es (.draw a b)).map pD)]), [(0, .non), (0, .non), (0, .non)]) := by
  rw [denF_succ tab__law_done rfl, c__law_done]
  have q1 := ne_dc
  have q2 := ne_dl
  have hk := g.n1
  have r := g.rng _ hab
  simp only at r
  unfold hD Deed.d
  have i1 : hs[a.toNat]? = some (hs.getD a.toNat []) := by
    rw [List.getD_eq_getElem?_getD]
    rw [List.getElem?_eq_getElem (by omega)]; rfl
  have i2 : hs[b.toNat]? = some (hs.getD b.toNat []) := by
    rw [List.getD_eq_getElem?_getD]
    rw [List.getElem?_eq_getElem (by omega)]; rfl
  have at1 : L2.atI (hs.map tI) a = some (tI (hs.getD a.toNat [])) := by
    unfold L2.atI L2.ixN
    rw [if_pos r.1, List.length_map, if_pos (by omega)]
    show (hs.map tI)[a.toNat]? = _
    rw [List.getElem?_map, i1]; rfl
  have at2 : L2.atI (hs.map tI) b = some (tI (hs.getD b.toNat [])) := by
    unfold L2.atI L2.ixN
    rw [if_pos (by omega), List.length_map, if_pos (by omega)]
    show (hs.map tI)[b.toNat]? = _
    rw [List.getElem?_map, i2]; rfl
  have b1 : (hs.getD a.toNat []).length ≤ 10000 := hb _ (List.mem_of_getElem? i1)
  have b2 : (hs.getD b.toNat []).length ≤ 10000 := hb _ (List.mem_of_getElem? i2)
  have e0 : stepH hs (.draw a b) = (hs.set a.toNat (iSort (hs.getD a.toNat [] ++ hs.getD b.toNat []))).eraseIdx b.toNat := rfl
  rw [e0]
  generalize hs.getD a.toNat [] = ha at *
  generalize hs.getD b.toNat [] = hb' at *
  have ad : op_add [tI ha, tI hb'] = .ok (0, tI (ha ++ hb')) := by
    have e : op_add [tI ha, tI hb'] = if (ha.map D.int).length + (hb'.map D.int).length ≤ sizeL then .ok (0, .tup (ha.map D.int ++ hb'.map D.int)) else .bad := rfl
    rw [e, if_pos (sz_of (by simp; omega)), ← List.map_append]; rfl
  have st : op_srt [tI (ha ++ hb')] = .ok (1, .lst ((iSort (ha ++ hb')).map D.int)) := sortR_int (ha ++ hb') (by simp; omega)
  have e6 : D.tup ((iSort (ha ++ hb')).map D.int) = tI (iSort (ha ++ hb')) := rfl
  generalize iSort (ha ++ hb') = hc at *
  have c1 := cutU (hs.map tI) r.1 (by simp; omega)
  have c2 := cutL (hs.map tI) (i := a + 1) (by omega) (by simp; omega)
  have e4 : (a + 1).toNat = a.toNat + 1 := by omega
  rw [e4] at c2
  have a1 := add_lst ((hs.map tI).take a.toNat) [tI hc] (by simp; omega)
  have a2 := add_lst ((hs.map tI).take a.toNat ++ [tI hc]) ((hs.map tI).drop (a.toNat + 1)) (by simp; omega)
  have e5 : (hs.map tI).take a.toNat ++ [tI hc] ++ (hs.map tI).drop (a.toNat + 1) = (hs.set a.toNat hc).map tI := by
    rw [List.map_set, List.set_eq_take_append_cons_drop, if_pos (by simp; omega)]
    simp
  rw [e5] at a2
  clear e5 e4 e0 i1 i2 b1 b2 hk
  have hs2 : (hs.set a.toNat hc).length = k.toNat := by simp [hh]
  clear hb
  generalize hs.set a.toNat hc = hs' at *
  have r1 := r.1
  have r2 := r.2.1
  have r3 := r.2.2
  clear r
  walk_at "sx"
  rw [compL_map (fun _ => 0) (g := subP a b) (by simp [still]) _ ?c]
  case c =>
    intro x hx
    obtain ⟨⟨c, d⟩, he, rfl⟩ := List.mem_map.mp hx
    refine ⟨?_, by decide⟩
    unfold pD subP
    clear hx he a1 a2 c1 c2 ad st at1 at2 e6
    walk_at "sx"
    rw [compL_two (kx := 0) (ky := 0) (x' := .int (if c = b then a else c)) (y' := .int (if d = b then a else d)) (by simp [still]) ?u ?v (by decide) (by decide)]
    case u =>
      by_cases h : c = b
      · walk_at "sx"
      · walk_at "sx"
    case v =>
      by_cases h : d = b
      · walk_at "sx"
      · walk_at "sx"
    walk_at "sx"
  have e7 : (es.map pD).map (subP a b) = (es.map (subE a b)).map pD := by
    rw [List.map_map, List.map_map]; rfl
  rw [e7]
  have ld := low_draw g hab
  have hl' : (es.map (subE a b)).length ≤ 45 := by simpa using hl
  have hr' : ∀ e ∈ es.map (subE a b), (0 ≤ e.1 ∧ e.1 < 64) ∧ 0 ≤ e.2 ∧ e.2 < 64 := by
    intro e he
    obtain ⟨q, hq, rfl⟩ := List.mem_map.mp he
    have := g.rng q hq
    have := g.n1
    unfold subE
    simp only
    split <;> split <;> omega
  clear e7
  generalize es.map (subE a b) = es' at *
  have l0 : (es'.map pD).length ≤ sizeL := sz_of (by simp; omega)
  clear ad at1 at2 c1 c2 a1
  walk_at "sx"
  rw [compL_filter (p := keepP b) (by simp [still]) (by decide) _ ?a]
  case a =>
    intro x hx
    obtain ⟨⟨c, d⟩, he, rfl⟩ := List.mem_map.mp hx
    have e1 := isIn_int b c d
    unfold pD keepP
    clear hx he a2 st e6
    by_cases h : c = b ∨ d = b
    · walk_at "sx"
    · by_cases h' : c = d
      · subst h'
        walk_at "sx"
      · walk_at "sx"
  have l1 : (List.filter (keepP b) (List.map pD es')).length ≤ sizeL := sz_of (Nat.le_trans (List.length_filter_le _ _) (by simp; omega))
  walk_at "sx"
  rw [compL_map (fun _ => 0) (g := lowP b) (by simp [still]) _ ?b]
  case b =>
    intro x hx
    obtain ⟨hx1, hx2⟩ := List.mem_filter.mp hx
    obtain ⟨⟨c, d⟩, he, rfl⟩ := List.mem_map.mp hx1
    refine ⟨?_, by decide⟩
    have ne : ¬ (c = b ∨ d = b) ∧ c ≠ d := by
      have : decide (¬ (c = b ∨ d = b) ∧ c ≠ d) = true := hx2
      simpa using this
    have s2 := srt2_spec (rl b c) (rl b d)
    have ml := mkE_le (x := rl b c) (y := rl b d)
    show _ = Res.ok (some (0, pD (mkE (rl b c) (rl b d))), _)
    rw [ml]
    clear ml hx hx1 hx2 he l1 a2 st e6
    unfold pD
    walk_at "sx"
    rw [compL_two (kx := 0) (ky := 0) (x' := .int (rl b c)) (y' := .int (rl b d)) (by simp [still]) ?u ?v (by decide) (by decide)]
    case u =>
      rw [rl_gt b c fun e => ne.1 (.inl e)]
      by_cases h : b < c
      · walk_at "sx"
      · walk_at "sx"
    case v =>
      rw [rl_gt b d fun e => ne.1 (.inr e)]
      by_cases h : b < d
      · walk_at "sx"
      · walk_at "sx"
    walk_at "sx"
  have e1 := low_map es' b
  rw [e1]
  have l2 : (((es'.filter fun e => decide (¬ (e.1 = b ∨ e.2 = b) ∧ e.1 ≠ e.2)).map fun e => mkE (rl b e.1) (rl b e.2)).map pD).length ≤ 45 := by
    rw [List.length_map, List.length_map]
    exact Nat.le_trans (List.length_filter_le _ _) hl'
  have s1 := srtSet_pD (ps := (es'.filter fun e => decide (¬ (e.1 = b ∨ e.2 = b) ∧ e.1 ≠ e.2)).map fun e => mkE (rl b e.1) (rl b e.2)) (by rw [List.length_map] at l2; omega) (low_rng (by omega) hr')
  unfold lowE at ld
  rw [ld] at s1
  generalize ((es'.filter fun e => decide (¬ (e.1 = b ∨ e.2 = b) ∧ e.1 ≠ e.2)).map fun e => mkE (rl b e.1) (rl b e.2)).map pD = ps at *
  have l2' : ps.length ≤ sizeL := sz_of (by omega)
  have c1 := cutU (hs'.map tI) (i := b) (by omega) (by simp; omega)
  have c2 := cutL (hs'.map tI) (i := b + 1) (by omega) (by simp; omega)
  have e4 : (b + 1).toNat = b.toNat + 1 := by omega
  rw [e4] at c2
  have a1 := add_lst ((hs'.map tI).take b.toNat) ((hs'.map tI).drop (b.toNat + 1)) (by have := g.n1; simp; omega)
  rw [← List.eraseIdx_eq_take_drop_succ, eraseIdx_map'] at a1
  clear e1 ld e4 l2 a2 st e6
  walk_at "sx"
end
section
open PySem (Str PyData)
theorem bind_of {α β : Type} {x : Res α} {a : α} {k : α → Res β} {r : Res β} (h : x = .ok a) (h2 : k a = r) : x.bind k = r := by rw [h]; exact h2
/-- it ends well, with what P says -/
def OkP {α : Type} (x : Res α) (P : α → Prop) : Prop := ∃ a, x = .ok a ∧ P a
theorem OkP_lazy {α : Type} {x x' : Res α} {P : α → Prop} (h : x = x') : OkP x P = OkP x' P := h ▸ rfl
theorem OkP.eq {α : Type} {x : Res α} {a : α} (h : OkP x fun b => b = a) : x = .ok a := by
  obtain ⟨b, e, rfl⟩ := h
  exact e
theorem OkP.ret {α : Type} {a : α} {P : α → Prop} (h : P a) : OkP (.ok a) P := ⟨a, rfl, h⟩
theorem OkP.step {α β : Type} {x : Res α} {a : α} {k : α → Res β} {P : β → Prop} (h : x = .ok a) (h2 : OkP (k a) P) : OkP (x.bind k) P := by
  rw [h]; exact h2
theorem OkP.bind {α β : Type} {x : Res α} {Q : α → Prop} {k : α → Res β} {P : β → Prop} (h : OkP x Q) (h2 : ∀ a, Q a → OkP (k a) P) : OkP (x.bind k) P := by
  obtain ⟨a, e, q⟩ := h
  rw [e]; exact h2 a q
/-- a for over told things, by what holds ahead of each turn -/
theorem forL_map {α β : Type} {w : List Nat} {f : D → Env → Res (Fl × Env)} {k : Fl × Env → Res β} {P : β → Prop} (g : α → D) (row : List α) (I : Nat → Env → Prop) {ρ : Env} (h0 : I 0 ρ)
    (step : ∀ (i : Nat) (h : i < row.length) (ρ : Env), I i ρ → OkP (f (g row[i]) ρ) fun q => (q.1 = .nx ∨ q.1 = .cnt) ∧ still w ρ q.2 = true ∧ I (i + 1) q.2)
    (hend : ∀ ρ', I row.length ρ' → OkP (k (.nx, ρ')) P) : OkP ((forL w f (row.map g) ρ).bind k) P := by
  have key : ∀ (n i : Nat) (ρ : Env), n = row.length - i → i ≤ row.length → I i ρ → ∃ ρ', forL w f ((row.drop i).map g) ρ = .ok (.nx, ρ') ∧ I row.length ρ' := by
    intro n
    induction n with
    | zero =>
      intro i ρ hn hi hI
      have : i = row.length := by omega
      subst this
      rw [List.drop_length]
      exact ⟨ρ, rfl, hI⟩
    | succ n ih =>
      intro i ρ hn hi hI
      have hlt : i < row.length := by omega
      obtain ⟨⟨c, ρ1⟩, e, hc, hs, hI'⟩ := step i hlt ρ hI
      obtain ⟨ρ2, e2, h2⟩ := ih (i + 1) ρ1 (by omega) (by omega) hI'
      refine ⟨ρ2, ?_, h2⟩
      rw [List.drop_eq_getElem_cons hlt, List.map_cons]
      unfold forL
      rw [e]
      simp only at hc hs
      rcases hc with rfl | rfl <;> simp only [bind_ok, hs, if_true, e2]
  obtain ⟨ρ', e, h⟩ := key _ 0 ρ rfl (Nat.zero_le _) h0
  rw [List.drop_zero] at e
  exact OkP.step e (hend ρ' h)
theorem tabl_int (n : Int) : tabl n D.int = (List.range n.toNat).map fun k => D.int ((k : Nat) : Int) := rfl
/-! ### houses -/
def lI (l : List Int) : D := .lst (l.map D.int)
def hL (hs : List (List Int)) : D := .lst (hs.map lI)
/-- which of the first i points become j -/
def hits (num : Int → D) (i : Nat) (j : Int) : List Nat := (List.range i).filter fun t => decide (num ((t : Nat) : Int) = .int j)
def coll (num : Int → D) (hs : List (List Int)) (i : Nat) (j : Int) : List Int := (hits num i j).flatMap fun t => hs.getD t []
theorem hits_succ (num : Int → D) (i : Nat) (j : Int) : hits num (i + 1) j = hits num i j ++ if num ((i : Nat) : Int) = .int j then [i] else [] := by
  unfold hits
  rw [List.range_succ, List.filter_append]
  congr 1
  by_cases h : num ((i : Nat) : Int) = .int j <;> simp [h]
theorem coll_len {num : Int → D} {hs : List (List Int)} {B : Nat} (hb : ∀ h ∈ hs, h.length ≤ B) (i : Nat) (j : Int) : (coll num hs i j).length ≤ i * B := by
  have h1 : (hits num i j).length ≤ i := by
    unfold hits
    exact Nat.le_trans (List.length_filter_le _ _) (by simp)
  have h2 : ∀ l : List Nat, (l.flatMap fun t => hs.getD t []).length ≤ l.length * B := by
    intro l
    induction l with
    | nil => simp
    | cons t r ih =>
      rw [List.flatMap_cons, List.length_append, List.length_cons, Nat.succ_mul]
      have : (hs.getD t []).length ≤ B := by
        rw [List.getD_eq_getElem?_getD]
        cases e : hs[t]? with
        | none => simp
        | some x => exact hb x (List.mem_of_getElem? e)
      omega
  exact Nat.le_trans (h2 _) (Nat.mul_le_mul_right _ h1)
/-- what the dict holds behind i points -/
structure MadeOk (num : Int → D) (hs : List (List Int)) (i : Nat) (made : List (D × D)) : Prop where
  flat : made.all (fun p => p.1.flat) = true
  len : made.length ≤ i
  get : ∀ j : Int, kget made (.int j) = if hits num i j = [] then none else some (lI (coll num hs i j))
theorem MadeOk.step {num : Int → D} {hs : List (List Int)} {i : Nat} {made : List (D × D)} (m : MadeOk num hs i made) {j : Int} (h : num ((i : Nat) : Int) = .int j) :
    MadeOk num hs (i + 1) (kput made (.int j) (lI (coll num hs i j ++ hs.getD i []))) := by
  refine ⟨?_, ?_, fun j' => ?_⟩
  · have h2 : ∀ l : List (D × D), l.all (fun p => p.1.flat) = (l.map (·.1)).all D.flat := by intro l; rw [List.all_map]; rfl
    rw [h2, kput_keys]
    have := m.flat
    rw [h2] at this
    split
    · exact this
    · rw [List.all_append, this]; rfl
  · have := kput_len made (.int j) (lI (coll num hs i j ++ hs.getD i []))
    have := m.len
    omega
  · rw [kget_kput, hits_succ]
    unfold coll
    rw [hits_succ, h]
    by_cases e : j = j'
    · subst e
      simp
    · have : ¬ D.int j = D.int j' := fun q => e (by injection q)
      have e2 : ¬ (D.int j = D.int j') := this
      simp only [e2, if_false, List.append_nil]
      exact m.get j'
theorem MadeOk.skip {num : Int → D} {hs : List (List Int)} {i : Nat} {made : List (D × D)} (m : MadeOk num hs i made) (h : num ((i : Nat) : Int) = .non) : MadeOk num hs (i + 1) made := by
  refine ⟨m.flat, by have := m.len; omega, fun j' => ?_⟩
  unfold coll
  rw [hits_succ, h]
  have e2 : ¬ (D.non = D.int j') := fun q => by cases q
  simp only [e2, if_false, List.append_nil]
  exact m.get j'
theorem filter_one {p : Nat → Bool} {n t : Nat} (ht : t < n) (h : ∀ x, x < n → (p x = true ↔ x = t)) : (List.range n).filter p = [t] := by
  induction n with
  | zero => omega
  | succ n ih =>
    rw [List.range_succ, List.filter_append]
    by_cases e : t = n
    · subst e
      have h1 : (List.range t).filter p = [] := by
        rw [List.filter_eq_nil_iff]
        intro x hx
        have := List.mem_range.mp hx
        rw [h x (by omega)]
        omega
      have h2 : p t = true := (h t (by omega)).mpr rfl
      simp [h1, h2]
    · have h2 : p n = false := by
        have := h n (by omega)
        cases hh : p n with
        | false => rfl
        | true => exact absurd (this.mp hh) (by omega)
      rw [ih (by omega) fun x hx => h x (by omega)]
      simp [h2]
theorem filter_two {p : Nat → Bool} {n a b : Nat} (hab : a < b) (hb : b < n) (h : ∀ x, x < n → (p x = true ↔ x = a ∨ x = b)) : (List.range n).filter p = [a, b] := by
  induction n with
  | zero => omega
  | succ n ih =>
    rw [List.range_succ, List.filter_append]
    by_cases e : b = n
    · subst e
      have h1 : (List.range b).filter p = [a] := filter_one hab fun x hx => by
        rw [h x (by omega)]
        omega
      have h2 : p b = true := (h b (by omega)).mpr (.inr rfl)
      simp [h1, h2]
    · have h2 : p n = false := by
        have := h n (by omega)
        cases hh : p n with
        | false => rfl
        | true => exact absurd (this.mp hh) (by omega)
      rw [ih (by omega) fun x hx => h x (by omega)]
      simp [h2]
/-- houses: as many as points, each rising, none too long -/
structure Hs (k : Int) (B : Nat) (hs : List (List Int)) : Prop where
  len : hs.length = k.toNat
  bd : ∀ h ∈ hs, h.length ≤ B
  srt : ∀ h ∈ hs, iSort h = h
  rng : ∀ h ∈ hs, ∀ x ∈ h, 0 ≤ x ∧ x < 64
theorem iSort_iSort (l : List Int) : iSort (iSort l) = iSort l := by
  unfold iSort
  refine List.mergeSort_of_pairwise ?_
  exact List.pairwise_mergeSort (by intro a b c; simp; omega) (by intro a b; simp; omega) l
theorem iSort_len (l : List Int) : (iSort l).length = l.length := (List.mergeSort_perm l _).length_eq
theorem mem_iSort {l : List Int} {x : Int} : x ∈ iSort l ↔ x ∈ l := (List.mergeSort_perm l _).mem_iff
/-- what each new point is made of -/
theorem coll_step {m k : Int} {es : List IP} (g : Gd m k es) {hs : List (List Int)} {B : Nat} (H : Hs k B hs) {d : Deed} (hd : d.ok k es) {j : Nat} (hj : j < (stepN k d).toNat) :
    hits d.num k.toNat j ≠ [] ∧ (stepH hs d)[j]? = some (iSort (coll d.num hs k.toNat j)) := by
  have gt : ∀ t, t < k.toNat → hs[t]? = some (hs.getD t []) := by
    intro t ht
    rw [List.getD_eq_getElem?_getD, List.getElem?_eq_getElem (by rw [H.len]; exact ht)]
    rfl
  have st : ∀ t, t < k.toNat → iSort (hs.getD t []) = hs.getD t [] := fun t ht => H.srt _ (List.mem_of_getElem? (gt t ht))
  cases d with
  | cut a b =>
    have hj' : j < k.toNat := hj
    have e : hits (Deed.num (.cut a b)) k.toNat j = [j] := filter_one hj' fun x hx => by simp [Deed.num]; omega
    rw [e]
    refine ⟨by simp, ?_⟩
    unfold coll
    rw [e]
    simp only [List.flatMap_cons, List.flatMap_nil, List.append_nil]
    rw [st j hj']
    exact gt j hj'
  | leave v =>
    obtain ⟨h0, h1⟩ : 0 ≤ v ∧ v < k := hd
    have hj' : j < (k - 1).toNat := hj
    have e : hits (Deed.num (.leave v)) k.toNat j = [if (j : Int) < v then j else j + 1] := by
      refine filter_one (by split <;> omega) fun x hx => ?_
      rw [decide_eq_true_eq]
      simp only [Deed.num]
      unfold rl
      by_cases e1 : (x : Int) = v
      · rw [if_pos e1]
        constructor
        · intro q; cases q
        · intro q; exfalso; split at q <;> omega
      · rw [if_neg e1, D.int.injEq]
        split <;> split <;> omega
    rw [e]
    refine ⟨by simp, ?_⟩
    unfold coll
    rw [e]
    simp only [List.flatMap_cons, List.flatMap_nil, List.append_nil]
    show (hs.eraseIdx v.toNat)[j]? = _
    rw [List.getElem?_eraseIdx]
    by_cases h : (j : Int) < v
    · rw [if_pos (by omega), if_pos h, st j (by omega)]
      exact gt j (by omega)
    · rw [if_neg (by omega), if_neg h, st (j + 1) (by omega)]
      exact gt (j + 1) (by omega)
  | draw a b =>
    have r := g.rng _ hd
    simp only at r
    obtain ⟨r1, r2, r3⟩ := r
    have hj' : j < (k - 1).toNat := hj
    show _ ∧ ((hs.set a.toNat (iSort (hs.getD a.toNat [] ++ hs.getD b.toNat []))).eraseIdx b.toNat)[j]? = _
    rw [List.getElem?_eraseIdx, List.getElem?_set, List.getElem?_set]
    by_cases ea : (j : Int) = a
    · have e : hits (Deed.num (.draw a b)) k.toNat j = [a.toNat, b.toNat] := by
        refine filter_two (by omega) (by omega) fun x hx => ?_
        simp only [Deed.num, decide_eq_true_eq, D.int.injEq]
        unfold rd rl
        split
        · omega
        · split <;> omega
      rw [e]
      refine ⟨by simp, ?_⟩
      unfold coll
      rw [e]
      simp only [List.flatMap_cons, List.flatMap_nil, List.append_nil]
      rw [if_pos (by omega), if_pos (by omega), if_pos (by rw [H.len]; omega)]
    · have e : hits (Deed.num (.draw a b)) k.toNat j = [if (j : Int) < b then j else j + 1] := by
        refine filter_one (by split <;> omega) fun x hx => ?_
        simp only [Deed.num, decide_eq_true_eq, D.int.injEq]
        unfold rd rl
        split
        · split <;> omega
        · split <;> split <;> omega
      rw [e]
      refine ⟨by simp, ?_⟩
      unfold coll
      rw [e]
      simp only [List.flatMap_cons, List.flatMap_nil, List.append_nil]
      by_cases h : (j : Int) < b
      · rw [if_pos (by omega), if_pos h, if_neg (by omega), st j (by omega)]
        exact gt j (by omega)
      · rw [if_neg (by omega), if_neg h, if_neg (by omega), st (j + 1) (by omega)]
        exact gt (j + 1) (by omega)
theorem stepH_len {m k : Int} {es : List IP} (g : Gd m k es) {hs : List (List Int)} {B : Nat} (H : Hs k B hs) {d : Deed} (hd : d.ok k es) : (stepH hs d).length = (stepN k d).toNat := by
  have hl := H.len
  cases d with
  | cut a b => exact hl
  | leave v =>
    obtain ⟨h0, h1⟩ : 0 ≤ v ∧ v < k := hd
    show (hs.eraseIdx v.toNat).length = (k - 1).toNat
    rw [List.length_eraseIdx, if_pos (by omega)]
    omega
  | draw a b =>
    have r := g.rng _ hd
    simp only at r
    show ((hs.set _ _).eraseIdx b.toNat).length = (k - 1).toNat
    rw [List.length_eraseIdx, List.length_set, if_pos (by omega)]
    omega
theorem Hs.step {m k : Int} {es : List IP} (g : Gd m k es) {hs : List (List Int)} {B : Nat} (H : Hs k B hs) {d : Deed} (hd : d.ok k es) : Hs (stepN k d) (2 * B) (stepH hs d) := by
  have key : ∀ h ∈ stepH hs d, ∃ l : List Int, h = iSort l ∧ l.length ≤ 2 * B ∧ ∀ x ∈ l, 0 ≤ x ∧ x < 64 := by
    have one : ∀ h ∈ hs, ∃ l : List Int, h = iSort l ∧ l.length ≤ 2 * B ∧ ∀ x ∈ l, 0 ≤ x ∧ x < 64 := fun h hh => ⟨h, (H.srt h hh).symm, by have := H.bd h hh; omega, H.rng h hh⟩
    intro h hh
    cases d with
    | cut a b => exact one h hh
    | leave v => exact one h (List.mem_of_mem_eraseIdx hh)
    | draw a b =>
      have h2 := List.mem_of_mem_eraseIdx hh
      rcases List.mem_or_eq_of_mem_set h2 with h3 | h3
      · exact one h h3
      · have gd : ∀ t, (hs.getD t []).length ≤ B ∧ ∀ x ∈ hs.getD t [], 0 ≤ x ∧ x < 64 := by
          intro t
          rw [List.getD_eq_getElem?_getD]
          cases e : hs[t]? with
          | none => simp
          | some x => exact ⟨H.bd x (List.mem_of_getElem? e), H.rng x (List.mem_of_getElem? e)⟩
        refine ⟨_, h3, ?_, ?_⟩
        · have h4 := (gd a.toNat).1
          have h5 := (gd b.toNat).1
          rw [List.length_append]
          omega
        · intro x hx
          rcases List.mem_append.mp hx with hx | hx
          · exact (gd _).2 x hx
          · exact (gd _).2 x hx
  refine ⟨stepH_len g H hd, fun h hh => ?_, fun h hh => ?_, fun h hh => ?_⟩
  · obtain ⟨l, rfl, h1, h2⟩ := key h hh
    rw [iSort_len]; exact h1
  · obtain ⟨l, rfl, h1, h2⟩ := key h hh
    exact iSort_iSort l
  · obtain ⟨l, rfl, h1, h2⟩ := key h hh
    intro x hx
    exact h2 x (mem_iSort.mp hx)
end
section
open PySem (Str PyData)
abbrev GH := Int × List IP × List (List Int)
def stepG (s : GH) (d : Deed) : GH := (stepN s.1 d, stepE s.2.1 d, stepH s.2.2 d)
def runD (s : GH) (row : List Deed) : GH := row.foldl stepG s
def RowOk (s : GH) (row : List Deed) : Prop := ∀ (i : Nat) (h : i < row.length), (row[i]).ok (runD s (row.take i)).1 (runD s (row.take i)).2.1
theorem runD_succ {s : GH} {row : List Deed} {i : Nat} (h : i < row.length) : runD s (row.take (i + 1)) = stepG (runD s (row.take i)) row[i] := by
  rw [List.take_succ_eq_append_getElem h]
  unfold runD
  rw [List.foldl_append]
  rfl
theorem run_ok {m : Int} {s : GH} {row : List Deed} {B : Nat} (g : Gd m s.1 s.2.1) (H : Hs s.1 B s.2.2) (ho : RowOk s row) : ∀ i, i ≤ row.length → Gd m (runD s (row.take i)).1 (runD s (row.take i)).2.1 ∧ Hs (runD s (row.take i)).1 (2 ^ i * B) (runD s (row.take i)).2.2 ∧ (runD s (row.take i)).2.1.length ≤ s.2.1.length
  | 0, _ => by
    rw [List.take_zero]
    refine ⟨g, ?_, Nat.le_refl _⟩
    rw [Nat.pow_zero, Nat.one_mul]
    exact H
  | i + 1, h => by
    obtain ⟨g', H', l'⟩ := run_ok g H ho i (by omega)
    rw [runD_succ (by omega)]
    have hd := ho i (by omega)
    refine ⟨g'.step hd, ?_, Nat.le_trans (stepE_len _) l'⟩
    have := H'.step g' hd
    rw [Nat.pow_succ, Nat.mul_comm (2 ^ i) 2, Nat.mul_assoc]
    exact this
theorem enm_tabl (n : Int) (g : Int → D) : (tabl n g).zipIdx.map (fun p => D.tup [.int (p.2 : Nat), p.1]) = (List.range n.toNat).map fun t => D.tup [.int ((t : Nat) : Int), g ((t : Nat) : Int)] := by
  refine List.ext_getElem? fun t => ?_
  rw [List.getElem?_map, List.getElem?_map, List.getElem?_zipIdx]
  by_cases h : t < n.toNat
  · rw [get_tabl h, List.getElem?_range h]
    simp
  · rw [List.getElem?_eq_none (by rw [tabl_len]; omega), List.getElem?_eq_none (by simp; omega)]
    rfl
theorem srt_lI (l : List Int) (h : l.length ≤ 1000000) : op_srt [lI l] = .ok (1, lI (iSort l)) := sortR_int l h
theorem add_lI (a b : List Int) (h : a.length + b.length ≤ 1000000) : op_add [lI a, lI b] = .ok (1, lI (a ++ b)) := by
  have e : op_add [lI a, lI b] = if (a.map D.int).length + (b.map D.int).length ≤ sizeL then .ok (1, .lst (a.map D.int ++ b.map D.int)) else .bad := rfl
  rw [e, if_pos (sz_of (by simp; omega)), ← List.map_append]; rfl
theorem getD_len {hs : List (List Int)} {B : Nat} (hb : ∀ h ∈ hs, h.length ≤ B) (t : Nat) : (hs.getD t []).length ≤ B := by
  rw [List.getD_eq_getElem?_getD]
  cases e : hs[t]? with
  | none => simp
  | some x => exact hb x (List.mem_of_getElem? e)
theorem ix_hL {hs : List (List Int)} {t : Nat} (h : t < hs.length) : op_ix [hL hs, .int ((t : Nat) : Int)] = .ok (0, lI (hs.getD t [])) := by
  have : L2.atI (hs.map lI) ((t : Nat) : Int) = some (lI (hs.getD t [])) := by
    unfold L2.atI L2.ixN
    rw [if_pos (by omega), List.length_map, if_pos (by omega)]
    show (hs.map lI)[((t : Nat) : Int).toNat]? = _
    rw [List.getElem?_map, Int.toNat_natCast, List.getD_eq_getElem?_getD, List.getElem?_eq_getElem h]; rfl
  show (match L2.atI (hs.map lI) ((t : Nat) : Int) with | some d => Res.ok (0, d) | none => .bad) = _
  rw [this]
theorem ix_g0 (k : Int) (es : List IP) : op_ix [gD k es, .int 0] = .ok (0, .int k) := rfl
theorem ix_g1 (k : Int) (es : List IP) : op_ix [gD k es, .int 1] = .ok (0, .tup (es.map pD)) := rfl
/-- the places of traced_in, ahead of a turn -/
def trI (rowD : List D) (s : GH) (ρ : Env) : Prop := ∃ s3 s4 s5 s6 s7, ρ = [some (0, gD s.1 s.2.1), some (0, .tup rowD), some (1, hL s.2.2), s3, s4, s5, s6, s7]
theorem traced_in_spec (n : Nat) {m : Int} {s : GH} (hm : m ≤ 20) (g : Gd m s.1 s.2.1) (hs0 : s.2.2 = tabl s.1 fun i => [i]) {row : List Deed} (hl : row.length ≤ 12) (ho : RowOk s row) :
    denF tab (n + 4) f_traced_in [(0, gD s.1 s.2.1), (0, .tup (row.map Deed.d))] = .ok ((0, .tup [gD (runD s row).1 (runD s row).2.1, hL (runD s row).2.2]), [(0, .non), (0, .non)]) := by
  rw [denF_succ tab_traced_in rfl, c_traced_in]
  have hk0 := g.n0
  have hk1 := g.n1
  have H : Hs s.1 1 s.2.2 := by
    rw [hs0]
    refine ⟨tabl_len _ _, ?_, ?_, ?_⟩
    · intro h hh
      obtain ⟨i, _, _, rfl⟩ := mem_tabl.mp hh
      exact Nat.le_refl _
    · intro h hh
      obtain ⟨i, _, _, rfl⟩ := mem_tabl.mp hh
      unfold iSort
      simp
    · intro h hh
      obtain ⟨i, _, _, rfl⟩ := mem_tabl.mp hh
      intro x hx
      simp only [List.mem_cons, List.not_mem_nil, or_false] at hx
      subst hx
      exact ⟨by omega, by omega⟩
  have all := run_ok g H ho
  have x0 := ix_g0 s.1 s.2.1
  have r1 := rng1_ok (n := s.1) (by omega) (by omega)
  have lt : (tabl s.1 D.int).length ≤ 400 := by rw [tabl_len]; omega
  clear hk0 hk1
  walk_at "sa"
  refine bind_of (compL_map (fun _ => 1) (g := fun x => .lst [x]) (by simp [still]) _ ?a) ?_
  case a =>
    intro x hx
    refine ⟨?_, by decide⟩
    clear hx x0 r1 all lt
    walk_at "sx"
  have e1 : (tabl s.1 D.int).map (fun x => D.lst [x]) = s.2.2.map lI := by
    rw [hs0, tabl_map, tabl_map]; rfl
  have l1 : (s.2.2.map lI).length ≤ sizeL := sz_of (by rw [← e1, List.length_map]; omega)
  rw [e1]
  have e2 : D.lst (s.2.2.map lI) = hL s.2.2 := rfl
  clear e1 lt x0 r1 hs0
  refine OkP.eq ?_
  have keep := all
  clear all
  walk_at "sa"
  clear e2 l1
  refine forL_map Deed.d row (fun i ρ => trI (row.map Deed.d) (runD s (row.take i)) ρ) ⟨_, _, _, _, _, rfl⟩ ?step ?fin
  case fin =>
    intro ρ' hI
    rw [List.take_length] at hI
    obtain ⟨s3, s4, s5, s6, s7, rfl⟩ := hI
    generalize gD (runD s row).1 (runD s row).2.1 = G
    generalize hL (runD s row).2.2 = Hh
    clear keep ho
    walk_at "sa"
    exact OkP.ret rfl
  case step =>
    intro i hi ρ hI
    obtain ⟨s3, s4, s5, s6, s7, rfl⟩ := hI
    obtain ⟨g1, H1, _⟩ := keep i (by omega)
    have hd := ho i hi
    rw [runD_succ hi]
    have pw : 2 ^ i * 1 ≤ 4096 := by
      rw [Nat.mul_one]
      exact Nat.pow_le_pow_right (by decide) (by omega : i ≤ 12)
    generalize runD s (row.take i) = s' at *
    generalize row[i] = d at *
    obtain ⟨k, es, hs⟩ := s'
    simp only at g1 H1 hd
    have nm := numbers_spec (n + 2) hm g1 hd
    have dn := done_in_spec n hm g1 hd
    have hk0 := g1.n0
    have hk1 := g1.n1
    have g2 := g1.step hd
    have hk2 := g2.n0
    have hk3 := g2.n1
    have cs := fun j hj => coll_step g1 H1 hd (j := j) hj
    have sl := stepH_len g1 H1 hd
    have nk := num_kind d
    unfold stepG
    simp only
    have hlen := H1.len
    have hbd := H1.bd
    clear keep ho g hi H g2 H1
    generalize row.map Deed.d = rowD
    generalize hP : (fun q : Fl × Env => (q.1 = Fl.nx ∨ q.1 = Fl.cnt) ∧ still [1] [some (0, gD k es), some (0, .tup rowD), some (1, hL hs), s3, s4, s5, s6, s7] q.2 = true ∧ trI rowD (stepN k d, stepE es d, stepH hs d) q.2) = P
    have en := enm_tabl k d.num
    have cb := fun i j => coll_len (num := d.num) hbd i j
    have hgd := fun t => getD_len hbd t
    generalize stepE es d = es' at *
    generalize stepH hs d = hs' at *
    generalize stepN k d = k' at *
    generalize Deed.num d = num at *
    clear hd g1
    have a0 : Unit := ()
    have keep := And.intro cs (And.intro sl (And.intro cb (And.intro hgd (And.intro nk (And.intro hbd (And.intro pw ‹_›))))))
    clear cs sl cb hgd nk hbd pw
    walk_at "sa"
    refine forL_map (fun t => D.tup [.int ((t : Nat) : Int), num ((t : Nat) : Int)]) (List.range k.toNat) (fun t ρ => ∃ made s4 s7, MadeOk num hs t made ∧ ρ = [some (0, gD k es), some (0, .tup rowD), some (1, hL hs), some (0, d.d), s4, some (1, .lst (tabl k num)), some (1, .dct made), s7]) ⟨[], _, _, ⟨rfl, Nat.le_refl _, fun j => rfl⟩, rfl⟩ ?st2 ?fin2
    case st2 =>
      intro t ht ρ hI
      obtain ⟨made, s4, s7, mo, rfl⟩ := hI
      obtain ⟨cs, sl, cb, hgd, nk, hbd, pw, _⟩ := keep
      rw [List.length_range] at ht
      rw [List.getElem_range]
      have fl : ∀ j, kOk made (.int j) = true := fun j => by
        have : kOk made (.int j) = (made.all fun p => p.1.flat) := Bool.true_and _
        rw [this]; exact mo.flat
      have lm : made.length < sizeL := szlt_of (by have := mo.len; omega)
      have fl0 := mo.flat
      have ix := ix_hL (hs := hs) (t := t) (by omega)
      rcases nk t with ⟨j, hj⟩ | hj
      · have mo' := mo.step hj
        have gt : (kget made (.int j)).getD (.lst []) = lI (coll num hs t j) := by
          rw [mo.get j]
          by_cases h : hits num t j = []
          · rw [if_pos h]; unfold coll; rw [h]; rfl
          · rw [if_neg h]; rfl
        have ad := add_lI (coll num hs t j) (hs.getD t []) (by
          have h1 := cb t j
          have h2 := hgd t
          have h3 : t * (2 ^ i * 1) ≤ 20 * 4096 := Nat.mul_le_mul (by omega) pw
          omega)
        have fl1 := fl j
        rw [hj]
        clear cs sl cb hgd nk hbd pw mo fl hP en nm dn a0
        walk_at "sa"
        exact OkP.ret ⟨.inl rfl, by simp [still], _, _, _, mo', rfl⟩
      · have mo' := mo.skip hj
        rw [hj]
        clear cs sl cb hgd nk hbd pw mo fl hP en nm dn a0
        walk_at "sa"
        exact OkP.ret ⟨.inl rfl, by simp [still], _, _, _, mo', rfl⟩
    case fin2 =>
      intro ρ' hI
      obtain ⟨made, s4, s7, mo, rfl⟩ := hI
      rw [List.length_range] at mo
      obtain ⟨cs, sl, cb, hgd, nk, hbd, pw, _⟩ := keep
      have x1 := ix_g0 k' es'
      have r2 := rng1_ok (n := k') (by omega) (by omega)
      have lt : (tabl k' D.int).length ≤ 400 := by rw [tabl_len]; omega
      clear en nm a0
      have keep := And.intro cs (And.intro sl (And.intro cb (And.intro hgd (And.intro nk (And.intro hbd pw)))))
      clear cs sl cb hgd nk hbd pw
      walk_at "sa"
      refine OkP.step (compL_map (fun _ => 1) (g := fun x => match x with | .int j => lI (iSort (coll num hs k.toNat j)) | _ => x) (by simp [still]) _ ?c) ?_
      case c =>
        intro x hx
        obtain ⟨j, hj0, hj1, rfl⟩ := mem_tabl.mp hx
        refine ⟨?_, by decide⟩
        obtain ⟨cs, sl, cb, hgd, nk, hbd, pw⟩ := keep
        obtain ⟨c1, c2⟩ := cs j.toNat (by omega)
        rw [Int.toNat_of_nonneg hj0] at c1 c2
        have fl : kOk made (.int j) = true := by
          have : kOk made (.int j) = (made.all fun p => p.1.flat) := Bool.true_and _
          rw [this]; exact mo.flat
        have gt := mo.get j
        rw [if_neg c1] at gt
        have so := srt_lI (coll num hs k.toNat j) (by
          have h1 := cb k.toNat j
          have h3 : k.toNat * (2 ^ i * 1) ≤ 20 * 4096 := Nat.mul_le_mul (by omega) pw
          omega)
        clear cs sl cb hgd nk hbd pw mo hP x1 r2 lt dn hx c1 c2
        walk_at "sx"
      have e1 : (tabl k' D.int).map (fun x => match x with | .int j => lI (iSort (coll num hs k.toNat j)) | _ => x) = hs'.map lI := by
        rw [tabl_map]
        refine List.ext_getElem? fun j => ?_
        obtain ⟨cs, sl, cb, hgd, nk, hbd, pw⟩ := keep
        by_cases h : j < k'.toNat
        · rw [get_tabl h, List.getElem?_map, (cs j h).2]; rfl
        · rw [List.getElem?_eq_none (by rw [tabl_len]; omega), List.getElem?_eq_none (by rw [List.length_map]; omega)]
      rw [e1]
      have l2 : (hs'.map lI).length ≤ sizeL := sz_of (by rw [← e1, List.length_map]; omega)
      have e2 : D.lst (hs'.map lI) = hL hs' := rfl
      clear keep x1 r2 lt dn mo e1
      walk_at "sa"
      subst hP
      exact OkP.ret ⟨.inl rfl, by simp [still], _, _, _, _, _, rfl⟩
theorem runD_ok {m : Int} {s : GH} {row : List Deed} {B : Nat} (g : Gd m s.1 s.2.1) (H : Hs s.1 B s.2.2) (ho : RowOk s row) : Gd m (runD s row).1 (runD s row).2.1 ∧ Hs (runD s row).1 (2 ^ row.length * B) (runD s row).2.2 ∧ (runD s row).2.1.length ≤ s.2.1.length := by
  have := run_ok g H ho row.length (Nat.le_refl _)
  rwa [List.take_length] at this
/-- each point its own house -/
def one (k : Int) : List (List Int) := tabl k fun i => [i]
theorem Hs_one {m k : Int} (h0 : 0 ≤ k) (h1 : k ≤ m) (hm : m ≤ 20) : Hs k 1 (one k) := by
  unfold one
  refine ⟨tabl_len _ _, ?_, ?_, ?_⟩
  · intro h hh
    obtain ⟨i, _, _, rfl⟩ := mem_tabl.mp hh
    exact Nat.le_refl _
  · intro h hh
    obtain ⟨i, _, _, rfl⟩ := mem_tabl.mp hh
    unfold iSort
    simp
  · intro h hh
    obtain ⟨i, _, _, rfl⟩ := mem_tabl.mp hh
    intro x hx
    simp only [List.mem_cons, List.not_mem_nil, or_false] at hx
    subst hx
    exact ⟨by omega, by omega⟩
theorem traced_spec (n : Nat) {m k : Int} {es : List IP} (hm : m ≤ 20) (g : Gd m k es) {row : List Deed} (hl : row.length ≤ 12) (ho : RowOk (k, es, one k) row) :
    denF tab (n + 5) f_traced [(0, gD k es), (0, .tup (row.map Deed.d))] = .ok ((0, .tup [gD (runD (k, es, one k) row).1 (runD (k, es, one k) row).2.1, .tup ((runD (k, es, one k) row).2.2.map tI)]), [(0, .non), (0, .non)]) := by
  rw [denF_succ tab_traced rfl, c_traced]
  have ck := check_spec n hm g
  have H1 := Hs_one (k := k) g.n0 g.n1 hm
  have tr := traced_in_spec n (s := (k, es, one k)) hm g rfl hl ho
  have ln : ¬ (200 : Int) < ((row.map Deed.d).length : Nat) := by rw [List.length_map]; omega
  have all := run_ok g H1 ho
  have fin := runD_ok g H1 ho
  simp only at tr all fin
  refine OkP.eq ?_
  have keep := And.intro all (And.intro fin ho)
  clear all fin ho
  walk_at "sa"
  refine forL_map Deed.d row (fun i ρ => ∃ s3 s4 s5 s6, ρ = [some (0, gD k es), some (0, .tup (row.map Deed.d)), some (0, gD (runD (k, es, one k) (row.take i)).1 (runD (k, es, one k) (row.take i)).2.1), s3, s4, s5, s6]) ⟨_, _, _, _, rfl⟩ ?step ?fin
  case step =>
    intro i hi ρ hI
    obtain ⟨s3, s4, s5, s6, rfl⟩ := hI
    obtain ⟨all, fin, ho⟩ := keep
    have g1 := (all i (by omega)).1
    have hd := ho i hi
    have d1 := deed_spec (n + 1) g1 hd
    have d2 := done_in_spec (n + 1) hm g1 hd
    rw [runD_succ hi]
    have e1 : (stepG (runD (k, es, one k) (row.take i)) row[i]).1 = stepN (runD (k, es, one k) (row.take i)).1 row[i] := rfl
    have e2 : (stepG (runD (k, es, one k) (row.take i)) row[i]).2.1 = stepE (runD (k, es, one k) (row.take i)).2.1 row[i] := rfl
    rw [e1, e2]
    clear e1 e2 all fin ho g1 hd tr ln ck
    generalize gD (stepN (runD (k, es, one k) (row.take i)).1 row[i]) (stepE (runD (k, es, one k) (row.take i)).2.1 row[i]) = G' at *
    generalize gD (runD (k, es, one k) (row.take i)).1 (runD (k, es, one k) (row.take i)).2.1 = G at *
    generalize row[i] = d at *
    generalize row.map Deed.d = rowD at *
    walk_at "sa"
    exact OkP.ret ⟨.inl rfl, by simp [still], _, _, _, _, rfl⟩
  case fin =>
    intro ρ' hI
    rw [List.take_length] at hI
    obtain ⟨s3, s4, s5, s6, rfl⟩ := hI
    obtain ⟨all, ⟨_, H2, _⟩, ho⟩ := keep
    have hl2 := H2.len
    have hb2 := H2.bd
    have kk := (all row.length (Nat.le_refl _)).1.n1
    rw [List.take_length] at kk
    clear all ho H2
    generalize runD (k, es, one k) row = s' at *
    obtain ⟨k', es', hs'⟩ := s'
    simp only at *
    have e2 : hL hs' = D.lst (hs'.map lI) := rfl
    rw [e2] at tr
    have l2 : (hs'.map lI).length ≤ sizeL := sz_of (by rw [List.length_map]; omega)
    generalize gD k' es' = G' at *
    generalize row.map Deed.d = rowD at *
    clear e2 ck ln hb2
    walk_at "sa"
    refine OkP.step (compL_map (fun _ => 0) (g := fun x => match x with | .lst l => .tup l | _ => x) (by simp [still]) _ ?c) ?_
    case c =>
      intro x hx
      obtain ⟨l, _, rfl⟩ := List.mem_map.mp hx
      refine ⟨?_, by decide⟩
      clear tr hx l2
      unfold lI
      walk_at "sx"
    have e3 : List.map (fun x => match x with | .lst l => .tup l | _ => x) (hs'.map lI) = hs'.map tI := by
      rw [List.map_map]; rfl
    rw [e3]
    have l3 : (hs'.map tI).length ≤ sizeL := sz_of (by rw [List.length_map]; omega)
    clear e3 tr
    walk_at "sa"
    exact OkP.ret rfl
end
section
open PySem (Str PyData)
/-! ### the law's draws -/
def stD (cs : List Int) (p v c seed cnt : Int) : D := .lst [.lst (cs.map D.int), .int p, .int v, .int c, .int seed, .int cnt]
def St (N : Nat) (d : D) : Prop := ∃ cs p v c seed cnt, d = stD cs p v c seed cnt ∧ 0 ≤ p ∧ 0 ≤ cnt ∧ cnt ≤ N
theorem mod_ok {a m : Int} (h : 0 < m) : op_mod [.int a, .int m] = .ok (0, .int (a.fmod m)) := by
  have e : op_mod [.int a, .int m] = if m ≠ 0 then okI (a.fmod m) else .bad := rfl
  rw [e, if_pos (by omega)]; rfl
theorem fdiv_ok {a m : Int} (h : 0 < m) (h' : m < 1073741824) : op_fdiv [.int a, .int m] = .ok (0, .int (a.fdiv m)) := by
  have e : op_fdiv [.int a, .int m] = if m ≠ 0 ∧ m.natAbs < 1073741824 then okI (a.fdiv m) else .bad := rfl
  rw [e, if_pos ⟨by omega, by omega⟩]; rfl
theorem mul_ok {a b : Int} (h : -1000000000000000 < b) (h' : b < 1000000000000000) : op_mul [.int a, .int b] = .ok (0, .int (a * b)) := by
  have e : op_mul [.int a, .int b] = if smallI a = true ∨ smallI b = true then okI (a * b) else .bad := rfl
  have h2 : smallI b = true := by
    unfold smallI
    simp only [Bool.and_eq_true, decide_eq_true_eq]
    omega
  rw [e, if_pos (.inr h2)]; rfl
theorem draw_spec (n : Nat) {N : Nat} {s : D} (h : St N s) (hN : N < 1000000) {m : Int} (h0 : 0 < m) (h1 : m < 1000000) :
    OkP (denF tab (n + 1) f__law_draw [(1, s), (0, .int m)]) fun q => ∃ r s', q = ((0, .int r), [(1, s'), (0, .non)]) ∧ 0 ≤ r ∧ r < m ∧ St (N + 1) s' := by
  obtain ⟨cs, p, v, c, seed, cnt, rfl, hp, hc0, hc1⟩ := h
  rw [denF_succ tab__law_draw rfl, c__law_draw]
  have fin : ∀ (x : Int) (cs' : List Int) (p' v' c' seed' cnt' : Int), 0 ≤ p' → 0 ≤ cnt' → cnt' ≤ (N + 1 : Nat) → OkP (.ok ((0, D.int (x.fmod m)), [(1, stD cs' p' v' c' seed' cnt'), (0, D.non)])) fun q : KD × List KD => ∃ r s', q = ((0, .int r), [(1, s'), (0, .non)]) ∧ 0 ≤ r ∧ r < m ∧ St (N + 1) s' :=
    fun x cs' p' v' c' seed' cnt' h2 h3 h4 => OkP.ret ⟨_, _, rfl, Int.fmod_nonneg_of_pos _ h0, Int.fmod_lt_of_pos _ h0, _, _, _, _, _, _, rfl, h2, h3, h4⟩
  generalize hP : (fun q : KD × List KD => ∃ r s', q = ((0, D.int r), [(1, s'), (0, D.non)]) ∧ 0 ≤ r ∧ r < m ∧ St (N + 1) s') = P at *
  have md := fun a => mod_ok (a := a) h0
  have fd := fun a => fdiv_ok (a := a) (m := m) h0 (by omega)
  have keep := And.intro md (And.intro fd fin)
  clear md fd fin
  by_cases hc : c = 0
  · by_cases hq : p < (cs.length : Nat)
    · -- a new cell
      have ai : L2.atI (cs.map D.int) p = some (.int (cs.getD p.toNat 0)) := by
        unfold L2.atI L2.ixN
        rw [if_pos hp, List.length_map, if_pos hq]
        show (cs.map D.int)[p.toNat]? = _
        rw [List.getElem?_map, List.getD_eq_getElem?_getD, List.getElem?_eq_getElem (by omega)]; rfl
      have hq' : p < (((cs.map D.int).length : Nat) : Int) := by rw [List.length_map]; exact hq
      generalize cs.getD p.toNat 0 = v0 at *
      obtain ⟨md, fd, fin⟩ := keep
      have md := md v0
      have fd := fd v0
      have fin := fun v' c' => fin v0 cs (p + 1) v' c' seed cnt (by omega) hc0 (by omega)
      subst hc
      clear hq
      unfold stD at *
      generalize cs.map D.int = csD at *
      clear hP hp hc0 hc1 h0 h1 hN
      have keep := fin
      clear fin
      by_cases hv : 0 < v0.fdiv m
      · walk_at "sa"
      · walk_at "sa"
    · have hq' : ¬ p < (((cs.map D.int).length : Nat) : Int) := by rw [List.length_map]; exact hq
      obtain ⟨md, fd, fin⟩ := keep
      have m1 := mul_ok (a := seed) (b := 48271) (by omega) (by omega)
      have m2 := mul_ok (a := cnt + 1) (b := cnt + 1) (by omega) (by omega)
      have m3 := mul_ok (a := (cnt + 1) * (cnt + 1)) (b := 69621) (by omega) (by omega)
      have d1 := mod_ok (a := seed * 48271 + (cnt + 1) * (cnt + 1) * 69621 + 11) (m := 2147483647) (by omega)
      generalize (seed * 48271 + (cnt + 1) * (cnt + 1) * 69621 + 11).fmod 2147483647 = seed' at *
      have d2 := fdiv_ok (a := seed') (m := 13) (by omega) (by omega)
      have d3 := md (seed'.fdiv 13)
      have fin := fin (seed'.fdiv 13) cs p v c seed' (cnt + 1) hp (by omega) (by omega)
      subst hc
      clear md fd hq
      unfold stD at *
      generalize cs.map D.int = csD at *
      clear hP hp hc0 hc1 h0 h1 hN
      have keep := fin
      clear fin
      walk_at "sa"
  · by_cases hc' : 0 < c
    · obtain ⟨md, fd, fin⟩ := keep
      have md := md v
      have fd := fd v
      have fin := fun v' c' => fin v cs p v' c' seed cnt hp hc0 (by omega)
      unfold stD at *
      generalize cs.map D.int = csD at *
      clear hP hp hc0 hc1 h0 h1 hN
      have keep := fin
      clear fin
      by_cases hv : 0 < v.fdiv m
      · walk_at "sa"
      · walk_at "sa"
    · obtain ⟨md, fd, fin⟩ := keep
      have m1 := mul_ok (a := seed) (b := 48271) (by omega) (by omega)
      have m2 := mul_ok (a := cnt + 1) (b := cnt + 1) (by omega) (by omega)
      have m3 := mul_ok (a := (cnt + 1) * (cnt + 1)) (b := 69621) (by omega) (by omega)
      have d1 := mod_ok (a := seed * 48271 + (cnt + 1) * (cnt + 1) * 69621 + 11) (m := 2147483647) (by omega)
      generalize (seed * 48271 + (cnt + 1) * (cnt + 1) * 69621 + 11).fmod 2147483647 = seed' at *
      have d2 := fdiv_ok (a := seed') (m := 13) (by omega) (by omega)
      have d3 := md (seed'.fdiv 13)
      have fin := fin (seed'.fdiv 13) cs p v c seed' (cnt + 1) hp (by omega) (by omega)
      clear md fd
      unfold stD at *
      generalize cs.map D.int = csD at *
      clear hP hp hc0 hc1 h0 h1 hN
      have keep := fin
      clear fin
      walk_at "sa"
theorem start_spec (n : Nat) {ns : List Int} (hl : ns.length ≤ 63) : OkP (denF tab (n + 1) f__law_start [(0, .scr ns)]) fun q => ∃ s, q = ((1, s), [(0, .non)]) ∧ St 0 s := by
  rw [denF_succ tab__law_start rfl, c__law_start]
  have ct : cutD (ns.map D.int) none (some 63) = ns.map D.int := by
    unfold cutD
    have e1 : HT.sIx (ns.map D.int).length 0 none = 0 := rfl
    have e2 : HT.sIx (ns.map D.int).length (ns.map D.int).length (some 63) = ns.length := by
      simp only [HT.sIx, List.length_map]
      rw [if_neg (by omega)]
      omega
    rw [e1, e2, List.drop_zero, Nat.sub_zero]
    exact List.take_of_length_le (by simp)
  walk_at "sa"
  refine forL_map D.int ns (fun i ρ => ∃ seed s2, ρ = [some (0, .scr ns), some (0, .int seed), s2]) ⟨_, _, rfl⟩ ?step ?fin
  case step =>
    intro i hi ρ hI
    obtain ⟨seed, s2, rfl⟩ := hI
    have m1 := mul_ok (a := seed) (b := 48271) (by omega) (by omega)
    have m2 := mod_ok (a := seed * 48271 + ns[i]) (m := 2147483629) (by omega)
    generalize (seed * 48271 + ns[i]).fmod 2147483629 = z at *
    walk_at "sa"
    exact OkP.ret ⟨.inl rfl, _, _, rfl⟩
  case fin =>
    intro ρ' hI
    obtain ⟨seed, s2, rfl⟩ := hI
    walk_at "sa"
    refine OkP.step (compL_map (fun _ => 0) (g := fun x => match x with | .int i => .int (if i < 0 then -i else i) | _ => x) rfl _ ?c) ?_
    case c =>
      intro x hx
      obtain ⟨i, _, rfl⟩ := List.mem_map.mp hx
      refine ⟨?_, by decide⟩
      clear hx
      walk_at "sx"
    have e1 : List.map (fun x => match x with | .int i => .int (if i < 0 then -i else i) | _ => x) (ns.map D.int) = (ns.map fun i => if i < 0 then -i else i).map D.int := by
      rw [List.map_map, List.map_map]; rfl
    rw [e1]
    have l1 : ((ns.map fun i : Int => if i < 0 then -i else i).map D.int).length ≤ sizeL := sz_of (by simp; omega)
    generalize hcs : (ns.map fun i : Int => if i < 0 then -i else i) = cs at *
    clear e1 ct hcs
    walk_at "sa"
    exact OkP.ret ⟨_, rfl, cs, _, _, _, _, _, rfl, by omega, by omega, by omega⟩
theorem len_spec {xs : List D} : op_len [.tup xs] = .ok (0, .int (xs.length : Nat)) := rfl
theorem pick_spec (n : Nat) {N : Nat} {s : D} (h : St N s) (hN : N < 1000000) {α : Type} (g : α → D) {xs : List α} (h0 : xs ≠ []) (h1 : xs.length < 1000000) :
    OkP (denF tab (n + 2) f__law_pick [(1, s), (0, .tup (xs.map g))]) fun q => ∃ x s', x ∈ xs ∧ q = ((0, g x), [(1, s'), (0, .non)]) ∧ St (N + 1) s' := by
  rw [denF_succ tab__law_pick rfl, c__law_pick]
  have hpos : 0 < xs.length := by
    cases xs with
    | nil => exact absurd rfl h0
    | cons => simp
  have hl : (xs.map g).length = xs.length := List.length_map ..
  obtain ⟨q, e, r, s', rfl, r0, r1, st⟩ := draw_spec n h hN (m := (xs.length : Nat)) (by omega) (by omega)
  have ai : L2.atI (xs.map g) r = some (g (xs[r.toNat]'(by omega))) := by
    unfold L2.atI L2.ixN
    rw [if_pos r0, List.length_map, if_pos r1]
    show (xs.map g)[r.toNat]? = _
    rw [List.getElem?_map, List.getElem?_eq_getElem (by omega)]; rfl
  have hx : xs[r.toNat]'(by omega) ∈ xs := List.getElem_mem _
  generalize xs[r.toNat]'(by omega) = x at *
  generalize xs.map g = ds at *
  clear hpos h0 h1 r0 r1 h hN
  have keep := And.intro hx st
  clear hx st
  have ln : op_len [.tup ds] = .ok (0, .int (ds.length : Nat)) := rfl
  walk_at "sa"
  obtain ⟨hx, st⟩ := keep
  exact OkP.ret ⟨x, s', hx, rfl, st⟩
/-! ### drawn graphs -/
theorem dp_map {α : Type} (g : α → D) (b : Nat) (xs : List α) (h : ∀ x ∈ xs, (g x).dp ≤ b) : D.dps (xs.map g) ≤ b := dps_le_of _ (by intro y hy; obtain ⟨x, hx, rfl⟩ := List.mem_map.mp hy; exact h x hx)
theorem wt_map {α : Type} (g : α → D) (b : Nat) (xs : List α) (h : ∀ x ∈ xs, (g x).wt ≤ b) : D.wts (xs.map g) ≤ (b + 1) * xs.length := by
  have := wts_le_of (b := b) (xs.map g) (by intro y hy; obtain ⟨x, hx, rfl⟩ := List.mem_map.mp hy; exact h x hx)
  rwa [List.length_map] at this
theorem tiny_map {α : Type} (g : α → D) (xs : List α) (h : ∀ x ∈ xs, (g x).tiny = true) : D.tinys (xs.map g) = true := by
  rw [tinys_all, List.all_map, List.all_eq_true]
  exact h
/-- the pairs told behind some rounds -/
structure PairsOk (i : Nat) (ps : List IP) : Prop where
  nd : ps.Nodup
  rg : ∀ e ∈ ps, 0 ≤ e.1 ∧ e.1 < e.2 ∧ e.2 < ((i : Nat) : Int)
  ln : (ps.length : Int) * 2 = (i : Int) * ((i : Int) - 1)
theorem PairsOk.le {i : Nat} {ps : List IP} (h : PairsOk i ps) (hi : i ≤ 20) : ps.length ≤ 190 := by
  have ln := h.ln
  have h3 : (i : Int) * ((i : Int) - 1) ≤ 20 * 19 := by
    by_cases hz : (i : Int) = 0
    · rw [hz]; omega
    · have h1 : (i : Int) * ((i : Int) - 1) ≤ 20 * ((i : Int) - 1) := Int.mul_le_mul_of_nonneg_right (by omega) (by omega)
      omega
  omega
def pairsAt (i : Int) : List IP := tabl i fun j => (j, i)
theorem PairsOk.step {i : Nat} {ps : List IP} (h : PairsOk i ps) : PairsOk (i + 1) (ps ++ pairsAt i) := by
  obtain ⟨nd, rg, ln⟩ := h
  unfold pairsAt
  refine ⟨?_, ?_, ?_⟩
  · rw [List.nodup_append]
    refine ⟨nd, ?_, ?_⟩
    · unfold tabl
      refine List.Pairwise.map _ ?_ List.nodup_range
      intro a b hab e
      exact hab (by have := congrArg Prod.fst e; simp only at this; omega)
    · intro a ha b hb e
      obtain ⟨j, h3, h4, rfl⟩ := mem_tabl.mp hb
      have := rg a ha
      rw [e] at this
      simp only at this
      omega
  · intro e he
    rcases List.mem_append.mp he with he | he
    · have := rg e he
      omega
    · obtain ⟨j, h3, h4, rfl⟩ := mem_tabl.mp he
      simp only
      omega
  · rw [List.length_append, tabl_len]
    have e3 : (((i + 1 : Nat) : Int) * (((i + 1 : Nat) : Int) - 1)) = (i : Int) * ((i : Int) - 1) + 2 * i := by
      have : ((i + 1 : Nat) : Int) = (i : Int) + 1 := by omega
      rw [this]
      generalize (i : Int) = z
      have : z + 1 - 1 = z := by omega
      rw [this, Int.add_mul, Int.mul_sub]
      omega
    rw [e3, ← ln]
    omega
def pairsI (k : Int) (i : Nat) (ρ : Env) : Prop := ∃ (ps : List IP) (s2 s3 : Slot), ρ = [some (0, .int k), some (1, .lst (ps.map pD)), s2, s3] ∧ PairsOk i ps
/-- the pairs of a round -/
def roundT (i : Int) (x : D) : D := .tup [x, .int i]
theorem pairs_spec (n : Nat) {k : Int} (h0 : 0 ≤ k) (h1 : k ≤ 20) : OkP (denF tab (n + 1) f__law_pairs [(0, .int k)]) fun q => ∃ ps : List IP, q = ((1, .lst ((pSort ps).map pD)), [(0, .non)]) ∧ PairsOk k.toNat ps := by
  rw [denF_succ tab__law_pairs rfl, c__law_pairs]
  have r1 := rng1_ok (n := k) (by omega) (by omega)
  rw [tabl_int] at r1
  have hk : k.toNat ≤ 20 := by omega
  clear h0 h1
  walk_at "sa"
  clear r1
  refine forL_map (fun t : Nat => D.int (t : Nat)) (List.range k.toNat) (pairsI k) ⟨[], _, _, rfl, List.nodup_nil, by simp, by simp⟩ ?step ?fin
  case step =>
    intro i hi ρ hI
    obtain ⟨ps, s2, s3, rfl, po⟩ := hI
    rw [List.length_range] at hi
    rw [List.getElem_range]
    obtain ⟨z, hz⟩ : ∃ z : Int, z = ((i : Nat) : Int) := ⟨_, rfl⟩
    rw [← hz]
    have r2 := rng1_ok (n := z) (by omega) (by omega)
    have hl := po.le (by omega)
    have po' := po.step
    rw [← hz] at po'
    have e4 : (tabl z D.int).map (roundT z) = (pairsAt z).map pD := by
      unfold pairsAt
      rw [tabl_map, tabl_map]; rfl
    have l4 : ((pairsAt z).map pD).length ≤ 20 := by unfold pairsAt; rw [List.length_map, tabl_len]; omega
    have l5 : ((pairsAt z).map pD).length ≤ sizeL := sz_of (by omega)
    have l6 : (ps.map pD).length + ((pairsAt z).map pD).length ≤ sizeL := sz_of (by rw [List.length_map]; omega)
    have e5 : ps.map pD ++ (pairsAt z).map pD = (ps ++ pairsAt z).map pD := List.map_append.symm
    generalize ps ++ pairsAt z = ps' at *
    generalize ps.map pD = w0 at *
    generalize (pairsAt z).map pD = w at *
    clear hz
    clear po hl l4 hi
    have keep := And.intro e4 (And.intro e5 (And.intro po' (And.intro l5 l6)))
    clear e4 e5 po' l5 l6
    generalize hP : (fun q : Fl × Env => (q.1 = Fl.nx ∨ q.1 = Fl.cnt) ∧ _) = P
    walk_at "sa"
    refine OkP.step (compL_map (fun _ => 0) (g := roundT z) (by simp [still]) _ ?cc) ?_
    case cc =>
      intro x hx
      refine ⟨?_, by decide⟩
      clear hx keep hP
      unfold roundT
      walk_at "sx"
    obtain ⟨e4, e5, po', l5, l6⟩ := keep
    rw [e4]
    rw [e4] at *
    clear e4 r2
    have keep2 := And.intro po' hP
    clear po' hP
    walk_at "sa"
    obtain ⟨po', hP⟩ := keep2
    subst hP
    exact OkP.ret ⟨.inl rfl, by simp [still], _, _, _, rfl, po'⟩
  case fin =>
    intro ρ' hI
    obtain ⟨ps, s2, s3, rfl, po⟩ := hI
    rw [List.length_range] at po
    have hl := po.le hk
    have so : op_srt [.lst (ps.map pD)] = .ok (1, .lst ((pSort ps).map pD)) := sortR_pD ps (by omega)
    clear hl hk
    have keep := po
    clear po
    walk_at "sa"
    exact OkP.ret ⟨ps, rfl, keep⟩
end
section
open PySem (Str PyData)
theorem St.mono {N M : Nat} {s : D} (h : St N s) (hm : N ≤ M) : St M s := by
  obtain ⟨cs, p, v, c, seed, cnt, e, h1, h2, h3⟩ := h
  exact ⟨cs, p, v, c, seed, cnt, e, h1, h2, by omega⟩
/-- a comprehension that keeps some -/
theorem compL_sub {w : List Nat} {f : D → Env → Res (Option KD × Env)} {k : Nat} (hk : k ≤ 1) (I : Nat → Env → Prop) :
    ∀ (xs : List D) (n : Nat) (ρ : Env), I n ρ → (∀ i x ρ, i < n + xs.length → x ∈ xs → I i ρ → OkP (f x ρ) fun q => (q.1 = none ∨ q.1 = some (0, x)) ∧ still w ρ q.2 = true ∧ I (i + 1) q.2) →
      OkP (compL w f k xs ρ) fun q => q.1.Sublist xs ∧ I (n + xs.length) q.2
  | [], n, ρ, h, _ => ⟨_, rfl, List.Sublist.refl _, h⟩
  | x :: r, n, ρ, h, hf => by
    obtain ⟨⟨o, ρ1⟩, e, ho, hs, hI⟩ := hf n x ρ (by simp) (List.mem_cons_self ..) h
    obtain ⟨⟨ys, ρ2⟩, e2, h1, h2⟩ := compL_sub hk I r (n + 1) ρ1 hI fun i y ρ' hi hy => hf i y ρ' (by simp only [List.length_cons]; omega) (List.mem_cons_of_mem _ hy)
    simp only at ho hs h1 h2
    have e3 : n + (x :: r).length = n + 1 + r.length := by simp only [List.length_cons]; omega
    rw [e3]
    rcases ho with rfl | rfl
    · refine ⟨(ys, ρ2), ?_, List.Sublist.cons _ h1, h2⟩
      unfold compL
      rw [e]
      simp only [Res.nox_ok, bind_ok, hs, if_true, e2]
    · refine ⟨(x :: ys, ρ2), ?_, List.Sublist.cons_cons _ h1, h2⟩
      unfold compL
      rw [e]
      have : k ≤ 0 + 1 := hk
      simp only [Res.nox_ok, bind_ok, hs, if_true, e2, this]
theorem law_graph_spec (n : Nat) {N : Nat} {s : D} (h : St N s) (hN : N < 900000) :
    OkP (denF tab (n + 2) f__law_graph [(1, s), (0, .int 10)]) fun q => ∃ k es s', q = ((0, gD k es), [(1, s'), (0, .non)]) ∧ Gd 10 k es ∧ es.length ≤ 45 ∧ St (N + 100) s' := by
  rw [denF_succ tab__law_graph rfl, c__law_graph]
  obtain ⟨_, e1, k, s1, rfl, k0, k1, st1⟩ := draw_spec n h (by omega) (m := 11) (by omega) (by omega)
  obtain ⟨_, e2, t, s2, rfl, t0, t1, st2⟩ := draw_spec n st1 (by omega) (m := 4) (by omega) (by omega)
  obtain ⟨_, e3, ps0, rfl, po⟩ := pairs_spec n (k := k) (by omega) (by omega)
  have kn : ((k.toNat : Nat) : Int) = k := by omega
  have ss := SS_pSort po.nd
  have rg : ∀ e ∈ pSort ps0, 0 ≤ e.1 ∧ e.1 < e.2 ∧ e.2 < k := fun e he => by
    have := po.rg e (mem_pSort.mp he)
    omega
  have ln : ((pSort ps0).length : Int) * 2 = k * (k - 1) := by
    have := po.ln
    rw [len_pSort, this, kn]
  clear po kn
  generalize pSort ps0 = ps at *
  have hl : ps.length ≤ 45 := by
    have : k * (k - 1) ≤ 10 * 9 := by
      by_cases hz : k = 0
      · rw [hz]; omega
      · have h1 : k * (k - 1) ≤ 10 * (k - 1) := Int.mul_le_mul_of_nonneg_right (by omega) (by omega)
        omega
    omega
  have keep := And.intro k0 (And.intro k1 (And.intro t0 (And.intro t1 (And.intro ss (And.intro rg (And.intro hl (And.intro st2 hN)))))))
  clear k0 k1 t0 t1 ss rg ln hl st1 st2 h hN
  walk_at "sa"
  clear e1 e2 e3
  obtain ⟨k0, k1, t0, t1, ss, rg, hl, st2, hN⟩ := keep
  have hln : (ps.map pD).length ≤ 45 := by rw [List.length_map]; exact hl
  refine OkP.bind (compL_sub (by decide) (fun i ρ => ∃ s s4, ρ = [some (1, s), some (0, .int 10), some (0, .int k), some (0, .int (1 + t)), s4] ∧ St (N + 2 + i) s) _ 0 _ ⟨_, _, rfl, st2⟩ ?cc) ?_
  case cc =>
    intro i x ρ hi hx hI
    obtain ⟨p, hp, rfl⟩ := List.mem_map.mp hx
    obtain ⟨s, s4, rfl, st⟩ := hI
    obtain ⟨_, e1, r, s1, rfl, r0, r1, st1⟩ := draw_spec n st (by omega) (m := 1 + t + 1) (by omega) (by omega)
    have keep := st1
    clear st1 st r0 r1 hx hi k0 k1 t0 t1 ss rg hl st2 hN hln
    by_cases hr : r = 0
    · subst hr
      walk_at "sa"
      exact OkP.ret ⟨.inr rfl, _, _, rfl, keep⟩
    · walk_at "sa"
      exact OkP.ret ⟨.inl rfl, _, _, rfl, keep⟩
  rintro ⟨ys, ρ'⟩ ⟨hs, s', s4, rfl, st⟩
  simp only at hs
  obtain ⟨es, hes, rfl⟩ := List.sublist_map_iff.mp hs
  have g : Gd 10 k es := ⟨k0, by omega, List.Pairwise.sublist hes ss, fun e he => rg e (hes.subset he), by have := hes.length_le; omega⟩
  have l45 : es.length ≤ 45 := by have := hes.length_le; omega
  have lz : (es.map pD).length ≤ sizeL := sz_of (by rw [List.length_map]; omega)
  have keep := And.intro g (And.intro l45 (st.mono (M := N + 100) (by omega)))
  clear st g hes hs k0 k1 t0 t1 ss rg hl st2 hN hln l45
  walk_at "sa"
  exact OkP.ret ⟨k, es, s', rfl, keep⟩
theorem same_spec (n : Nat) {d : D} (h : d.tiny = true) (hd : d.dp ≤ 60) (hw : d.wt ≤ 1000000) : denF tab (n + 1) f__law_same [(0, d), (0, d)] = .ok ((0, .bl true), [(0, .non), (0, .non)]) := by
  rw [denF_succ tab__law_same rfl, c__law_same]
  have e1 := eqD_self (plain_tiny d h) hd
  have e2 := rep_ok h hd hw
  clear h hd hw
  walk_at "sx"
theorem law_done_spec (n : Nat) {m k : Int} {es : List IP} {hs : List (List Int)} (hm : m ≤ 20) (g : Gd m k es) (hl : es.length ≤ 45) (hh : hs.length = k.toNat) (hb : ∀ h ∈ hs, h.length ≤ 10000) {d : Deed} (hd : d.ok k es) :
    denF tab (n + 1) f__law_done [(0, hD hs), (0, .lst (es.map pD)), (0, d.d)] = .ok ((0, .tup [hD (stepH hs d), .lst ((stepE es d).map pD)]), [(0, .non), (0, .non), (0, .non)]) := by
  cases d with
  | cut a b => exact law_done_cut n (by omega)
  | leave v => exact law_done_leave n hm g hl hh hd.1 hd.2
  | draw a b => exact law_done_draw n hm g hl hh hb hd
/-! ### all is small -/
theorem tiny_int {i : Int} (h0 : 0 ≤ i) (h1 : i < 64) : (D.int i).tiny = true := by simp [D.tiny, h0, h1]
theorem tiny_pD {p : IP} (h1 : 0 ≤ p.1 ∧ p.1 < 64) (h2 : 0 ≤ p.2 ∧ p.2 < 64) : (pD p).tiny = true := by
  simp [pD, D.tiny, D.tinys, h1, h2]
theorem Gd.small {m k : Int} {es : List IP} (g : Gd m k es) (hm : m ≤ 20) : (gD k es).tiny = true ∧ (gD k es).dp ≤ 3 ∧ (gD k es).wt ≤ 7000 := by
  refine ⟨?_, ?_, ?_⟩
  · have h1 := tiny_map pD es fun e he => by
      have := g.rng e he
      have := g.n1
      exact tiny_pD (by omega) (by omega)
    have h0 := tiny_int (i := k) g.n0 (by have := g.n1; omega)
    show ((D.int k).tiny && (D.tinys (es.map pD) && true)) = true
    rw [h0, h1]; rfl
  · have h1 := dp_map pD 1 es fun e _ => Nat.le_refl _
    show max 0 (max (D.dps (es.map pD) + 1) 0) + 1 ≤ 3
    omega
  · have h1 := wt_map pD 16 es fun e _ => Nat.le_refl _
    have := g.len
    show 7 + 1 + (D.wts (es.map pD) + 1 + 0) ≤ 7000
    omega
theorem Hs.small {k : Int} {B : Nat} {hs : List (List Int)} (H : Hs k B hs) (hB : B ≤ 4096) (hk : k ≤ 10) : (D.tup (hs.map tI)).tiny = true ∧ (D.tup (hs.map tI)).dp ≤ 2 ∧ (D.tup (hs.map tI)).wt ≤ 400000 := by
  have hl := H.len
  refine ⟨?_, ?_, ?_⟩
  · exact tiny_map tI hs fun h hh => tiny_map D.int h fun x hx => tiny_int (H.rng h hh x hx).1 (H.rng h hh x hx).2
  · have h1 := dp_map tI 1 hs fun h _ => by
      have := dp_map D.int 0 h fun x _ => Nat.le_refl _
      show D.dps (h.map D.int) + 1 ≤ 1
      omega
    show D.dps (hs.map tI) + 1 ≤ 2
    omega
  · have h1 := wt_map tI 32768 hs fun h hh => by
      have := wt_map D.int 7 h fun x _ => Nat.le_refl _
      have := H.bd h hh
      show D.wts (h.map D.int) ≤ 32768
      omega
    show D.wts (hs.map tI) ≤ 400000
    omega
theorem deeds_small {m k : Int} {es : List IP} (g : Gd m k es) (hm : m ≤ 20) : (D.tup ((allDeeds k es).map Deed.d)).tiny = true ∧ (D.tup ((allDeeds k es).map Deed.d)).dp ≤ 3 ∧ (D.tup ((allDeeds k es).map Deed.d)).wt ≤ 1000000 := by
  have hmem : ∀ d ∈ allDeeds k es, (Deed.d d).tiny = true ∧ (Deed.d d).dp ≤ 1 ∧ (Deed.d d).wt ≤ 100 := by
    intro d hd
    have n1 := g.n1
    unfold allDeeds at hd
    rcases List.mem_append.mp hd with hd | hd
    · rcases List.mem_append.mp hd with hd | hd
      · obtain ⟨i, h0, h1, rfl⟩ := mem_tabl.mp hd
        refine ⟨?_, by simp [Deed.d, D.dp, D.dps], by simp [Deed.d, D.wt, D.wts]⟩
        have := tiny_int (i := i) h0 (by omega)
        show ((D.str "leave").tiny && ((D.int i).tiny && true)) = true
        rw [this]; decide
      · obtain ⟨e, he, rfl⟩ := List.mem_map.mp hd
        have r := g.rng e he
        refine ⟨?_, by simp [Deed.d, D.dp, D.dps], by simp [Deed.d, D.wt, D.wts]⟩
        have h1 := tiny_int (i := e.1) (by omega) (by omega)
        have h2 := tiny_int (i := e.2) (by omega) (by omega)
        show ((D.str "cut").tiny && ((D.int e.1).tiny && ((D.int e.2).tiny && true))) = true
        rw [h1, h2]; decide
    · obtain ⟨e, he, rfl⟩ := List.mem_map.mp hd
      have r := g.rng e he
      refine ⟨?_, by simp [Deed.d, D.dp, D.dps], by simp [Deed.d, D.wt, D.wts]⟩
      have h1 := tiny_int (i := e.1) (by omega) (by omega)
      have h2 := tiny_int (i := e.2) (by omega) (by omega)
      show ((D.str "draw").tiny && ((D.int e.1).tiny && ((D.int e.2).tiny && true))) = true
      rw [h1, h2]; decide
  have hl : (allDeeds k es).length ≤ 820 := by
    have n1 := g.n1
    have ln := g.len
    unfold allDeeds
    simp only [List.length_append, List.length_map, tabl_len]
    omega
  refine ⟨tiny_map _ _ fun d hd => (hmem d hd).1, ?_, ?_⟩
  · have := dp_map Deed.d 1 _ fun d hd => (hmem d hd).2.1
    show D.dps _ + 1 ≤ 3
    omega
  · have := wt_map Deed.d 100 _ fun d hd => (hmem d hd).2.2
    show D.wts _ ≤ 1000000
    omega
theorem mem_allDeeds {k : Int} {es : List IP} {d : Deed} (h : d ∈ allDeeds k es) : d.ok k es := by
  unfold allDeeds at h
  rcases List.mem_append.mp h with h | h
  · rcases List.mem_append.mp h with h | h
    · obtain ⟨i, h0, h1, rfl⟩ := mem_tabl.mp h
      exact ⟨h0, h1⟩
    · obtain ⟨e, he, rfl⟩ := List.mem_map.mp h
      exact he
  · obtain ⟨e, he, rfl⟩ := List.mem_map.mp h
    exact he
end
section
open PySem (Str PyData)
/-- a for that may break -/
theorem forL_mapB {α β : Type} {w : List Nat} {f : D → Env → Res (Fl × Env)} {k : Fl × Env → Res β} {P : β → Prop} (g : α → D) (row : List α) (I : Nat → Env → Prop) (Q : Env → Prop) {ρ : Env} (h0 : I 0 ρ)
    (step : ∀ (i : Nat) (h : i < row.length) (ρ : Env), I i ρ → OkP (f (g row[i]) ρ) fun q => (q.1 = .nx ∧ still w ρ q.2 = true ∧ I (i + 1) q.2) ∨ (q.1 = .brk ∧ Q q.2))
    (hq : ∀ ρ', I row.length ρ' → Q ρ') (hend : ∀ ρ', Q ρ' → OkP (k (.nx, ρ')) P) : OkP ((forL w f (row.map g) ρ).bind k) P := by
  have key : ∀ (n i : Nat) (ρ : Env), n = row.length - i → i ≤ row.length → I i ρ → ∃ ρ', forL w f ((row.drop i).map g) ρ = .ok (.nx, ρ') ∧ Q ρ' := by
    intro n
    induction n with
    | zero =>
      intro i ρ hn hi hI
      have : i = row.length := by omega
      subst this
      rw [List.drop_length]
      exact ⟨ρ, rfl, hq ρ hI⟩
    | succ n ih =>
      intro i ρ hn hi hI
      have hlt : i < row.length := by omega
      obtain ⟨⟨c, ρ1⟩, e, h⟩ := step i hlt ρ hI
      rw [List.drop_eq_getElem_cons hlt, List.map_cons]
      simp only at h
      rcases h with ⟨rfl, hs, hI'⟩ | ⟨rfl, hQ⟩
      · obtain ⟨ρ2, e2, h2⟩ := ih (i + 1) ρ1 (by omega) (by omega) hI'
        refine ⟨ρ2, ?_, h2⟩
        unfold forL
        rw [e]
        simp only [bind_ok, hs, if_true, e2]
      · refine ⟨ρ1, ?_, hQ⟩
        unfold forL
        rw [e]
        simp only [bind_ok]
  obtain ⟨ρ', e, h⟩ := key _ 0 ρ rfl (Nat.zero_le _) h0
  rw [List.drop_zero] at e
  exact OkP.step e (hend ρ' h)
theorem RowOk.snoc {s : GH} {row : List Deed} (h : RowOk s row) {d : Deed} (hd : d.ok (runD s row).1 (runD s row).2.1) : RowOk s (row ++ [d]) := by
  intro i hi
  by_cases e : i < row.length
  · rw [List.getElem_append_left e, List.take_append_of_le_length (by omega)]
    exact h i e
  · have : i = row.length := by
      rw [List.length_append, List.length_singleton] at hi
      omega
    subst this
    rw [List.getElem_append_right (Nat.le_refl _), List.take_append_of_le_length (Nat.le_refl _), List.take_length]
    simpa using hd
theorem runD_snoc (s : GH) (row : List Deed) (d : Deed) : runD s (row ++ [d]) = stepG (runD s row) d := by
  unfold runD
  rw [List.foldl_append]
  rfl
theorem len_hD {hs : List (List Int)} {k : Int} (h : hs.length = k.toNat) (hk : 0 ≤ k) : op_len [hD hs] = .ok (0, .int k) := by
  show okI ((hs.map tI).length : Nat) = _
  rw [List.length_map, h, Int.toNat_of_nonneg hk]
  rfl
/-- the places of the law within a turn, behind some deeds -/
structure RowI (N : Nat) (k : Int) (es : List IP) (row : List Deed) (s : GH) (st : D) : Prop where
  eq : runD (k, es, one k) row = s
  ok : RowOk (k, es, one k) row
  dr : St N st
def lawI (ns : List Int) (t : D) (k : Int) (es : List IP) (N : Nat) (len : Nat) (ρ : Env) : Prop := ∃ (row : List Deed) (s : GH) (st : D) (k5 k6 : Nat) (s4 s9 s10 s11 : Slot), row.length ≤ len ∧ k5 ≤ 1 ∧ k6 ≤ 1 ∧ RowI (N + len) k es row s st ∧
  ρ = [some (0, .scr ns), some (1, st), some (0, t), some (0, gD k es), s4, some (k5, hD s.2.2), some (k6, .lst (s.2.1.map pD)), some (1, .lst (row.map Deed.d)), some (0, gD s.1 s.2.1), s9, s10, s11]
theorem min1 {k : Nat} (h : k ≤ 1) : min k 1 = k := by omega
theorem RowI.good {N : Nat} {k : Int} {es : List IP} {row : List Deed} {s : GH} {st : D} (h : RowI N k es row s st) (g : Gd 10 k es) (hl : row.length ≤ 12) : Gd 10 s.1 s.2.1 ∧ Hs s.1 4096 s.2.2 ∧ s.2.1.length ≤ es.length := by
  have H := Hs_one (k := k) g.n0 g.n1 (by omega)
  have := runD_ok (s := (k, es, one k)) g H h.ok
  rw [h.eq] at this
  refine ⟨this.1, ?_, this.2.2⟩
  obtain ⟨a, b, c, d⟩ := this.2.1
  refine ⟨a, fun x hx => Nat.le_trans (b x hx) ?_, c, d⟩
  rw [Nat.mul_one]
  exact Nat.pow_le_pow_right (by decide) hl
end
section
open PySem (Str PyData)
/-- the law's inner body -/
def inBody : CSs := match c_law.body with
  | .cons _ (.cons (.forS _ _ _ (.cons _ (.cons _ (.cons (.forS _ _ _ b) _)))) _) => b
  | _ => .nil
theorem isE (xs : List D) : truth (.tup xs) = .ok (!xs.isEmpty) := rfl
theorem turn_spec (n : Nat) {ns : List Int} {t x : D} {k : Int} {es : List IP} (g : Gd 10 k es) (l45 : es.length ≤ 45) {N i : Nat} (hN : N ≤ 800000) (hi : i < 12) {ρ : Env} (h : lawI ns t k es N i ρ) :
    OkP ((asgT (denF tab (n + 6)) (.nm 4) (0, x) ρ).bind fun ρ2 => denSs (denF tab (n + 6)) inBody ρ2) fun q => (q.1 = .nx ∧ still [] ρ q.2 = true ∧ lawI ns t k es N (i + 1) q.2) ∨ (q.1 = .brk ∧ lawI ns t k es N 12 q.2) := by
  obtain ⟨row, s, st, k5, k6, s4, s9, s10, s11, hr, hk5, hk6, R, rfl⟩ := h
  obtain ⟨g1, H1, l1⟩ := R.good g (by omega)
  obtain ⟨k', es', hs'⟩ := s
  simp only at g1 H1 l1
  have ln := len_hD H1.len g1.n0
  have ld := law_deeds_spec (n + 5) (m := 10) (by omega) g1
  have dl := deeds_of_spec (n + 1) (m := 10) (by omega) g1
  have sm := deeds_small g1 (by omega)
  have s1 := same_spec (n + 5) sm.1 (by omega) sm.2.2
  have m5 := min1 hk5
  have m6 := min1 hk6
  have z5 : k5 ≤ 2 := by omega
  have z6 : k6 ≤ 2 := by omega
  unfold inBody c_law
  simp only
  by_cases hE : allDeeds k' es' = []
  · rw [hE] at ld dl s1
    have fin : lawI ns t k es N 12 [some (0, .scr ns), some (1, st), some (0, t), some (0, gD k es), some (0, x), some (k5, hD hs'), some (0, .lst (es'.map pD)), some (1, .lst (row.map Deed.d)), some (0, gD k' es'), some (0, .tup []), s10, s11] :=
      ⟨row, (k', es', hs'), st, k5, 0, some (0, x), _, s10, s11, by omega, hk5, by omega, ⟨R.eq, R.ok, R.dr.mono (by omega)⟩, rfl⟩
    rw [List.map_nil] at ld dl s1
    generalize hP : (fun q : Fl × Env => (q.1 = Fl.nx ∧ _) ∨ _) = P
    clear hE sm R g1 H1 l1 hk5 hk6
    have keep := And.intro fin hP
    clear fin hP
    generalize hD hs' = H at *
    generalize gD k' es' = G at *
    generalize gD k es = G0 at *
    generalize es'.map pD = eD at *
    generalize row.map Deed.d = rD at *
    walk_at "sa"
    obtain ⟨fin, hP⟩ := keep
    subst hP
    exact OkP.ret (.inr ⟨rfl, fin⟩)
  · have ne : ((allDeeds k' es').map Deed.d).isEmpty = false := by
      cases e : allDeeds k' es' with
      | nil => exact absurd e hE
      | cons => rfl
    have hal : (allDeeds k' es').length < 1000000 := by
      have n1 := g1.n1
      have ln := g1.len
      unfold allDeeds
      simp only [List.length_append, List.length_map, tabl_len]
      omega
    obtain ⟨_, pk, d, st', hd, rfl, stn⟩ := pick_spec (n + 4) R.dr (by omega) Deed.d hE hal
    have hdo := mem_allDeeds hd
    have l9 := law_done_spec (n + 5) (m := 10) (by omega) g1 (by omega) H1.len (fun h hh => by have := H1.bd h hh; omega) hdo
    have dn := done_spec (n + 1) (m := 10) (by omega) g1 hdo
    have R2 : RowI (N + (i + 1)) k es (row ++ [d]) (stepG (k', es', hs') d) st' := by
      refine ⟨?_, ?_, stn.mono (by omega)⟩
      · rw [runD_snoc, R.eq]
      · refine R.ok.snoc ?_
        rw [R.eq]
        exact hdo
    obtain ⟨g2, H2, l2⟩ := R2.good g (by rw [List.length_append, List.length_singleton]; omega)
    have sm2 := g2.small (by omega)
    have s2 := same_spec (n + 5) sm2.1 (by omega) (by omega)
    have ln2 := len_hD H2.len g2.n0
    have lr : (row.map Deed.d).length < sizeL := szlt_of (by rw [List.length_map]; omega)
    have e1 : row.map Deed.d ++ [d.d] = (row ++ [d]).map Deed.d := by rw [List.map_append]; rfl
    have hl3 : (row ++ [d]).length ≤ i + 1 := by rw [List.length_append, List.length_singleton]; omega
    have a1 : (stepG (k', es', hs') d).1 = stepN k' d := rfl
    have a2 : (stepG (k', es', hs') d).2.1 = stepE es' d := rfl
    have a3 : (stepG (k', es', hs') d).2.2 = stepH hs' d := rfl
    rw [a1, a2] at sm2 s2
    rw [a1, a3] at ln2
    have fin : ∀ (q6 : Nat), q6 ≤ 1 → lawI ns t k es N (i + 1) [some (0, .scr ns), some (1, st'), some (0, t), some (0, gD k es), some (0, x), some (0, hD (stepH hs' d)), some (q6, .lst ((stepE es' d).map pD)), some (1, .lst ((row ++ [d]).map Deed.d)), some (0, gD (stepN k' d) (stepE es' d)), some (0, .tup ((allDeeds k' es').map Deed.d)), some (0, d.d), s11] :=
      fun q6 hq => ⟨row ++ [d], stepG (k', es', hs') d, st', 0, q6, _, _, _, s11, hl3, by omega, hq, R2, rfl⟩
    generalize hP : (fun q : Fl × Env => (q.1 = Fl.nx ∧ _) ∨ _) = P
    have keep := And.intro (And.intro fin hP) e1
    clear fin hP hE sm sm2 R R2 g1 g2 H1 H2 l1 l2 hk5 hk6 hd hdo stn a1 a2 a3 hl3 hal e1
    generalize hD hs' = H at *
    generalize hD (stepH hs' d) = H' at *
    have mk : op_mkT [.int (stepN k' d), .tup ((stepE es' d).map pD)] = .ok (0, gD (stepN k' d) (stepE es' d)) := ev_mkT2 _ _
    generalize gD (stepN k' d) (stepE es' d) = G' at *
    generalize gD k' es' = G at *
    generalize gD k es = G0 at *
    generalize es'.map pD = eD at *
    generalize (stepE es' d).map pD = eD' at *
    generalize stepN k' d = k'' at *
    generalize (allDeeds k' es').map Deed.d = dD at *
    generalize row.map Deed.d = rD at *
    generalize (row ++ [d]).map Deed.d = rD' at *
    generalize d.d = dd at *
    walk_at "sa"
    obtain ⟨⟨fin, hP⟩, e1⟩ := keep
    subst hP
    exact OkP.ret (.inl ⟨rfl, rfl, fin _ (by omega)⟩)
end
section
open PySem (Str PyData)
def outI (ns : List Int) (i : Nat) (ρ : Env) : Prop := ∃ (st : D) (s2 s3 s4 s5 s6 s7 s8 s9 s10 s11 : Slot), St (1000 * i) st ∧ ρ = [some (0, .scr ns), some (1, st), s2, s3, s4, s5, s6, s7, s8, s9, s10, s11]
def oneT (x : D) : D := .tup [x]
theorem law_turn (n : Nat) {ns : List Int} {x : D} {i : Nat} (hi : i < 8) {ρ : Env} (h : outI ns i ρ) :
    OkP ((asgT (denF tab (n + 6)) (.nm 2) (0, x) ρ).bind fun ρ2 => denSs (denF tab (n + 6)) (match c_law.body with | .cons _ (.cons (.forS _ _ _ b) _) => b | _ => .nil) ρ2) fun q => (q.1 = .nx ∨ q.1 = .cnt) ∧ still [] ρ q.2 = true ∧ outI ns (i + 1) q.2 := by
  obtain ⟨st, s2, s3, s4, s5, s6, s7, s8, s9, s10, s11, hst, rfl⟩ := h
  obtain ⟨_, gr, k, es, st', rfl, g, l45, st1⟩ := law_graph_spec (n + 4) hst (by omega)
  have hk0 := g.n0
  have hk1 := g.n1
  have r1 := rng1_ok (n := k) (by omega) (by omega)
  have x0 := ix_g0 k es
  have x1 := ix_g1 k es
  have H1 := Hs_one (k := k) g.n0 g.n1 (by omega)
  have e1 : (tabl k D.int).map oneT = (one k).map tI := by
    unfold one
    rw [tabl_map, tabl_map]; rfl
  have lt : ((one k).map tI).length ≤ sizeL := sz_of (by rw [List.length_map, H1.len]; omega)
  have e2 : D.lst ((one k).map tI) = hD (one k) := rfl
  have tr0 := traced_spec (n + 1) (m := 10) (by omega) g (row := []) (by simp) (fun i hi => by simp at hi)
  have e3 : runD (k, es, one k) [] = (k, es, one k) := rfl
  rw [e3, List.map_nil] at tr0
  simp only at tr0
  have lI0 : ∀ t ρ', ρ' = [some (0, .scr ns), some (1, st'), some (0, t), some (0, gD k es), s4, some (1, hD (one k)), some (1, .lst (es.map pD)), some (1, .lst []), some (0, gD k es), s9, s10, Option.map (fun p => (0, p.2)) s11] → lawI ns t k es (1000 * i + 100) 0 ρ' :=
    fun t ρ' e => ⟨[], (k, es, one k), st', 1, 1, s4, s9, s10, _, Nat.le_refl _, by omega, by omega, ⟨rfl, fun i hi => by simp at hi, st1⟩, e⟩
  have r12 : iterD .rng1 [.int 12] = .ok ((List.range 12).map fun t => D.int ((t : Nat) : Int)) := by
    have := rng1_ok (n := 12) (by omega) (by omega)
    rw [this]; rfl
  generalize hP : (fun q : Fl × Env => (q.1 = Fl.nx ∨ _) ∧ _) = P
  unfold c_law
  simp only
  clear hst
  have keep := And.intro hP (And.intro lI0 (And.intro tr0 (And.intro g l45)))
  have keep2 := And.intro e1 (And.intro hk0 (And.intro hk1 st1))
  have c1 := H1.small (by omega) hk1
  have keep1 := And.intro keep c1
  clear keep hP lI0 e1 tr0 g l45 H1 hk0 hk1 st1 c1
  walk_at "sa"
  clear gr
  refine OkP.step (compL_map (fun _ => 0) (g := oneT) (by simp [still]) _ ?cc) ?_
  case cc =>
    intro y hy
    refine ⟨?_, by decide⟩
    clear hy keep1 keep2 r1 x0 x1 lt e2 e3 r12
    unfold oneT
    walk_at "sx"
  obtain ⟨e1, hk0, hk1, st1⟩ := keep2
  rw [e1]
  clear e3
  walk_at "sa"
  obtain ⟨⟨hP, lI0, tr0, g, l45⟩, c⟩ := keep1
  refine forL_mapB (fun t : Nat => D.int ((t : Nat) : Int)) (List.range 12) (fun j ρ => lawI ns x k es (1000 * i + 100) j ρ) (fun ρ => lawI ns x k es (1000 * i + 100) 12 ρ) (lI0 _ _ rfl) ?step ?hq ?fin
  case step =>
    intro j hj ρ hI
    have hj' : j < 12 := by simpa using hj
    exact (turn_spec n g l45 (by omega) hj' hI)
  case hq =>
    intro ρ' h
    exact h
  case fin =>
    rintro ρ' ⟨row, s, st2, k5, k6, t4, t9, t10, t11, hr, hk5, hk6, R, rfl⟩
    obtain ⟨g1, H2, l1⟩ := R.good g hr
    have tr := traced_spec (n + 1) (m := 10) (by omega) g hr R.ok
    rw [R.eq] at tr
    have hdr := R.dr
    obtain ⟨k', es', hs'⟩ := s
    simp only at g1 H2 l1 tr
    have a := g.small (by omega)
    have b := g1.small (by omega)
    have d := H2.small (by omega) (by have := g1.n1; omega)
    have tiny : (D.lst [.tup [gD k' es', .tup (hs'.map tI)], .tup [gD k es, .tup ((one k).map tI)]]).tiny = true := by
      show ((((gD k' es').tiny && ((D.tup (hs'.map tI)).tiny && true))) && ((((gD k es).tiny && ((D.tup ((one k).map tI)).tiny && true))) && true)) = true
      rw [a.1, b.1, c.1, d.1]; rfl
    have dp : (D.lst [.tup [gD k' es', .tup (hs'.map tI)], .tup [gD k es, .tup ((one k).map tI)]]).dp ≤ 60 := by
      have a2 := a.2.1
      have b2 := b.2.1
      have c2 := c.2.1
      have d2 := d.2.1
      show max (max (gD k' es').dp (max (D.tup (hs'.map tI)).dp 0) + 1) (max (max (gD k es).dp (max (D.tup ((one k).map tI)).dp 0) + 1) 0) + 1 ≤ 60
      omega
    have wt : (D.lst [.tup [gD k' es', .tup (hs'.map tI)], .tup [gD k es, .tup ((one k).map tI)]]).wt ≤ 1000000 := by
      have a2 := a.2.2
      have b2 := b.2.2
      have c2 := c.2.2
      have d2 := d.2.2
      show ((gD k' es').wt + 1 + ((D.tup (hs'.map tI)).wt + 1 + 0)) + 1 + (((gD k es).wt + 1 + ((D.tup ((one k).map tI)).wt + 1 + 0)) + 1 + 0) ≤ 1000000
      omega
    have sm := same_spec (n + 5) tiny dp wt
    have m5 := min1 hk5
    have z5 : k5 ≤ 2 := by omega
    have fin : ∀ t2 t4 t5 t6 t7 t8 t9 t10 t11, outI ns (i + 1) [some (0, .scr ns), some (1, st2), t2, some (0, gD k es), t4, t5, t6, t7, t8, t9, t10, t11] := fun t2 t4 t5 t6 t7 t8 t9 t10 t11 => ⟨st2, t2, _, t4, t5, t6, t7, t8, t9, t10, t11, hdr.mono (by omega), rfl⟩
    have e5 : hD hs' = D.lst (hs'.map tI) := rfl
    rw [e5]
    have lh : (hs'.map tI).length ≤ sizeL := sz_of (by rw [List.length_map, H2.len]; have := g1.n1; omega)
    clear e2 e5 tiny dp wt a b c d hdr R g1 H2 l1 hr hk5 hk6 lI0 st1
    have keep := And.intro hP (And.intro fin e1)
    clear hP fin e1
    generalize gD k' es' = G' at *
    generalize hs'.map tI = hsD at *
    generalize row.map Deed.d = rD at *
    clear r12 g l45 hk0 hk1
    generalize hD (one k) = ho at *
    generalize (one k).map tI = o1 at *
    walk_at "sa"
    refine OkP.step (compL_map (fun _ => 0) (g := oneT) (by simp [still]) _ ?cd) ?_
    case cd =>
      intro y hy
      refine ⟨?_, by decide⟩
      clear hy keep r1 x0 x1 lt tr tr0 sm m5 z5 lh
      unfold oneT
      walk_at "sx"
    obtain ⟨hP, fin, e1⟩ := keep
    rw [e1]
    have keep := And.intro hP fin
    clear hP fin e1
    walk_at "sa"
    obtain ⟨hP, fin⟩ := keep
    subst hP
    exact OkP.ret ⟨.inl rfl, rfl, fin _ _ _ _ _ _ _ _ _⟩
theorem law_true {ns : List Int} (hl : ns.length ≤ 63) : OkP (denF tab 8 f_law [(0, .scr ns)]) fun q => q.1 = (0, .bl true) := by
  obtain ⟨_, e, s, rfl, st⟩ := start_spec 6 hl
  rw [denF_succ tab_law rfl, c_law]
  have r8 : iterD .rng1 [.int 8] = .ok ((List.range 8).map fun t => D.int ((t : Nat) : Int)) := by
    have := rng1_ok (n := 8) (by omega) (by omega)
    rw [this]; rfl
  have keep := st
  clear st
  walk_at "sa"
  refine forL_map (fun t : Nat => D.int ((t : Nat) : Int)) (List.range 8) (outI ns) ⟨s, _, _, _, _, _, _, _, _, _, _, keep, rfl⟩ ?step ?fin
  case step =>
    intro i hi ρ hI
    have hi' : i < 8 := by simpa using hi
    exact law_turn 1 hi' hI
  case fin =>
    intro ρ' hI
    obtain ⟨st, s2, s3, s4, s5, s6, s7, s8, s9, s10, s11, hst, rfl⟩ := hI
    clear e keep r8 hst
    walk_at "sa"
    exact OkP.ret rfl
end
end
end PQ
section
open PySem PySem.Spec PyProof.Rows L2
def top (i : Nat) : Stmt := PySem.Challenge.pw_partsbarred_k02_deeds.main.body.getD i (.Pass ⟨0, 0, 0, 0⟩)
local macro_rules | `(tactic| walk_at "vis") => `(tactic| first | exact Or.inl rfl | exact Or.inr (Or.inl rfl) | exact Or.inr (Or.inr rfl))
local macro_rules | `(tactic| walk_at "loc") => `(tactic| first | exact Or.inl rfl | exact Or.inr rfl)
structure Free (mg : Str → Option Value) : Prop where
  f_abs : mg "abs" = none
  f_all : mg "all" = none
  f_bool : mg "bool" = none
  f_enumerate : mg "enumerate" = none
  f_int : mg "int" = none
  f_isinstance : mg "isinstance" = none
  f_len : mg "len" = none
  f_list : mg "list" = none
  f_range : mg "range" = none
  f_repr : mg "repr" = none
  f_set : mg "set" = none
  f_sorted : mg "sorted" = none
  f_tuple : mg "tuple" = none
  f_zip : mg "zip" = none
  c_MAX_DEEDS : ∃ t, mg "MAX_DEEDS" = some (.int 200 t)
  c_MAX_POINTS : ∃ t, mg "MAX_POINTS" = some (.int 20 t)
/-- the defs that may be called -/
structure Defs (P : Program) (w : World) (K : PySem.W.Frag) (mg : Str → Option Value) (base : Heap) (Γ : Gx) (F : Fn) (k : Nat) : Prop where
  c_is_integer : Cl P w K mg base Γ F k "is_integer" 1 ["value"] []
  c_is_edge : Cl P w K mg base Γ F k "is_edge" 2 ["value", "many"] []
  c_is_graph : Cl P w K mg base Γ F k "is_graph" 3 ["value"] []
  c_check_graph_d : Cl P w K mg base Γ F k "check_graph" 4 ["graph", "name"] [V.str "graph"]
  c_edge_in : Cl P w K mg base Γ F k "edge_in" 6 ["one", "other"] []
  c_graph_in : Cl P w K mg base Γ F k "graph_in" 7 ["many", "pairs"] []
  c_is_deed : Cl P w K mg base Γ F k "is_deed" 67 ["value", "graph"] []
  c_numbers_in : Cl P w K mg base Γ F k "numbers_in" 68 ["graph", "deed"] []
  c_done_in : Cl P w K mg base Γ F k "done_in" 69 ["graph", "deed"] []
  c_done : Cl P w K mg base Γ F k "done" 70 ["graph", "deed"] []
  c_deeds_of : Cl P w K mg base Γ F k "deeds_of" 71 ["graph"] []
  c_all_deeds : Cl P w K mg base Γ F k "all_deeds" 72 ["graph"] []
  c_traced_in : Cl P w K mg base Γ F k "traced_in" 73 ["graph", "deeds"] []
  c_traced : Cl P w K mg base Γ F k "traced" 74 ["graph", "deeds"] []
  c__law_start : Cl P w K mg base Γ F k "_law_start" 25 ["script"] []
  c__law_draw : Cl P w K mg base Γ F k "_law_draw" 26 ["state", "many"] []
  c__law_pick : Cl P w K mg base Γ F k "_law_pick" 27 ["state", "some"] []
  c__law_same : Cl P w K mg base Γ F k "_law_same" 28 ["actual", "due"] []
  c__law_pairs : Cl P w K mg base Γ F k "_law_pairs" 29 ["many"] []
  c__law_graph : Cl P w K mg base Γ F k "_law_graph" 30 ["state", "most"] []
  c__law_done : Cl P w K mg base Γ F k "_law_done" 75 ["houses", "edges", "deed"] []
  c__law_deeds : Cl P w K mg base Γ F k "_law_deeds" 76 ["many", "edges"] []
section
variable {P : Program} {w : World} {K : PySem.W.Frag} {mg : Str → Option Value} {base : Heap} {Γ : Gx} {Pr : Nat → Option FDef} {n k : Nat}
theorem nd_is_integer : (["value"] : List Str).Nodup := by decide +kernel
theorem body_is_integer (C : Defs P w K mg base Γ (denF Pr n) k) (Fr : Free mg) (hK : K = Γ.K) (hw : w = Γ.w) (fa : Addr) (cdv : Value) (A : Around) (outer : List PySem.Env) (s : Shared) (H : Hp) (E : XK) (hr : Room k (A.deeper (envOfC "is_integer" (defScope (top 4)) s.heap.objs.size fa cdv))) (gd : A.guards = some []) :
    PSs (cxOf CX0 P w K mg base ["value"] "is_integer" (defScope (top 4)) fa cdv A outer s H E) (defBody (top 4)) (tSs ⟨Γ, 1, denF Pr n, ew0 E⟩ [] c_is_integer.body) := by
  have xo := xok_of (base := base) (mg := mg) (N := ["value"]) (outer := outer) (H := H) (E := E) (P := P) hK hw hr gd
  have nd := nd_is_integer
  exact PSs.nox (ss_cons (s_ret (e_and (e_isi xo isi_int hop_int (by exact rfl) Fr.f_isinstance (by exact rfl) Fr.f_int PyProof.Rows.boot_int (o_pk (i := 0) rfl (by walk_at "vis"))) (e_one (e_not xo (e_isi xo isi_bool hop_bool (by exact rfl) Fr.f_isinstance (by exact rfl) Fr.f_bool PyProof.Rows.boot_bool (o_pk (i := 0) rfl (by walk_at "vis"))))))) ss_nil)
theorem nd_is_edge : (["value", "many"] : List Str).Nodup := by decide +kernel
theorem body_is_edge (C : Defs P w K mg base Γ (denF Pr n) k) (Fr : Free mg) (hK : K = Γ.K) (hw : w = Γ.w) (fa : Addr) (cdv : Value) (A : Around) (outer : List PySem.Env) (s : Shared) (H : Hp) (E : XK) (hr : Room k (A.deeper (envOfC "is_edge" (defScope (top 8)) s.heap.objs.size fa cdv))) (gd : A.guards = some []) :
    PSs (cxOf CX0 P w K mg base ["value", "many"] "is_edge" (defScope (top 8)) fa cdv A outer s H E) (defBody (top 8)) (tSs ⟨Γ, 2, denF Pr n, ew0 E⟩ [] c_is_edge.body) := by
  have xo := xok_of (base := base) (mg := mg) (N := ["value", "many"]) (outer := outer) (H := H) (E := E) (P := P) hK hw hr gd
  have nd := nd_is_edge
  exact PSs.nox (ss_cons (s_if (PW.pt (t_or (t_not (t_val xo (e_isi xo isi_tuple hop_tup (by exact rfl) Fr.f_isinstance (by exact rfl) Fr.f_tuple PyProof.Rows.boot_tuple (o_pk (i := 0) rfl (by walk_at "vis"))))) (t_or (t_cmp xo (ok_ne xo) (e_blt (cr_len xo) (by exact rfl) Fr.f_len PySem.boot_len (pa_os (o_pk (i := 0) rfl (by walk_at "vis")) pa_os0)) e_int (nomark _)) (t_or (t_not (t_val xo (e_callC xo C.c_is_integer hr (fun _ _ _ h => h) (by exact rfl) rfl (pa_ar (e_ix xo (o_pk (i := 0) rfl (by walk_at "vis")) e_int) pa_ar0)))) (t_or1 (t_not (t_val xo (e_callC xo C.c_is_integer hr (fun _ _ _ h => h) (by exact rfl) rfl (pa_ar (e_ix xo (o_pk (i := 0) rfl (by walk_at "vis")) e_int) pa_ar0))))))))) (ss_cons (s_ret e_bl) ss_nil) ss_nil) (ss_cons (s_ret (e_chain3 (ok_le xo) (ok_lt xo) (ok_lt xo) e_int (e_ix xo (o_pk (i := 0) rfl (by walk_at "vis")) e_int) (e_ix xo (o_pk (i := 0) rfl (by walk_at "vis")) e_int) (e_var (i := 1) rfl (by walk_at "vis")))) ss_nil))
theorem nd_is_graph : (["value", "one", "other", "own"] : List Str).Nodup := by decide +kernel
theorem body_is_graph (C : Defs P w K mg base Γ (denF Pr n) k) (Fr : Free mg) (hK : K = Γ.K) (hw : w = Γ.w) (fa : Addr) (cdv : Value) (A : Around) (outer : List PySem.Env) (s : Shared) (H : Hp) (E : XK) (hr : Room k (A.deeper (envOfC "is_graph" (defScope (top 9)) s.heap.objs.size fa cdv))) (gd : A.guards = some []) :
    PSs (cxOf CX0 P w K mg base ["value", "one", "other", "own"] "is_graph" (defScope (top 9)) fa cdv A outer s H E) (defBody (top 9)) (tSs ⟨Γ, 4, denF Pr n, ew0 E⟩ [] c_is_graph.body) := by
  have xo := xok_of (base := base) (mg := mg) (N := ["value", "one", "other", "own"]) (outer := outer) (H := H) (E := E) (P := P) hK hw hr gd
  have nd := nd_is_graph
  exact PSs.nox (ss_cons (s_if (PW.pt (t_or (t_not (t_val xo (e_isi xo isi_tuple hop_tup (by exact rfl) Fr.f_isinstance (by exact rfl) Fr.f_tuple PyProof.Rows.boot_tuple (o_pk (i := 0) rfl (by walk_at "vis"))))) (t_or (t_cmp xo (ok_ne xo) (e_blt (cr_len xo) (by exact rfl) Fr.f_len PySem.boot_len (pa_os (o_pk (i := 0) rfl (by walk_at "vis")) pa_os0)) e_int (nomark _)) (t_or (t_not (t_val xo (e_callC xo C.c_is_integer hr (fun _ _ _ h => h) (by exact rfl) rfl (pa_ar (e_ix xo (o_pk (i := 0) rfl (by walk_at "vis")) e_int) pa_ar0)))) (t_or1 (t_not (t_val xo (e_isi xo isi_tuple hop_tup (by exact rfl) Fr.f_isinstance (by exact rfl) Fr.f_tuple PyProof.Rows.boot_tuple (e_ix xo (o_pk (i := 0) rfl (by walk_at "vis")) e_int))))))))) (ss_cons (s_ret e_bl) ss_nil) ss_nil) (ss_cons (s_if (PW.pt (t_or (t_not (t_chain xo (ok_le xo) (ok_le xo) e_int (e_ix xo (o_pk (i := 0) rfl (by walk_at "vis")) e_int) (e_glo (by exact rfl) (Fr.c_MAX_POINTS.choose_spec)))) (t_or1 (t_not (t_val xo (e_blt (cr_all xo) (by exact rfl) Fr.f_all PyProof.Rows.boot_all (pa_os (e_lc (own := [("own", 3)]) xo nd (f_seq xo (e_ix xo (o_pk (i := 0) rfl (by walk_at "vis")) e_int)) (blkOk_by (by kernel_rfl)) (fun _ _ _ _ _ => g_nm (i := 3) nd rfl (by walk_at "loc") (show (3 : Nat) < 4 by decide) (by decide)) (fun _ _ _ _ _ => ts_yes) (fun _ _ _ _ _ => e_callC (XOk.blk xo _ _ _ _ _) C.c_is_edge hr (fun _ _ _ h => h) (by exact rfl) rfl (pa_ar (e_var (i := 3) rfl (by walk_at "vis")) (pa_ar (e_ix (XOk.blk xo _ _ _ _ _) (o_pk (i := 0) rfl (by walk_at "vis")) e_int) pa_ar0))) (by decide)) pa_os0))))))) (ss_cons (s_ret e_bl) ss_nil) ss_nil) (ss_cons (s_ret (e_blt (cr_all xo) (by exact rfl) Fr.f_all PyProof.Rows.boot_all (pa_os (e_lc (own := [("one", 1), ("other", 2)]) xo nd (f_zip xo (by exact rfl) Fr.f_zip (e_ix xo (o_pk (i := 0) rfl (by walk_at "vis")) e_int) (e_slL xo (e_ix xo (o_pk (i := 0) rfl (by walk_at "vis")) e_int) e_int)) (blkOk_by (by kernel_rfl)) (fun _ _ _ _ _ => g_tp (XOk.blk xo _ _ _ _ _) (gs_cons (g_nm (i := 1) nd rfl (by walk_at "loc") (show (1 : Nat) < 4 by decide) (by decide)) (gs_cons (g_nm (i := 2) nd rfl (by walk_at "loc") (show (2 : Nat) < 4 by decide) (by decide)) gs_nil))) (fun _ _ _ _ _ => ts_yes) (fun _ _ _ _ _ => e_cmp (ok_lt (XOk.blk xo _ _ _ _ _)) (o_pk (i := 1) rfl (by walk_at "vis")) (o_pk (i := 2) rfl (by walk_at "vis")) (nomark _)) (by decide)) pa_os0))) ss_nil)))
theorem nd_check_graph : (["graph", "name"] : List Str).Nodup := by decide +kernel
theorem body_check_graph (C : Defs P w K mg base Γ (denF Pr n) k) (Fr : Free mg) (hK : K = Γ.K) (hw : w = Γ.w) (fa : Addr) (cdv : Value) (A : Around) (outer : List PySem.Env) (s : Shared) (H : Hp) (E : XK) (hr : Room k (A.deeper (envOfC "check_graph" (defScope (top 10)) s.heap.objs.size fa cdv))) (gd : A.guards = some []) :
    PSs (cxOf CX0 P w K mg base ["graph", "name"] "check_graph" (defScope (top 10)) fa cdv A outer s H E) (defBody (top 10)) (tSs ⟨Γ, 2, denF Pr n, ew0 E⟩ [] c_check_graph.body) := by
  have xo := xok_of (base := base) (mg := mg) (N := ["graph", "name"]) (outer := outer) (H := H) (E := E) (P := P) hK hw hr gd
  have nd := nd_check_graph
  exact PSs.nox (ss_cons (s_if (t_not (t_val xo (e_callC xo C.c_is_graph hr (fun _ _ _ h => h) (by exact rfl) rfl (pa_ar (e_var (i := 0) rfl (by walk_at "vis")) pa_ar0)))) (ss_cons (s_rse (fun _ _ _ h => h)) ss_nil) ss_nil) ss_nil)
theorem nd_edge_in : (["one", "other"] : List Str).Nodup := by decide +kernel
theorem body_edge_in (C : Defs P w K mg base Γ (denF Pr n) k) (Fr : Free mg) (hK : K = Γ.K) (hw : w = Γ.w) (fa : Addr) (cdv : Value) (A : Around) (outer : List PySem.Env) (s : Shared) (H : Hp) (E : XK) (hr : Room k (A.deeper (envOfC "edge_in" (defScope (top 11)) s.heap.objs.size fa cdv))) (gd : A.guards = some []) :
    PSs (cxOf CX0 P w K mg base ["one", "other"] "edge_in" (defScope (top 11)) fa cdv A outer s H E) (defBody (top 11)) (tSs ⟨Γ, 2, denF Pr n, ew0 E⟩ [] c_edge_in.body) := by
  have xo := xok_of (base := base) (mg := mg) (N := ["one", "other"]) (outer := outer) (H := H) (E := E) (P := P) hK hw hr gd
  have nd := nd_edge_in
  exact PSs.nox (ss_cons (s_ret (e_ite (t_cmp xo (ok_lt xo) (o_pk (i := 0) rfl (by walk_at "vis")) (o_pk (i := 1) rfl (by walk_at "vis")) (nomark _)) (e_tup (pa_sh (e_var (i := 0) rfl (by walk_at "vis")) (pa_sh (e_var (i := 1) rfl (by walk_at "vis")) pa_sh0))) (e_tup (pa_sh (e_var (i := 1) rfl (by walk_at "vis")) (pa_sh (e_var (i := 0) rfl (by walk_at "vis")) pa_sh0))))) ss_nil)
theorem nd_graph_in : (["many", "pairs", "one", "other"] : List Str).Nodup := by decide +kernel
theorem body_graph_in (C : Defs P w K mg base Γ (denF Pr n) k) (Fr : Free mg) (hK : K = Γ.K) (hw : w = Γ.w) (fa : Addr) (cdv : Value) (A : Around) (outer : List PySem.Env) (s : Shared) (H : Hp) (E : XK) (hr : Room k (A.deeper (envOfC "graph_in" (defScope (top 12)) s.heap.objs.size fa cdv))) (gd : A.guards = some []) :
    PSs (cxOf CX0 P w K mg base ["many", "pairs", "one", "other"] "graph_in" (defScope (top 12)) fa cdv A outer s H E) (defBody (top 12)) (tSs ⟨Γ, 4, denF Pr n, ew0 E⟩ [] c_graph_in.body) := by
  have xo := xok_of (base := base) (mg := mg) (N := ["many", "pairs", "one", "other"]) (outer := outer) (H := H) (E := E) (P := P) hK hw hr gd
  have nd := nd_graph_in
  exact PSs.nox (ss_cons (s_ret (e_tup (pa_sh (e_var (i := 0) rfl (by walk_at "vis")) (pa_sh (e_ty (cr_tupOf xo) (by exact rfl) Fr.f_tuple PyProof.Rows.boot_tuple (pa_os (e_blt (cr_srt xo) (by exact rfl) Fr.f_sorted PyProof.Rows.boot_sorted (pa_os (e_dc (own := [("one", 2), ("other", 3)]) xo nd (f_seq xo (o_pk (i := 1) rfl (by walk_at "vis"))) (blkOk_by (by kernel_rfl)) (fun _ _ _ _ _ => g_tp (XOk.blk xo _ _ _ _ _) (gs_cons (g_nm (i := 2) nd rfl (by walk_at "loc") (show (2 : Nat) < 4 by decide) (by decide)) (gs_cons (g_nm (i := 3) nd rfl (by walk_at "loc") (show (3 : Nat) < 4 by decide) (by decide)) gs_nil))) (fun _ _ _ _ _ => ts_yes) (fun _ _ _ _ _ => e_callC (XOk.blk xo _ _ _ _ _) C.c_edge_in hr (fun _ _ _ h => h) (by exact rfl) rfl (pa_ar (e_var (i := 2) rfl (by walk_at "vis")) (pa_ar (e_var (i := 3) rfl (by walk_at "vis")) pa_ar0))) (fun _ _ _ _ _ => e_bl) (by decide)) pa_os0)) pa_os0)) pa_sh0)))) ss_nil)
theorem nd_is_deed : (["value", "graph"] : List Str).Nodup := by decide +kernel
theorem body_is_deed (C : Defs P w K mg base Γ (denF Pr n) k) (Fr : Free mg) (hK : K = Γ.K) (hw : w = Γ.w) (fa : Addr) (cdv : Value) (A : Around) (outer : List PySem.Env) (s : Shared) (H : Hp) (E : XK) (hr : Room k (A.deeper (envOfC "is_deed" (defScope (top 14)) s.heap.objs.size fa cdv))) (gd : A.guards = some []) :
    PSs (cxOf CX0 P w K mg base ["value", "graph"] "is_deed" (defScope (top 14)) fa cdv A outer s H E) (defBody (top 14)) (tSs ⟨Γ, 2, denF Pr n, ew0 E⟩ [] c_is_deed.body) := by
  have xo := xok_of (base := base) (mg := mg) (N := ["value", "graph"]) (outer := outer) (H := H) (E := E) (P := P) hK hw hr gd
  have nd := nd_is_deed
  exact PSs.nox (ss_cons (s_if (PW.pt (t_or (t_not (t_val xo (e_isi xo isi_tuple hop_tup (by exact rfl) Fr.f_isinstance (by exact rfl) Fr.f_tuple PyProof.Rows.boot_tuple (o_pk (i := 0) rfl (by walk_at "vis"))))) (t_or (t_not (t_nm xo (pe_var (i := 0) rfl (by walk_at "vis")))) (t_or1 (t_cmp xo (cr_notIn xo) (e_ix xo (o_pk (i := 0) rfl (by walk_at "vis")) e_int) (e_tup (pa_sh e_str (pa_sh e_str (pa_sh e_str pa_sh0)))) (by with_unfolding_all rfl)))))) (ss_cons (s_ret e_bl) ss_nil) ss_nil) (ss_cons (s_if (t_cmp xo (ok_eq xo) (e_ix xo (o_pk (i := 0) rfl (by walk_at "vis")) e_int) e_str (nomark _)) (ss_cons (s_ret (e_and (e_cmp (ok_eq xo) (e_blt (cr_len xo) (by exact rfl) Fr.f_len PySem.boot_len (pa_os (o_pk (i := 0) rfl (by walk_at "vis")) pa_os0)) e_int (nomark _)) (e_and (e_callC xo C.c_is_integer hr (fun _ _ _ h => h) (by exact rfl) rfl (pa_ar (e_ix xo (o_pk (i := 0) rfl (by walk_at "vis")) e_int) pa_ar0)) (e_one (e_chain (ok_le xo) (ok_lt xo) e_int (e_ix xo (o_pk (i := 0) rfl (by walk_at "vis")) e_int) (e_ix xo (o_pk (i := 1) rfl (by walk_at "vis")) e_int)))))) ss_nil) ss_nil) (ss_cons (s_ret (e_and (e_cmp (ok_eq xo) (e_blt (cr_len xo) (by exact rfl) Fr.f_len PySem.boot_len (pa_os (o_pk (i := 0) rfl (by walk_at "vis")) pa_os0)) e_int (nomark _)) (e_and (e_callC xo C.c_is_edge hr (fun _ _ _ h => h) (by exact rfl) rfl (pa_ar (e_slL xo (o_pk (i := 0) rfl (by walk_at "vis")) e_int) (pa_ar (e_ix xo (o_pk (i := 1) rfl (by walk_at "vis")) e_int) pa_ar0))) (e_one (e_cmp (cr_in xo) (e_slL xo (o_pk (i := 0) rfl (by walk_at "vis")) e_int) (e_ix xo (o_pk (i := 1) rfl (by walk_at "vis")) e_int) (by with_unfolding_all rfl)))))) ss_nil)))
theorem nd_numbers_in : (["graph", "deed", "gone", "found", "own"] : List Str).Nodup := by decide +kernel
theorem body_numbers_in (C : Defs P w K mg base Γ (denF Pr n) k) (Fr : Free mg) (hK : K = Γ.K) (hw : w = Γ.w) (fa : Addr) (cdv : Value) (A : Around) (outer : List PySem.Env) (s : Shared) (H : Hp) (E : XK) (hr : Room k (A.deeper (envOfC "numbers_in" (defScope (top 15)) s.heap.objs.size fa cdv))) (gd : A.guards = some []) :
    PSs (cxOf CX0 P w K mg base ["graph", "deed", "gone", "found", "own"] "numbers_in" (defScope (top 15)) fa cdv A outer s H E) (defBody (top 15)) (tSs ⟨Γ, 5, denF Pr n, ew0 E⟩ [2, 3] c_numbers_in.body) := by
  have xo := xok_of (base := base) (mg := mg) (N := ["graph", "deed", "gone", "found", "own"]) (outer := outer) (H := H) (E := E) (P := P) hK hw hr gd
  have nd := nd_numbers_in
  exact PSs.nox (ss_cons (s_if (t_cmp xo (ok_eq xo) (e_ix xo (o_pk (i := 1) rfl (by walk_at "vis")) e_int) e_str (nomark _)) (ss_cons (s_ret (e_lrng1 xo (by exact rfl) Fr.f_list (by exact rfl) Fr.f_range (e_ix xo (o_pk (i := 0) rfl (by walk_at "vis")) e_int))) ss_nil) ss_nil) (ss_cons (s_set (i := 2) nd rfl (by walk_at "loc") (e_ite (t_cmp xo (ok_eq xo) (e_ix xo (o_pk (i := 1) rfl (by walk_at "vis")) e_int) e_str (nomark _)) (e_ix xo (o_pk (i := 1) rfl (by walk_at "vis")) e_int) (e_ix xo (o_pk (i := 1) rfl (by walk_at "vis")) e_int)) (show (2 : Nat) < 5 by decide) (by decide)) (ss_cons (s_setLc (i := 3) (own := [("own", 4)]) xo nd rfl rfl (show (3 : Nat) < 5 by decide) (by decide) (sw_true rfl rfl rfl rfl) (f_rng1 xo (by exact rfl) Fr.f_range (e_ix xo (o_pk (i := 0) rfl (by walk_at "vis")) e_int)) (blkOk_by (by kernel_rfl)) (fun _ _ _ _ _ => g_nm (i := 4) nd rfl (by walk_at "loc") (show (4 : Nat) < 5 by decide) (by decide)) (fun _ _ _ _ _ => ts_yes) (fun _ _ _ _ _ => e_ite (t_cmp (XOk.blk xo _ _ _ _ _) (ok_lt (XOk.blk xo _ _ _ _ _)) (o_pk (i := 4) rfl (by walk_at "vis")) (o_pk (i := 2) rfl (by walk_at "vis")) (nomark _)) (e_var (i := 4) rfl (by walk_at "vis")) (e_bin (ok_sub (XOk.blk xo _ _ _ _ _)) (o_pk (i := 4) rfl (by walk_at "vis")) e_int)) (by decide)) (ss_cons (s_asg (e_ite (t_cmp xo (ok_eq xo) (e_ix xo (o_pk (i := 1) rfl (by walk_at "vis")) e_int) e_str (nomark _)) e_non (e_ix xo (o_pk (i := 1) rfl (by walk_at "vis")) e_int)) (g_sb (i := 3) xo rfl (by walk_at "vis") (e_var (i := 2) rfl (by walk_at "vis")))) (ss_cons (s_ret (e_mv (i := 3) rfl (by walk_at "vis"))) ss_nil)))))
theorem nd_done_in : (["graph", "deed", "numbers", "pairs", "one", "other", "own"] : List Str).Nodup := by decide +kernel
theorem body_done_in (C : Defs P w K mg base Γ (denF Pr n) k) (Fr : Free mg) (hK : K = Γ.K) (hw : w = Γ.w) (fa : Addr) (cdv : Value) (A : Around) (outer : List PySem.Env) (s : Shared) (H : Hp) (E : XK) (hr : Room k (A.deeper (envOfC "done_in" (defScope (top 16)) s.heap.objs.size fa cdv))) (gd : A.guards = some []) :
    PSs (cxOf CX0 P w K mg base ["graph", "deed", "numbers", "pairs", "one", "other", "own"] "done_in" (defScope (top 16)) fa cdv A outer s H E) (defBody (top 16)) (tSs ⟨Γ, 7, denF Pr n, ew0 E⟩ [2, 3] c_done_in.body) := by
  have xo := xok_of (base := base) (mg := mg) (N := ["graph", "deed", "numbers", "pairs", "one", "other", "own"]) (outer := outer) (H := H) (E := E) (P := P) hK hw hr gd
  have nd := nd_done_in
  exact PSs.nox (ss_cons (s_if (t_cmp xo (ok_eq xo) (e_ix xo (o_pk (i := 1) rfl (by walk_at "vis")) e_int) e_str (nomark _)) (ss_cons (s_ret (e_tup (pa_sh (e_ix xo (o_pk (i := 0) rfl (by walk_at "vis")) e_int) (pa_sh (e_ty (cr_tupOf xo) (by exact rfl) Fr.f_tuple PyProof.Rows.boot_tuple (pa_os (e_lc (own := [("own", 6)]) xo nd (f_seq xo (e_ix xo (o_pk (i := 0) rfl (by walk_at "vis")) e_int)) (blkOk_by (by kernel_rfl)) (fun _ _ _ _ _ => g_nm (i := 6) nd rfl (by walk_at "loc") (show (6 : Nat) < 7 by decide) (by decide)) (fun _ _ _ _ _ => ts_one (t_cmp (XOk.blk xo _ _ _ _ _) (ok_ne (XOk.blk xo _ _ _ _ _)) (o_pk (i := 6) rfl (by walk_at "vis")) (e_slL (XOk.blk xo _ _ _ _ _) (o_pk (i := 1) rfl (by walk_at "vis")) e_int) (nomark _))) (fun _ _ _ _ _ => e_var (i := 6) rfl (by walk_at "vis")) (by decide)) pa_os0)) pa_sh0)))) ss_nil) ss_nil) (ss_cons (s_set (i := 2) nd rfl (by walk_at "loc") (e_callC xo C.c_numbers_in hr (fun _ _ _ h => h) (by exact rfl) rfl (pa_ar (e_var (i := 0) rfl (by walk_at "vis")) (pa_ar (e_var (i := 1) rfl (by walk_at "vis")) pa_ar0))) (show (2 : Nat) < 7 by decide) (by decide)) (ss_cons (s_setLc (i := 3) (own := [("one", 4), ("other", 5)]) xo nd rfl rfl (show (3 : Nat) < 7 by decide) (by decide) (sw_true rfl rfl rfl rfl) (f_seq xo (e_ix xo (o_pk (i := 0) rfl (by walk_at "vis")) e_int)) (blkOk_by (by kernel_rfl)) (fun _ _ _ _ _ => g_tp (XOk.blk xo _ _ _ _ _) (gs_cons (g_nm (i := 4) nd rfl (by walk_at "loc") (show (4 : Nat) < 7 by decide) (by decide)) (gs_cons (g_nm (i := 5) nd rfl (by walk_at "loc") (show (5 : Nat) < 7 by decide) (by decide)) gs_nil))) (fun _ _ _ _ _ => ts_yes) (fun _ _ _ _ _ => e_tup (pa_sh (e_ix (XOk.blk xo _ _ _ _ _) (o_pk (i := 2) rfl (by walk_at "vis")) (o_pk (i := 4) rfl (by walk_at "vis"))) (pa_sh (e_ix (XOk.blk xo _ _ _ _ _) (o_pk (i := 2) rfl (by walk_at "vis")) (o_pk (i := 5) rfl (by walk_at "vis"))) pa_sh0))) (by decide)) (ss_cons (s_ret (e_callC xo C.c_graph_in hr (fun _ _ _ h => h) (by exact rfl) rfl (pa_ar (e_bin (ok_sub xo) (e_ix xo (o_pk (i := 0) rfl (by walk_at "vis")) e_int) e_int) (pa_ar (e_lc (own := [("own", 6)]) xo nd (f_seq xo (o_pk (i := 3) rfl (by walk_at "vis"))) (blkOk_by (by kernel_rfl)) (fun _ _ _ _ _ => g_nm (i := 6) nd rfl (by walk_at "loc") (show (6 : Nat) < 7 by decide) (by decide)) (fun _ _ _ _ _ => ts_one (PW.pt (t_and (t_cmp (XOk.blk xo _ _ _ _ _) (cr_notIn (XOk.blk xo _ _ _ _ _)) e_non (o_pk (i := 6) rfl (by walk_at "vis")) (by with_unfolding_all rfl)) (t_and1 (t_cmp (XOk.blk xo _ _ _ _ _) (ok_ne (XOk.blk xo _ _ _ _ _)) (e_ix (XOk.blk xo _ _ _ _ _) (o_pk (i := 6) rfl (by walk_at "vis")) e_int) (e_ix (XOk.blk xo _ _ _ _ _) (o_pk (i := 6) rfl (by walk_at "vis")) e_int) (nomark _)))))) (fun _ _ _ _ _ => e_var (i := 6) rfl (by walk_at "vis")) (by decide)) pa_ar0)))) ss_nil))))
theorem nd_done : (["graph", "deed"] : List Str).Nodup := by decide +kernel
theorem body_done (C : Defs P w K mg base Γ (denF Pr n) k) (Fr : Free mg) (hK : K = Γ.K) (hw : w = Γ.w) (fa : Addr) (cdv : Value) (A : Around) (outer : List PySem.Env) (s : Shared) (H : Hp) (E : XK) (hr : Room k (A.deeper (envOfC "done" (defScope (top 17)) s.heap.objs.size fa cdv))) (gd : A.guards = some []) :
    PSs (cxOf CX0 P w K mg base ["graph", "deed"] "done" (defScope (top 17)) fa cdv A outer s H E) (defBody (top 17)) (tSs ⟨Γ, 2, denF Pr n, ew0 E⟩ [] c_done.body) := by
  have xo := xok_of (base := base) (mg := mg) (N := ["graph", "deed"]) (outer := outer) (H := H) (E := E) (P := P) hK hw hr gd
  have nd := nd_done
  exact PSs.nox (ss_cons (s_ex (e_callC xo C.c_check_graph_d hr (fun _ _ _ h => h) (by exact rfl) rfl (pa_ar (e_var (i := 0) rfl (by walk_at "vis")) (pa_arc (fun _ => .str _))))) (ss_cons (s_if (t_not (t_val xo (e_callC xo C.c_is_deed hr (fun _ _ _ h => h) (by exact rfl) rfl (pa_ar (e_var (i := 1) rfl (by walk_at "vis")) (pa_ar (e_var (i := 0) rfl (by walk_at "vis")) pa_ar0))))) (ss_cons (s_rse (fun _ _ _ h => h)) ss_nil) ss_nil) (ss_cons (s_ret (e_callC xo C.c_done_in hr (fun _ _ _ h => h) (by exact rfl) rfl (pa_ar (e_var (i := 0) rfl (by walk_at "vis")) (pa_ar (e_var (i := 1) rfl (by walk_at "vis")) pa_ar0)))) ss_nil)))
theorem nd_deeds_of : (["graph"] : List Str).Nodup := by decide +kernel
theorem body_deeds_of (C : Defs P w K mg base Γ (denF Pr n) k) (Fr : Free mg) (hK : K = Γ.K) (hw : w = Γ.w) (fa : Addr) (cdv : Value) (A : Around) (outer : List PySem.Env) (s : Shared) (H : Hp) (E : XK) (hr : Room k (A.deeper (envOfC "deeds_of" (defScope (top 18)) s.heap.objs.size fa cdv))) (gd : A.guards = some []) :
    PSs (cxOf CX0 P w K mg base ["graph"] "deeds_of" (defScope (top 18)) fa cdv A outer s H E) (defBody (top 18)) (tSs ⟨Γ, 1, denF Pr n, ew0 E⟩ [] c_deeds_of.body) := by
  have xo := xok_of (base := base) (mg := mg) (N := ["graph"]) (outer := outer) (H := H) (E := E) (P := P) hK hw hr gd
  have nd := nd_deeds_of
  exact PSs.nox (ss_cons (s_ex (e_callC xo C.c_check_graph_d hr (fun _ _ _ h => h) (by exact rfl) rfl (pa_ar (e_var (i := 0) rfl (by walk_at "vis")) (pa_arc (fun _ => .str _))))) (ss_cons (s_ret (e_ty (cr_tupOf xo) (by exact rfl) Fr.f_tuple PyProof.Rows.boot_tuple (pa_os (e_callC xo C.c_all_deeds hr (fun _ _ _ h => h) (by exact rfl) rfl (pa_ar (e_var (i := 0) rfl (by walk_at "vis")) pa_ar0)) pa_os0))) ss_nil))
theorem nd_all_deeds : (["graph", "cuts", "own"] : List Str).Nodup := by decide +kernel
theorem body_all_deeds (C : Defs P w K mg base Γ (denF Pr n) k) (Fr : Free mg) (hK : K = Γ.K) (hw : w = Γ.w) (fa : Addr) (cdv : Value) (A : Around) (outer : List PySem.Env) (s : Shared) (H : Hp) (E : XK) (hr : Room k (A.deeper (envOfC "all_deeds" (defScope (top 19)) s.heap.objs.size fa cdv))) (gd : A.guards = some []) :
    PSs (cxOf CX0 P w K mg base ["graph", "cuts", "own"] "all_deeds" (defScope (top 19)) fa cdv A outer s H E) (defBody (top 19)) (tSs ⟨Γ, 3, denF Pr n, ew0 E⟩ [1] c_all_deeds.body) := by
  have xo := xok_of (base := base) (mg := mg) (N := ["graph", "cuts", "own"]) (outer := outer) (H := H) (E := E) (P := P) hK hw hr gd
  have nd := nd_all_deeds
  exact PSs.nox (ss_cons (s_setLc (i := 1) (own := [("own", 2)]) xo nd rfl rfl (show (1 : Nat) < 3 by decide) (by decide) (sw_true rfl rfl rfl rfl) (f_seq xo (e_ix xo (o_pk (i := 0) rfl (by walk_at "vis")) e_int)) (blkOk_by (by kernel_rfl)) (fun _ _ _ _ _ => g_nm (i := 2) nd rfl (by walk_at "loc") (show (2 : Nat) < 3 by decide) (by decide)) (fun _ _ _ _ _ => ts_yes) (fun _ _ _ _ _ => e_bin (ok_add (XOk.blk xo _ _ _ _ _)) (e_tup (pa_sh e_str pa_sh0)) (o_pk (i := 2) rfl (by walk_at "vis"))) (by decide)) (ss_cons (s_ret (e_bin (ok_add xo) (e_bin (ok_add xo) (e_lc (own := [("own", 2)]) xo nd (f_rng1 xo (by exact rfl) Fr.f_range (e_ix xo (o_pk (i := 0) rfl (by walk_at "vis")) e_int)) (blkOk_by (by kernel_rfl)) (fun _ _ _ _ _ => g_nm (i := 2) nd rfl (by walk_at "loc") (show (2 : Nat) < 3 by decide) (by decide)) (fun _ _ _ _ _ => ts_yes) (fun _ _ _ _ _ => e_tup (pa_sh e_str (pa_sh (e_var (i := 2) rfl (by walk_at "vis")) pa_sh0))) (by decide)) (o_pk (i := 1) rfl (by walk_at "vis"))) (e_lc (own := [("own", 2)]) xo nd (f_seq xo (e_ix xo (o_pk (i := 0) rfl (by walk_at "vis")) e_int)) (blkOk_by (by kernel_rfl)) (fun _ _ _ _ _ => g_nm (i := 2) nd rfl (by walk_at "loc") (show (2 : Nat) < 3 by decide) (by decide)) (fun _ _ _ _ _ => ts_yes) (fun _ _ _ _ _ => e_bin (ok_add (XOk.blk xo _ _ _ _ _)) (e_tup (pa_sh e_str pa_sh0)) (o_pk (i := 2) rfl (by walk_at "vis"))) (by decide)))) ss_nil))
theorem nd_traced_in : (["graph", "deeds", "houses", "deed", "own", "numbers", "made", "number"] : List Str).Nodup := by decide +kernel
theorem body_traced_in (C : Defs P w K mg base Γ (denF Pr n) k) (Fr : Free mg) (hK : K = Γ.K) (hw : w = Γ.w) (fa : Addr) (cdv : Value) (A : Around) (outer : List PySem.Env) (s : Shared) (H : Hp) (E : XK) (hr : Room k (A.deeper (envOfC "traced_in" (defScope (top 20)) s.heap.objs.size fa cdv))) (gd : A.guards = some []) :
    PSs (cxOf CX0 P w K mg base ["graph", "deeds", "houses", "deed", "own", "numbers", "made", "number"] "traced_in" (defScope (top 20)) fa cdv A outer s H E) (defBody (top 20)) (tSs ⟨Γ, 8, denF Pr n, ew0 E⟩ [0, 2, 3, 4, 5, 6, 7] c_traced_in.body) := by
  have xo := xok_of (base := base) (mg := mg) (N := ["graph", "deeds", "houses", "deed", "own", "numbers", "made", "number"]) (outer := outer) (H := H) (E := E) (P := P) hK hw hr gd
  have nd := nd_traced_in
  exact PSs.nox (ss_cons (s_setLc (i := 2) (own := [("own", 4)]) xo nd rfl rfl (show (2 : Nat) < 8 by decide) (by decide) (sw_true rfl rfl rfl rfl) (f_rng1 xo (by exact rfl) Fr.f_range (e_ix xo (o_pk (i := 0) rfl (by walk_at "vis")) e_int)) (blkOk_by (by kernel_rfl)) (fun _ _ _ _ _ => g_nm (i := 4) nd rfl (by walk_at "loc") (show (4 : Nat) < 8 by decide) (by decide)) (fun _ _ _ _ _ => ts_yes) (fun _ _ _ _ _ => e_lst (pa_sh (e_var (i := 4) rfl (by walk_at "vis")) pa_sh0)) (by decide)) (ss_cons (s_for (z' := [0, 2, 3, 4, 5, 6, 7]) xo PassesOwn.never (f_seq xo (o_pk (i := 1) rfl (by walk_at "vis"))) (g_nm (i := 3) nd rfl (by walk_at "loc") (show (3 : Nat) < 8 by decide) (by decide)) (ss_cons (s_par xo (pa_k (e_callC xo C.c_numbers_in hr (fun _ _ _ h => h) (by exact rfl) rfl (pa_ar (e_var (i := 0) rfl (by walk_at "vis")) (pa_ar (e_var (i := 3) rfl (by walk_at "vis")) pa_ar0))) (pa_k e_dct pa_k0)) (gk_cons (g_nm (i := 5) nd rfl (by walk_at "loc") (show (5 : Nat) < 8 by decide) (by decide)) (gk_cons (g_nm (i := 6) nd rfl (by walk_at "loc") (show (6 : Nat) < 8 by decide) (by decide)) gk_nil))) (ss_cons (s_for (z' := [4, 7]) xo PassesOwn.never (f_enm xo (by exact rfl) Fr.f_enumerate (o_pk (i := 5) rfl (by walk_at "vis"))) (g_tp xo (gs_cons (g_nm (i := 4) nd rfl (by walk_at "loc") (show (4 : Nat) < 8 by decide) (by decide)) (gs_cons (g_nm (i := 7) nd rfl (by walk_at "loc") (show (7 : Nat) < 8 by decide) (by decide)) gs_nil))) (ss_cons (s_if (t_notn xo (o_pk (i := 7) rfl (by walk_at "vis"))) (ss_cons (s_asg (e_bin (ok_add xo) (e_get2 (i := 6) xo rfl (by walk_at "vis") (e_var (i := 7) rfl (by walk_at "vis")) (e_lst pa_sh0)) (e_ix xo (o_pk (i := 2) rfl (by walk_at "vis")) (o_pk (i := 4) rfl (by walk_at "vis")))) (g_sb (i := 6) xo rfl (by walk_at "vis") (e_var (i := 7) rfl (by walk_at "vis")))) ss_nil) ss_nil) ss_nil) (by decide) (by decide)) (ss_cons (s_set (i := 0) nd rfl (by walk_at "loc") (e_callC xo C.c_done_in hr (fun _ _ _ h => h) (by exact rfl) rfl (pa_ar (e_var (i := 0) rfl (by walk_at "vis")) (pa_ar (e_var (i := 3) rfl (by walk_at "vis")) pa_ar0))) (show (0 : Nat) < 8 by decide) (by decide)) (ss_cons (s_setLc (i := 2) (own := [("own", 4)]) xo nd rfl rfl (show (2 : Nat) < 8 by decide) (by decide) (sw_true rfl rfl rfl rfl) (f_rng1 xo (by exact rfl) Fr.f_range (e_ix xo (o_pk (i := 0) rfl (by walk_at "vis")) e_int)) (blkOk_by (by kernel_rfl)) (fun _ _ _ _ _ => g_nm (i := 4) nd rfl (by walk_at "loc") (show (4 : Nat) < 8 by decide) (by decide)) (fun _ _ _ _ _ => ts_yes) (fun _ _ _ _ _ => e_blt (cr_srt (XOk.blk xo _ _ _ _ _)) (by exact rfl) Fr.f_sorted PyProof.Rows.boot_sorted (pa_os (e_ix (XOk.blk xo _ _ _ _ _) (o_pk (i := 6) rfl (by walk_at "vis")) (o_pk (i := 4) rfl (by walk_at "vis"))) pa_os0)) (by decide)) ss_nil)))) (by decide) (by decide)) (ss_cons (s_ret (e_tup (pa_sh (e_var (i := 0) rfl (by walk_at "vis")) (pa_sh (e_var (i := 2) rfl (by walk_at "vis")) pa_sh0)))) ss_nil)))
theorem nd_traced : (["graph", "deeds", "left", "deed", "made", "houses", "own"] : List Str).Nodup := by decide +kernel
theorem body_traced (C : Defs P w K mg base Γ (denF Pr n) k) (Fr : Free mg) (hK : K = Γ.K) (hw : w = Γ.w) (fa : Addr) (cdv : Value) (A : Around) (outer : List PySem.Env) (s : Shared) (H : Hp) (E : XK) (hr : Room k (A.deeper (envOfC "traced" (defScope (top 21)) s.heap.objs.size fa cdv))) (gd : A.guards = some []) :
    PSs (cxOf CX0 P w K mg base ["graph", "deeds", "left", "deed", "made", "houses", "own"] "traced" (defScope (top 21)) fa cdv A outer s H E) (defBody (top 21)) (tSs ⟨Γ, 7, denF Pr n, ew0 E⟩ [2, 3, 4, 5] c_traced.body) := by
  have xo := xok_of (base := base) (mg := mg) (N := ["graph", "deeds", "left", "deed", "made", "houses", "own"]) (outer := outer) (H := H) (E := E) (P := P) hK hw hr gd
  have nd := nd_traced
  exact PSs.nox (ss_cons (s_ex (e_callC xo C.c_check_graph_d hr (fun _ _ _ h => h) (by exact rfl) rfl (pa_ar (e_var (i := 0) rfl (by walk_at "vis")) (pa_arc (fun _ => .str _))))) (ss_cons (s_if (PW.pt (t_or (t_not (t_val xo (e_isi xo isi_tuple hop_tup (by exact rfl) Fr.f_isinstance (by exact rfl) Fr.f_tuple PyProof.Rows.boot_tuple (o_pk (i := 1) rfl (by walk_at "vis"))))) (t_or1 (t_cmp xo (ok_gt xo) (e_blt (cr_len xo) (by exact rfl) Fr.f_len PySem.boot_len (pa_os (o_pk (i := 1) rfl (by walk_at "vis")) pa_os0)) (e_glo (by exact rfl) (Fr.c_MAX_DEEDS.choose_spec)) (nomark _))))) (ss_cons (s_rse (fun _ _ _ h => h)) ss_nil) ss_nil) (ss_cons (s_set (i := 2) nd rfl (by walk_at "loc") (e_var (i := 0) rfl (by walk_at "vis")) (show (2 : Nat) < 7 by decide) (by decide)) (ss_cons (s_for (z' := [2, 3]) xo PassesOwn.never (f_seq xo (o_pk (i := 1) rfl (by walk_at "vis"))) (g_nm (i := 3) nd rfl (by walk_at "loc") (show (3 : Nat) < 7 by decide) (by decide)) (ss_cons (s_if (t_not (t_val xo (e_callC xo C.c_is_deed hr (fun _ _ _ h => h) (by exact rfl) rfl (pa_ar (e_var (i := 3) rfl (by walk_at "vis")) (pa_ar (e_var (i := 2) rfl (by walk_at "vis")) pa_ar0))))) (ss_cons (s_rse (fun _ _ _ h => h)) ss_nil) ss_nil) (ss_cons (s_set (i := 2) nd rfl (by walk_at "loc") (e_callC xo C.c_done_in hr (fun _ _ _ h => h) (by exact rfl) rfl (pa_ar (e_var (i := 2) rfl (by walk_at "vis")) (pa_ar (e_var (i := 3) rfl (by walk_at "vis")) pa_ar0))) (show (2 : Nat) < 7 by decide) (by decide)) ss_nil)) (by decide) (by decide)) (ss_cons (s_asg (e_callC xo C.c_traced_in hr (fun _ _ _ h => h) (by exact rfl) rfl (pa_ar (e_var (i := 0) rfl (by walk_at "vis")) (pa_ar (e_var (i := 1) rfl (by walk_at "vis")) pa_ar0))) (g_tp xo (gs_cons (g_nm (i := 4) nd rfl (by walk_at "loc") (show (4 : Nat) < 7 by decide) (by decide)) (gs_cons (g_nm (i := 5) nd rfl (by walk_at "loc") (show (5 : Nat) < 7 by decide) (by decide)) gs_nil)))) (ss_cons (s_ret (e_tup (pa_sh (e_var (i := 4) rfl (by walk_at "vis")) (pa_sh (e_ty (cr_tupOf xo) (by exact rfl) Fr.f_tuple PyProof.Rows.boot_tuple (pa_os (e_lc (own := [("own", 6)]) xo nd (f_seq xo (o_pk (i := 5) rfl (by walk_at "vis"))) (blkOk_by (by kernel_rfl)) (fun _ _ _ _ _ => g_nm (i := 6) nd rfl (by walk_at "loc") (show (6 : Nat) < 7 by decide) (by decide)) (fun _ _ _ _ _ => ts_yes) (fun _ _ _ _ _ => e_ty (cr_tupOf (XOk.blk xo _ _ _ _ _)) (by exact rfl) Fr.f_tuple PyProof.Rows.boot_tuple (pa_os (o_pk (i := 6) rfl (by walk_at "vis")) pa_os0)) (by decide)) pa_os0)) pa_sh0)))) ss_nil))))))
theorem nd__law_start : (["script", "seed", "cell"] : List Str).Nodup := by decide +kernel
theorem body__law_start (C : Defs P w K mg base Γ (denF Pr n) k) (Fr : Free mg) (hK : K = Γ.K) (hw : w = Γ.w) (fa : Addr) (cdv : Value) (A : Around) (outer : List PySem.Env) (s : Shared) (H : Hp) (E : XK) (hr : Room k (A.deeper (envOfC "_law_start" (defScope (top 23)) s.heap.objs.size fa cdv))) (gd : A.guards = some []) :
    PSs (cxOf CX0 P w K mg base ["script", "seed", "cell"] "_law_start" (defScope (top 23)) fa cdv A outer s H E) (defBody (top 23)) (tSs ⟨Γ, 3, denF Pr n, ew0 E⟩ [1, 2] c__law_start.body) := by
  have xo := xok_of (base := base) (mg := mg) (N := ["script", "seed", "cell"]) (outer := outer) (H := H) (E := E) (P := P) hK hw hr gd
  have nd := nd__law_start
  exact PSs.nox (ss_cons (s_set (i := 1) nd rfl (by walk_at "loc") e_int (show (1 : Nat) < 3 by decide) (by decide)) (ss_cons (s_for (z' := [1, 2]) xo PassesOwn.never (f_seq xo (e_slU xo (o_pk (i := 0) rfl (by walk_at "vis")) e_int)) (g_nm (i := 2) nd rfl (by walk_at "loc") (show (2 : Nat) < 3 by decide) (by decide)) (ss_cons (s_set (i := 1) nd rfl (by walk_at "loc") (e_bin (ok_add xo) (e_bin (ok_mod xo) (e_ty (cr_int xo) (by exact rfl) Fr.f_int PyProof.Rows.boot_int (pa_os (e_bin (ok_add xo) (e_bin (ok_mul xo) (o_pk (i := 1) rfl (by walk_at "vis")) e_int) (o_pk (i := 2) rfl (by walk_at "vis"))) pa_os0)) e_int) e_int) (show (1 : Nat) < 3 by decide) (by decide)) ss_nil) (by decide) (by decide)) (ss_cons (s_ret (e_lst (pa_sh (e_lc (own := [("cell", 2)]) xo nd (f_seq xo (e_slU xo (o_pk (i := 0) rfl (by walk_at "vis")) e_int)) (blkOk_by (by kernel_rfl)) (fun _ _ _ _ _ => g_nm (i := 2) nd rfl (by walk_at "loc") (show (2 : Nat) < 3 by decide) (by decide)) (fun _ _ _ _ _ => ts_yes) (fun _ _ _ _ _ => e_blt (cr_abs (XOk.blk xo _ _ _ _ _)) (by exact rfl) Fr.f_abs PyProof.Rows.boot_abs (pa_os (e_ty (cr_int (XOk.blk xo _ _ _ _ _)) (by exact rfl) Fr.f_int PyProof.Rows.boot_int (pa_os (o_pk (i := 2) rfl (by walk_at "vis")) pa_os0)) pa_os0)) (by decide)) (pa_sh e_int (pa_sh e_int (pa_sh e_int (pa_sh (e_var (i := 1) rfl (by walk_at "vis")) (pa_sh e_int pa_sh0)))))))) ss_nil)))
theorem nd__law_draw : (["state", "many", "found"] : List Str).Nodup := by decide +kernel
theorem body__law_draw (C : Defs P w K mg base Γ (denF Pr n) k) (Fr : Free mg) (hK : K = Γ.K) (hw : w = Γ.w) (fa : Addr) (cdv : Value) (A : Around) (outer : List PySem.Env) (s : Shared) (H : Hp) (E : XK) (hr : Room k (A.deeper (envOfC "_law_draw" (defScope (top 24)) s.heap.objs.size fa cdv))) (gd : A.guards = some []) :
    PSs (cxOf CX0 P w K mg base ["state", "many", "found"] "_law_draw" (defScope (top 24)) fa cdv A outer s H E) (defBody (top 24)) (tSs ⟨Γ, 3, denF Pr n, ew0 E⟩ [2] c__law_draw.body) := by
  have xo := xok_of (base := base) (mg := mg) (N := ["state", "many", "found"]) (outer := outer) (H := H) (E := E) (P := P) hK hw hr gd
  have nd := nd__law_draw
  exact PSs.nox (ss_cons (s_if (PW.pt (t_and (t_cmp xo (ok_eq xo) (e_ix xo (o_pk (i := 0) rfl (by walk_at "vis")) e_int) e_int (nomark _)) (t_and1 (t_cmp xo (ok_lt xo) (e_ix xo (o_pk (i := 0) rfl (by walk_at "vis")) e_int) (e_blt (cr_len xo) (by exact rfl) Fr.f_len PySem.boot_len (pa_os (e_ix xo (o_pk (i := 0) rfl (by walk_at "vis")) e_int) pa_os0)) (nomark _))))) (ss_cons (s_par xo (pa_k (e_ix xo (e_ix xo (o_pk (i := 0) rfl (by walk_at "vis")) e_int) (e_ix xo (o_pk (i := 0) rfl (by walk_at "vis")) e_int)) (pa_k e_int (pa_k (e_bin (ok_add xo) (e_ix xo (o_pk (i := 0) rfl (by walk_at "vis")) e_int) e_int) pa_k0))) (gk_cons (g_sb (i := 0) xo rfl (by walk_at "vis") e_int) (gk_cons (g_sb (i := 0) xo rfl (by walk_at "vis") e_int) (gk_cons (g_sb (i := 0) xo rfl (by walk_at "vis") e_int) gk_nil)))) ss_nil) ss_nil) (ss_cons (s_if (t_cmp xo (ok_gt xo) (e_ix xo (o_pk (i := 0) rfl (by walk_at "vis")) e_int) e_int (nomark _)) (ss_cons (s_set (i := 2) nd rfl (by walk_at "loc") (e_bin (ok_mod xo) (e_ty (cr_int xo) (by exact rfl) Fr.f_int PyProof.Rows.boot_int (pa_os (e_ix xo (o_pk (i := 0) rfl (by walk_at "vis")) e_int) pa_os0)) (o_pk (i := 1) rfl (by walk_at "vis"))) (show (2 : Nat) < 3 by decide) (by decide)) (ss_cons (s_asg (e_bin (ok_fdiv xo) (e_ix xo (o_pk (i := 0) rfl (by walk_at "vis")) e_int) (o_pk (i := 1) rfl (by walk_at "vis"))) (g_sb (i := 0) xo rfl (by walk_at "vis") e_int)) (ss_cons (s_asg (e_ite (t_cmp xo (ok_gt xo) (e_ix xo (o_pk (i := 0) rfl (by walk_at "vis")) e_int) e_int (nomark _)) (e_bin (ok_sub xo) (e_ix xo (o_pk (i := 0) rfl (by walk_at "vis")) e_int) e_int) e_int) (g_sb (i := 0) xo rfl (by walk_at "vis") e_int)) (ss_cons (s_ret (e_mv (i := 2) rfl (by walk_at "vis"))) ss_nil)))) ss_nil) (ss_cons (s_asg (e_bin (ok_add xo) (e_ix xo (o_pk (i := 0) rfl (by walk_at "vis")) e_int) e_int) (g_sb (i := 0) xo rfl (by walk_at "vis") e_int)) (ss_cons (s_asg (e_bin (ok_mod xo) (e_ty (cr_int xo) (by exact rfl) Fr.f_int PyProof.Rows.boot_int (pa_os (e_bin (ok_add xo) (e_bin (ok_add xo) (e_bin (ok_mul xo) (e_ix xo (o_pk (i := 0) rfl (by walk_at "vis")) e_int) e_int) (e_bin (ok_mul xo) (e_bin (ok_mul xo) (e_ix xo (o_pk (i := 0) rfl (by walk_at "vis")) e_int) (e_ix xo (o_pk (i := 0) rfl (by walk_at "vis")) e_int)) e_int)) e_int) pa_os0)) e_int) (g_sb (i := 0) xo rfl (by walk_at "vis") e_int)) (ss_cons (s_ret (e_bin (ok_mod xo) (e_ty (cr_int xo) (by exact rfl) Fr.f_int PyProof.Rows.boot_int (pa_os (e_bin (ok_fdiv xo) (e_ix xo (o_pk (i := 0) rfl (by walk_at "vis")) e_int) e_int) pa_os0)) (o_pk (i := 1) rfl (by walk_at "vis")))) ss_nil)))))
theorem nd__law_pick : (["state", "some"] : List Str).Nodup := by decide +kernel
theorem body__law_pick (C : Defs P w K mg base Γ (denF Pr n) k) (Fr : Free mg) (hK : K = Γ.K) (hw : w = Γ.w) (fa : Addr) (cdv : Value) (A : Around) (outer : List PySem.Env) (s : Shared) (H : Hp) (E : XK) (hr : Room k (A.deeper (envOfC "_law_pick" (defScope (top 25)) s.heap.objs.size fa cdv))) (gd : A.guards = some []) :
    PSs (cxOf CX0 P w K mg base ["state", "some"] "_law_pick" (defScope (top 25)) fa cdv A outer s H E) (defBody (top 25)) (tSs ⟨Γ, 2, denF Pr n, ew0 E⟩ [] c__law_pick.body) := by
  have xo := xok_of (base := base) (mg := mg) (N := ["state", "some"]) (outer := outer) (H := H) (E := E) (P := P) hK hw hr gd
  have nd := nd__law_pick
  exact PSs.nox (ss_cons (s_ret (e_ix xo (o_pk (i := 1) rfl (by walk_at "vis")) (e_callC xo C.c__law_draw hr (fun _ _ _ h => h) (by exact rfl) rfl (pa_ar (o_pk (i := 0) rfl (by walk_at "vis")) (pa_ar (e_blt (cr_len xo) (by exact rfl) Fr.f_len PySem.boot_len (pa_os (o_pk (i := 1) rfl (by walk_at "vis")) pa_os0)) pa_ar0))))) ss_nil)
theorem nd__law_same : (["actual", "due"] : List Str).Nodup := by decide +kernel
theorem body__law_same (C : Defs P w K mg base Γ (denF Pr n) k) (Fr : Free mg) (hK : K = Γ.K) (hw : w = Γ.w) (fa : Addr) (cdv : Value) (A : Around) (outer : List PySem.Env) (s : Shared) (H : Hp) (E : XK) (hr : Room k (A.deeper (envOfC "_law_same" (defScope (top 26)) s.heap.objs.size fa cdv))) (gd : A.guards = some []) :
    PSs (cxOf CX0 P w K mg base ["actual", "due"] "_law_same" (defScope (top 26)) fa cdv A outer s H E) (defBody (top 26)) (tSs ⟨Γ, 2, denF Pr n, ew0 E⟩ [] c__law_same.body) := by
  have xo := xok_of (base := base) (mg := mg) (N := ["actual", "due"]) (outer := outer) (H := H) (E := E) (P := P) hK hw hr gd
  have nd := nd__law_same
  exact PSs.nox (ss_cons (s_ret (e_and (e_cmp (ok_eq xo) (o_pk (i := 0) rfl (by walk_at "vis")) (o_pk (i := 1) rfl (by walk_at "vis")) (nomark _)) (e_one (e_cmp (ok_eq xo) (e_blt (cr_rep xo) (by exact rfl) Fr.f_repr PyProof.Rows.boot_repr (pa_os (o_pk (i := 0) rfl (by walk_at "vis")) pa_os0)) (e_blt (cr_rep xo) (by exact rfl) Fr.f_repr PyProof.Rows.boot_repr (pa_os (o_pk (i := 1) rfl (by walk_at "vis")) pa_os0)) (nomark _))))) ss_nil)
theorem nd__law_pairs : (["many", "found", "other", "one"] : List Str).Nodup := by decide +kernel
theorem body__law_pairs (C : Defs P w K mg base Γ (denF Pr n) k) (Fr : Free mg) (hK : K = Γ.K) (hw : w = Γ.w) (fa : Addr) (cdv : Value) (A : Around) (outer : List PySem.Env) (s : Shared) (H : Hp) (E : XK) (hr : Room k (A.deeper (envOfC "_law_pairs" (defScope (top 27)) s.heap.objs.size fa cdv))) (gd : A.guards = some []) :
    PSs (cxOf CX0 P w K mg base ["many", "found", "other", "one"] "_law_pairs" (defScope (top 27)) fa cdv A outer s H E) (defBody (top 27)) (tSs ⟨Γ, 4, denF Pr n, ew0 E⟩ [1, 2] c__law_pairs.body) := by
  have xo := xok_of (base := base) (mg := mg) (N := ["many", "found", "other", "one"]) (outer := outer) (H := H) (E := E) (P := P) hK hw hr gd
  have nd := nd__law_pairs
  exact PSs.nox (ss_cons (s_set (i := 1) nd rfl (by walk_at "loc") (e_lst pa_sh0) (show (1 : Nat) < 4 by decide) (by decide)) (ss_cons (s_for (z' := [2]) xo PassesOwn.never (f_rng1 xo (by exact rfl) Fr.f_range (o_pk (i := 0) rfl (by walk_at "vis"))) (g_nm (i := 2) nd rfl (by walk_at "loc") (show (2 : Nat) < 4 by decide) (by decide)) (ss_cons (s_ex (e_extend (i := 1) rfl (by walk_at "vis") (e_lc (own := [("one", 3)]) xo nd (f_rng1 xo (by exact rfl) Fr.f_range (o_pk (i := 2) rfl (by walk_at "vis"))) (blkOk_by (by kernel_rfl)) (fun _ _ _ _ _ => g_nm (i := 3) nd rfl (by walk_at "loc") (show (3 : Nat) < 4 by decide) (by decide)) (fun _ _ _ _ _ => ts_yes) (fun _ _ _ _ _ => e_tup (pa_sh (e_var (i := 3) rfl (by walk_at "vis")) (pa_sh (e_var (i := 2) rfl (by walk_at "vis")) pa_sh0))) (by decide)))) ss_nil) (by decide) (by decide)) (ss_cons (s_ret (e_blt (cr_srt xo) (by exact rfl) Fr.f_sorted PyProof.Rows.boot_sorted (pa_os (o_pk (i := 1) rfl (by walk_at "vis")) pa_os0))) ss_nil)))
theorem nd__law_graph : (["state", "most", "many", "thin", "own"] : List Str).Nodup := by decide +kernel
theorem body__law_graph (C : Defs P w K mg base Γ (denF Pr n) k) (Fr : Free mg) (hK : K = Γ.K) (hw : w = Γ.w) (fa : Addr) (cdv : Value) (A : Around) (outer : List PySem.Env) (s : Shared) (H : Hp) (E : XK) (hr : Room k (A.deeper (envOfC "_law_graph" (defScope (top 28)) s.heap.objs.size fa cdv))) (gd : A.guards = some []) :
    PSs (cxOf CX0 P w K mg base ["state", "most", "many", "thin", "own"] "_law_graph" (defScope (top 28)) fa cdv A outer s H E) (defBody (top 28)) (tSs ⟨Γ, 5, denF Pr n, ew0 E⟩ [2, 3] c__law_graph.body) := by
  have xo := xok_of (base := base) (mg := mg) (N := ["state", "most", "many", "thin", "own"]) (outer := outer) (H := H) (E := E) (P := P) hK hw hr gd
  have nd := nd__law_graph
  exact PSs.nox (ss_cons (s_par xo (pa_k (e_callC xo C.c__law_draw hr (fun _ _ _ h => h) (by exact rfl) rfl (pa_ar (o_pk (i := 0) rfl (by walk_at "vis")) (pa_ar (e_bin (ok_add xo) (o_pk (i := 1) rfl (by walk_at "vis")) e_int) pa_ar0))) (pa_k (e_bin (ok_add xo) e_int (e_callC xo C.c__law_draw hr (fun _ _ _ h => h) (by exact rfl) rfl (pa_ar (o_pk (i := 0) rfl (by walk_at "vis")) (pa_ar e_int pa_ar0)))) pa_k0)) (gk_cons (g_nm (i := 2) nd rfl (by walk_at "loc") (show (2 : Nat) < 5 by decide) (by decide)) (gk_cons (g_nm (i := 3) nd rfl (by walk_at "loc") (show (3 : Nat) < 5 by decide) (by decide)) gk_nil))) (ss_cons (s_ret (e_tup (pa_sh (e_var (i := 2) rfl (by walk_at "vis")) (pa_sh (e_ty (cr_tupOf xo) (by exact rfl) Fr.f_tuple PyProof.Rows.boot_tuple (pa_os (e_lc (own := [("own", 4)]) xo nd (f_seq xo (e_callC xo C.c__law_pairs hr (fun _ _ _ h => h) (by exact rfl) rfl (pa_ar (e_var (i := 2) rfl (by walk_at "vis")) pa_ar0))) (blkOk_by (by kernel_rfl)) (fun _ _ _ _ _ => g_nm (i := 4) nd rfl (by walk_at "loc") (show (4 : Nat) < 5 by decide) (by decide)) (fun _ _ _ _ _ => ts_one (t_cmp (XOk.blk xo _ _ _ _ _) (ok_eq (XOk.blk xo _ _ _ _ _)) (e_callC (XOk.blk xo _ _ _ _ _) C.c__law_draw hr (fun _ _ _ h => h) (by exact rfl) rfl (pa_ar (o_pk (i := 0) rfl (by walk_at "vis")) (pa_ar (e_bin (ok_add (XOk.blk xo _ _ _ _ _)) (o_pk (i := 3) rfl (by walk_at "vis")) e_int) pa_ar0))) e_int (nomark _))) (fun _ _ _ _ _ => e_var (i := 4) rfl (by walk_at "vis")) (by decide)) pa_os0)) pa_sh0)))) ss_nil))
theorem nd__law_done : (["houses", "edges", "deed", "left", "lower", "word", "at", "one", "pair", "own"] : List Str).Nodup := by decide +kernel
theorem body__law_done (C : Defs P w K mg base Γ (denF Pr n) k) (Fr : Free mg) (hK : K = Γ.K) (hw : w = Γ.w) (fa : Addr) (cdv : Value) (A : Around) (outer : List PySem.Env) (s : Shared) (H : Hp) (E : XK) (hr : Room k (A.deeper (envOfC "_law_done" (defScope (top 29)) s.heap.objs.size fa cdv))) (gd : A.guards = some []) :
    PSs (cxOf CX0 P w K mg base ["houses", "edges", "deed", "left", "lower", "word", "at", "one", "pair", "own"] "_law_done" (defScope (top 29)) fa cdv A outer s H E) (defBody (top 29)) (tSs ⟨Γ, 10, denF Pr n, ew0 E⟩ [0, 1, 3, 4, 5, 6, 7] c__law_done.body) := by
  have xo := xok_of (base := base) (mg := mg) (N := ["houses", "edges", "deed", "left", "lower", "word", "at", "one", "pair", "own"]) (outer := outer) (H := H) (E := E) (P := P) hK hw hr gd
  have nd := nd__law_done
  exact PSs.nox (ss_cons (s_par xo (pa_k (e_ix xo (o_pk (i := 2) rfl (by walk_at "vis")) e_int) (pa_k (e_ix xo (o_pk (i := 2) rfl (by walk_at "vis")) (e_nint xo)) pa_k0)) (gk_cons (g_nm (i := 5) nd rfl (by walk_at "loc") (show (5 : Nat) < 10 by decide) (by decide)) (gk_cons (g_nm (i := 6) nd rfl (by walk_at "loc") (show (6 : Nat) < 10 by decide) (by decide)) gk_nil))) (ss_cons (s_if (t_cmp xo (ok_eq xo) (o_pk (i := 5) rfl (by walk_at "vis")) e_str (nomark _)) (ss_cons (s_ret (e_tup (pa_sh (e_var (i := 0) rfl (by walk_at "vis")) (pa_sh (e_lc (own := [("own", 9)]) xo nd (f_seq xo (o_pk (i := 1) rfl (by walk_at "vis"))) (blkOk_by (by kernel_rfl)) (fun _ _ _ _ _ => g_nm (i := 9) nd rfl (by walk_at "loc") (show (9 : Nat) < 10 by decide) (by decide)) (fun _ _ _ _ _ => ts_one (t_cmp (XOk.blk xo _ _ _ _ _) (ok_ne (XOk.blk xo _ _ _ _ _)) (o_pk (i := 9) rfl (by walk_at "vis")) (e_slL (XOk.blk xo _ _ _ _ _) (o_pk (i := 2) rfl (by walk_at "vis")) e_int) (nomark _))) (fun _ _ _ _ _ => e_var (i := 9) rfl (by walk_at "vis")) (by decide)) pa_sh0)))) ss_nil) ss_nil) (ss_cons (s_if (t_cmp xo (ok_eq xo) (o_pk (i := 5) rfl (by walk_at "vis")) e_str (nomark _)) (ss_cons (s_set (i := 7) nd rfl (by walk_at "loc") (e_ix xo (o_pk (i := 2) rfl (by walk_at "vis")) e_int) (show (7 : Nat) < 10 by decide) (by decide)) (ss_cons (s_set (i := 0) nd rfl (by walk_at "loc") (e_bin (ok_add xo) (e_bin (ok_add xo) (e_slU xo (o_pk (i := 0) rfl (by walk_at "vis")) (o_pk (i := 7) rfl (by walk_at "vis"))) (e_lst (pa_sh (e_ty (cr_tupOf xo) (by exact rfl) Fr.f_tuple PyProof.Rows.boot_tuple (pa_os (e_blt (cr_srt xo) (by exact rfl) Fr.f_sorted PyProof.Rows.boot_sorted (pa_os (e_bin (ok_add xo) (e_ix xo (o_pk (i := 0) rfl (by walk_at "vis")) (o_pk (i := 7) rfl (by walk_at "vis"))) (e_ix xo (o_pk (i := 0) rfl (by walk_at "vis")) (o_pk (i := 6) rfl (by walk_at "vis")))) pa_os0)) pa_os0)) pa_sh0))) (e_slL xo (o_pk (i := 0) rfl (by walk_at "vis")) (e_bin (ok_add xo) (o_pk (i := 7) rfl (by walk_at "vis")) e_int))) (show (0 : Nat) < 10 by decide) (by decide)) (ss_cons (s_setLc (i := 1) (own := [("pair", 8)]) xo nd rfl rfl (show (1 : Nat) < 10 by decide) (by decide) (sw_true rfl rfl rfl rfl) (f_seq xo (o_pk (i := 1) rfl (by walk_at "vis"))) (blkOk_by (by kernel_rfl)) (fun _ _ _ _ _ => g_nm (i := 8) nd rfl (by walk_at "loc") (show (8 : Nat) < 10 by decide) (by decide)) (fun _ _ _ _ _ => ts_yes) (fun _ _ _ _ _ => e_ty (cr_tupOf (XOk.blk xo _ _ _ _ _)) (by exact rfl) Fr.f_tuple PyProof.Rows.boot_tuple (pa_os (e_lc (own := [("own", 9)]) (XOk.blk xo _ _ _ _ _) nd (f_seq (XOk.blk xo _ _ _ _ _) (o_pk (i := 8) rfl (by walk_at "vis"))) (blkOk_by (by kernel_rfl)) (fun _ _ _ _ _ => g_nm (i := 9) nd rfl (by walk_at "loc") (show (9 : Nat) < 10 by decide) (by decide)) (fun _ _ _ _ _ => ts_yes) (fun _ _ _ _ _ => e_ite (t_cmp (XOk.blk (XOk.blk xo _ _ _ _ _) _ _ _ _ _) (ok_eq (XOk.blk (XOk.blk xo _ _ _ _ _) _ _ _ _ _)) (o_pk (i := 9) rfl (by walk_at "vis")) (o_pk (i := 6) rfl (by walk_at "vis")) (nomark _)) (e_var (i := 7) rfl (by walk_at "vis")) (e_var (i := 9) rfl (by walk_at "vis"))) (by decide)) pa_os0)) (by decide)) ss_nil))) ss_nil) (ss_cons (s_setLc (i := 3) (own := [("pair", 8)]) xo nd rfl rfl (show (3 : Nat) < 10 by decide) (by decide) (sw_true rfl rfl rfl rfl) (f_seq xo (o_pk (i := 1) rfl (by walk_at "vis"))) (blkOk_by (by kernel_rfl)) (fun _ _ _ _ _ => g_nm (i := 8) nd rfl (by walk_at "loc") (show (8 : Nat) < 10 by decide) (by decide)) (fun _ _ _ _ _ => ts_one (PW.pt (t_and (t_cmp (XOk.blk xo _ _ _ _ _) (cr_notIn (XOk.blk xo _ _ _ _ _)) (o_pk (i := 6) rfl (by walk_at "vis")) (o_pk (i := 8) rfl (by walk_at "vis")) (by with_unfolding_all rfl)) (t_and1 (t_cmp (XOk.blk xo _ _ _ _ _) (ok_ne (XOk.blk xo _ _ _ _ _)) (e_ix (XOk.blk xo _ _ _ _ _) (o_pk (i := 8) rfl (by walk_at "vis")) e_int) (e_ix (XOk.blk xo _ _ _ _ _) (o_pk (i := 8) rfl (by walk_at "vis")) e_int) (nomark _)))))) (fun _ _ _ _ _ => e_var (i := 8) rfl (by walk_at "vis")) (by decide)) (ss_cons (s_setLc (i := 4) (own := [("pair", 8)]) xo nd rfl rfl (show (4 : Nat) < 10 by decide) (by decide) (sw_true rfl rfl rfl rfl) (f_seq xo (o_pk (i := 3) rfl (by walk_at "vis"))) (blkOk_by (by kernel_rfl)) (fun _ _ _ _ _ => g_nm (i := 8) nd rfl (by walk_at "loc") (show (8 : Nat) < 10 by decide) (by decide)) (fun _ _ _ _ _ => ts_yes) (fun _ _ _ _ _ => e_ty (cr_tupOf (XOk.blk xo _ _ _ _ _)) (by exact rfl) Fr.f_tuple PyProof.Rows.boot_tuple (pa_os (e_blt (cr_srt (XOk.blk xo _ _ _ _ _)) (by exact rfl) Fr.f_sorted PyProof.Rows.boot_sorted (pa_os (e_lc (own := [("own", 9)]) (XOk.blk xo _ _ _ _ _) nd (f_seq (XOk.blk xo _ _ _ _ _) (o_pk (i := 8) rfl (by walk_at "vis"))) (blkOk_by (by kernel_rfl)) (fun _ _ _ _ _ => g_nm (i := 9) nd rfl (by walk_at "loc") (show (9 : Nat) < 10 by decide) (by decide)) (fun _ _ _ _ _ => ts_yes) (fun _ _ _ _ _ => e_ite (t_cmp (XOk.blk (XOk.blk xo _ _ _ _ _) _ _ _ _ _) (ok_gt (XOk.blk (XOk.blk xo _ _ _ _ _) _ _ _ _ _)) (o_pk (i := 9) rfl (by walk_at "vis")) (o_pk (i := 6) rfl (by walk_at "vis")) (nomark _)) (e_bin (ok_sub (XOk.blk (XOk.blk xo _ _ _ _ _) _ _ _ _ _)) (o_pk (i := 9) rfl (by walk_at "vis")) e_int) (e_var (i := 9) rfl (by walk_at "vis"))) (by decide)) pa_os0)) pa_os0)) (by decide)) (ss_cons (s_ret (e_tup (pa_sh (e_bin (ok_add xo) (e_slU xo (o_pk (i := 0) rfl (by walk_at "vis")) (o_pk (i := 6) rfl (by walk_at "vis"))) (e_slL xo (o_pk (i := 0) rfl (by walk_at "vis")) (e_bin (ok_add xo) (o_pk (i := 6) rfl (by walk_at "vis")) e_int))) (pa_sh (e_srtSet xo (by exact rfl) Fr.f_sorted (by exact rfl) Fr.f_set (o_pk (i := 4) rfl (by walk_at "vis"))) pa_sh0)))) ss_nil))))))
theorem nd__law_deeds : (["many", "edges", "own"] : List Str).Nodup := by decide +kernel
theorem body__law_deeds (C : Defs P w K mg base Γ (denF Pr n) k) (Fr : Free mg) (hK : K = Γ.K) (hw : w = Γ.w) (fa : Addr) (cdv : Value) (A : Around) (outer : List PySem.Env) (s : Shared) (H : Hp) (E : XK) (hr : Room k (A.deeper (envOfC "_law_deeds" (defScope (top 30)) s.heap.objs.size fa cdv))) (gd : A.guards = some []) :
    PSs (cxOf CX0 P w K mg base ["many", "edges", "own"] "_law_deeds" (defScope (top 30)) fa cdv A outer s H E) (defBody (top 30)) (tSs ⟨Γ, 3, denF Pr n, ew0 E⟩ [] c__law_deeds.body) := by
  have xo := xok_of (base := base) (mg := mg) (N := ["many", "edges", "own"]) (outer := outer) (H := H) (E := E) (P := P) hK hw hr gd
  have nd := nd__law_deeds
  exact PSs.nox (ss_cons (s_ret (e_ty (cr_tupOf xo) (by exact rfl) Fr.f_tuple PyProof.Rows.boot_tuple (pa_os (e_bin (ok_add xo) (e_bin (ok_add xo) (e_lc (own := [("own", 2)]) xo nd (f_rng1 xo (by exact rfl) Fr.f_range (o_pk (i := 0) rfl (by walk_at "vis"))) (blkOk_by (by kernel_rfl)) (fun _ _ _ _ _ => g_nm (i := 2) nd rfl (by walk_at "loc") (show (2 : Nat) < 3 by decide) (by decide)) (fun _ _ _ _ _ => ts_yes) (fun _ _ _ _ _ => e_tup (pa_sh e_str (pa_sh (e_var (i := 2) rfl (by walk_at "vis")) pa_sh0))) (by decide)) (e_lc (own := [("own", 2)]) xo nd (f_seq xo (o_pk (i := 1) rfl (by walk_at "vis"))) (blkOk_by (by kernel_rfl)) (fun _ _ _ _ _ => g_nm (i := 2) nd rfl (by walk_at "loc") (show (2 : Nat) < 3 by decide) (by decide)) (fun _ _ _ _ _ => ts_yes) (fun _ _ _ _ _ => e_bin (ok_add (XOk.blk xo _ _ _ _ _)) (e_tup (pa_sh e_str pa_sh0)) (o_pk (i := 2) rfl (by walk_at "vis"))) (by decide))) (e_lc (own := [("own", 2)]) xo nd (f_seq xo (o_pk (i := 1) rfl (by walk_at "vis"))) (blkOk_by (by kernel_rfl)) (fun _ _ _ _ _ => g_nm (i := 2) nd rfl (by walk_at "loc") (show (2 : Nat) < 3 by decide) (by decide)) (fun _ _ _ _ _ => ts_yes) (fun _ _ _ _ _ => e_bin (ok_add (XOk.blk xo _ _ _ _ _)) (e_tup (pa_sh e_str pa_sh0)) (o_pk (i := 2) rfl (by walk_at "vis"))) (by decide))) pa_os0))) ss_nil)
theorem nd_law : (["script", "state", "turn", "graph", "k", "houses", "edges", "row", "now", "deeds", "deed", "own"] : List Str).Nodup := by decide +kernel
theorem body_law (C : Defs P w K mg base Γ (denF Pr n) k) (Fr : Free mg) (hK : K = Γ.K) (hw : w = Γ.w) (fa : Addr) (cdv : Value) (A : Around) (outer : List PySem.Env) (s : Shared) (H : Hp) (E : XK) (hr : Room k (A.deeper (envOfC "law" (defScope (top 31)) s.heap.objs.size fa cdv))) (gd : A.guards = some []) :
    PSs (cxOf CX0 P w K mg base ["script", "state", "turn", "graph", "k", "houses", "edges", "row", "now", "deeds", "deed", "own"] "law" (defScope (top 31)) fa cdv A outer s H E) (defBody (top 31)) (tSs ⟨Γ, 12, denF Pr n, ew0 E⟩ [1, 2, 3, 4, 5, 6, 7, 8, 9, 10] c_law.body) := by
  have xo := xok_of (base := base) (mg := mg) (N := ["script", "state", "turn", "graph", "k", "houses", "edges", "row", "now", "deeds", "deed", "own"]) (outer := outer) (H := H) (E := E) (P := P) hK hw hr gd
  have nd := nd_law
  exact PSs.nox (ss_cons (s_set (i := 1) nd rfl (by walk_at "loc") (e_callC xo C.c__law_start hr (fun _ _ _ h => h) (by exact rfl) rfl (pa_ar (e_var (i := 0) rfl (by walk_at "vis")) pa_ar0)) (show (1 : Nat) < 12 by decide) (by decide)) (ss_cons (s_for (z' := [2, 3, 4, 5, 6, 7, 8, 9, 10]) xo PassesOwn.never (f_rng1 xo (by exact rfl) Fr.f_range e_int) (g_nm (i := 2) nd rfl (by walk_at "loc") (show (2 : Nat) < 12 by decide) (by decide)) (ss_cons (s_set (i := 3) nd rfl (by walk_at "loc") (e_callC xo C.c__law_graph hr (fun _ _ _ h => h) (by exact rfl) rfl (pa_ar (o_pk (i := 1) rfl (by walk_at "vis")) (pa_ar e_int pa_ar0))) (show (3 : Nat) < 12 by decide) (by decide)) (ss_cons (s_par xo (pa_k (e_lc (own := [("own", 11)]) xo nd (f_rng1 xo (by exact rfl) Fr.f_range (e_ix xo (o_pk (i := 3) rfl (by walk_at "vis")) e_int)) (blkOk_by (by kernel_rfl)) (fun _ _ _ _ _ => g_nm (i := 11) nd rfl (by walk_at "loc") (show (11 : Nat) < 12 by decide) (by decide)) (fun _ _ _ _ _ => ts_yes) (fun _ _ _ _ _ => e_tup (pa_sh (e_var (i := 11) rfl (by walk_at "vis")) pa_sh0)) (by decide)) (pa_k (e_ty (cr_lstOf xo) (by exact rfl) Fr.f_list PyProof.Rows.boot_list (pa_os (e_ix xo (o_pk (i := 3) rfl (by walk_at "vis")) e_int) pa_os0)) (pa_k (e_lst pa_sh0) (pa_k (e_var (i := 3) rfl (by walk_at "vis")) pa_k0)))) (gk_cons (g_nm (i := 5) nd rfl (by walk_at "loc") (show (5 : Nat) < 12 by decide) (by decide)) (gk_cons (g_nm (i := 6) nd rfl (by walk_at "loc") (show (6 : Nat) < 12 by decide) (by decide)) (gk_cons (g_nm (i := 7) nd rfl (by walk_at "loc") (show (7 : Nat) < 12 by decide) (by decide)) (gk_cons (g_nm (i := 8) nd rfl (by walk_at "loc") (show (8 : Nat) < 12 by decide) (by decide)) gk_nil))))) (ss_cons (s_for (z' := [4, 5, 6, 8, 9, 10]) xo PassesOwn.never (f_rng1 xo (by exact rfl) Fr.f_range e_int) (g_nm (i := 4) nd rfl (by walk_at "loc") (show (4 : Nat) < 12 by decide) (by decide)) (ss_cons (s_set (i := 9) nd rfl (by walk_at "loc") (e_callC xo C.c__law_deeds hr (fun _ _ _ h => h) (by exact rfl) rfl (pa_ar (e_blt (cr_len xo) (by exact rfl) Fr.f_len PySem.boot_len (pa_os (o_pk (i := 5) rfl (by walk_at "vis")) pa_os0)) (pa_ar (e_var (i := 6) rfl (by walk_at "vis")) pa_ar0))) (show (9 : Nat) < 12 by decide) (by decide)) (ss_cons (s_if (t_not (t_val xo (e_callC xo C.c__law_same hr (fun _ _ _ h => h) (by exact rfl) rfl (pa_ar (e_callC xo C.c_deeds_of hr (fun _ _ _ h => h) (by exact rfl) rfl (pa_ar (e_var (i := 8) rfl (by walk_at "vis")) pa_ar0)) (pa_ar (e_var (i := 9) rfl (by walk_at "vis")) pa_ar0))))) (ss_cons (s_ret e_bl) ss_nil) ss_nil) (ss_cons (s_if (t_not (t_nm xo (pe_var (i := 9) rfl (by walk_at "vis")))) (ss_cons s_brk ss_nil) ss_nil) (ss_cons (s_set (i := 10) nd rfl (by walk_at "loc") (e_callC xo C.c__law_pick hr (fun _ _ _ h => h) (by exact rfl) rfl (pa_ar (o_pk (i := 1) rfl (by walk_at "vis")) (pa_ar (e_var (i := 9) rfl (by walk_at "vis")) pa_ar0))) (show (10 : Nat) < 12 by decide) (by decide)) (ss_cons (s_asg (e_callC xo C.c__law_done hr (fun _ _ _ h => h) (by exact rfl) rfl (pa_ar (e_var (i := 5) rfl (by walk_at "vis")) (pa_ar (e_var (i := 6) rfl (by walk_at "vis")) (pa_ar (e_var (i := 10) rfl (by walk_at "vis")) pa_ar0)))) (g_tp xo (gs_cons (g_nm (i := 5) nd rfl (by walk_at "loc") (show (5 : Nat) < 12 by decide) (by decide)) (gs_cons (g_nm (i := 6) nd rfl (by walk_at "loc") (show (6 : Nat) < 12 by decide) (by decide)) gs_nil)))) (ss_cons (s_ex (e_append (i := 7) rfl (by walk_at "vis") (e_var (i := 10) rfl (by walk_at "vis")))) (ss_cons (s_if (t_not (t_val xo (e_callC xo C.c__law_same hr (fun _ _ _ h => h) (by exact rfl) rfl (pa_ar (e_callC xo C.c_done hr (fun _ _ _ h => h) (by exact rfl) rfl (pa_ar (e_var (i := 8) rfl (by walk_at "vis")) (pa_ar (e_var (i := 10) rfl (by walk_at "vis")) pa_ar0))) (pa_ar (e_tup (pa_sh (e_blt (cr_len xo) (by exact rfl) Fr.f_len PySem.boot_len (pa_os (o_pk (i := 5) rfl (by walk_at "vis")) pa_os0)) (pa_sh (e_ty (cr_tupOf xo) (by exact rfl) Fr.f_tuple PyProof.Rows.boot_tuple (pa_os (o_pk (i := 6) rfl (by walk_at "vis")) pa_os0)) pa_sh0))) pa_ar0))))) (ss_cons (s_ret e_bl) ss_nil) ss_nil) (ss_cons (s_set (i := 8) nd rfl (by walk_at "loc") (e_tup (pa_sh (e_blt (cr_len xo) (by exact rfl) Fr.f_len PySem.boot_len (pa_os (o_pk (i := 5) rfl (by walk_at "vis")) pa_os0)) (pa_sh (e_ty (cr_tupOf xo) (by exact rfl) Fr.f_tuple PyProof.Rows.boot_tuple (pa_os (o_pk (i := 6) rfl (by walk_at "vis")) pa_os0)) pa_sh0))) (show (8 : Nat) < 12 by decide) (by decide)) ss_nil)))))))) (by decide) (by decide)) (ss_cons (s_if (t_not (t_val xo (e_callC xo C.c__law_same hr (fun _ _ _ h => h) (by exact rfl) rfl (pa_ar (e_lst (pa_sh (e_callC xo C.c_traced hr (fun _ _ _ h => h) (by exact rfl) rfl (pa_ar (e_var (i := 3) rfl (by walk_at "vis")) (pa_ar (e_ty (cr_tupOf xo) (by exact rfl) Fr.f_tuple PyProof.Rows.boot_tuple (pa_os (o_pk (i := 7) rfl (by walk_at "vis")) pa_os0)) pa_ar0))) (pa_sh (e_callC xo C.c_traced hr (fun _ _ _ h => h) (by exact rfl) rfl (pa_ar (e_var (i := 3) rfl (by walk_at "vis")) (pa_ar (e_tup pa_sh0) pa_ar0))) pa_sh0))) (pa_ar (e_lst (pa_sh (e_tup (pa_sh (e_var (i := 8) rfl (by walk_at "vis")) (pa_sh (e_ty (cr_tupOf xo) (by exact rfl) Fr.f_tuple PyProof.Rows.boot_tuple (pa_os (o_pk (i := 5) rfl (by walk_at "vis")) pa_os0)) pa_sh0))) (pa_sh (e_tup (pa_sh (e_var (i := 3) rfl (by walk_at "vis")) (pa_sh (e_ty (cr_tupOf xo) (by exact rfl) Fr.f_tuple PyProof.Rows.boot_tuple (pa_os (e_lc (own := [("own", 11)]) xo nd (f_rng1 xo (by exact rfl) Fr.f_range (e_ix xo (o_pk (i := 3) rfl (by walk_at "vis")) e_int)) (blkOk_by (by kernel_rfl)) (fun _ _ _ _ _ => g_nm (i := 11) nd rfl (by walk_at "loc") (show (11 : Nat) < 12 by decide) (by decide)) (fun _ _ _ _ _ => ts_yes) (fun _ _ _ _ _ => e_tup (pa_sh (e_var (i := 11) rfl (by walk_at "vis")) pa_sh0)) (by decide)) pa_os0)) pa_sh0))) pa_sh0))) pa_ar0))))) (ss_cons (s_ret e_bl) ss_nil) ss_nil) ss_nil)))) (by decide) (by decide)) (ss_cons (s_ret e_bl) ss_nil)))
end
theorem sc_is_integer : FnScope ["value"] ["value"] (defScope (top 4)) := ⟨rfl, rfl, rfl, nd_is_integer, rfl, by decide +kernel, by decide +kernel⟩
theorem sc_is_edge : FnScope ["value", "many"] ["value", "many"] (defScope (top 8)) := ⟨rfl, rfl, rfl, nd_is_edge, rfl, by decide +kernel, by decide +kernel⟩
theorem sc_is_graph : FnScope ["value", "one", "other", "own"] ["value"] (defScope (top 9)) := ⟨rfl, rfl, rfl, nd_is_graph, rfl, by decide +kernel, by decide +kernel⟩
theorem sc_check_graph : FnScope ["graph", "name"] ["graph", "name"] (defScope (top 10)) := ⟨rfl, rfl, rfl, nd_check_graph, rfl, by decide +kernel, by decide +kernel⟩
theorem sc_edge_in : FnScope ["one", "other"] ["one", "other"] (defScope (top 11)) := ⟨rfl, rfl, rfl, nd_edge_in, rfl, by decide +kernel, by decide +kernel⟩
theorem sc_graph_in : FnScope ["many", "pairs", "one", "other"] ["many", "pairs"] (defScope (top 12)) := ⟨rfl, rfl, rfl, nd_graph_in, rfl, by decide +kernel, by decide +kernel⟩
theorem sc_is_deed : FnScope ["value", "graph"] ["value", "graph"] (defScope (top 14)) := ⟨rfl, rfl, rfl, nd_is_deed, rfl, by decide +kernel, by decide +kernel⟩
theorem sc_numbers_in : FnScope ["graph", "deed", "gone", "found", "own"] ["graph", "deed"] (defScope (top 15)) := ⟨rfl, rfl, rfl, nd_numbers_in, rfl, by decide +kernel, by decide +kernel⟩
theorem sc_done_in : FnScope ["graph", "deed", "numbers", "pairs", "one", "other", "own"] ["graph", "deed"] (defScope (top 16)) := ⟨rfl, rfl, rfl, nd_done_in, rfl, by decide +kernel, by decide +kernel⟩
theorem sc_done : FnScope ["graph", "deed"] ["graph", "deed"] (defScope (top 17)) := ⟨rfl, rfl, rfl, nd_done, rfl, by decide +kernel, by decide +kernel⟩
theorem sc_deeds_of : FnScope ["graph"] ["graph"] (defScope (top 18)) := ⟨rfl, rfl, rfl, nd_deeds_of, rfl, by decide +kernel, by decide +kernel⟩
theorem sc_all_deeds : FnScope ["graph", "cuts", "own"] ["graph"] (defScope (top 19)) := ⟨rfl, rfl, rfl, nd_all_deeds, rfl, by decide +kernel, by decide +kernel⟩
theorem sc_traced_in : FnScope ["graph", "deeds", "houses", "deed", "own", "numbers", "made", "number"] ["graph", "deeds"] (defScope (top 20)) := ⟨rfl, rfl, rfl, nd_traced_in, rfl, by decide +kernel, by decide +kernel⟩
theorem sc_traced : FnScope ["graph", "deeds", "left", "deed", "made", "houses", "own"] ["graph", "deeds"] (defScope (top 21)) := ⟨rfl, rfl, rfl, nd_traced, rfl, by decide +kernel, by decide +kernel⟩
theorem sc__law_start : FnScope ["script", "seed", "cell"] ["script"] (defScope (top 23)) := ⟨rfl, rfl, rfl, nd__law_start, rfl, by decide +kernel, by decide +kernel⟩
theorem sc__law_draw : FnScope ["state", "many", "found"] ["state", "many"] (defScope (top 24)) := ⟨rfl, rfl, rfl, nd__law_draw, rfl, by decide +kernel, by decide +kernel⟩
theorem sc__law_pick : FnScope ["state", "some"] ["state", "some"] (defScope (top 25)) := ⟨rfl, rfl, rfl, nd__law_pick, rfl, by decide +kernel, by decide +kernel⟩
theorem sc__law_same : FnScope ["actual", "due"] ["actual", "due"] (defScope (top 26)) := ⟨rfl, rfl, rfl, nd__law_same, rfl, by decide +kernel, by decide +kernel⟩
theorem sc__law_pairs : FnScope ["many", "found", "other", "one"] ["many"] (defScope (top 27)) := ⟨rfl, rfl, rfl, nd__law_pairs, rfl, by decide +kernel, by decide +kernel⟩
theorem sc__law_graph : FnScope ["state", "most", "many", "thin", "own"] ["state", "most"] (defScope (top 28)) := ⟨rfl, rfl, rfl, nd__law_graph, rfl, by decide +kernel, by decide +kernel⟩
theorem sc__law_done : FnScope ["houses", "edges", "deed", "left", "lower", "word", "at", "one", "pair", "own"] ["houses", "edges", "deed"] (defScope (top 29)) := ⟨rfl, rfl, rfl, nd__law_done, rfl, by decide +kernel, by decide +kernel⟩
theorem sc__law_deeds : FnScope ["many", "edges", "own"] ["many", "edges"] (defScope (top 30)) := ⟨rfl, rfl, rfl, nd__law_deeds, rfl, by decide +kernel, by decide +kernel⟩
theorem sc_law : FnScope ["script", "state", "turn", "graph", "k", "houses", "edges", "row", "now", "deeds", "deed", "own"] ["script"] (defScope (top 31)) := ⟨rfl, rfl, rfl, nd_law, rfl, by decide +kernel, by decide +kernel⟩
/-- each def, where it stands -/
structure At (K : PySem.W.Frag) (mg : Str → Option Value) : Prop where
  a_is_integer : ∃ fa fd, FunD K "is_integer" "is_integer" (defArgs (top 4)) (defBody (top 4)) (defScope (top 4)) [] [] fa fd ∧ mg "is_integer" = some (.ref fa)
  a_is_edge : ∃ fa fd, FunD K "is_edge" "is_edge" (defArgs (top 8)) (defBody (top 8)) (defScope (top 8)) [] [] fa fd ∧ mg "is_edge" = some (.ref fa)
  a_is_graph : ∃ fa fd, FunD K "is_graph" "is_graph" (defArgs (top 9)) (defBody (top 9)) (defScope (top 9)) [] [] fa fd ∧ mg "is_graph" = some (.ref fa)
  a_check_graph : ∃ fa fd, FunD K "check_graph" "check_graph" (defArgs (top 10)) (defBody (top 10)) (defScope (top 10)) [V.str "graph"] [] fa fd ∧ mg "check_graph" = some (.ref fa)
  a_edge_in : ∃ fa fd, FunD K "edge_in" "edge_in" (defArgs (top 11)) (defBody (top 11)) (defScope (top 11)) [] [] fa fd ∧ mg "edge_in" = some (.ref fa)
  a_graph_in : ∃ fa fd, FunD K "graph_in" "graph_in" (defArgs (top 12)) (defBody (top 12)) (defScope (top 12)) [] [] fa fd ∧ mg "graph_in" = some (.ref fa)
  a_is_deed : ∃ fa fd, FunD K "is_deed" "is_deed" (defArgs (top 14)) (defBody (top 14)) (defScope (top 14)) [] [] fa fd ∧ mg "is_deed" = some (.ref fa)
  a_numbers_in : ∃ fa fd, FunD K "numbers_in" "numbers_in" (defArgs (top 15)) (defBody (top 15)) (defScope (top 15)) [] [] fa fd ∧ mg "numbers_in" = some (.ref fa)
  a_done_in : ∃ fa fd, FunD K "done_in" "done_in" (defArgs (top 16)) (defBody (top 16)) (defScope (top 16)) [] [] fa fd ∧ mg "done_in" = some (.ref fa)
  a_done : ∃ fa fd, FunD K "done" "done" (defArgs (top 17)) (defBody (top 17)) (defScope (top 17)) [] [] fa fd ∧ mg "done" = some (.ref fa)
  a_deeds_of : ∃ fa fd, FunD K "deeds_of" "deeds_of" (defArgs (top 18)) (defBody (top 18)) (defScope (top 18)) [] [] fa fd ∧ mg "deeds_of" = some (.ref fa)
  a_all_deeds : ∃ fa fd, FunD K "all_deeds" "all_deeds" (defArgs (top 19)) (defBody (top 19)) (defScope (top 19)) [] [] fa fd ∧ mg "all_deeds" = some (.ref fa)
  a_traced_in : ∃ fa fd, FunD K "traced_in" "traced_in" (defArgs (top 20)) (defBody (top 20)) (defScope (top 20)) [] [] fa fd ∧ mg "traced_in" = some (.ref fa)
  a_traced : ∃ fa fd, FunD K "traced" "traced" (defArgs (top 21)) (defBody (top 21)) (defScope (top 21)) [] [] fa fd ∧ mg "traced" = some (.ref fa)
  a__law_start : ∃ fa fd, FunD K "_law_start" "_law_start" (defArgs (top 23)) (defBody (top 23)) (defScope (top 23)) [] [] fa fd ∧ mg "_law_start" = some (.ref fa)
  a__law_draw : ∃ fa fd, FunD K "_law_draw" "_law_draw" (defArgs (top 24)) (defBody (top 24)) (defScope (top 24)) [] [] fa fd ∧ mg "_law_draw" = some (.ref fa)
  a__law_pick : ∃ fa fd, FunD K "_law_pick" "_law_pick" (defArgs (top 25)) (defBody (top 25)) (defScope (top 25)) [] [] fa fd ∧ mg "_law_pick" = some (.ref fa)
  a__law_same : ∃ fa fd, FunD K "_law_same" "_law_same" (defArgs (top 26)) (defBody (top 26)) (defScope (top 26)) [] [] fa fd ∧ mg "_law_same" = some (.ref fa)
  a__law_pairs : ∃ fa fd, FunD K "_law_pairs" "_law_pairs" (defArgs (top 27)) (defBody (top 27)) (defScope (top 27)) [] [] fa fd ∧ mg "_law_pairs" = some (.ref fa)
  a__law_graph : ∃ fa fd, FunD K "_law_graph" "_law_graph" (defArgs (top 28)) (defBody (top 28)) (defScope (top 28)) [] [] fa fd ∧ mg "_law_graph" = some (.ref fa)
  a__law_done : ∃ fa fd, FunD K "_law_done" "_law_done" (defArgs (top 29)) (defBody (top 29)) (defScope (top 29)) [] [] fa fd ∧ mg "_law_done" = some (.ref fa)
  a__law_deeds : ∃ fa fd, FunD K "_law_deeds" "_law_deeds" (defArgs (top 30)) (defBody (top 30)) (defScope (top 30)) [] [] fa fd ∧ mg "_law_deeds" = some (.ref fa)
  a_law : ∃ fa fd, FunD K "law" "law" (defArgs (top 31)) (defBody (top 31)) (defScope (top 31)) [] [] fa fd ∧ mg "law" = some (.ref fa)
section
variable {P : Program} {w : World} {K : PySem.W.Frag} {mg : Str → Option Value} {base : Heap} {Γ : Gx}
theorem all_defs (T : At K mg) (Fr : Free mg) (hK : K = Γ.K) (hw : w = Γ.w) : ∀ n, Defs P w K mg base Γ (denF tab n) n := by
  obtain ⟨fa_is_integer, fd_is_integer, F_is_integer, g_is_integer⟩ := T.a_is_integer
  obtain ⟨fa_is_edge, fd_is_edge, F_is_edge, g_is_edge⟩ := T.a_is_edge
  obtain ⟨fa_is_graph, fd_is_graph, F_is_graph, g_is_graph⟩ := T.a_is_graph
  obtain ⟨fa_check_graph, fd_check_graph, F_check_graph, g_check_graph⟩ := T.a_check_graph
  obtain ⟨fa_edge_in, fd_edge_in, F_edge_in, g_edge_in⟩ := T.a_edge_in
  obtain ⟨fa_graph_in, fd_graph_in, F_graph_in, g_graph_in⟩ := T.a_graph_in
  obtain ⟨fa_is_deed, fd_is_deed, F_is_deed, g_is_deed⟩ := T.a_is_deed
  obtain ⟨fa_numbers_in, fd_numbers_in, F_numbers_in, g_numbers_in⟩ := T.a_numbers_in
  obtain ⟨fa_done_in, fd_done_in, F_done_in, g_done_in⟩ := T.a_done_in
  obtain ⟨fa_done, fd_done, F_done, g_done⟩ := T.a_done
  obtain ⟨fa_deeds_of, fd_deeds_of, F_deeds_of, g_deeds_of⟩ := T.a_deeds_of
  obtain ⟨fa_all_deeds, fd_all_deeds, F_all_deeds, g_all_deeds⟩ := T.a_all_deeds
  obtain ⟨fa_traced_in, fd_traced_in, F_traced_in, g_traced_in⟩ := T.a_traced_in
  obtain ⟨fa_traced, fd_traced, F_traced, g_traced⟩ := T.a_traced
  obtain ⟨fa__law_start, fd__law_start, F__law_start, g__law_start⟩ := T.a__law_start
  obtain ⟨fa__law_draw, fd__law_draw, F__law_draw, g__law_draw⟩ := T.a__law_draw
  obtain ⟨fa__law_pick, fd__law_pick, F__law_pick, g__law_pick⟩ := T.a__law_pick
  obtain ⟨fa__law_same, fd__law_same, F__law_same, g__law_same⟩ := T.a__law_same
  obtain ⟨fa__law_pairs, fd__law_pairs, F__law_pairs, g__law_pairs⟩ := T.a__law_pairs
  obtain ⟨fa__law_graph, fd__law_graph, F__law_graph, g__law_graph⟩ := T.a__law_graph
  obtain ⟨fa__law_done, fd__law_done, F__law_done, g__law_done⟩ := T.a__law_done
  obtain ⟨fa__law_deeds, fd__law_deeds, F__law_deeds, g__law_deeds⟩ := T.a__law_deeds
  intro n
  induction n with
  | zero => exact ⟨⟨⟨fa_is_integer, fd_is_integer, FnG.zero, g_is_integer, F_is_integer.kp, (fun _ => (FunD.bindsN F_is_integer fun _ _ _ _ _ _ us hl => match us, hl with | [_], _ => rfl)), (fun h => absurd rfl h)⟩⟩, ⟨⟨fa_is_edge, fd_is_edge, FnG.zero, g_is_edge, F_is_edge.kp, (fun _ => (FunD.bindsN F_is_edge fun _ _ _ _ _ _ us hl => match us, hl with | [_, _], _ => rfl)), (fun h => absurd rfl h)⟩⟩, ⟨⟨fa_is_graph, fd_is_graph, FnG.zero, g_is_graph, F_is_graph.kp, (fun _ => (FunD.bindsN F_is_graph fun _ _ _ _ _ _ us hl => match us, hl with | [_], _ => rfl)), (fun h => absurd rfl h)⟩⟩, ⟨⟨fa_check_graph, fd_check_graph, FnG.zero, g_check_graph, F_check_graph.kp, (fun h => by cases h), (fun _ => (FunD.binds1 F_check_graph 1 0 (by simp) rfl fun _ _ _ _ _ _ _ us its hu hi => match us, its, hu, hi with | [_], [_], _, _ => ⟨_, rfl, rfl⟩))⟩⟩, ⟨⟨fa_edge_in, fd_edge_in, FnG.zero, g_edge_in, F_edge_in.kp, (fun _ => (FunD.bindsN F_edge_in fun _ _ _ _ _ _ us hl => match us, hl with | [_, _], _ => rfl)), (fun h => absurd rfl h)⟩⟩, ⟨⟨fa_graph_in, fd_graph_in, FnG.zero, g_graph_in, F_graph_in.kp, (fun _ => (FunD.bindsN F_graph_in fun _ _ _ _ _ _ us hl => match us, hl with | [_, _], _ => rfl)), (fun h => absurd rfl h)⟩⟩, ⟨⟨fa_is_deed, fd_is_deed, FnG.zero, g_is_deed, F_is_deed.kp, (fun _ => (FunD.bindsN F_is_deed fun _ _ _ _ _ _ us hl => match us, hl with | [_, _], _ => rfl)), (fun h => absurd rfl h)⟩⟩, ⟨⟨fa_numbers_in, fd_numbers_in, FnG.zero, g_numbers_in, F_numbers_in.kp, (fun _ => (FunD.bindsN F_numbers_in fun _ _ _ _ _ _ us hl => match us, hl with | [_, _], _ => rfl)), (fun h => absurd rfl h)⟩⟩, ⟨⟨fa_done_in, fd_done_in, FnG.zero, g_done_in, F_done_in.kp, (fun _ => (FunD.bindsN F_done_in fun _ _ _ _ _ _ us hl => match us, hl with | [_, _], _ => rfl)), (fun h => absurd rfl h)⟩⟩, ⟨⟨fa_done, fd_done, FnG.zero, g_done, F_done.kp, (fun _ => (FunD.bindsN F_done fun _ _ _ _ _ _ us hl => match us, hl with | [_, _], _ => rfl)), (fun h => absurd rfl h)⟩⟩, ⟨⟨fa_deeds_of, fd_deeds_of, FnG.zero, g_deeds_of, F_deeds_of.kp, (fun _ => (FunD.bindsN F_deeds_of fun _ _ _ _ _ _ us hl => match us, hl with | [_], _ => rfl)), (fun h => absurd rfl h)⟩⟩, ⟨⟨fa_all_deeds, fd_all_deeds, FnG.zero, g_all_deeds, F_all_deeds.kp, (fun _ => (FunD.bindsN F_all_deeds fun _ _ _ _ _ _ us hl => match us, hl with | [_], _ => rfl)), (fun h => absurd rfl h)⟩⟩, ⟨⟨fa_traced_in, fd_traced_in, FnG.zero, g_traced_in, F_traced_in.kp, (fun _ => (FunD.bindsN F_traced_in fun _ _ _ _ _ _ us hl => match us, hl with | [_, _], _ => rfl)), (fun h => absurd rfl h)⟩⟩, ⟨⟨fa_traced, fd_traced, FnG.zero, g_traced, F_traced.kp, (fun _ => (FunD.bindsN F_traced fun _ _ _ _ _ _ us hl => match us, hl with | [_, _], _ => rfl)), (fun h => absurd rfl h)⟩⟩, ⟨⟨fa__law_start, fd__law_start, FnG.zero, g__law_start, F__law_start.kp, (fun _ => (FunD.bindsN F__law_start fun _ _ _ _ _ _ us hl => match us, hl with | [_], _ => rfl)), (fun h => absurd rfl h)⟩⟩, ⟨⟨fa__law_draw, fd__law_draw, FnG.zero, g__law_draw, F__law_draw.kp, (fun _ => (FunD.bindsN F__law_draw fun _ _ _ _ _ _ us hl => match us, hl with | [_, _], _ => rfl)), (fun h => absurd rfl h)⟩⟩, ⟨⟨fa__law_pick, fd__law_pick, FnG.zero, g__law_pick, F__law_pick.kp, (fun _ => (FunD.bindsN F__law_pick fun _ _ _ _ _ _ us hl => match us, hl with | [_, _], _ => rfl)), (fun h => absurd rfl h)⟩⟩, ⟨⟨fa__law_same, fd__law_same, FnG.zero, g__law_same, F__law_same.kp, (fun _ => (FunD.bindsN F__law_same fun _ _ _ _ _ _ us hl => match us, hl with | [_, _], _ => rfl)), (fun h => absurd rfl h)⟩⟩, ⟨⟨fa__law_pairs, fd__law_pairs, FnG.zero, g__law_pairs, F__law_pairs.kp, (fun _ => (FunD.bindsN F__law_pairs fun _ _ _ _ _ _ us hl => match us, hl with | [_], _ => rfl)), (fun h => absurd rfl h)⟩⟩, ⟨⟨fa__law_graph, fd__law_graph, FnG.zero, g__law_graph, F__law_graph.kp, (fun _ => (FunD.bindsN F__law_graph fun _ _ _ _ _ _ us hl => match us, hl with | [_, _], _ => rfl)), (fun h => absurd rfl h)⟩⟩, ⟨⟨fa__law_done, fd__law_done, FnG.zero, g__law_done, F__law_done.kp, (fun _ => (FunD.bindsN F__law_done fun _ _ _ _ _ _ us hl => match us, hl with | [_, _, _], _ => rfl)), (fun h => absurd rfl h)⟩⟩, ⟨⟨fa__law_deeds, fd__law_deeds, FnG.zero, g__law_deeds, F__law_deeds.kp, (fun _ => (FunD.bindsN F__law_deeds fun _ _ _ _ _ _ us hl => match us, hl with | [_, _], _ => rfl)), (fun h => absurd rfl h)⟩⟩⟩
  | succ n ih =>
    exact ⟨⟨⟨fa_is_integer, fd_is_integer, fn_F (c := c_is_integer) (z := []) F_is_integer sc_is_integer tab_is_integer rfl rfl (by decide) (by decide) (fun cdv A outer s H E hr gd => body_is_integer ih Fr hK hw _ cdv A outer s H E hr gd), g_is_integer, F_is_integer.kp, (fun _ => (FunD.bindsN F_is_integer fun _ _ _ _ _ _ us hl => match us, hl with | [_], _ => rfl)), (fun h => absurd rfl h)⟩⟩,
      ⟨⟨fa_is_edge, fd_is_edge, fn_F (c := c_is_edge) (z := []) F_is_edge sc_is_edge tab_is_edge rfl rfl (by decide) (by decide) (fun cdv A outer s H E hr gd => body_is_edge ih Fr hK hw _ cdv A outer s H E hr gd), g_is_edge, F_is_edge.kp, (fun _ => (FunD.bindsN F_is_edge fun _ _ _ _ _ _ us hl => match us, hl with | [_, _], _ => rfl)), (fun h => absurd rfl h)⟩⟩,
      ⟨⟨fa_is_graph, fd_is_graph, fn_F (c := c_is_graph) (z := []) F_is_graph sc_is_graph tab_is_graph rfl rfl (by decide) (by decide) (fun cdv A outer s H E hr gd => body_is_graph ih Fr hK hw _ cdv A outer s H E hr gd), g_is_graph, F_is_graph.kp, (fun _ => (FunD.bindsN F_is_graph fun _ _ _ _ _ _ us hl => match us, hl with | [_], _ => rfl)), (fun h => absurd rfl h)⟩⟩,
      ⟨⟨fa_check_graph, fd_check_graph, fn_F (c := c_check_graph) (z := []) F_check_graph sc_check_graph tab_check_graph rfl rfl (by decide) (by decide) (fun cdv A outer s H E hr gd => body_check_graph ih Fr hK hw _ cdv A outer s H E hr gd), g_check_graph, F_check_graph.kp, (fun h => by cases h), (fun _ => (FunD.binds1 F_check_graph 1 0 (by simp) rfl fun _ _ _ _ _ _ _ us its hu hi => match us, its, hu, hi with | [_], [_], _, _ => ⟨_, rfl, rfl⟩))⟩⟩,
      ⟨⟨fa_edge_in, fd_edge_in, fn_F (c := c_edge_in) (z := []) F_edge_in sc_edge_in tab_edge_in rfl rfl (by decide) (by decide) (fun cdv A outer s H E hr gd => body_edge_in ih Fr hK hw _ cdv A outer s H E hr gd), g_edge_in, F_edge_in.kp, (fun _ => (FunD.bindsN F_edge_in fun _ _ _ _ _ _ us hl => match us, hl with | [_, _], _ => rfl)), (fun h => absurd rfl h)⟩⟩,
      ⟨⟨fa_graph_in, fd_graph_in, fn_F (c := c_graph_in) (z := []) F_graph_in sc_graph_in tab_graph_in rfl rfl (by decide) (by decide) (fun cdv A outer s H E hr gd => body_graph_in ih Fr hK hw _ cdv A outer s H E hr gd), g_graph_in, F_graph_in.kp, (fun _ => (FunD.bindsN F_graph_in fun _ _ _ _ _ _ us hl => match us, hl with | [_, _], _ => rfl)), (fun h => absurd rfl h)⟩⟩,
      ⟨⟨fa_is_deed, fd_is_deed, fn_F (c := c_is_deed) (z := []) F_is_deed sc_is_deed tab_is_deed rfl rfl (by decide) (by decide) (fun cdv A outer s H E hr gd => body_is_deed ih Fr hK hw _ cdv A outer s H E hr gd), g_is_deed, F_is_deed.kp, (fun _ => (FunD.bindsN F_is_deed fun _ _ _ _ _ _ us hl => match us, hl with | [_, _], _ => rfl)), (fun h => absurd rfl h)⟩⟩,
      ⟨⟨fa_numbers_in, fd_numbers_in, fn_F (c := c_numbers_in) (z := [2, 3]) F_numbers_in sc_numbers_in tab_numbers_in rfl rfl (by decide) (by decide) (fun cdv A outer s H E hr gd => body_numbers_in ih Fr hK hw _ cdv A outer s H E hr gd), g_numbers_in, F_numbers_in.kp, (fun _ => (FunD.bindsN F_numbers_in fun _ _ _ _ _ _ us hl => match us, hl with | [_, _], _ => rfl)), (fun h => absurd rfl h)⟩⟩,
      ⟨⟨fa_done_in, fd_done_in, fn_F (c := c_done_in) (z := [2, 3]) F_done_in sc_done_in tab_done_in rfl rfl (by decide) (by decide) (fun cdv A outer s H E hr gd => body_done_in ih Fr hK hw _ cdv A outer s H E hr gd), g_done_in, F_done_in.kp, (fun _ => (FunD.bindsN F_done_in fun _ _ _ _ _ _ us hl => match us, hl with | [_, _], _ => rfl)), (fun h => absurd rfl h)⟩⟩,
      ⟨⟨fa_done, fd_done, fn_F (c := c_done) (z := []) F_done sc_done tab_done rfl rfl (by decide) (by decide) (fun cdv A outer s H E hr gd => body_done ih Fr hK hw _ cdv A outer s H E hr gd), g_done, F_done.kp, (fun _ => (FunD.bindsN F_done fun _ _ _ _ _ _ us hl => match us, hl with | [_, _], _ => rfl)), (fun h => absurd rfl h)⟩⟩,
      ⟨⟨fa_deeds_of, fd_deeds_of, fn_F (c := c_deeds_of) (z := []) F_deeds_of sc_deeds_of tab_deeds_of rfl rfl (by decide) (by decide) (fun cdv A outer s H E hr gd => body_deeds_of ih Fr hK hw _ cdv A outer s H E hr gd), g_deeds_of, F_deeds_of.kp, (fun _ => (FunD.bindsN F_deeds_of fun _ _ _ _ _ _ us hl => match us, hl with | [_], _ => rfl)), (fun h => absurd rfl h)⟩⟩,
      ⟨⟨fa_all_deeds, fd_all_deeds, fn_F (c := c_all_deeds) (z := [1]) F_all_deeds sc_all_deeds tab_all_deeds rfl rfl (by decide) (by decide) (fun cdv A outer s H E hr gd => body_all_deeds ih Fr hK hw _ cdv A outer s H E hr gd), g_all_deeds, F_all_deeds.kp, (fun _ => (FunD.bindsN F_all_deeds fun _ _ _ _ _ _ us hl => match us, hl with | [_], _ => rfl)), (fun h => absurd rfl h)⟩⟩,
      ⟨⟨fa_traced_in, fd_traced_in, fn_F (c := c_traced_in) (z := [0, 2, 3, 4, 5, 6, 7]) F_traced_in sc_traced_in tab_traced_in rfl rfl (by decide) (by decide) (fun cdv A outer s H E hr gd => body_traced_in ih Fr hK hw _ cdv A outer s H E hr gd), g_traced_in, F_traced_in.kp, (fun _ => (FunD.bindsN F_traced_in fun _ _ _ _ _ _ us hl => match us, hl with | [_, _], _ => rfl)), (fun h => absurd rfl h)⟩⟩,
      ⟨⟨fa_traced, fd_traced, fn_F (c := c_traced) (z := [2, 3, 4, 5]) F_traced sc_traced tab_traced rfl rfl (by decide) (by decide) (fun cdv A outer s H E hr gd => body_traced ih Fr hK hw _ cdv A outer s H E hr gd), g_traced, F_traced.kp, (fun _ => (FunD.bindsN F_traced fun _ _ _ _ _ _ us hl => match us, hl with | [_, _], _ => rfl)), (fun h => absurd rfl h)⟩⟩,
      ⟨⟨fa__law_start, fd__law_start, fn_F (c := c__law_start) (z := [1, 2]) F__law_start sc__law_start tab__law_start rfl rfl (by decide) (by decide) (fun cdv A outer s H E hr gd => body__law_start ih Fr hK hw _ cdv A outer s H E hr gd), g__law_start, F__law_start.kp, (fun _ => (FunD.bindsN F__law_start fun _ _ _ _ _ _ us hl => match us, hl with | [_], _ => rfl)), (fun h => absurd rfl h)⟩⟩,
      ⟨⟨fa__law_draw, fd__law_draw, fn_F (c := c__law_draw) (z := [2]) F__law_draw sc__law_draw tab__law_draw rfl rfl (by decide) (by decide) (fun cdv A outer s H E hr gd => body__law_draw ih Fr hK hw _ cdv A outer s H E hr gd), g__law_draw, F__law_draw.kp, (fun _ => (FunD.bindsN F__law_draw fun _ _ _ _ _ _ us hl => match us, hl with | [_, _], _ => rfl)), (fun h => absurd rfl h)⟩⟩,
      ⟨⟨fa__law_pick, fd__law_pick, fn_F (c := c__law_pick) (z := []) F__law_pick sc__law_pick tab__law_pick rfl rfl (by decide) (by decide) (fun cdv A outer s H E hr gd => body__law_pick ih Fr hK hw _ cdv A outer s H E hr gd), g__law_pick, F__law_pick.kp, (fun _ => (FunD.bindsN F__law_pick fun _ _ _ _ _ _ us hl => match us, hl with | [_, _], _ => rfl)), (fun h => absurd rfl h)⟩⟩,
      ⟨⟨fa__law_same, fd__law_same, fn_F (c := c__law_same) (z := []) F__law_same sc__law_same tab__law_same rfl rfl (by decide) (by decide) (fun cdv A outer s H E hr gd => body__law_same ih Fr hK hw _ cdv A outer s H E hr gd), g__law_same, F__law_same.kp, (fun _ => (FunD.bindsN F__law_same fun _ _ _ _ _ _ us hl => match us, hl with | [_, _], _ => rfl)), (fun h => absurd rfl h)⟩⟩,
      ⟨⟨fa__law_pairs, fd__law_pairs, fn_F (c := c__law_pairs) (z := [1, 2]) F__law_pairs sc__law_pairs tab__law_pairs rfl rfl (by decide) (by decide) (fun cdv A outer s H E hr gd => body__law_pairs ih Fr hK hw _ cdv A outer s H E hr gd), g__law_pairs, F__law_pairs.kp, (fun _ => (FunD.bindsN F__law_pairs fun _ _ _ _ _ _ us hl => match us, hl with | [_], _ => rfl)), (fun h => absurd rfl h)⟩⟩,
      ⟨⟨fa__law_graph, fd__law_graph, fn_F (c := c__law_graph) (z := [2, 3]) F__law_graph sc__law_graph tab__law_graph rfl rfl (by decide) (by decide) (fun cdv A outer s H E hr gd => body__law_graph ih Fr hK hw _ cdv A outer s H E hr gd), g__law_graph, F__law_graph.kp, (fun _ => (FunD.bindsN F__law_graph fun _ _ _ _ _ _ us hl => match us, hl with | [_, _], _ => rfl)), (fun h => absurd rfl h)⟩⟩,
      ⟨⟨fa__law_done, fd__law_done, fn_F (c := c__law_done) (z := [0, 1, 3, 4, 5, 6, 7]) F__law_done sc__law_done tab__law_done rfl rfl (by decide) (by decide) (fun cdv A outer s H E hr gd => body__law_done ih Fr hK hw _ cdv A outer s H E hr gd), g__law_done, F__law_done.kp, (fun _ => (FunD.bindsN F__law_done fun _ _ _ _ _ _ us hl => match us, hl with | [_, _, _], _ => rfl)), (fun h => absurd rfl h)⟩⟩,
      ⟨⟨fa__law_deeds, fd__law_deeds, fn_F (c := c__law_deeds) (z := []) F__law_deeds sc__law_deeds tab__law_deeds rfl rfl (by decide) (by decide) (fun cdv A outer s H E hr gd => body__law_deeds ih Fr hK hw _ cdv A outer s H E hr gd), g__law_deeds, F__law_deeds.kp, (fun _ => (FunD.bindsN F__law_deeds fun _ _ _ _ _ _ us hl => match us, hl with | [_, _], _ => rfl)), (fun h => absurd rfl h)⟩⟩⟩
theorem law_ok (T : At K mg) (Fr : Free mg) (hK : K = Γ.K) (hw : w = Γ.w) (n : Nat) : ∃ fa fd, mg "law" = some (.ref fa) ∧ (∀ (s : Shared) (u : Value), BindsTo s fd ⟨[u], []⟩ [("script", u)]) ∧ ∀ base, FnG P w K mg base CX0 (n + 1) fa fd ["script"] (spF Γ (denF tab (n + 1)) ew0 f_law 1) := by
  have ih := fun base => all_defs (P := P) (base := base) T Fr hK hw n
  obtain ⟨fa_law, fd_law, F_law, g_law⟩ := T.a_law
  exact ⟨fa_law, fd_law, g_law, (fun s u => FunD.bindsA (ps := ["script"]) F_law (fun _ _ _ _ _ _ us hl => match us, hl with | [_], _ => rfl) s [u] rfl), fun base => fn_F (c := c_law) (z := [1, 2, 3, 4, 5, 6, 7, 8, 9, 10]) F_law sc_law tab_law rfl rfl (by decide) (by decide) (fun cdv A outer s H E hr gd => body_law (ih base) Fr hK hw _ cdv A outer s H E hr gd)⟩
end
end
section
open PySem PySem.Spec PyProof.Rows L2
def d_is_integer : He.DefD := ⟨("is_integer", none), "is_integer", "is_integer", defArgs (top 4), defBody (top 4), defScope (top 4), [], []⟩
def d_is_edge : He.DefD := ⟨("is_edge", none), "is_edge", "is_edge", defArgs (top 8), defBody (top 8), defScope (top 8), [], []⟩
def d_is_graph : He.DefD := ⟨("is_graph", none), "is_graph", "is_graph", defArgs (top 9), defBody (top 9), defScope (top 9), [], []⟩
def d_check_graph : He.DefD := ⟨("check_graph", none), "check_graph", "check_graph", defArgs (top 10), defBody (top 10), defScope (top 10), [He.Dv.str "graph"], []⟩
def d_edge_in : He.DefD := ⟨("edge_in", none), "edge_in", "edge_in", defArgs (top 11), defBody (top 11), defScope (top 11), [], []⟩
def d_graph_in : He.DefD := ⟨("graph_in", none), "graph_in", "graph_in", defArgs (top 12), defBody (top 12), defScope (top 12), [], []⟩
def d_is_deed : He.DefD := ⟨("is_deed", none), "is_deed", "is_deed", defArgs (top 14), defBody (top 14), defScope (top 14), [], []⟩
def d_numbers_in : He.DefD := ⟨("numbers_in", none), "numbers_in", "numbers_in", defArgs (top 15), defBody (top 15), defScope (top 15), [], []⟩
def d_done_in : He.DefD := ⟨("done_in", none), "done_in", "done_in", defArgs (top 16), defBody (top 16), defScope (top 16), [], []⟩
def d_done : He.DefD := ⟨("done", none), "done", "done", defArgs (top 17), defBody (top 17), defScope (top 17), [], []⟩
def d_deeds_of : He.DefD := ⟨("deeds_of", none), "deeds_of", "deeds_of", defArgs (top 18), defBody (top 18), defScope (top 18), [], []⟩
def d_all_deeds : He.DefD := ⟨("all_deeds", none), "all_deeds", "all_deeds", defArgs (top 19), defBody (top 19), defScope (top 19), [], []⟩
def d_traced_in : He.DefD := ⟨("traced_in", none), "traced_in", "traced_in", defArgs (top 20), defBody (top 20), defScope (top 20), [], []⟩
def d_traced : He.DefD := ⟨("traced", none), "traced", "traced", defArgs (top 21), defBody (top 21), defScope (top 21), [], []⟩
def d__law_start : He.DefD := ⟨("_law_start", none), "_law_start", "_law_start", defArgs (top 23), defBody (top 23), defScope (top 23), [], []⟩
def d__law_draw : He.DefD := ⟨("_law_draw", none), "_law_draw", "_law_draw", defArgs (top 24), defBody (top 24), defScope (top 24), [], []⟩
def d__law_pick : He.DefD := ⟨("_law_pick", none), "_law_pick", "_law_pick", defArgs (top 25), defBody (top 25), defScope (top 25), [], []⟩
def d__law_same : He.DefD := ⟨("_law_same", none), "_law_same", "_law_same", defArgs (top 26), defBody (top 26), defScope (top 26), [], []⟩
def d__law_pairs : He.DefD := ⟨("_law_pairs", none), "_law_pairs", "_law_pairs", defArgs (top 27), defBody (top 27), defScope (top 27), [], []⟩
def d__law_graph : He.DefD := ⟨("_law_graph", none), "_law_graph", "_law_graph", defArgs (top 28), defBody (top 28), defScope (top 28), [], []⟩
def d__law_done : He.DefD := ⟨("_law_done", none), "_law_done", "_law_done", defArgs (top 29), defBody (top 29), defScope (top 29), [], []⟩
def d__law_deeds : He.DefD := ⟨("_law_deeds", none), "_law_deeds", "_law_deeds", defArgs (top 30), defBody (top 30), defScope (top 30), [], []⟩
def d_law : He.DefD := ⟨("law", none), "law", "law", defArgs (top 31), defBody (top 31), defScope (top 31), [], []⟩
def fnL : List He.DefD := [d_is_integer, d_is_edge, d_is_graph, d_check_graph, d_edge_in, d_graph_in, d_is_deed, d_numbers_in, d_done_in, d_done, d_deeds_of, d_all_deeds, d_traced_in, d_traced, d__law_start, d__law_draw, d__law_pick, d__law_same, d__law_pairs, d__law_graph, d__law_done, d__law_deeds, d_law]
def faL : List He.Fa := [.glo "is_integer", .glo "is_edge", .glo "is_graph", .glo "check_graph", .glo "edge_in", .glo "graph_in", .glo "is_deed", .glo "numbers_in", .glo "done_in", .glo "done", .glo "deeds_of", .glo "all_deeds", .glo "traced_in", .glo "traced", .glo "_law_start", .glo "_law_draw", .glo "_law_pick", .glo "_law_same", .glo "_law_pairs", .glo "_law_graph", .glo "_law_done", .glo "_law_deeds", .glo "law", .free "abs", .free "all", .free "bool", .free "enumerate", .free "int", .free "isinstance", .free "len", .free "list", .free "range", .free "repr", .free "set", .free "sorted", .free "tuple", .free "zip", .int "MAX_DEEDS" 200, .int "MAX_POINTS" 20]
abbrev RR : PySem.W.OpenRow := PySem.W.OpenLaw.row PySem.Challenge.rw_partsbarred_k02_deeds
abbrev hk : PySem.W.Hook := He.hookD 4 faL fnL
def ob (s : PySem.W.SharedT) : He.AlD := He.obsDG 4 faL fnL (HandSHeadRun.getT s)
theorem ob_eq (s : PySem.W.SharedT) : ob s = hk.obs s.abs := He.obsDG_eq (HandSHeadRun.getT_eq s)
theorem run (w : World) : HandSHeadRun.RunEq RR (PySem.W.view RR.prog [31]) hk ob 3000 ["PartError", "ArgumentError", "is_integer", "MAX_POINTS", "MAX_DEEDS", "is_edge", "is_graph", "check_graph", "edge_in", "graph_in", "is_deed", "numbers_in", "done_in", "done", "deeds_of", "all_deeds", "traced_in", "traced", "_law_start", "_law_draw", "_law_pick", "_law_same", "_law_pairs", "_law_graph", "_law_done", "_law_deeds"] w := by
  intro os
  kernel_rfl
section
variable {K : PySem.W.Frag} {h : Heap} {mg : Str → Option Value}
theorem at_of (X : K.In h) (G : h.Ns mainGlobals mg) (c : He.SaysD faL fnL K) : At K mg where
  a_is_integer := let ⟨fd, F⟩ := c.def_ 0 (d := d_is_integer) rfl; ⟨_, fd, F, He.glo_ok X G (c.fact 0 (f := .glo "is_integer") rfl)⟩
  a_is_edge := let ⟨fd, F⟩ := c.def_ 1 (d := d_is_edge) rfl; ⟨_, fd, F, He.glo_ok X G (c.fact 1 (f := .glo "is_edge") rfl)⟩
  a_is_graph := let ⟨fd, F⟩ := c.def_ 2 (d := d_is_graph) rfl; ⟨_, fd, F, He.glo_ok X G (c.fact 2 (f := .glo "is_graph") rfl)⟩
  a_check_graph := let ⟨fd, F⟩ := c.def_ 3 (d := d_check_graph) rfl; ⟨_, fd, F, He.glo_ok X G (c.fact 3 (f := .glo "check_graph") rfl)⟩
  a_edge_in := let ⟨fd, F⟩ := c.def_ 4 (d := d_edge_in) rfl; ⟨_, fd, F, He.glo_ok X G (c.fact 4 (f := .glo "edge_in") rfl)⟩
  a_graph_in := let ⟨fd, F⟩ := c.def_ 5 (d := d_graph_in) rfl; ⟨_, fd, F, He.glo_ok X G (c.fact 5 (f := .glo "graph_in") rfl)⟩
  a_is_deed := let ⟨fd, F⟩ := c.def_ 6 (d := d_is_deed) rfl; ⟨_, fd, F, He.glo_ok X G (c.fact 6 (f := .glo "is_deed") rfl)⟩
  a_numbers_in := let ⟨fd, F⟩ := c.def_ 7 (d := d_numbers_in) rfl; ⟨_, fd, F, He.glo_ok X G (c.fact 7 (f := .glo "numbers_in") rfl)⟩
  a_done_in := let ⟨fd, F⟩ := c.def_ 8 (d := d_done_in) rfl; ⟨_, fd, F, He.glo_ok X G (c.fact 8 (f := .glo "done_in") rfl)⟩
  a_done := let ⟨fd, F⟩ := c.def_ 9 (d := d_done) rfl; ⟨_, fd, F, He.glo_ok X G (c.fact 9 (f := .glo "done") rfl)⟩
  a_deeds_of := let ⟨fd, F⟩ := c.def_ 10 (d := d_deeds_of) rfl; ⟨_, fd, F, He.glo_ok X G (c.fact 10 (f := .glo "deeds_of") rfl)⟩
  a_all_deeds := let ⟨fd, F⟩ := c.def_ 11 (d := d_all_deeds) rfl; ⟨_, fd, F, He.glo_ok X G (c.fact 11 (f := .glo "all_deeds") rfl)⟩
  a_traced_in := let ⟨fd, F⟩ := c.def_ 12 (d := d_traced_in) rfl; ⟨_, fd, F, He.glo_ok X G (c.fact 12 (f := .glo "traced_in") rfl)⟩
  a_traced := let ⟨fd, F⟩ := c.def_ 13 (d := d_traced) rfl; ⟨_, fd, F, He.glo_ok X G (c.fact 13 (f := .glo "traced") rfl)⟩
  a__law_start := let ⟨fd, F⟩ := c.def_ 14 (d := d__law_start) rfl; ⟨_, fd, F, He.glo_ok X G (c.fact 14 (f := .glo "_law_start") rfl)⟩
  a__law_draw := let ⟨fd, F⟩ := c.def_ 15 (d := d__law_draw) rfl; ⟨_, fd, F, He.glo_ok X G (c.fact 15 (f := .glo "_law_draw") rfl)⟩
  a__law_pick := let ⟨fd, F⟩ := c.def_ 16 (d := d__law_pick) rfl; ⟨_, fd, F, He.glo_ok X G (c.fact 16 (f := .glo "_law_pick") rfl)⟩
  a__law_same := let ⟨fd, F⟩ := c.def_ 17 (d := d__law_same) rfl; ⟨_, fd, F, He.glo_ok X G (c.fact 17 (f := .glo "_law_same") rfl)⟩
  a__law_pairs := let ⟨fd, F⟩ := c.def_ 18 (d := d__law_pairs) rfl; ⟨_, fd, F, He.glo_ok X G (c.fact 18 (f := .glo "_law_pairs") rfl)⟩
  a__law_graph := let ⟨fd, F⟩ := c.def_ 19 (d := d__law_graph) rfl; ⟨_, fd, F, He.glo_ok X G (c.fact 19 (f := .glo "_law_graph") rfl)⟩
  a__law_done := let ⟨fd, F⟩ := c.def_ 20 (d := d__law_done) rfl; ⟨_, fd, F, He.glo_ok X G (c.fact 20 (f := .glo "_law_done") rfl)⟩
  a__law_deeds := let ⟨fd, F⟩ := c.def_ 21 (d := d__law_deeds) rfl; ⟨_, fd, F, He.glo_ok X G (c.fact 21 (f := .glo "_law_deeds") rfl)⟩
  a_law := let ⟨fd, F⟩ := c.def_ 22 (d := d_law) rfl; ⟨_, fd, F, He.glo_ok X G (c.fact 22 (f := .glo "law") rfl)⟩
theorem free_of (X : K.In h) (G : h.Ns mainGlobals mg) (c : He.SaysD faL fnL K) : Free mg where
  f_abs := He.free_ok X G (c.fact 23 (f := .free "abs") rfl)
  f_all := He.free_ok X G (c.fact 24 (f := .free "all") rfl)
  f_bool := He.free_ok X G (c.fact 25 (f := .free "bool") rfl)
  f_enumerate := He.free_ok X G (c.fact 26 (f := .free "enumerate") rfl)
  f_int := He.free_ok X G (c.fact 27 (f := .free "int") rfl)
  f_isinstance := He.free_ok X G (c.fact 28 (f := .free "isinstance") rfl)
  f_len := He.free_ok X G (c.fact 29 (f := .free "len") rfl)
  f_list := He.free_ok X G (c.fact 30 (f := .free "list") rfl)
  f_range := He.free_ok X G (c.fact 31 (f := .free "range") rfl)
  f_repr := He.free_ok X G (c.fact 32 (f := .free "repr") rfl)
  f_set := He.free_ok X G (c.fact 33 (f := .free "set") rfl)
  f_sorted := He.free_ok X G (c.fact 34 (f := .free "sorted") rfl)
  f_tuple := He.free_ok X G (c.fact 35 (f := .free "tuple") rfl)
  f_zip := He.free_ok X G (c.fact 36 (f := .free "zip") rfl)
  c_MAX_DEEDS := He.int_ok X G (c.fact 37 (f := .int "MAX_DEEDS" 200) rfl)
  c_MAX_POINTS := He.int_ok X G (c.fact 38 (f := .int "MAX_POINTS" 20) rfl)
end
end
section
open PySem PySem.Spec PyProof.Rows L2
/-- what the plain law says -/
def Plain (n : Nat) : Prop := ∀ ns : List Int, ns.length ≤ 63 → ∃ r, denF tab (n + 1) f_law [(0, .scr ns)] = .ok ((0, .bl true), r)
theorem ovs0 {Γ : Gx} {a : Addr} {ns : List Int} {H : Hp} (hd : hid H (fun _ => none) = H) (hS : SqL Γ.K H a (ns.map V.int)) : OVs Γ H (fun _ => none) 0 [(0, .scr ns)] [.ref a] := by
  refine ⟨?_, trivial⟩
  show DV Γ (hid H fun _ => none) _ _
  rw [hd]
  exact .scr hS
theorem sp_of {Γ : Gx} {n a : Nat} (PL : Plain n) {ns : List Int} (hl : ns.length ≤ 63) {H : Hp} (hO : Only H) (hS : SqL Γ.K H a (ns.map V.int)) :
    spF Γ (denF tab (n + 1)) ew0 f_law 1 [.ref a] H (fun v _ => v = .bl true) fun _ _ _ => False := by
  obtain ⟨r, e⟩ := PL ns hl
  have hd : hid H (fun _ => none) = H := by
    funext b; simp [hid]
  refine ⟨rfl, [(0, .scr ns)], fun _ => none, ?_, ?_, ?_, ?_⟩
  · exact ovs0 hd hS
  · intro b l z; cases z
  · intro b l z; cases z
  · rw [e]
    intro v H' w' _ _ ov _
    cases ov
    rfl
theorem holds_of (PL : Plain 7) : PySem.Challenge.rw_partsbarred_k02_deeds.Holds := by
  w_on; o_law
  refine HandSHeadRun.head_any (r := RR) (q := PySem.W.view RR.prog [31]) (H := hk) (ob := ob) (M := 3000) (loose := ["PartError", "ArgumentError", "is_integer", "MAX_POINTS", "MAX_DEEDS", "is_edge", "is_graph", "check_graph", "edge_in", "graph_in", "is_deed", "numbers_in", "done_in", "done", "deeds_of", "all_deeds", "traced_in", "traced", "_law_start", "_law_draw", "_law_pick", "_law_same", "_law_pairs", "_law_graph", "_law_done", "_law_deeds"]) (d := HandSHeadRun.topDef RR.prog 31) (kwd := []) ob_eq
    (by kernel_rfl) (fun s => by kernel_rfl) run (by kernel_rfl) (by kernel_rfl) (by kernel_rfl) (by rfl) (by first | assumption | decide +kernel) (by decide +kernel) ⟨rfl, rfl, rfl, rfl, rfl, by decide +kernel⟩ ?hw ?hc
  case hw => w_witness2
  case hc =>
    refine law_by (l := PySem.Challenge.rw_partsbarred_k02_deeds) (n := 63) (k := 8) (x := "script") (CX := L2.CX0) rfl (by decide) (by kernel_rfl) ⟨rfl, by decide, by decide⟩ ?F (fun _ _ _ _ z => z)
    intro w mg fa h Y G hmg0
    obtain ⟨K, KX, c⟩ := Y
    have hmg : mg ("law" : PySem.Str) = some (.ref fa) := by
      have nm : (HandSHeadRun.topDef RR.prog 31).name = ("law" : PySem.Str) := by kernel_rfl
      exact nm ▸ hmg0
    have T := at_of KX G c
    have Fr := free_of KX G c
    obtain ⟨fl, fd, ml, bd, F⟩ := law_ok (P := PySem.Challenge.rw_partsbarred_k02_deeds.prog) (w := w) (Γ := ⟨K, fun _ => none, w⟩) T Fr rfl rfl 7
    have same := ml.symm.trans hmg
    cases same
    exact ⟨K, fd, _, KX, bd, fun H a ns hl hO hS => sp_of (Γ := ⟨K, fun _ => none, w⟩) PL hl hO hS, fun base _ _ => F base⟩
end
theorem plain7 : Plain 7 := by
  intro ns hl
  obtain ⟨a, e, h⟩ := PQ.law_true hl
  refine ⟨a.2, ?_⟩
  rw [e, ← h]
end PB
theorem PySem.Challenge.cw_partsbarred_k02_deeds_holds : PySem.Challenge.rw_partsbarred_k02_deeds.Holds := by
  exact PB.holds_of PB.plain7
