import PyProof.Rows.All
import Wide.All
import OpenK.AllK
import Wide.FinOn
import HandS.ForMost
import HandS.Exc
import HandS.TryOnly
import HandS.ExcOwn
import HandS.WordsExc
import HandS.TupAny
import HandS.TupMul
import HandS.Style
import HandS.Walk
import HandS.NoneIn
import HandS.Deep
import HandS.Zip
import HandS.CallSlots
import KE.DataMinMax
import HandS.Text
import HandS.StrMore
import KE.GoesMore
import HandS.IsInst
import PySem.Challenge.RW_sumlays_k38_whole_tables_about
set_option Elab.async false
set_option maxRecDepth 100000
set_option maxHeartbeats 4000000
set_option linter.unusedSimpArgs false
/-! PL1: the small language and its evaluator. -/
namespace PL
open PySem

/-- values -/
inductive PV where
  | non | bl (b : Bool) | int (i : Int) | str (s : List Nat) | tup (xs : List PV) | lst (xs : List PV) | scr (ns : List Int) | ref (l : Nat)
  deriving Inhabited

mutual
def PV.beq : PV → PV → Bool
  | .non, .non => true
  | .bl a, .bl b => a == b
  | .int a, .int b => a == b
  | .str a, .str b => a == b
  | .tup a, .tup b => PV.beqs a b
  | .lst a, .lst b => PV.beqs a b
  | .scr a, .scr b => a == b
  | .ref a, .ref b => a == b
  | _, _ => false
def PV.beqs : List PV → List PV → Bool
  | [], [] => true
  | a :: r, b :: s => PV.beq a b && PV.beqs r s
  | _, _ => false
end
mutual
theorem PV.beq_refl : ∀ v : PV, PV.beq v v = true
  | .non => by simp [PV.beq]
  | .bl b => by simp [PV.beq]
  | .int i => by simp [PV.beq]
  | .str s => by simp [PV.beq]
  | .tup xs => by simp only [PV.beq]; exact PV.beqs_refl xs
  | .lst xs => by simp only [PV.beq]; exact PV.beqs_refl xs
  | .scr ns => by simp [PV.beq]
  | .ref l => by simp [PV.beq]
theorem PV.beqs_refl : ∀ vs : List PV, PV.beqs vs vs = true
  | [] => by simp [PV.beqs]
  | v :: r => by simp only [PV.beqs, PV.beq_refl v, PV.beqs_refl r, Bool.and_self]
end
mutual
theorem PV.eq_of_beq : ∀ {a b : PV}, PV.beq a b = true → a = b
  | .non, b, h => by cases b <;> simp [PV.beq] at h <;> rfl
  | .bl x, b, h => by cases b <;> simp [PV.beq] at h; subst h; rfl
  | .int x, b, h => by cases b <;> simp [PV.beq] at h; subst h; rfl
  | .str x, b, h => by cases b <;> simp [PV.beq] at h; subst h; rfl
  | .tup x, b, h => by
    cases b <;> simp only [PV.beq, Bool.false_eq_true] at h
    rw [PV.eq_of_beqs h]
  | .lst x, b, h => by
    cases b <;> simp only [PV.beq, Bool.false_eq_true] at h
    rw [PV.eq_of_beqs h]
  | .scr x, b, h => by cases b <;> simp [PV.beq] at h; subst h; rfl
  | .ref x, b, h => by cases b <;> simp [PV.beq] at h; subst h; rfl
theorem PV.eq_of_beqs : ∀ {a b : List PV}, PV.beqs a b = true → a = b
  | [], b, h => by cases b <;> simp [PV.beqs] at h <;> rfl
  | x :: r, b, h => by
    cases b with
    | nil => simp [PV.beqs] at h
    | cons y s =>
      simp only [PV.beqs, Bool.and_eq_true] at h
      rw [PV.eq_of_beq h.1, PV.eq_of_beqs h.2]
end

mutual
/-- all locations in it lie below n -/
def PV.under (n : Nat) : PV → Bool
  | .ref l => decide (l < n)
  | .tup xs => PV.unders n xs
  | .lst xs => PV.unders n xs
  | _ => true
def PV.unders (n : Nat) : List PV → Bool
  | [] => true
  | x :: r => PV.under n x && PV.unders n r
end

/-! data: no location -/
mutual
def PV.isData : PV → Bool
  | .ref _ => false
  | .scr _ => false
  | .tup xs => PV.areData xs
  | .lst xs => PV.areData xs
  | _ => true
def PV.areData : List PV → Bool
  | [] => true
  | x :: r => PV.isData x && PV.areData r
end
mutual
def PV.toD : PV → PyData
  | .non => .none
  | .bl b => .bool b
  | .int i => .int i
  | .str s => .str ⟨s.toArray⟩
  | .tup xs => .tuple (PV.toDs xs)
  | .lst xs => .list (PV.toDs xs)
  | .scr _ => .none
  | .ref _ => .none
def PV.toDs : List PV → List PyData
  | [] => []
  | x :: r => PV.toD x :: PV.toDs r
end
def PV.okD (v : PV) : Bool := v.isData && SeqAt.shaped v.toD

/-- what stands at a location -/
inductive Cell where
  | dead | lst (xs : List PV)
def Cell.beq : Cell → Cell → Bool
  | .dead, .dead => true
  | .lst a, .lst b => PV.beqs a b
  | _, _ => false
theorem Cell.beq_refl : ∀ c : Cell, Cell.beq c c = true
  | .dead => rfl
  | .lst xs => PV.beqs_refl xs
theorem Cell.eq_of_beq : ∀ {a b : Cell}, Cell.beq a b = true → a = b
  | .dead, b, h => by cases b <;> simp [Cell.beq] at h <;> rfl
  | .lst x, b, h => by
    cases b <;> simp only [Cell.beq, Bool.false_eq_true] at h
    rw [PV.eq_of_beqs h]
def Cell.under (n : Nat) : Cell → Bool
  | .dead => true
  | .lst xs => PV.unders n xs

abbrev Sto := List Cell
abbrev Env := List (Option PV)

inductive Res (α : Type) where
  | ok (a : α) (st : Sto) | exc (c : Nat) (st : Sto) | stuck
def Res.bind {α β : Type} (r : Res α) (f : α → Sto → Res β) : Res β :=
  match r with
  | .ok a st => f a st
  | .exc c st => .exc c st
  | .stuck => .stuck
def Res.ofO {α : Type} (o : Option α) (st : Sto) : Res α :=
  match o with
  | some a => .ok a st
  | none => .stuck

/-- where an exception can't be told of -/
def Res.calm {α : Type} (r : Res α) : Res α :=
  match r with
  | .exc _ _ => .stuck
  | r => r
theorem Res.bind_ok {α β : Type} (a : α) (st : Sto) (f : α → Sto → Res β) : (Res.ok a st).bind f = f a st := rfl
theorem Res.bind_exc {α β : Type} (c : Nat) (st : Sto) (f : α → Sto → Res β) : (Res.exc c st).bind f = .exc c st := rfl
theorem Res.bind_stuck {α β : Type} (f : α → Sto → Res β) : (Res.stuck : Res α).bind f = .stuck := rfl
theorem Res.ofO_some {α : Type} (a : α) (st : Sto) : Res.ofO (some a) st = .ok a st := rfl
theorem Res.ofO_none {α : Type} (st : Sto) : Res.ofO (none : Option α) st = .stuck := rfl

/-- a list by its location -/
def deref (st : Sto) : PV → PV
  | .ref l => match st[l]? with
    | some (.lst xs) => .lst xs
    | _ => .ref l
  | v => v
def derefs (st : Sto) : List PV → List PV
  | [] => []
  | v :: r => deref st v :: derefs st r

/-! ### operations on values -/
def SZ : Nat := 16777216
theorem SZ_eq : SZ = sizeLine := rfl

def addV : PV → PV → Option PV
  | .int i, .int j => some (.int (i + j))
  | .str a, .str b => if a.length + b.length ≤ SZ then some (.str (a ++ b)) else none
  | .tup a, .tup b => if a.length + b.length ≤ SZ then some (.tup (a ++ b)) else none
  | .lst a, .lst b => if a.length + b.length ≤ SZ then some (.lst (a ++ b)) else none
  | _, _ => none
def subV : PV → PV → Option PV
  | .int i, .int j => some (.int (i - j))
  | _, _ => none
def small64 (i : Int) : Bool := decide (-(2 ^ 64) < i) && decide (i < 2 ^ 64)
def mulV : PV → PV → Option PV
  | .int i, .int j => if small64 i || small64 j then some (.int (i * j)) else none
  | .str a, .int k => if k < 2 ^ 62 ∧ -(2 ^ 62) < k ∧ a.length * k.toNat ≤ SZ then some (.str (List.replicate k.toNat a).flatten) else none
  | .tup a, .int k => if k ≤ 1000 ∧ -(2 ^ 62) < k ∧ a.length ≤ 1000 ∧ a.isEmpty = false then some (.tup (List.replicate k.toNat a).flatten) else none
  | .lst a, .int k => if k < 2 ^ 62 ∧ -(2 ^ 62) < k ∧ a.length * k.toNat ≤ SZ then some (.lst (List.replicate k.toNat a).flatten) else none
  | _, _ => none
def fdivV : PV → PV → Option PV
  | .int i, .int j => if 0 < j ∧ j < 1073741824 then some (.int (i / j)) else none
  | _, _ => none
def modV : PV → PV → Option PV
  | .int i, .int j => if 0 < j then some (.int (i % j)) else none
  | _, _ => none
def binV : Operator → PV → PV → Option PV
  | .Add, a, b => addV a b
  | .Sub, a, b => subV a b
  | .Mult, a, b => mulV a b
  | .FloorDiv, a, b => fdivV a b
  | .Mod, a, b => modV a b
  | _, _, _ => none

def eqV : PV → PV → Option Bool
  | .int i, .int j => some (decide (i = j))
  | .str a, .str b => some (decide (a = b))
  | a, b => if a.okD && b.okD then some (PyData.eqv a.toD b.toD) else none
def ltV : PV → PV → Option Bool
  | .int i, .int j => some (decide (i < j))
  | _, _ => none
def leV : PV → PV → Option Bool
  | .int i, .int j => some (decide (i ≤ j))
  | _, _ => none
def isV : PV → PV → Option Bool
  | .non, .non => some true
  | .ref _, .non => none
  | _, .non => some false
  | .bl a, .bl b => some (decide (a = b))
  | _, _ => none
/-- all texts -/
def strsV : List PV → Option (List (List Nat))
  | [] => some []
  | .str s :: r => (strsV r).map (s :: ·)
  | _ :: _ => none
def intsW : List PV → Option (List Int)
  | [] => some []
  | .int i :: r => (intsW r).map (i :: ·)
  | _ :: _ => none
def inSeq (v : PV) (xs : List PV) : Option Bool := match v with
  | .str s => (strsV xs).map fun ts => decide (s ∈ ts)
  | .int i => (intsW xs).map fun ns => decide (i ∈ ns)
  | _ => none
def inV : PV → PV → Option Bool
  | .str [c], .str t => some (decide (c ∈ t))
  | v, .tup xs => inSeq v xs
  | v, .lst xs => inSeq v xs
  | _, _ => none
def cmpV : CmpOp → PV → PV → Option Bool
  | .Eq, a, b => eqV a b
  | .NotEq, a, b => (eqV a b).map (!·)
  | .Lt, a, b => ltV a b
  | .LtE, a, b => leV a b
  | .Gt, a, b => ltV b a
  | .GtE, a, b => leV b a
  | .Is, a, b => isV a b
  | .IsNot, a, b => (isV a b).map (!·)
  | .In, a, b => inV a b
  | .NotIn, a, b => (inV a b).map (!·)

def truV : PV → Option Bool
  | .non => some false
  | .bl b => some b
  | .int i => some (i != 0)
  | .str s => some (!s.isEmpty)
  | .tup xs => some (!xs.isEmpty)
  | .lst xs => some (!xs.isEmpty)
  | _ => none

def atV : PV → PV → Option PV
  | .tup xs, .int i => L2.atI xs i
  | .lst xs, .int i => L2.atI xs i
  | .str s, .int i => (L2.atI s i).map fun c => .str [c]
  | .scr ns, .int i => (L2.atI ns i).map .int
  | _, _ => none
def cutL {α : Type} (xs : List α) (lo hi : Option Int) : List α := (xs.drop (HT.sIx xs.length 0 lo)).take (HT.sIx xs.length xs.length hi - HT.sIx xs.length 0 lo)
def slV : PV → Option Int → Option Int → Option PV
  | .tup xs, lo, hi => some (.tup (cutL xs lo hi))
  | .lst xs, lo, hi => some (.lst (cutL xs lo hi))
  | .str s, lo, hi => some (.str (cutL s lo hi))
  | _, _, _ => none

/-- all ints -/
def intsV : List PV → Option (List Int)
  | [] => some []
  | .int i :: r => (intsV r).map (i :: ·)
  | _ :: _ => none
def blsV : List PV → Option (List Bool)
  | [] => some []
  | .bl i :: r => (blsV r).map (i :: ·)
  | _ :: _ => none
def maxI : List Int → Option Int
  | [] => none
  | i :: r => some (r.foldl max i)
def minI : List Int → Option Int
  | [] => none
  | i :: r => some (r.foldl min i)

/-- built-ins by their name -/
inductive Bi where
  | len | max1 | max2 | min1 | min2 | sum | tuple | list | all | any | int
  deriving DecidableEq
def Bi.name : Bi → Str
  | .len => "len" | .max1 => "max" | .max2 => "max" | .min1 => "min" | .min2 => "min" | .sum => "sum" | .tuple => "tuple" | .list => "list" | .all => "all" | .any => "any" | .int => "int"
def lenV : PV → Option PV
  | .str s => some (.int s.length)
  | .tup xs => some (.int xs.length)
  | .lst xs => some (.int xs.length)
  | .scr xs => some (.int xs.length)
  | _ => none
def bLen : List PV → Option PV
  | [a] => lenV a
  | _ => none
def bMax1 : List PV → Option PV
  | [.lst xs] => (intsV xs).bind fun ns => (maxI ns).map .int
  | _ => none
/-- data that can be put in order -/
def ordOk (xs : List PV) : Bool := PV.areData xs && decide (PyData.depthAll (PV.toDs xs) ≤ 60) && (PV.toDs xs).all (fun x => (PV.toDs xs).all fun y => PySem.W.alike x y) && xs.all fun x => match x with | .non => false | _ => true
def minV : List PV → Option PV
  | [] => none
  | x :: xs => if ordOk (x :: xs) then some (xs.foldl (fun a y => if PySem.W.dataLt y.toD a.toD then y else a) x) else none
def bMin1 : List PV → Option PV
  | [.lst xs] => match intsV xs with
    | some ns => (minI ns).map .int
    | none => minV xs
  | _ => none
def bMax2 : List PV → Option PV
  | [.int i, .int j] => some (.int (if j > i then j else i))
  | _ => none
def bMin2 : List PV → Option PV
  | [.int i, .int j] => some (.int (if j < i then j else i))
  | _ => none
def bSum : List PV → Option PV
  | [.lst xs] => (intsV xs).map fun ns => .int ns.sum
  | _ => none
def bTuple : List PV → Option PV
  | [.lst xs] => some (.tup xs)
  | [.tup xs] => some (.tup xs)
  | _ => none
def bList : List PV → Option PV
  | [.lst xs] => some (.lst xs)
  | [.tup xs] => some (.lst xs)
  | _ => none
def bAll : List PV → Option PV
  | [.lst xs] => (blsV xs).map fun bs => .bl (bs.all id)
  | _ => none
def bAny : List PV → Option PV
  | [.lst xs] => (blsV xs).map fun bs => .bl (bs.any id)
  | _ => none
def bInt : List PV → Option PV
  | [.int i] => some (.int i)
  | [.bl b] => some (.int (if b then 1 else 0))
  | _ => none
def biV : Bi → List PV → Option PV
  | .len, as => bLen as
  | .max1, as => bMax1 as
  | .min1, as => bMin1 as
  | .max2, as => bMax2 as
  | .min2, as => bMin2 as
  | .sum, as => bSum as
  | .tuple, as => bTuple as
  | .list, as => bList as
  | .all, as => bAll as
  | .any, as => bAny as
  | .int, as => bInt as

/-- built-in types that are asked for -/
inductive Ty where
  | int | str | bool | tuple
  deriving DecidableEq
def Ty.name : Ty → Str
  | .int => "int" | .str => "str" | .bool => "bool" | .tuple => "tuple"
def isiB : PV → Ty → Option Bool
  | .int _, t => some (decide (t = .int))
  | .bl _, t => some (decide (t = .bool) || decide (t = .int))
  | .str _, t => some (decide (t = .str))
  | .tup _, t => some (decide (t = .tuple))
  | .non, _ => some false
  | .lst _, _ => some false
  | _, _ => none
/-- the other way about -/
def rvV : PV → PV → Option PV
  | .tup xs, .int i => if i = -1 then some (.tup xs.reverse) else none
  | _, _ => none
/-- methods of texts, of one argument -/
inductive Sm1 where
  | join | split | rstrip | lstrip | strip
  deriving DecidableEq
def Sm1.name : Sm1 → Str
  | .join => "join" | .split => "split" | .rstrip => "rstrip" | .lstrip => "lstrip" | .strip => "strip"
def ofL (a : List Nat) : Str := ⟨a.toArray⟩
def rsF (a b : List Nat) : List Nat := (Txt.rstripChars (ofL a) (ofL b)).cps.toList
def lsF (a b : List Nat) : List Nat := (Txt.lstripChars (ofL a) (ofL b)).cps.toList
def ssF (a b : List Nat) : List Nat := (Txt.stripChars (ofL a) (ofL b)).cps.toList
def joV (a : List Nat) (ys : List PV) : Option PV := (strsV ys).bind fun ts => if (ts.map List.length).sum + ts.length * a.length ≤ 16777216 then some (.str (TL.joinL a ts)) else none
def smV : Sm1 → List Nat → PV → Option PV
  | .join, a, .lst ys => joV a ys
  | .join, a, .tup ys => joV a ys
  | .split, a, .str b => if b.length = 1 ∧ b.all (fun c => decide (c < 256)) = true ∧ a.length + 2 ≤ SZ ∧ (TL.spl b 0 [] a).all (fun p => decide (p.length ≤ SZ)) = true then some (.lst ((TL.spl b 0 [] a).map .str)) else none
  | .rstrip, a, .str b => some (.str (rsF a b))
  | .lstrip, a, .str b => some (.str (lsF a b))
  | .strip, a, .str b => some (.str (ssF a b))
  | _, _, _ => none
/-- isinstance of one or two types -/
def isiV (v : PV) : List Ty → Option Bool
  | [t] => isiB v t
  | [t, u] => (isiB v t).bind fun a => (isiB v u).map fun b => a || b
  | _ => none
/-- methods of lists that write -/
inductive Mth where
  | append | extend | pop
  deriving DecidableEq
def Mth.name : Mth → Str
  | .append => "append" | .extend => "extend" | .pop => "pop"
def mthV : Mth → PV → List PV → Sto → Res PV
  | .append, .ref l, [v], st => match st[l]? with
    | some (.lst xs) => if xs.length < SZ then .ok .non (st.set l (.lst (xs ++ [v]))) else .stuck
    | _ => .stuck
  | .extend, .ref l, [v], st => match st[l]?, deref st v with
    | some (.lst xs), .lst ys => if xs.length + ys.length ≤ SZ then .ok .non (st.set l (.lst (xs ++ ys))) else .stuck
    | _, _ => .stuck
  | .pop, .ref l, [], st => match st[l]? with
    | some (.lst xs) => match xs[xs.length - 1]? with
      | some v => .ok v (st.set l (.lst xs.dropLast))
      | none => .stuck
    | _ => .stuck
  | .pop, .ref l, [.int i], st => match st[l]? with
    | some (.lst xs) => match L2.ixN xs.length i with
      | some k => match xs[k]? with
        | some v => .ok v (st.set l (.lst (xs.eraseIdx k)))
        | none => .stuck
      | none => .stuck
    | _ => .stuck
  | _, _, _, _ => .stuck
def liveL : PV → Sto → Bool
  | .ref l, st => match st[l]? with
    | some (.lst _) => true
    | _ => false
  | _, _ => false
/-- a list is read for good -/
def fzV : PV → Sto → Res PV
  | .ref l, st => match st[l]? with
    | some (.lst xs) => .ok (.lst xs) (st.set l .dead)
    | _ => .stuck
  | v, st => .ok v st

/-! ### the language -/
mutual
inductive Tg where
  | nm (i : Nat) | tp (ts : Tgs)
inductive Tgs where
  | nil | cons (t : Tg) (r : Tgs)
end
mutual
def asgT : Tg → PV → Env → Option Env
  | .nm i, v, e => some (e.set i (some v))
  | .tp ts, .tup vs, e => asgTs ts vs e
  | .tp ts, .lst vs, e => asgTs ts vs e
  | .tp _, _, _ => none
def asgTs : Tgs → List PV → Env → Option Env
  | .nil, [], e => some e
  | .cons t r, v :: vs, e => (asgT t v e).bind fun e' => asgTs r vs e'
  | _, _, _ => none
end

mutual
inductive PX where
  | var (i : Nat)
  | cst (v : PV)
  | glb (x : Str) (v : PV)
  | tup (es : PXs)
  | lst (es : PXs)
  | bin (op : Operator) (a b : PX)
  | cmp (op : CmpOp) (a b : PX)
  | cmp2 (op op' : CmpOp) (a b c : PX)
  | bop (op : BoolOp) (es : PXs)
  | nt (a : PX)
  | neg (a : PX)
  | ite (c : PT) (a b : PX)
  | sub (a i : PX)
  | slc (a : PX) (lo hi : PO)
  | call (f : Nat) (es : PXs)
  | bi (b : Bi) (es : PXs)
  | comp (own : List Nat) (t : Tg) (s : Src) (c : PT) (e : PX)
  | nlst (es : PXs)
  | nof (a : PX)
  | fz (a : PX)
  | mth (m : Mth) (a : PX) (es : PXs)
  | isi (a : PX) (ts : List Ty)
  | sm (m : Sm1) (a b : PX)
  | rv (a b : PX)
inductive PXs where
  | nil | cons (a : PX) (r : PXs)
/-- a part of a slice -/
inductive PO where
  | no | some (a : PX)
/-- what is walked -/
inductive Src where
  | seq (e : PX) | rng (es : PXs) | enum (e : PX) | zip (a b : PX)
/-- a test; yes: none is written -/
inductive PT where
  | yes | val (a : PX) | cmp (op : CmpOp) (a b : PX) | cmp2 (op op' : CmpOp) (a b c : PX) | bop (op : BoolOp) (ts : PTs) | nt (t : PT)
inductive PTs where
  | nil | cons (a : PT) (r : PTs)
end

/-- the items of a thing that is walked -/
def itV : PV → Option (List PV)
  | .tup xs => some xs
  | .lst xs => some xs
  | .str s => some (s.map fun c => .str [c])
  | _ => none
def small62 (i : Int) : Bool := decide (-(2 ^ 62) ≤ i) && decide (i < 2 ^ 62)
/-- lo, lo + c, .. (n of them) -/
def rngL (lo c : Int) (n : Nat) : List PV := (List.range n).map fun (i : Nat) => .int (lo + (i : Int) * c)
def rngV : List PV → Option (List PV)
  | [.int n] => if small62 n then some (rngL 0 1 n.toNat) else none
  | [.int a, .int b] => if small62 a && small62 b then some (rngL a 1 (b - a).toNat) else none
  | [.int a, .int b, .int c] => if (decide (c ≠ 0) && decide (c.natAbs < 1073741824)) && (Builtin.Range.small a b c && decide (0 ≤ Builtin.Range.rangeSize a b c)) then some (rngL a c (Builtin.Range.rangeSize a b c).toNat) else none
  | _ => none
def enumL : Nat → List PV → List PV
  | _, [] => []
  | k, x :: r => .tup [.int k, x] :: enumL (k + 1) r
def zipL : List PV → List PV → List PV
  | x :: r, y :: s => .tup [x, y] :: zipL r s
  | _, _ => []

def compL (f : PV → Sto → Res (Option PV)) : List PV → Sto → Res (List PV)
  | [], st => .ok [] st
  | x :: xs, st => (f x st).bind fun o st1 => (compL f xs st1).bind fun r st2 => .ok (o.toList ++ r) st2

def wipeR (e : Env) : List Nat → Env
  | [] => e
  | v :: vs => (wipeR e vs).set v none

def ivO : PV → Option (Option Int)
  | .int i => some (some i)
  | _ => none

abbrev CF := Nat → List PV → Sto → Res PV

mutual
def ev (cf : CF) : PX → Env → Sto → Res PV
  | .var i, e, st => match e[i]? with
    | some (some v) => .ok v st
    | _ => .stuck
  | .cst v, _, st => .ok v st
  | .glb _ v, _, st => .ok v st
  | .tup es, e, st => (evs cf es e st).bind fun vs st1 => if vs.length ≤ SZ then .ok (.tup vs) st1 else .stuck
  | .lst es, e, st => (evs cf es e st).bind fun vs st1 => if vs.length ≤ SZ then .ok (.lst vs) st1 else .stuck
  | .bin op a b, e, st => (ev cf a e st).bind fun x st1 => (ev cf b e st1).bind fun y st2 => .ofO (binV op (deref st2 x) (deref st2 y)) st2
  | .cmp op a b, e, st => (ev cf a e st).bind fun x st1 => (ev cf b e st1).bind fun y st2 => .ofO ((cmpV op (deref st2 x) (deref st2 y)).map .bl) st2
  | .cmp2 op op' a b c, e, st => (ev cf a e st).bind fun x st1 => (ev cf b e st1).bind fun y st2 => (Res.ofO (cmpV op (deref st2 x) (deref st2 y)) st2).bind fun k st3 =>
      if k then (ev cf c e st3).bind fun z st4 => .ofO ((cmpV op' (deref st4 y) (deref st4 z)).map .bl) st4 else .ok (.bl false) st3
  | .bop op es, e, st => evB cf op es e st
  | .nt a, e, st => (ev cf a e st).bind fun x st1 => match x with
    | .bl b => .ok (.bl (!b)) st1
    | _ => .stuck
  | .neg a, e, st => (ev cf a e st).bind fun x st1 => match x with
    | .int i => .ok (.int (-i)) st1
    | _ => .stuck
  | .ite c a b, e, st => (evT cf c e st).bind fun k st1 => if k then ev cf a e st1 else ev cf b e st1
  | .sub a i, e, st => (ev cf a e st).bind fun x st1 => (ev cf i e st1).bind fun y st2 => .ofO (atV (deref st2 x) y) st2
  | .slc a lo hi, e, st => (ev cf a e st).bind fun x st1 => (evO cf lo e st1).bind fun l st2 => (evO cf hi e st2).bind fun h st3 => .ofO (slV (deref st3 x) l h) st3
  | .call f es, e, st => (evs cf es e st).bind fun vs st1 => cf f vs st1
  | .bi b es, e, st => (evs cf es e st).bind fun vs st1 => .ofO (biV b (derefs st1 vs)) st1
  | .comp own t s c el, e, st => (evI cf s e st).bind fun items st1 =>
      if items.length ≤ SZ then
        (compL (fun x st2 => match asgT t x (wipeR e own) with
          | none => .stuck
          | some e1 => (evT cf c e1 st2).bind fun b st3 => if b then (ev cf el e1 st3).bind fun v st4 => .ok (some v) st4 else .ok none st3) items st1).calm.bind fun vs st2 => .ok (.lst vs) st2
      else .stuck
  | .nlst es, e, st => (evs cf es e st).bind fun vs st1 => if vs.length ≤ SZ then .ok (.ref st1.length) (st1 ++ [.lst vs]) else .stuck
  | .nof a, e, st => (ev cf a e st).bind fun x st1 => match bList [deref st1 x] with
    | some (.lst xs) => .ok (.ref st1.length) (st1 ++ [.lst xs])
    | _ => .stuck
  | .fz a, e, st => (ev cf a e st).bind fun x st1 => fzV x st1
  | .mth m a es, e, st => (ev cf a e st).bind fun x st1 => if liveL x st1 then (evs cf es e st1).bind fun vs st2 => mthV m x vs st2 else .stuck
  | .isi a ts, e, st => (ev cf a e st).bind fun x st1 => .ofO ((isiV (deref st1 x) ts).map .bl) st1
  | .rv a b, e, st => (ev cf a e st).bind fun x st1 => (ev cf b e st1).bind fun y st2 => .ofO (rvV (deref st2 x) y) st2
  | .sm m a b, e, st => (ev cf a e st).bind fun x st1 => match x with
    | .str s => (ev cf b e st1).bind fun y st2 => .ofO (smV m s (deref st2 y)) st2
    | _ => .stuck
def evs (cf : CF) : PXs → Env → Sto → Res (List PV)
  | .nil, _, st => .ok [] st
  | .cons a r, e, st => (ev cf a e st).bind fun x st1 => (evs cf r e st1).bind fun xs st2 => .ok (x :: xs) st2
/-- and, or as a value -/
def evB (cf : CF) (op : BoolOp) : PXs → Env → Sto → Res PV
  | .nil, _, _ => .stuck
  | .cons a .nil, e, st => ev cf a e st
  | .cons a r, e, st => (ev cf a e st).bind fun x st1 => match x with
    | .bl b => match op, b with
      | .And, true => evB cf op r e st1
      | .And, false => .ok (.bl false) st1
      | .Or, true => .ok (.bl true) st1
      | .Or, false => evB cf op r e st1
    | _ => .stuck
/-- a test -/
def evT (cf : CF) : PT → Env → Sto → Res Bool
  | .yes, _, st => .ok true st
  | .val p, e, st => (ev cf p e st).bind fun x st1 => .ofO (truV (deref st1 x)) st1
  | .cmp op a b, e, st => (ev cf a e st).bind fun x st1 => (ev cf b e st1).bind fun y st2 => .ofO (cmpV op (deref st2 x) (deref st2 y)) st2
  | .cmp2 op op' a b c, e, st => (ev cf a e st).bind fun x st1 => (ev cf b e st1).bind fun y st2 => (Res.ofO (cmpV op (deref st2 x) (deref st2 y)) st2).bind fun k st3 =>
      if k then (ev cf c e st3).bind fun z st4 => .ofO (cmpV op' (deref st4 y) (deref st4 z)) st4 else .ok false st3
  | .bop op es, e, st => evBT cf op es e st
  | .nt a, e, st => (evT cf a e st).bind fun b st1 => .ok (!b) st1
def evBT (cf : CF) (op : BoolOp) : PTs → Env → Sto → Res Bool
  | .nil, _, _ => .stuck
  | .cons a .nil, e, st => evT cf a e st
  | .cons a r, e, st => (evT cf a e st).bind fun b st1 => match op, b with
      | .And, true => evBT cf op r e st1
      | .And, false => .ok false st1
      | .Or, true => .ok true st1
      | .Or, false => evBT cf op r e st1
/-- a part of a slice -/
def evO (cf : CF) : PO → Env → Sto → Res (Option Int)
  | .no, _, st => .ok none st
  | .some p, e, st => (ev cf p e st).bind fun x st1 => .ofO (ivO x) st1
/-- what is walked -/
def evI (cf : CF) : Src → Env → Sto → Res (List PV)
  | .seq a, e, st => (ev cf a e st).bind fun x st1 => .ofO (itV x) st1
  | .rng es, e, st => (evs cf es e st).bind fun vs st1 => .ofO (rngV vs) st1
  | .enum a, e, st => (ev cf a e st).bind fun x st1 => .ofO ((itV x).map (enumL 0)) st1
  | .zip a b, e, st => (ev cf a e st).bind fun x st1 => (ev cf b e st1).bind fun y st2 => .ofO ((itV x).bind fun xs => (itV y).map fun ys => zipL xs ys) st2
end

/-! ### statements -/
inductive PS where
  | skip
  | nev
  | seq (a b : PS)
  | asg (t : Tg) (e : PX)
  | par (is : List Nat) (es : PXs)
  | exp (e : PX)
  | ret (e : PX)
  | ite (c : PT) (a b : PS)
  | fr (t : Tg) (s : Src) (b : PS)
  | wh (c : PT) (b : PS)
  | brk | cnt

inductive Out where
  | next (e : Env) (st : Sto) | brk (e : Env) (st : Sto) | cnt (e : Env) (st : Sto) | ret (v : PV) (st : Sto) | exc (c : Nat) (e : Env) (st : Sto) | stuck

def Res.out {α : Type} (r : Res α) (e : Env) (f : α → Sto → Out) : Out :=
  match r with
  | .ok a st => f a st
  | .exc c st => .exc c e st
  | .stuck => .stuck

def forL (f : PV → Env → Sto → Out) : List PV → Env → Sto → Out
  | [], e, st => .next e st
  | x :: xs, e, st => match f x e st with
    | .next e1 st1 => forL f xs e1 st1
    | .cnt e1 st1 => forL f xs e1 st1
    | .brk e1 st1 => .next e1 st1
    | .ret v st1 => .ret v st1
    | .exc c e1 st1 => .exc c e1 st1
    | .stuck => .stuck

def whL (c : Env → Sto → Res Bool) (f : Env → Sto → Out) : Nat → Env → Sto → Out
  | 0, _, _ => .stuck
  | n + 1, e, st => (c e st).out e fun b st0 => if b then (match f e st0 with
    | .next e1 st1 => whL c f n e1 st1
    | .cnt e1 st1 => whL c f n e1 st1
    | .brk e1 st1 => .next e1 st1
    | .ret v st1 => .ret v st1
    | .exc c e1 st1 => .exc c e1 st1
    | .stuck => .stuck) else .next e st0

def WH : Nat := 1000000000

def setAll : List Nat → List PV → Env → Option Env
  | [], [], e => some e
  | i :: is, v :: vs, e => setAll is vs (e.set i (some v))
  | _, _, _ => none

def run (cf : CF) : PS → Env → Sto → Out
  | .skip, e, st => .next e st
  | .nev, _, _ => .stuck
  | .seq a b, e, st => match run cf a e st with
    | .next e1 st1 => run cf b e1 st1
    | .brk e1 st1 => .brk e1 st1
    | .cnt e1 st1 => .cnt e1 st1
    | .ret v st1 => .ret v st1
    | .exc c e1 st1 => .exc c e1 st1
    | .stuck => .stuck
  | .asg t x, e, st => (ev cf x e st).out e fun v st1 => match asgT t v e with
    | some e1 => .next e1 st1
    | none => .stuck
  | .par is es, e, st => (evs cf es e st).out e fun vs st1 => match setAll is vs e with
    | some e1 => .next e1 st1
    | none => .stuck
  | .exp x, e, st => (ev cf x e st).out e fun _ st1 => .next e st1
  | .ret x, e, st => (ev cf x e st).out e fun v st1 => .ret v st1
  | .ite c a b, e, st => (evT cf c e st).out e fun k st1 => if k then run cf a e st1 else run cf b e st1
  | .fr t s b, e, st => (evI cf s e st).out e fun items st1 => forL (fun x e1 st2 => match asgT t x e1 with
      | none => .stuck
      | some e2 => run cf b e2 st2) items e st1
  | .wh c b, e, st => whL (fun e1 st1 => evT cf c e1 st1) (fun e1 st1 => run cf b e1 st1) WH e st
  | .brk, e, st => .brk e st
  | .cnt, e, st => .cnt e st

/-! ### defs -/
structure Dd where
  name : Str
  ps : List Str
  N : List Str
  body : PS

/-- cells that were there: as they were, or without new locations -/
def oldOk (n : Nat) : Sto → Sto → Bool
  | [], _ => true
  | c :: r, d :: s => (Cell.beq c d || Cell.under n d) && oldOk n r s
  | _ :: _, [] => false
/-- behind a call: what was made and can't be reached goes -/
def fin (st0 : Sto) (v : PV) (st : Sto) : Res PV := if v.under st0.length && oldOk st0.length st0 st then .ok v (st.take st0.length) else .ok v st
def finX (st0 : Sto) (c : Nat) (st : Sto) : Res PV := if oldOk st0.length st0 st then .exc c (st.take st0.length) else .exc c st
def start (d : Dd) (args : List PV) : Env := args.map some ++ List.replicate (d.N.length - args.length) none
def runD (cf : CF) (d : Dd) (args : List PV) (st : Sto) : Res PV :=
  if args.length = d.ps.length then
    match run cf d.body (start d args) st with
    | .ret v st1 => fin st v st1
    | .next _ st1 => fin st .non st1
    | .exc c _ st1 => finX st c st1
    | _ => .stuck
  else .stuck
abbrev Tab := List (Nat × Dd)
def callF (T : Tab) : Nat → CF
  | 0, _, _, _ => .stuck
  | n + 1, i, args, st => match T.lookup i with
    | none => .stuck
    | some d => runD (callF T n) d args st
end PL

/-! PL2: worlds, how values and stores are borne by the abstract heap. -/
namespace PL
open PySem L2

/-- m: the live locations; p: lists that are being made and that no value bears yet -/
structure Wd where
  m : List (Option Addr)
  p : List Addr
  H : Hp

/-- the world grows: what is no live location is never written -/
structure Wd.le (w w' : Wd) : Prop where
  len : w.m.length ≤ w'.m.length
  loc : ∀ (l : Nat) (a : Addr), w.m[l]? = some (some a) → w'.m[l]? = some (some a) ∨ w'.m[l]? = some none
  dead : ∀ l : Nat, w.m[l]? = some none → w'.m[l]? = some none
  keep : ∀ a o, w.H a = some o → some a ∉ w.m → w'.H a = some o
  fresh : ∀ a, some a ∈ w'.m → some a ∈ w.m ∨ w.H a = none
  priv : ∀ a, a ∈ w.p → a ∈ w'.p
  freshp : ∀ a, a ∈ w'.p → a ∈ w.p ∨ w.H a = none
  trk : ∀ a o, w.H a = some o → ∃ o', w'.H a = some o'

theorem Wd.le.refl (w : Wd) : w.le w := ⟨Nat.le_refl _, fun _ _ h => .inl h, fun _ h => h, fun _ _ h _ => h, fun _ h => .inl h, fun _ h => h, fun _ h => .inl h, fun _ o h => ⟨o, h⟩⟩
theorem Wd.le.trans {a b c : Wd} (h : a.le b) (k : b.le c) : a.le c where
  len := Nat.le_trans h.len k.len
  loc := fun l x e => by
    rcases h.loc l x e with e | e
    · exact k.loc l x e
    · exact .inr (k.dead l e)
  dead := fun l e => k.dead l (h.dead l e)
  keep := fun x o e n => k.keep x o (h.keep x o e n) fun z => by
    rcases h.fresh x z with z | z
    · exact n z
    · rw [e] at z; cases z
  fresh := fun x e => by
    rcases k.fresh x e with z | z
    · exact h.fresh x z
    · cases q : a.H x with
      | none => exact .inr rfl
      | some o =>
        obtain ⟨o', e'⟩ := h.trk x o q
        rw [z] at e'; cases e'
  priv := fun x e => k.priv x (h.priv x e)
  freshp := fun x e => by
    rcases k.freshp x e with z | z
    · exact h.freshp x z
    · cases q : a.H x with
      | none => exact .inr rfl
      | some o =>
        obtain ⟨o', e'⟩ := h.trk x o q
        rw [z] at e'; cases e'
  trk := fun x o e => by
    obtain ⟨o', e'⟩ := h.trk x o e
    exact k.trk x o' e'

/-- a tuple that is read and stays -/
def SqI (K : PySem.W.Frag) (w : Wd) (a : Addr) (us : List V) : Prop :=
  (Rd w.H a (.tup us) ∧ some a ∉ w.m) ∨
    ∃ (o : Obj) (its : Array Value) (n : Nat), K.lookup a = some o ∧ o.cls = .type "tuple" ∧ o.data = .seq its n ∧ its.size ≤ sizeLine ∧ Vals us its.toList
theorem SqI.sq {K : PySem.W.Frag} {w : Wd} {a : Addr} {us : List V} (h : SqI K w a us) : SqT K w.H a us := by
  rcases h with h | h
  · exact .inl h.1
  · exact .inr h
theorem notin_of {w w' : Wd} (h : w.le w') {a : Addr} {o : HO} (e : w.H a = some o) (n : some a ∉ w.m) : some a ∉ w'.m := fun z => by
  rcases h.fresh a z with z | z
  · exact n z
  · rw [e] at z; cases z
theorem notinp_of {w w' : Wd} (h : w.le w') {a : Addr} {o : HO} (e : w.H a = some o) (n : a ∉ w.p) : a ∉ w'.p := fun z => by
  rcases h.freshp a z with z | z
  · exact n z
  · rw [e] at z; cases z
theorem SqI.mono {K : PySem.W.Frag} {w w' : Wd} {a : Addr} {us : List V} (h : SqI K w a us) (hw : w.le w') : SqI K w' a us := by
  rcases h with ⟨h, n⟩ | h
  · rcases h with h | ⟨o, h⟩
    · exact .inl ⟨.inl (hw.keep a _ h n), notin_of hw h n⟩
    · exact .inl ⟨.inr ⟨o, hw.keep a _ h n⟩, notin_of hw h n⟩
  · exact .inr h

/-- a list that is read and never written -/
def SqS (K : PySem.W.Frag) (w : Wd) (a : Addr) (us : List V) : Prop :=
  (∃ o, w.H a = some (.frz o (.lst us)) ∧ some a ∉ w.m) ∨
    ∃ (o : Obj) (its : Array Value) (n : Nat), K.lookup a = some o ∧ o.cls = .type "list" ∧ o.dict = none ∧ o.data = .seq its n ∧ its.size ≤ sizeLine ∧ Vals us its.toList
theorem SqS.sq {K : PySem.W.Frag} {w : Wd} {a : Addr} {us : List V} (h : SqS K w a us) : SqL K w.H a us := by
  rcases h with ⟨o, h, _⟩ | h
  · exact .inl (.inr ⟨o, h⟩)
  · exact .inr h
theorem SqS.mono {K : PySem.W.Frag} {w w' : Wd} {a : Addr} {us : List V} (h : SqS K w a us) (hw : w.le w') : SqS K w' a us := by
  rcases h with ⟨o, h, n⟩ | h
  · exact .inl ⟨o, hw.keep a _ h n, notin_of hw h n⟩
  · exact .inr h

mutual
inductive Rep (K : PySem.W.Frag) (w : Wd) : PV → V → Prop
  | non : Rep K w .non .non
  | bl (b : Bool) : Rep K w (.bl b) (.bl b)
  | int (i : Int) : Rep K w (.int i) (.int i)
  | str (z : Str) (h : z.length ≤ sizeLine) : Rep K w (.str z.cps.toList) (.str z)
  | tup {a : Addr} {xs : List PV} {us : List V} : SqI K w a us → Reps K w xs us → Rep K w (.tup xs) (.ref a)
  | lst {a : Addr} {xs : List PV} {us : List V} : w.H a = some (.lst us) → some a ∉ w.m ∧ a ∉ w.p → Reps K w xs us → Rep K w (.lst xs) (.ref a)
  | scr {a : Addr} {ns : List Int} : SqS K w a (ns.map V.int) → Rep K w (.scr ns) (.ref a)
  | ref {a : Addr} {l : Nat} : w.m[l]? = some (some a) → Rep K w (.ref l) (.ref a)
  | gone {v : V} {l : Nat} : w.m[l]? = some none → Rep K w (.ref l) v
inductive Reps (K : PySem.W.Frag) (w : Wd) : List PV → List V → Prop
  | nil : Reps K w [] []
  | cons {x : PV} {xs : List PV} {u : V} {us : List V} : Rep K w x u → Reps K w xs us → Reps K w (x :: xs) (u :: us)
end

section
variable {K : PySem.W.Frag} {w w' : Wd}
mutual
theorem Rep.mono (hw : w.le w') : ∀ {v : PV} {u : V}, Rep K w v u → Rep K w' v u
  | _, _, .non => .non
  | _, _, .bl b => .bl b
  | _, _, .int i => .int i
  | _, _, .str z h => .str z h
  | _, _, .tup h r => .tup (h.mono hw) (Reps.mono hw r)
  | _, _, .lst h n r => .lst (hw.keep _ _ h n.1) ⟨notin_of hw h n.1, notinp_of hw h n.2⟩ (Reps.mono hw r)
  | _, _, .scr h => .scr (h.mono hw)
  | _, _, .ref h => by
    rcases hw.loc _ _ h with h | h
    · exact .ref h
    · exact .gone h
  | _, _, .gone h => .gone (hw.dead _ h)
theorem Reps.mono (hw : w.le w') : ∀ {v : List PV} {u : List V}, Reps K w v u → Reps K w' v u
  | _, _, .nil => .nil
  | _, _, .cons h r => .cons (Rep.mono hw h) (Reps.mono hw r)
end
theorem Reps.length : ∀ {v : List PV} {u : List V}, Reps K w v u → v.length = u.length
  | _, _, .nil => rfl
  | _, _, .cons _ r => by rw [List.length_cons, List.length_cons, Reps.length r]
theorem Reps.append : ∀ {v v' : List PV} {u u' : List V}, Reps K w v u → Reps K w v' u' → Reps K w (v ++ v') (u ++ u')
  | _, _, _, _, .nil, s => s
  | _, _, _, _, .cons h r, s => .cons h (Reps.append r s)
theorem Reps.drop : ∀ {v : List PV} {u : List V} (n : Nat), Reps K w v u → Reps K w (v.drop n) (u.drop n)
  | _, _, 0, r => r
  | _, _, _ + 1, .nil => .nil
  | _, _, n + 1, .cons _ r => Reps.drop n r
theorem Reps.take : ∀ {v : List PV} {u : List V} (n : Nat), Reps K w v u → Reps K w (v.take n) (u.take n)
  | _, _, 0, _ => .nil
  | _, _, _ + 1, .nil => .nil
  | _, _, n + 1, .cons h r => .cons h (Reps.take n r)
theorem Reps.get : ∀ {v : List PV} {u : List V} {i : Nat} {x : PV}, Reps K w v u → v[i]? = some x → ∃ y, u[i]? = some y ∧ Rep K w x y
  | _, _, _, _, .nil, e => by simp at e
  | _, _, 0, _, .cons h _, e => by simp at e; subst e; exact ⟨_, rfl, h⟩
  | _, _, i + 1, _, .cons _ r, e => by
    obtain ⟨y, h1, h2⟩ := Reps.get (i := i) r (by simpa using e)
    exact ⟨y, by simpa using h1, h2⟩
theorem Reps.getV : ∀ {v : List PV} {u : List V} {i : Nat} {y : V}, Reps K w v u → u[i]? = some y → ∃ x, v[i]? = some x ∧ Rep K w x y
  | _, _, _, _, .nil, e => by simp at e
  | _, _, 0, _, .cons h _, e => by simp at e; subst e; exact ⟨_, rfl, h⟩
  | _, _, i + 1, _, .cons _ r, e => by
    obtain ⟨y, h1, h2⟩ := Reps.getV (i := i) r (by simpa using e)
    exact ⟨y, by simpa using h1, h2⟩
theorem Reps.rep {v : List PV} {u : List V} (h : Reps K w v u) : ∀ k : Nat, Reps K w (List.replicate k v).flatten (List.replicate k u).flatten
  | 0 => .nil
  | k + 1 => by
    rw [List.replicate_succ, List.replicate_succ, List.flatten_cons, List.flatten_cons]
    exact h.append (Reps.rep h k)
theorem Reps.set : ∀ {v : List PV} {u : List V} {x : PV} {y : V} (i : Nat), Reps K w v u → Rep K w x y → Reps K w (v.set i x) (u.set i y)
  | _, _, _, _, _, .nil, _ => .nil
  | _, _, _, _, 0, .cons _ r, h => .cons h r
  | _, _, _, _, i + 1, .cons q r, h => .cons q (Reps.set i r h)
theorem Reps.cut {v : List PV} {u : List V} (h : Reps K w v u) (lo hi : Option Int) : Reps K w (cutL v lo hi) (cutV u lo hi) := by
  unfold cutL cutV
  rw [h.length]
  exact (h.drop _).take _
/-- ints -/
theorem Reps.ints : ∀ {v : List PV} {u : List V} {ns : List Int}, Reps K w v u → intsV v = some ns → u = ns.map V.int
  | _, _, _, .nil, e => by simp [intsV] at e; subst e; rfl
  | _, _, _, .cons (.int i) r, e => by
    simp only [intsV, Option.map_eq_some_iff] at e
    obtain ⟨ms, e1, rfl⟩ := e
    rw [Reps.ints r e1]; rfl
  | _, _, _, .cons .non r, e => by simp [intsV] at e
  | _, _, _, .cons (.bl _) r, e => by simp [intsV] at e
  | _, _, _, .cons (.str _ _) r, e => by simp [intsV] at e
  | _, _, _, .cons (.tup _ _) r, e => by simp [intsV] at e
  | _, _, _, .cons (.lst _ _ _) r, e => by simp [intsV] at e
  | _, _, _, .cons (.scr _) r, e => by simp [intsV] at e
  | _, _, _, .cons (.ref _) r, e => by simp [intsV] at e
  | _, _, _, .cons (.gone _) r, e => by simp [intsV] at e
theorem Reps.bls : ∀ {v : List PV} {u : List V} {ns : List Bool}, Reps K w v u → blsV v = some ns → u = ns.map V.bl
  | _, _, _, .nil, e => by simp [blsV] at e; subst e; rfl
  | _, _, _, .cons (.bl i) r, e => by
    simp only [blsV, Option.map_eq_some_iff] at e
    obtain ⟨ms, e1, rfl⟩ := e
    rw [Reps.bls r e1]; rfl
  | _, _, _, .cons .non r, e => by simp [blsV] at e
  | _, _, _, .cons (.int _) r, e => by simp [blsV] at e
  | _, _, _, .cons (.str _ _) r, e => by simp [blsV] at e
  | _, _, _, .cons (.tup _ _) r, e => by simp [blsV] at e
  | _, _, _, .cons (.lst _ _ _) r, e => by simp [blsV] at e
  | _, _, _, .cons (.scr _) r, e => by simp [blsV] at e
  | _, _, _, .cons (.ref _) r, e => by simp [blsV] at e
  | _, _, _, .cons (.gone _) r, e => by simp [blsV] at e
/-! data -/
mutual
theorem Rep.dp : ∀ {v : PV} {u : V}, Rep K w v u → v.isData = true → Dp K w.H u v.toD
  | _, _, .non, _ => by unfold PV.toD; exact .non
  | _, _, .bl b, _ => by unfold PV.toD; exact .bl b
  | _, _, .int i, _ => by unfold PV.toD; exact .int i
  | _, _, .str z _, _ => by unfold PV.toD; exact .str z
  | _, _, .tup h r, d => by
    unfold PV.toD
    exact .tup h.sq (Reps.dp r (by simpa [PV.isData] using d))
  | _, _, .lst h n r, d => by
    unfold PV.toD
    exact .lst (SqL.of h) (Reps.dp r (by simpa [PV.isData] using d))
  | _, _, .scr _, d => by simp [PV.isData] at d
  | _, _, .ref _, d => by simp [PV.isData] at d
  | _, _, .gone _, d => by simp [PV.isData] at d
theorem Reps.dp : ∀ {v : List PV} {u : List V}, Reps K w v u → PV.areData v = true → DpAll K w.H u (PV.toDs v)
  | _, _, .nil, _ => by unfold PV.toDs; exact .nil
  | _, _, .cons h r, d => by
    simp only [PV.areData, Bool.and_eq_true] at d
    unfold PV.toDs
    exact .cons (Rep.dp h d.1) (Reps.dp r d.2)
end
end

/-- a cell is borne at an address -/
def CellOk (K : PySem.W.Frag) (w : Wd) (a : Addr) : Cell → Prop
  | .dead => False
  | .lst xs => ∃ us, w.H a = some (.lst us) ∧ Reps K w xs us
structure StOk (K : PySem.W.Frag) (w : Wd) (st : Sto) : Prop where
  len : w.m.length = st.length
  inj : ∀ (l l' : Nat) (a : Addr), w.m[l]? = some (some a) → w.m[l']? = some (some a) → l = l'
  cell : ∀ (l : Nat) (a : Addr), w.m[l]? = some (some a) → ∃ c, st[l]? = some c ∧ CellOk K w a c
  prv : ∀ a, a ∈ w.p → ∃ o, w.H a = some o
  dis : ∀ a, some a ∈ w.m → a ∉ w.p
  gone : ∀ l : Nat, w.m[l]? = some none → st[l]? = some .dead
theorem mem_m {w : Wd} {a : Addr} (h : some a ∈ w.m) : ∃ l : Nat, w.m[l]? = some (some a) := by
  obtain ⟨l, hl, e⟩ := List.mem_iff_getElem.mp h
  exact ⟨l, by rw [List.getElem?_eq_getElem hl, e]⟩
theorem m_mem {w : Wd} {a : Addr} {l : Nat} (h : w.m[l]? = some (some a)) : some a ∈ w.m := List.mem_of_getElem? h
theorem CellOk.there {K : PySem.W.Frag} {w : Wd} {a : Addr} : ∀ {c : Cell}, CellOk K w a c → ∃ o, w.H a = some o
  | .dead, h => h.elim
  | .lst _, ⟨_, h, _⟩ => ⟨_, h⟩
theorem StOk.there {K : PySem.W.Frag} {w : Wd} {st : Sto} (h : StOk K w st) {a : Addr} (e : some a ∈ w.m) : ∃ o, w.H a = some o := by
  obtain ⟨l, e⟩ := mem_m e
  obtain ⟨c, _, q⟩ := h.cell l a e
  exact q.there
theorem StOk.new {K : PySem.W.Frag} {w : Wd} {st : Sto} (h : StOk K w st) {p : Addr} (e : w.H p = none) : some p ∉ w.m := fun z => by
  obtain ⟨o, q⟩ := h.there z
  rw [e] at q; cases q

theorem StOk.newp {K : PySem.W.Frag} {w : Wd} {st : Sto} (h : StOk K w st) {p : Addr} (e : w.H p = none) : p ∉ w.p := fun z => by
  obtain ⟨o, q⟩ := h.prv p z
  rw [e] at q; cases q

/-- a new object that is no location -/
def Wd.put (w : Wd) (p : Addr) (o : HO) : Wd := ⟨w.m, w.p, upd w.H p o⟩
theorem Wd.put_le {w : Wd} {p : Addr} {o : HO} (e : w.H p = none) : w.le (w.put p o) where
  len := Nat.le_refl _
  loc := fun _ _ h => .inl h
  dead := fun _ h => h
  keep := fun a u h _ => by
    show upd w.H p o a = some u
    rw [upd_ne (ne_of_none h e)]; exact h
  fresh := fun _ h => .inl h
  priv := fun _ h => h
  freshp := fun _ h => .inl h
  trk := fun a u h => ⟨u, by
    show upd w.H p o a = some u
    rw [upd_ne (ne_of_none h e)]; exact h⟩
theorem CellOk.put {K : PySem.W.Frag} {w w' : Wd} {a : Addr} (hw : w.le w') (he : ∀ o, w.H a = some o → w'.H a = some o) : ∀ {c : Cell}, CellOk K w a c → CellOk K w' a c
  | .dead, h => h.elim
  | .lst _, ⟨us, h, r⟩ => ⟨us, he _ h, r.mono hw⟩
theorem StOk.put {K : PySem.W.Frag} {w : Wd} {st : Sto} (h : StOk K w st) {p : Addr} {o : HO} (e : w.H p = none) : StOk K (w.put p o) st where
  len := h.len
  inj := h.inj
  cell := fun l a q => by
    obtain ⟨c, hc, ok⟩ := h.cell l a q
    refine ⟨c, hc, ok.put (Wd.put_le e) fun u hu => ?_⟩
    show upd w.H p o a = some u
    rw [upd_ne (ne_of_none hu e)]; exact hu
  prv := fun a q => by
    obtain ⟨u, hu⟩ := h.prv a q
    exact (Wd.put_le e).trk a u hu
  dis := h.dis
  gone := h.gone

/-- what an operation that hands back v and leaves the store st is to show -/
def Gets (K : PySem.W.Frag) (w : Wd) (v : PV) (st : Sto) (Q : VK) : Prop := ∀ w' u, w.le w' → StOk K w' st → Rep K w' v u → Q u w'.H
theorem Gets.same {K : PySem.W.Frag} {w : Wd} {v : PV} {st : Sto} {Q : VK} {u : V} (g : Gets K w v st Q) (h : StOk K w st) (r : Rep K w v u) : Q u w.H := g w u (.refl w) h r
theorem Gets.tup {K : PySem.W.Frag} {w : Wd} {xs : List PV} {us : List V} {st : Sto} {Q : VK} (g : Gets K w (.tup xs) st Q) (h : StOk K w st) (r : Reps K w xs us) {p : Addr} (e : w.H p = none) : Q (.ref p) (upd w.H p (.tup us)) := by
  refine g (w.put p (.tup us)) (.ref p) (Wd.put_le e) (h.put e) (.tup (.inl ⟨.inl upd_same, h.new e⟩) (r.mono (Wd.put_le e)))
theorem Gets.lst {K : PySem.W.Frag} {w : Wd} {xs : List PV} {us : List V} {st : Sto} {Q : VK} (g : Gets K w (.lst xs) st Q) (h : StOk K w st) (r : Reps K w xs us) {p : Addr} (e : w.H p = none) : Q (.ref p) (upd w.H p (.lst us)) := by
  refine g (w.put p (.lst us)) (.ref p) (Wd.put_le e) (h.put e) (.lst upd_same ⟨h.new e, h.newp e⟩ (r.mono (Wd.put_le e)))

/-! locations -/
/-- a new list that may be written -/
def Wd.loc (w : Wd) (p : Addr) (us : List V) : Wd := ⟨w.m ++ [some p], w.p, upd w.H p (.lst us)⟩
theorem Wd.loc_le {w : Wd} {p : Addr} {us : List V} (e : w.H p = none) : w.le (w.loc p us) where
  len := by show w.m.length ≤ (w.m ++ [some p]).length; simp
  loc := fun l a h => .inl (by
    show (w.m ++ [some p])[l]? = _
    rw [List.getElem?_append_left (List.getElem?_eq_some_iff.mp h).1]; exact h)
  dead := fun l h => by
    show (w.m ++ [some p])[l]? = _
    rw [List.getElem?_append_left (List.getElem?_eq_some_iff.mp h).1]; exact h
  keep := fun a u h _ => by
    show upd w.H p (.lst us) a = some u
    rw [upd_ne (ne_of_none h e)]; exact h
  fresh := fun a h => by
    rcases List.mem_append.mp (show some a ∈ w.m ++ [some p] from h) with z | z
    · exact .inl z
    · simp at z; subst z; exact .inr e
  priv := fun _ h => h
  freshp := fun _ h => .inl h
  trk := fun a u h => ⟨u, by
    show upd w.H p (.lst us) a = some u
    rw [upd_ne (ne_of_none h e)]; exact h⟩
theorem loc_cases {m : List (Option Addr)} {p : Addr} {l : Nat} {o : Option Addr} (h : (m ++ [some p])[l]? = some o) : m[l]? = some o ∨ (l = m.length ∧ o = some p) := by
  rw [List.getElem?_append] at h
  split at h
  · exact .inl h
  · rename_i hl
    rcases Nat.lt_or_ge m.length l with z | z
    · rw [List.getElem?_eq_none (by simp; omega)] at h; cases h
    · have : l = m.length := by omega
      subst this
      simp at h
      exact .inr ⟨rfl, h.symm⟩
theorem StOk.loc {K : PySem.W.Frag} {w : Wd} {st : Sto} (h : StOk K w st) {p : Addr} {xs : List PV} {us : List V} (e : w.H p = none) (r : Reps K w xs us) : StOk K (w.loc p us) (st ++ [.lst xs]) where
  len := by show (w.m ++ [some p]).length = _; simp [h.len]
  inj := fun l l' a q q' => by
    rcases loc_cases q with z | ⟨z, z2⟩ <;> rcases loc_cases q' with y | ⟨y, y2⟩
    · exact h.inj l l' a z y
    · cases y2; exact absurd (m_mem z) (h.new e)
    · cases z2; exact absurd (m_mem y) (h.new e)
    · rw [z, y]
  cell := fun l a q => by
    rcases loc_cases q with z | ⟨z, z2⟩
    · obtain ⟨c, hc, ok⟩ := h.cell l a z
      refine ⟨c, ?_, ok.put (Wd.loc_le e) fun u hu => ?_⟩
      · rw [List.getElem?_append_left (List.getElem?_eq_some_iff.mp hc).1]; exact hc
      · show upd w.H p (.lst us) a = some u
        rw [upd_ne (ne_of_none hu e)]; exact hu
    · cases z2
      refine ⟨.lst xs, ?_, us, upd_same, r.mono (Wd.loc_le e)⟩
      rw [z, h.len]; simp
  prv := fun a q => by
    obtain ⟨u, hu⟩ := h.prv a q
    exact (Wd.loc_le (us := us) e).trk a u hu
  dis := fun a q => by
    rcases List.mem_append.mp (show some a ∈ w.m ++ [some p] from q) with z | z
    · exact h.dis a z
    · simp at z; subst z; exact h.newp e
  gone := fun l q => by
    rcases loc_cases q with z | ⟨_, z2⟩
    · have := h.gone l z
      rw [List.getElem?_append_left (List.getElem?_eq_some_iff.mp this).1]; exact this
    · cases z2
theorem Gets.loc {K : PySem.W.Frag} {w : Wd} {xs : List PV} {us : List V} {st : Sto} {Q : VK} (g : Gets K w (.ref st.length) (st ++ [.lst xs]) Q) (h : StOk K w st) (r : Reps K w xs us) {p : Addr} (e : w.H p = none) : Q (.ref p) (upd w.H p (.lst us)) := by
  refine g (w.loc p us) (.ref p) (Wd.loc_le e) (h.loc e r) (.ref ?_)
  show (w.m ++ [some p])[st.length]? = _
  rw [← h.len]; simp
/-- a live list is rewritten -/
def Wd.lw (w : Wd) (a : Addr) (us : List V) : Wd := ⟨w.m, w.p, upd w.H a (.lst us)⟩
theorem Wd.lw_le {w : Wd} {a : Addr} {us : List V} (e : some a ∈ w.m) : w.le (w.lw a us) where
  len := Nat.le_refl _
  loc := fun _ _ h => .inl h
  dead := fun _ h => h
  keep := fun b u h n => by
    show upd w.H a (.lst us) b = some u
    rw [upd_ne (fun z => n (by rw [z]; exact e))]; exact h
  fresh := fun _ h => .inl h
  priv := fun _ h => h
  freshp := fun _ h => .inl h
  trk := fun b u h => by
    by_cases z : b = a
    · subst z; exact ⟨_, upd_same⟩
    · exact ⟨u, by show upd w.H a (.lst us) b = some u; rw [upd_ne z]; exact h⟩
theorem StOk.lw {K : PySem.W.Frag} {w : Wd} {st : Sto} (h : StOk K w st) {l : Nat} {a : Addr} {xs : List PV} {us : List V} (e : w.m[l]? = some (some a)) (r : Reps K w xs us) : StOk K (w.lw a us) (st.set l (.lst xs)) where
  len := by rw [List.length_set]; exact h.len
  inj := h.inj
  cell := fun l' a' q => by
    by_cases z : l = l'
    · subst z
      have ea : some (some a) = some (some a') := by rw [← e]; exact q
      cases ea
      have hl : l < st.length := by rw [← h.len]; exact (List.getElem?_eq_some_iff.mp e).1
      exact ⟨.lst xs, List.getElem?_set_self hl, us, upd_same, r.mono (Wd.lw_le (m_mem e))⟩
    · obtain ⟨c, hc, ok⟩ := h.cell l' a' q
      refine ⟨c, by rw [List.getElem?_set_ne z]; exact hc, ok.put (Wd.lw_le (m_mem e)) fun u hu => ?_⟩
      show upd w.H a (.lst us) a' = some u
      rw [upd_ne (fun y => z (h.inj l l' a e (by rw [← y]; exact q)))]; exact hu
  prv := fun b q => by
    obtain ⟨u, hu⟩ := h.prv b q
    exact (Wd.lw_le (us := us) (m_mem e)).trk b u hu
  dis := h.dis
  gone := fun l' q => by
    have z : l ≠ l' := fun z => by subst z; rw [show w.m[l]? = some none from q] at e; cases e
    rw [List.getElem?_set_ne z]
    exact h.gone l' q
/-- a live list is written no more -/
def Wd.frz (w : Wd) (l : Nat) : Wd := ⟨w.m.set l none, w.p, w.H⟩
theorem frz_mem {m : List (Option Addr)} {l : Nat} {a : Addr} (h : some a ∈ m.set l none) : some a ∈ m := by
  rcases List.mem_or_eq_of_mem_set h with z | z
  · exact z
  · cases z
theorem Wd.frz_le {w : Wd} {l : Nat} : w.le (w.frz l) where
  len := by show w.m.length ≤ (w.m.set l none).length; simp
  loc := fun l' a h => by
    show (w.m.set l none)[l']? = _ ∨ (w.m.set l none)[l']? = _
    by_cases z : l = l'
    · subst z; exact .inr (List.getElem?_set_self (List.getElem?_eq_some_iff.mp h).1)
    · rw [List.getElem?_set_ne z]; exact .inl h
  dead := fun l' h => by
    show (w.m.set l none)[l']? = _
    by_cases z : l = l'
    · subst z; exact List.getElem?_set_self (List.getElem?_eq_some_iff.mp h).1
    · rw [List.getElem?_set_ne z]; exact h
  keep := fun _ _ h _ => h
  fresh := fun _ h => .inl (frz_mem h)
  priv := fun _ h => h
  freshp := fun _ h => .inl h
  trk := fun _ u h => ⟨u, h⟩
theorem StOk.frz {K : PySem.W.Frag} {w : Wd} {st : Sto} (h : StOk K w st) (l : Nat) : StOk K (w.frz l) (st.set l .dead) where
  len := by show (w.m.set l none).length = _; simp [h.len]
  inj := fun l1 l2 a q1 q2 => by
    have g : ∀ l', (w.m.set l none)[l']? = some (some a) → w.m[l']? = some (some a) := fun l' q => by
      by_cases z : l = l'
      · subst z
        rw [List.getElem?_set] at q
        simp only [ite_true] at q
        split at q <;> cases q
      · rwa [List.getElem?_set_ne z] at q
    exact h.inj l1 l2 a (g l1 q1) (g l2 q2)
  cell := fun l' a q => by
    have z : l ≠ l' := fun z => by
      subst z
      rw [show (w.frz l).m = w.m.set l none from rfl, List.getElem?_set] at q
      simp only [ite_true] at q
      split at q <;> cases q
    rw [show (w.frz l).m = w.m.set l none from rfl, List.getElem?_set_ne z] at q
    obtain ⟨c, hc, ok⟩ := h.cell l' a q
    exact ⟨c, by rw [List.getElem?_set_ne z]; exact hc, ok.put Wd.frz_le fun _ hu => hu⟩
  prv := h.prv
  dis := fun a q => h.dis a (frz_mem q)
  gone := fun l' q => by
    by_cases z : l = l'
    · subst z
      rw [show (w.frz l).m = w.m.set l none from rfl] at q
      have hl : l < st.length := by
        have := (List.getElem?_eq_some_iff.mp q).1
        rw [List.length_set, h.len] at this; exact this
      exact List.getElem?_set_self hl
    · rw [List.getElem?_set_ne z]
      rw [show (w.frz l).m = w.m.set l none from rfl, List.getElem?_set_ne z] at q
      exact h.gone l' q
theorem StOk.frz_rep {K : PySem.W.Frag} {w : Wd} {st : Sto} (h : StOk K w st) {l : Nat} {a : Addr} {xs : List PV} (e : w.m[l]? = some (some a)) (hc : st[l]? = some (.lst xs)) : Rep K (w.frz l) (.lst xs) (.ref a) := by
  obtain ⟨c, hc2, ok⟩ := h.cell l a e
  rw [hc] at hc2
  cases hc2
  obtain ⟨us, hu, r⟩ := ok
  refine .lst hu ⟨fun z => ?_, h.dis a (m_mem e)⟩ (r.mono Wd.frz_le)
  obtain ⟨l', e'⟩ := mem_m (w := w.frz l) z
  rw [show (w.frz l).m = w.m.set l none from rfl] at e'
  by_cases y : l = l'
  · subst y
    rw [List.getElem?_set] at e'
    simp only [ite_true] at e'
    split at e' <;> cases e'
  · rw [List.getElem?_set_ne y] at e'
    exact y (h.inj l l' a e e')
/-- what is read, and never kept -/
def RepW (K : PySem.W.Frag) (w : Wd) (v : PV) (u : V) : Prop := Rep K w v u ∨ ∃ xs a us, v = .lst xs ∧ u = .ref a ∧ w.H a = some (.lst us) ∧ Reps K w xs us
theorem Rep.wk {K : PySem.W.Frag} {w : Wd} {v : PV} {u : V} (h : Rep K w v u) : RepW K w v u := .inl h
theorem Rep.deref {K : PySem.W.Frag} {w : Wd} {st : Sto} (ok : StOk K w st) {v : PV} {u : V} (h : Rep K w v u) : RepW K w (deref st v) u := by
  cases h with
  | ref e =>
    obtain ⟨c, hc, ok⟩ := ok.cell _ _ e
    cases c with
    | dead => exact ok.elim
    | lst xs =>
      obtain ⟨us, hu, r⟩ := ok
      simp only [PL.deref, hc]
      exact .inr ⟨xs, _, us, rfl, rfl, hu, r⟩
  | gone e =>
    simp only [PL.deref, ok.gone _ e]
    exact .inl (.gone e)
  | non => exact .inl .non
  | bl b => exact .inl (.bl b)
  | int i => exact .inl (.int i)
  | str z h => exact .inl (.str z h)
  | tup h r => exact .inl (.tup h r)
  | lst h n r => exact .inl (.lst h n r)
  | scr h => exact .inl (.scr h)
inductive RepsW (K : PySem.W.Frag) (w : Wd) : List PV → List V → Prop
  | nil : RepsW K w [] []
  | cons {x : PV} {xs : List PV} {u : V} {us : List V} : RepW K w x u → RepsW K w xs us → RepsW K w (x :: xs) (u :: us)
theorem Reps.derefs {K : PySem.W.Frag} {w : Wd} {st : Sto} (ok : StOk K w st) : ∀ {v : List PV} {u : List V}, Reps K w v u → RepsW K w (derefs st v) u
  | _, _, .nil => .nil
  | _, _, .cons h r => .cons (h.deref ok) (Reps.derefs ok r)
theorem RepW.dp {K : PySem.W.Frag} {w : Wd} {v : PV} {u : V} (h : RepW K w v u) (d : v.isData = true) : Dp K w.H u v.toD := by
  rcases h with h | ⟨xs, a, us, rfl, rfl, h, r⟩
  · exact h.dp d
  · unfold PV.toD
    exact .lst (SqL.of h) (Reps.dp r (by simpa [PV.isData] using d))

/-- the frame's names -/
def EnvOk (K : PySem.W.Frag) (w : Wd) (e : Env) (σ : St) : Prop := ∀ (i : Nat) (v : PV), e[i]? = some (some v) → ∃ u, σ[i]? = some (some u) ∧ Rep K w v u
theorem EnvOk.mono {K : PySem.W.Frag} {w w' : Wd} {e : Env} {σ : St} (h : EnvOk K w e σ) (hw : w.le w') : EnvOk K w' e σ := fun i v q => by
  obtain ⟨u, h1, h2⟩ := h i v q
  exact ⟨u, h1, h2.mono hw⟩
theorem EnvOk.set {K : PySem.W.Frag} {w : Wd} {e : Env} {σ : St} {v : PV} {u : V} (h : EnvOk K w e σ) (r : Rep K w v u) (i : Nat) (hi : i < σ.length) : EnvOk K w (e.set i (some v)) (σ.set i (some u)) := fun j x q => by
  by_cases hj : i = j
  · subst hj
    rw [List.getElem?_set] at q
    simp only [ite_true] at q
    split at q
    · cases q
      exact ⟨u, by rw [List.getElem?_set_self hi], r⟩
    · cases q
  · rw [List.getElem?_set_ne hj] at q
    obtain ⟨u', h1, h2⟩ := h j x q
    exact ⟨u', by rw [List.getElem?_set_ne hj]; exact h1, h2⟩
theorem EnvOk.wipe {K : PySem.W.Frag} {w : Wd} {e : Env} {σ : St} (h : EnvOk K w e σ) : ∀ (vs : List Nat), EnvOk K w (wipeR e vs) (wipe σ vs)
  | [] => h
  | v :: vs => fun j x q => by
    have ih := EnvOk.wipe h vs
    unfold wipeR at q
    unfold L2.wipe
    by_cases hj : v = j
    · subst hj
      rw [List.getElem?_set] at q
      simp only [ite_true] at q
      split at q <;> cases q
    · rw [List.getElem?_set_ne hj] at q ⊢
      exact ih j x q
end PL

/-! TM: tuple * small ints. -/
namespace L2
open PySem PySem.Spec PyProof.Rows
theorem tuple_mul1 (l : Addr) (items : Array Value) (n : Nat) (dd : Option Addr) (sl : Array (Option Value)) (u : Tok) :
    Meets (Builtin.«tuple.__mul__» ⟨[.ref l, .int 1 u], []⟩) (fun _ R s => s.heap.get? l = some { cls := .type "tuple", dict := dd, data := .seq items n, slots := sl } ∧ R (.ok (.ret (Value.ref l))) s) :=
  .of_wp fun prog w A R s h => by
    obtain ⟨hp, g, d, tk, os⟩ := s
    obtain ⟨hl, h⟩ := h
    have f1 := AutoSeq1.idx_int
    have c0 : (decide ((1 : Int) < -(2 ^ 63)) || decide ((1 : Int) ≥ 2 ^ 63)) = false := by decide
    have c1 : (items.isEmpty || (1 : Int) == 1) = true := by simp
    wp_walk using wpAny_loadPart' hl
    repeat (first
      | (refine wpAny_ite_false (decide_eq_false (by rw [c0]; exact Bool.false_ne_true)) ?_; wp_walk using wpAny_loadPart' hl)
      | (refine wpAny_ite_true (decide_eq_true c1) ?_; wp_walk using wpAny_loadPart' hl))
    exact ⟨_, rfl, h⟩
theorem tuple_mul0 (l : Addr) (items : Array Value) (n : Nat) (dd : Option Addr) (sl : Array (Option Value)) (x : Int) (u : Tok) (c0 : (decide (x < -(2 ^ 63)) || decide (x ≥ 2 ^ 63)) = false) (c1 : (items.isEmpty || x == 1) = false) (c2 : (decide (x ≤ 0) || items.isEmpty) = true) :
    Meets (Builtin.«tuple.__mul__» ⟨[.ref l, .int x u], []⟩) (fun _ R s => s.heap.get? l = some { cls := .type "tuple", dict := dd, data := .seq items n, slots := sl } ∧
      R (.ok (.ret (Value.ref s.heap.objs.size))) { s with heap := s.heap.push { cls := Value.type "tuple", data := Data.seq #[] }, toks := s.toks }) :=
  .of_wp fun prog w A R s h => by
    obtain ⟨hp, g, d, tk, os⟩ := s
    obtain ⟨hl, h⟩ := h
    have f1 := AutoSeq1.idx_int
    wp_walk using wpAny_loadPart' hl
    repeat (first
      | (refine wpAny_ite_false (decide_eq_false (by rw [c0]; exact Bool.false_ne_true)) ?_; wp_walk using wpAny_loadPart' hl)
      | (refine wpAny_ite_false (decide_eq_false (by rw [c1]; exact Bool.false_ne_true)) ?_; wp_walk using wpAny_loadPart' hl)
      | (refine wpAny_ite_true (decide_eq_true c2) ?_; wp_walk using wpAny_loadPart' hl))
    exact ⟨_, rfl, h⟩
section
variable {X : Cx}
def rRepT1 (K : PySem.W.Frag) : R2 := fun x y H Q => ∃ l xs, x = .ref l ∧ y = .int 1 ∧ SqT K H l xs ∧ Q (.ref l) H
theorem op_repT1 : OpR X (binaryOp .Mult) (rRepT1 X.K) := by
  intro pins s σ H x y v u Q I rx ry h
  obtain ⟨l, xs, rfl, rfl, hT, q⟩ := h
  cases rx
  obtain ⟨t, rfl⟩ := ry
  obtain ⟨its, r, ⟨⟨cls, dd, data, sl⟩, ho, hc, n, hd⟩, hs⟩ := I.tuple hT
  simp only at hc hd
  subst hc hd
  refine wpAny_binaryOp_repeat_ref (T := "tuple") (U := "int") (by decide) ⟨_, ho, rfl⟩ (fun s' => typeIs_int s' 1 t) noFill_tuple_mul F.fills_int_mul F.slot_int_rmul repeat_tuple F.slot_int_index.lookup
    (call_meets F.slot_int_rmul (typeIs_int s 1 t) F.entry_int_rmul (F.args_int_rmul_2 _ _) (int_rmul_tuple 1 t l its.toArray n dd sl)
      ⟨ho, rfl, ⟨_, ho, rfl⟩, call_meets F.slot_tuple_mul ⟨_, ho, rfl⟩ F.entry_tuple_mul (F.args_tuple_mul_2 _ _) (tuple_mul1 l its.toArray n dd sl t) ⟨ho, ?_⟩⟩)
  exact ⟨.ref l, H, I, rfl, q⟩
def rRepT0 (K : PySem.W.Frag) : R2 := fun x y H Q => ∃ l k xs, x = .ref l ∧ y = .int k ∧ SqT K H l xs ∧ xs ≠ [] ∧ -(2 ^ 62) < k ∧ k ≤ 0 ∧ ∀ p, H p = none → Q (.ref p) (upd H p (.tup []))
theorem op_repT0 : OpR X (binaryOp .Mult) (rRepT0 X.K) := by
  intro pins s σ H x y v u Q I rx ry h
  obtain ⟨l, k, xs, rfl, rfl, hT, hne, h1, h2, q⟩ := h
  cases rx
  obtain ⟨t, rfl⟩ := ry
  obtain ⟨its, r, ⟨⟨cls, dd, data, sl⟩, ho, hc, n, hd⟩, hs⟩ := I.tuple hT
  simp only at hc hd
  subst hc hd
  have hle : its.length = xs.length := r.length.symm
  have hn : its ≠ [] := fun e => hne (by
    rw [e] at hle
    exact List.eq_nil_of_length_eq_zero hle.symm)
  have hi : its.toArray.isEmpty = false := by
    cases its with
    | nil => exact absurd rfl hn
    | cons a b => rfl
  have c0 : (decide (k < -(2 ^ 63)) || decide (k ≥ 2 ^ 63)) = false := by
    rw [decide_eq_false (by omega), decide_eq_false (by omega)] <;> rfl
  have c1 : (its.toArray.isEmpty || k == 1) = false := by
    rw [hi, Bool.false_or]
    exact beq_eq_false_iff_ne.mpr (by omega)
  have c2 : (decide (k ≤ 0) || its.toArray.isEmpty) = true := by
    rw [decide_eq_true h2]; rfl
  refine wpAny_binaryOp_repeat_ref (T := "tuple") (U := "int") (by decide) ⟨_, ho, rfl⟩ (fun s' => typeIs_int s' k t) noFill_tuple_mul F.fills_int_mul F.slot_int_rmul repeat_tuple F.slot_int_index.lookup
    (call_meets F.slot_int_rmul (typeIs_int s k t) F.entry_int_rmul (F.args_int_rmul_2 _ _) (int_rmul_tuple k t l its.toArray n dd sl)
      ⟨ho, rfl, ⟨_, ho, rfl⟩, call_meets F.slot_tuple_mul ⟨_, ho, rfl⟩ F.entry_tuple_mul (F.args_tuple_mul_2 _ _) (tuple_mul0 l its.toArray n dd sl k t c0 c1 c2) ⟨ho, ?_⟩⟩)
  refine ⟨.ref s.heap.objs.size, _, I.laid (t' := s.toks) (o := .tup []) (fun b ob q => Heap.get?_push_of_some _ q) (Nat.le_refl _) ?_, rfl, q _ (I.hok.fresh (Nat.le_refl _))⟩
  exact ⟨by simp, [], .nil, IsTup.new _ _⟩
end
end L2

/-! RV: a tuple the other way about. -/
namespace HT
open PySem PySem.Spec PyProof.Rows
section
variable {prog : Program} {w : World} {A : Around} {E : Value → Shared → Prop} {s : Shared}
theorem sliceApplied_rev {sl : Addr} {t : Tok} {n : Nat} {Q : Int × Int × Nat → Shared → Prop} (hs : s.heap.IsSliceOf sl .none .none (.int (-1) t))
    (h : Q ((n : Int) - 1, -1, n) s) : wpAny (model prog w) A (Builtin.Slice.sliceApplied (.ref sl) (pure (n : Int))) Q E s := by
  obtain ⟨os, hos, hcs, hds⟩ := id hs
  unfold Builtin.Slice.sliceApplied Builtin.Slice.sliceFields
  refine wpAny_bind (wpAny_bind (wpAny_field hos hds (x := .none) rfl (wpAny_bind (wpAny_field hos hds (x := .none) rfl (wpAny_bind (wpAny_field hos hds (x := .int (-1) t) rfl (wpAny_pure ?_)))))))
  refine wpAny_bind (slicePart_int ?_)
  show wpAny _ _ (if ((-1 : Int) == 0) = true then _ else _) _ _ s
  rw [if_neg (by decide)]
  refine wpAny_bind (slicePart_none (wpAny_bind (slicePart_none (wpAny_bind (wpAny_pure ?_)))))
  show wpAny _ _ (pure ((n : Int) - 1, (-1 : Int), Builtin.Slice.slicePlaces ((n : Int) - 1) (-1) (-1))) _ _ s
  have e : Builtin.Slice.slicePlaces ((n : Int) - 1) (-1) (-1) = n := by
    unfold Builtin.Slice.slicePlaces
    rw [if_neg (by omega)]
    by_cases h0 : n = 0
    · subst h0; rfl
    · rw [if_pos (by omega)]
      have : ((n : Int) - 1 - -1 - 1) / (- -1) + 1 = (n : Int) := by
        rw [show (- -1 : Int) = 1 from rfl, Int.ediv_one]; omega
      rw [this]; omega
  rw [e]
  exact wpAny_pure h
theorem pick_rev (xs : Array Value) : ((List.range xs.size).filterMap fun (m : Nat) => xs[(((xs.size : Nat) : Int) - 1 + (m : Int) * (-1)).toNat]?).toArray = xs.toList.reverse.toArray := by
  congr 1
  have key : ∀ m ∈ List.range xs.size, xs[(((xs.size : Nat) : Int) - 1 + (m : Int) * (-1)).toNat]? = xs.toList.reverse[m]? := fun m hm => by
    have hm := List.mem_range.mp hm
    have e : (((xs.size : Nat) : Int) - 1 + (m : Int) * (-1)).toNat = xs.size - 1 - m := by omega
    rw [e, List.getElem?_reverse (by simpa using hm)]
    simp
  have gen : ∀ (l : List Value), ((List.range l.length).filterMap fun (m : Nat) => l[m]?) = l := fun l => by
    induction l with
    | nil => rfl
    | cons a r ih =>
      rw [List.length_cons, List.range_succ_eq_map, List.filterMap_cons]
      simp only [List.getElem?_cons_zero, List.filterMap_map]
      congr 1
  have hl : xs.toList.reverse.length = xs.size := by simp
  have g := gen xs.toList.reverse
  rw [hl] at g
  have cg : ∀ (l : List Nat) (f h : Nat → Option Value), (∀ m ∈ l, f m = h m) → l.filterMap f = l.filterMap h := by
    intro l f h
    induction l with
    | nil => intro _; rfl
    | cons a r ih => intro H; rw [List.filterMap_cons, List.filterMap_cons, H a (by simp), ih fun m hm => H m (by simp [hm])]
  rw [cg _ _ _ key]
  exact g
theorem getItem_tuple_rev {t sl : Addr} {items : Array Value} {tk : Tok} {Q : Value → Shared → Prop} (ht : IsTup s.heap t items) (hs : s.heap.IsSliceOf sl .none .none (.int (-1) tk))
    (h : Q (.ref s.heap.objs.size) { s with heap := s.heap.push { cls := .type "tuple", data := .seq items.toList.reverse.toArray } })
    (hsz : items.size ≤ sizeLine) : wpAny (model prog w) A (getItem (.ref t) (.ref sl)) Q E s := by
  have htake : sizeOk (.seq items.toList.reverse.toArray) := by
    show items.toList.reverse.toArray.size ≤ sizeLine
    simpa using hsz
  obtain ⟨os, hos, hcs, hds⟩ := id hs
  have hTs : s.TypeIs (.ref sl) "slice" := ⟨os, hos, hcs⟩
  unfold getItem
  try with_reducible refine wpAny_holding ?_
  first | refine wpAny_bind (wpAny_pure ?_) | skip
  refine wpAny_bind (wpAny_sequenceKey ht.typeIs (by decide) ?_)
  refine wpAny_bind (wpAny_callSpecial?_slot (name := Str.ofString "__getitem__") ht.typeIs PyProof.Rows.slot_tuple_getitem
    (wpAny_call_entry PyProof.Rows.slot_tuple_getitem ht.typeIs entry_tuple_getitem ?_ (args_tuple_getitem _ _)))
  show wpAny _ _ (Builtin.Tuple.tupleItemsOf (.ref t) >>= _) _ _ s
  refine wpAny_bind (tupleItemsOf_ ht ?_)
  refine wpAny_bind (wpAny_typeOf hTs ?_)
  rw [if_pos (by decide)]
  refine wpAny_bind (sliceApplied_rev hs ?_)
  have hno : ¬ ((((items.size : Int) - 1) == 0 && (-1 : Int) == 1 && items.size == items.size) = true) := by
    intro q
    rw [Bool.and_eq_true, Bool.and_eq_true] at q
    exact absurd q.1.2 (by decide)
  show wpAny _ _ (if ((((items.size : Nat) : Int) - 1) == 0 && (-1 : Int) == 1 && items.size == items.size) = true then _ else _) _ _ s
  rw [if_neg hno, pick_rev]
  first
    | exact wpAny_bind (m := Builtin.Tuple.tupleExact _) (wpAny_newObj_type (wpAny_pure ⟨_, rfl, wpAny_pure h⟩) htake)
    | exact wpAny_bind (m := Builtin.Tuple.tupleExact _) (wpAny_newObj_type (wpAny_bind (wpAny_pure (wpAny_pure ⟨_, rfl, wpAny_pure h⟩))) htake)
    | exact wpAny_bind (wpAny_bind (m := Builtin.Tuple.tupleExact _) (wpAny_newObj_type (wpAny_pure (wpAny_pure ⟨_, rfl, wpAny_pure h⟩)) htake))
    | exact wpAny_bind (wpAny_bind (m := Builtin.Tuple.tupleExact _) (wpAny_newObj_type (wpAny_pure ⟨_, rfl, wpAny_pure h⟩) htake))
end
end HT
namespace L2
open PySem PySem.Spec PyProof.Rows
section
variable {X : Cx} {e st : Expr} {te ts : TE} {pos p2 : Pos}
theorem vals_reverse : ∀ {xs : List V} {us : List Value}, Vals xs us → Vals xs.reverse us.reverse
  | _, _, .nil => .nil
  | _, _, .cons r t => by
    rw [List.reverse_cons, List.reverse_cons]
    exact (vals_reverse t).append (.cons r .nil)
def tRev (K : PySem.W.Frag) (te ts : TE) : TE := fun σ H Q => te σ H fun x H1 => ts σ H1 fun y H2 => y = .int (-1) ∧ ∃ a xs, x = .ref a ∧ SqT K H2 a xs ∧ ∀ p, H2 p = none → Q (.ref p) (upd H2 p (.tup xs.reverse))
theorem pe_rev (he : PE X e te) (hst : PE X st ts) : PE X (.Subscript e (.Slice none none (some st) p2) pos) (tRev X.K te ts) := by
  refine ⟨fun pins s σ H Q I h => ?_⟩
  refine Subscript_ (thn (he.run pins s σ H _ I h) fun v s1 ⟨x, H1, I1, r1, q1⟩ => ?_)
  refine wpAny_Slice ?_
  rw [evalPart_none]
  refine wpAny_pure ?_
  refine wpAny_pure ?_
  rw [evalPart_some]
  refine thn (hst.run pins s1 σ H1 _ I1 q1) fun u s3 ⟨y, H3, I3, ry, q3⟩ => ?_
  obtain ⟨rfl, a, xs, rfl, hx, q⟩ := q3
  obtain ⟨tk, rfl⟩ := ry
  cases r1
  have I4 : Inv X pins σ H3 { s3 with heap := s3.heap.push { cls := .type "slice", data := .fields #[.none, .none, .int (-1) tk] } } := I3.kept (t' := s3.toks) fun b ob q => Heap.get?_push_of_some _ q
  obtain ⟨its, r, ht, hz⟩ := I4.tuple hx
  have hlen : its.toArray.size = xs.length := by rw [List.size_toArray]; exact r.length.symm
  show wpAny (model X.prog X.w) X.A (subscriptTail e (.Slice none none (some st) p2) (.ref a) (.ref s3.heap.objs.size)) (EP X pins σ Q) X.xe { s3 with heap := s3.heap.push { cls := .type "slice", data := .fields #[.none, .none, .int (-1) tk] } }
  refine tail_any (ops := [.ref a, .ref s3.heap.objs.size]) ht.typeIs PyProof.Rows.slot_tuple_getitem.lookup (HT.getItem_tuple_rev ht (Heap.IsSliceOf.new ..) ?_ (by rw [hlen]; exact hz)) (by with_unfolding_all rfl)
  refine ⟨.ref _, _, I4.laid (o := .tup xs.reverse) (fun b ob q => Heap.get?_push_of_some _ q) (Nat.le_refl _) ?_, rfl, q _ (I4.hok.fresh (Nat.le_refl _))⟩
  exact ⟨by rw [List.length_reverse]; exact hz, its.reverse, vals_reverse r, IsTup.new _ _⟩
end
end L2

/-! PL3: the operations on values are the machine's. -/
namespace PL
open PySem L2

/-- two values in, one out, the store as it was -/
def RV2 (K : PySem.W.Frag) (f : PV → PV → Option PV) : R2 := fun x y H Q => ∃ (w : Wd) (st : Sto) (a b v : PV), w.H = H ∧ StOk K w st ∧ RepW K w a x ∧ RepW K w b y ∧ f a b = some v ∧ Gets K w v st Q
/-- .. a truth value out -/
def RB2 (K : PySem.W.Frag) (f : PV → PV → Option Bool) : R2 := fun x y H Q => ∃ (w : Wd) (a b : PV) (k : Bool), w.H = H ∧ RepW K w a x ∧ RepW K w b y ∧ f a b = some k ∧ Q (.bl k) H

section
variable {X : Cx}
theorem str_eq (z : Str) : (⟨z.cps.toList.toArray⟩ : Str) = z := by cases z; simp
theorem len_eq (z : Str) : z.length = z.cps.toList.length := by unfold Str.length; simp
theorem Rep.ofStr {K : PySem.W.Frag} {w : Wd} {s : List Nat} (h : s.length ≤ sizeLine) : Rep K w (.str s) (.str ⟨s.toArray⟩) := by
  have := Rep.str (K := K) (w := w) ⟨s.toArray⟩ (by rw [len_eq]; simpa using h)
  simpa using this
theorem Rep.str_inv {K : PySem.W.Frag} {w : Wd} {s : List Nat} {u : V} (h : Rep K w (.str s) u) : ∃ z : Str, u = .str z ∧ z.cps.toList = s ∧ z.length ≤ sizeLine := by
  cases h with
  | str z hz => exact ⟨z, rfl, rfl, hz⟩
theorem Rep.int_inv {K : PySem.W.Frag} {w : Wd} {i : Int} {u : V} (h : Rep K w (.int i) u) : u = .int i := by
  cases h; rfl
theorem Rep.bl_inv {K : PySem.W.Frag} {w : Wd} {b : Bool} {u : V} (h : Rep K w (.bl b) u) : u = .bl b := by
  cases h; rfl
theorem Rep.non_inv {K : PySem.W.Frag} {w : Wd} {u : V} (h : Rep K w .non u) : u = .non := by
  cases h; rfl
theorem Rep.tup_inv {K : PySem.W.Frag} {w : Wd} {xs : List PV} {u : V} (h : Rep K w (.tup xs) u) : ∃ a us, u = .ref a ∧ SqI K w a us ∧ Reps K w xs us := by
  cases h with
  | tup h r => exact ⟨_, _, rfl, h, r⟩
theorem Rep.lst_inv {K : PySem.W.Frag} {w : Wd} {xs : List PV} {u : V} (h : Rep K w (.lst xs) u) : ∃ a us, u = .ref a ∧ w.H a = some (.lst us) ∧ (some a ∉ w.m ∧ a ∉ w.p) ∧ Reps K w xs us := by
  cases h with
  | lst h n r => exact ⟨_, _, rfl, h, n, r⟩
theorem Rep.scr_inv {K : PySem.W.Frag} {w : Wd} {ns : List Int} {u : V} (h : Rep K w (.scr ns) u) : ∃ a, u = .ref a ∧ SqS K w a (ns.map V.int) := by
  cases h with
  | scr h => exact ⟨_, rfl, h⟩

theorem RepW.rep {K : PySem.W.Frag} {w : Wd} {v : PV} {u : V} (h : RepW K w v u) (n : ∀ xs, v ≠ .lst xs) : Rep K w v u := by
  rcases h with h | ⟨xs, _, _, rfl, _⟩
  · exact h
  · exact absurd rfl (n xs)
theorem RepW.str_inv {K : PySem.W.Frag} {w : Wd} {s : List Nat} {u : V} (h : RepW K w (.str s) u) : ∃ z : Str, u = .str z ∧ z.cps.toList = s ∧ z.length ≤ sizeLine := (h.rep fun _ z => by cases z).str_inv
theorem RepW.int_inv {K : PySem.W.Frag} {w : Wd} {i : Int} {u : V} (h : RepW K w (.int i) u) : u = .int i := (h.rep fun _ z => by cases z).int_inv
theorem RepW.bl_inv {K : PySem.W.Frag} {w : Wd} {b : Bool} {u : V} (h : RepW K w (.bl b) u) : u = .bl b := (h.rep fun _ z => by cases z).bl_inv
theorem RepW.non_inv {K : PySem.W.Frag} {w : Wd} {u : V} (h : RepW K w .non u) : u = .non := (h.rep fun _ z => by cases z).non_inv
theorem RepW.tup_rep {K : PySem.W.Frag} {w : Wd} {xs : List PV} {u : V} (h : RepW K w (.tup xs) u) : Rep K w (.tup xs) u := h.rep fun _ z => by cases z
theorem RepW.tup_inv {K : PySem.W.Frag} {w : Wd} {xs : List PV} {u : V} (h : RepW K w (.tup xs) u) : ∃ a us, u = .ref a ∧ SqI K w a us ∧ Reps K w xs us := h.tup_rep.tup_inv
theorem RepW.scr_inv {K : PySem.W.Frag} {w : Wd} {ns : List Int} {u : V} (h : RepW K w (.scr ns) u) : ∃ a, u = .ref a ∧ SqS K w a (ns.map V.int) := (h.rep fun _ z => by cases z).scr_inv
theorem RepW.lst_inv {K : PySem.W.Frag} {w : Wd} {xs : List PV} {u : V} (h : RepW K w (.lst xs) u) : ∃ a us, u = .ref a ∧ w.H a = some (.lst us) ∧ Reps K w xs us := by
  rcases h with h | ⟨xs', a, us, e, rfl, h, r⟩
  · obtain ⟨a, us, e, h1, _, r⟩ := h.lst_inv
    exact ⟨a, us, e, h1, r⟩
  · cases e
    exact ⟨a, us, rfl, h, r⟩

theorem o_add : OpR X (binaryOp .Add) (RV2 X.K addV) := by
  intro pins s σ H x y v u Q I rx ry h
  obtain ⟨w, st, a, b, r, rfl, ok, ra, rb, e, g⟩ := h
  cases a <;> cases b <;> simp only [addV, reduceCtorEq, Option.ite_none_right_eq_some, Option.some.injEq] at e
  · subst e
    cases ra.int_inv; cases rb.int_inv
    exact op_add pins s σ w.H _ _ v u Q I rx ry ⟨_, _, rfl, rfl, g.same ok (.int _)⟩
  · obtain ⟨hz, rfl⟩ := e
    obtain ⟨z, rfl, rfl, hz1⟩ := ra.str_inv
    obtain ⟨z', rfl, rfl, hz2⟩ := rb.str_inv
    rw [← len_eq, ← len_eq] at hz
    refine op_add_str pins s σ w.H _ _ v u Q I rx ry ⟨_, _, rfl, rfl, hz, ?_⟩
    have e1 : (z ++ z').cps.toList = z.cps.toList ++ z'.cps.toList := by
      show (z.cps ++ z'.cps).toList = _
      simp
    have := Rep.str (K := X.K) (w := w) (z ++ z') (by rw [len_eq, e1, List.length_append, ← len_eq, ← len_eq]; exact hz)
    rw [e1] at this
    exact g.same ok this
  · obtain ⟨hz, rfl⟩ := e
    obtain ⟨a1, us, rfl, h1, r1⟩ := ra.tup_inv
    obtain ⟨a2, us2, rfl, h2, r2⟩ := rb.tup_inv
    refine op_catA pins s σ w.H _ _ v u Q I rx ry ⟨a1, a2, us, us2, rfl, rfl, h1.sq, h2.sq, by rw [← r1.length, ← r2.length]; exact hz, fun z => ?_, fun _ z => ?_, fun _ _ p hp => ?_⟩
    · subst z
      cases r1
      exact g.same ok rb.tup_rep
    · subst z
      cases r2
      rw [List.append_nil] at g
      exact g.same ok ra.tup_rep
    · exact g.tup ok (r1.append r2) hp
  · obtain ⟨hz, rfl⟩ := e
    obtain ⟨a1, us, rfl, h1, r1⟩ := ra.lst_inv
    obtain ⟨a2, us2, rfl, h2, r2⟩ := rb.lst_inv
    exact op_cat pins s σ w.H _ _ v u Q I rx ry ⟨a1, a2, us, us2, rfl, rfl, h1, h2, by rw [← r1.length, ← r2.length]; exact hz, fun p hp => g.lst ok (r1.append r2) hp⟩
theorem o_sub : OpR X (binaryOp .Sub) (RV2 X.K subV) := by
  intro pins s σ H x y v u Q I rx ry h
  obtain ⟨w, st, a, b, r, rfl, ok, ra, rb, e, g⟩ := h
  cases a <;> cases b <;> simp only [subV, reduceCtorEq, Option.some.injEq] at e
  subst e
  cases ra.int_inv; cases rb.int_inv
  exact op_sub pins s σ w.H _ _ v u Q I rx ry ⟨_, _, rfl, rfl, g.same ok (.int _)⟩
theorem o_fdiv : OpR X (binaryOp .FloorDiv) (RV2 X.K fdivV) := by
  intro pins s σ H x y v u Q I rx ry h
  obtain ⟨w, st, a, b, r, rfl, ok, ra, rb, e, g⟩ := h
  cases a <;> cases b <;> simp only [fdivV, reduceCtorEq, Option.ite_none_right_eq_some, Option.some.injEq] at e
  obtain ⟨hz, rfl⟩ := e
  cases ra.int_inv; cases rb.int_inv
  exact op_fdiv pins s σ w.H _ _ v u Q I rx ry ⟨_, _, rfl, rfl, hz, g.same ok (.int _)⟩
theorem o_mod : OpR X (binaryOp .Mod) (RV2 X.K modV) := by
  intro pins s σ H x y v u Q I rx ry h
  obtain ⟨w, st, a, b, r, rfl, ok, ra, rb, e, g⟩ := h
  cases a <;> cases b <;> simp only [modV, reduceCtorEq, Option.ite_none_right_eq_some, Option.some.injEq] at e
  obtain ⟨hz, rfl⟩ := e
  cases ra.int_inv; cases rb.int_inv
  exact op_mod pins s σ w.H _ _ v u Q I rx ry ⟨_, _, rfl, rfl, hz, g.same ok (.int _)⟩
theorem tl_reps (z : Str) : ∀ k : Nat, ((List.replicate k z.cps).foldl (· ++ ·) #[]).toList = (List.replicate k z.cps.toList).flatten := by
  have all : ∀ (k : Nat) (acc : Array Nat), ((List.replicate k z.cps).foldl (· ++ ·) acc).toList = acc.toList ++ (List.replicate k z.cps.toList).flatten := by
    intro k
    induction k with
    | zero => intro acc; simp
    | succ k ih =>
      intro acc
      rw [List.replicate_succ, List.foldl_cons, ih, List.replicate_succ, List.flatten_cons, Array.toList_append, List.append_assoc]
  intro k
  rw [all]; rfl
theorem tl_mul (z : Str) (n : Int) : (Txt.mul z n).cps.toList = (List.replicate n.toNat z.cps.toList).flatten := by
  unfold Txt.mul
  by_cases h1 : n < 1
  · rw [if_pos h1, show n.toNat = 0 by omega]; rfl
  · rw [if_neg h1]
    by_cases h2 : (n == 1 || z.length == 0) = true
    · rw [if_pos h2]
      rcases Bool.or_eq_true_iff.mp h2 with h | h
      · have e : n = 1 := by simpa using h
        subst e
        simp
      · have e : z.cps.toList = [] := by
          have : z.length = 0 := by simpa using h
          rw [len_eq] at this
          exact List.eq_nil_of_length_eq_zero this
        rw [e]
        simp
    · rw [if_neg h2]
      exact tl_reps z _
theorem o_mul : OpR X (binaryOp .Mult) (RV2 X.K mulV) := by
  intro pins s σ H x y v u Q I rx ry h
  obtain ⟨w, st, a, b, r, rfl, ok, ra, rb, e, g⟩ := h
  cases a <;> cases b <;> simp only [mulV, reduceCtorEq, Option.ite_none_right_eq_some, Option.some.injEq] at e
  · rename_i i j
    obtain ⟨hz, rfl⟩ := e
    cases ra.int_inv; cases rb.int_inv
    have c : CMul i j := by
      rcases Bool.or_eq_true_iff.mp hz with h | h
      · unfold small64 at h
        simp only [Bool.and_eq_true, decide_eq_true_eq] at h
        exact .inl h
      · unfold small64 at h
        simp only [Bool.and_eq_true, decide_eq_true_eq] at h
        exact .inr h
    exact op_mul pins s σ w.H _ _ v u Q I rx ry ⟨_, _, rfl, rfl, c, g.same ok (.int _)⟩
  · rename_i cs n
    obtain ⟨⟨h1, h2, hz⟩, rfl⟩ := e
    obtain ⟨z, rfl, rfl, hz1⟩ := ra.str_inv
    cases rb.int_inv
    obtain ⟨t, rfl⟩ := rx
    obtain ⟨t', rfl⟩ := ry
    have hl : (Txt.mul z n).length ≤ sizeLine := by
      rw [len_eq, tl_mul, List.length_flatten, List.map_replicate, List.sum_replicate_nat, Nat.mul_comm]
      exact hz
    have mo : MulOk z n := by
      refine ⟨by simp only [Bool.or_eq_false_iff, decide_eq_false_iff_not]; constructor <;> omega, fun h3 h4 => ?_, fun h3 h4 => ?_⟩
      · have q : 0 < n := by omega
        intro h5
        have : (z.length : Int) * n ≤ SZ := by
          have e1 : n = ((n.toNat : Nat) : Int) := by omega
          rw [e1, len_eq]
          exact_mod_cast hz
        have h6 : (z.length : Int) * n > (2 ^ 63 - 1) / n * n := Int.mul_lt_mul_of_pos_right h5 q
        have h7 := Int.emod_add_mul_ediv (2 ^ 63 - 1) n
        have h8 := Int.emod_lt_of_pos (2 ^ 63 - 1) q
        have h9 : n * ((2 ^ 63 - 1) / n) = (2 ^ 63 - 1) / n * n := Int.mul_comm _ _
        have h10 : (SZ : Int) = 16777216 := rfl
        omega
      · unfold Builtin.Str.tooLong
        rw [len_eq]
        simp only [decide_eq_false_iff_not, Nat.not_lt, gt_iff_lt]
        have : z.cps.toList.length * n.toNat ≤ 16777216 := hz
        first | exact hz | omega
    refine SB.mul mo fun t' k => ⟨.str (Txt.mul z n), w.H, I.tok _, ⟨_, rfl⟩, ?_⟩
    have := Rep.str (K := X.K) (w := w) (Txt.mul z n) hl
    rw [tl_mul] at this
    exact g.same ok this
  · rename_i xs n
    obtain ⟨⟨h1, h2, h3, h4⟩, rfl⟩ := e
    obtain ⟨a1, us, rfl, q1, r1⟩ := id ra.tup_inv
    cases rb.int_inv
    have hne : us ≠ [] := fun z => by
      subst z
      cases r1
      simp at h4
    by_cases k1 : n = 1
    · subst k1
      have e1 : (List.replicate (1 : Int).toNat xs).flatten = xs := by simp
      rw [e1] at g
      exact op_repT1 pins s σ w.H _ _ v u Q I rx ry ⟨a1, us, rfl, rfl, q1.sq, g.same ok ra.tup_rep⟩
    · by_cases k0 : n ≤ 0
      · have e1 : (List.replicate n.toNat xs).flatten = [] := by rw [show n.toNat = 0 by omega]; rfl
        rw [e1] at g
        exact op_repT0 pins s σ w.H _ _ v u Q I rx ry ⟨a1, n, us, rfl, rfl, q1.sq, hne, h2, k0, fun p hp => g.tup ok .nil hp⟩
      · exact op_repT pins s σ w.H _ _ v u Q I rx ry ⟨a1, n, us, rfl, rfl, q1.sq, hne, by omega, h1, by rw [← r1.length]; exact h3, fun p hp => g.tup ok (r1.rep _) hp⟩
  · rename_i xs n
    obtain ⟨⟨h1, h2, h3⟩, rfl⟩ := e
    obtain ⟨a1, us, rfl, q1, r1⟩ := ra.lst_inv
    cases rb.int_inv
    exact op_rep pins s σ w.H _ _ v u Q I rx ry ⟨a1, n, us, rfl, rfl, q1, by omega, by omega, by rw [← r1.length]; exact h3, fun p hp => g.lst ok (r1.rep _) hp⟩
theorem o_bin (op : Operator) : OpR X (binaryOp op) (RV2 X.K (binV op)) := by
  cases op with
  | Add => exact o_add
  | Sub => exact o_sub
  | Mult => exact o_mul
  | FloorDiv => exact o_fdiv
  | Mod => exact o_mod
  | _ =>
    intro pins s σ H x y v u Q I rx ry h
    obtain ⟨w, st, a, b, r, _, _, _, _, e, _⟩ := h
    simp [binV] at e

/-! comparisons -/
theorem o_eq (hu : X.A.units + 64 < cLine) : OpR X (compareOp .Eq) (RB2 X.K eqV) := by
  intro pins s σ H x y v u Q I rx ry h
  obtain ⟨w, a, b, k, rfl, ra, rb, e, g⟩ := h
  have gen : (if a.okD && b.okD then some (PyData.eqv a.toD b.toD) else none) = some k → wpAny (model X.prog X.w) X.A (compareOp .Eq v u) (EP X pins σ Q) X.xe s := fun e => by
    simp only [Option.ite_none_right_eq_some, Option.some.injEq, Bool.and_eq_true] at e
    obtain ⟨⟨h1, h2⟩, rfl⟩ := e
    unfold PV.okD at h1 h2
    simp only [Bool.and_eq_true] at h1 h2
    exact op_eqD hu pins s σ w.H _ _ v u Q I rx ry ⟨a.toD, b.toD, ra.dp h1.1, rb.dp h2.1, h1.2, h2.2, g⟩
  unfold eqV at e
  split at e
  · simp only [Option.some.injEq] at e
    subst e
    cases ra.int_inv; cases rb.int_inv
    refine op_eq pins s σ w.H _ _ v u Q I rx ry ⟨rfl, ?_⟩
    simpa using g
  · simp only [Option.some.injEq] at e
    subst e
    obtain ⟨z, rfl, rfl, hz1⟩ := ra.str_inv
    obtain ⟨z', rfl, rfl, hz2⟩ := rb.str_inv
    refine op_eq pins s σ w.H _ _ v u Q I rx ry ⟨rfl, ?_⟩
    have : decide (z.cps.toList = z'.cps.toList) = decide (V.str z = V.str z') := by
      refine decide_eq_decide.mpr ⟨fun h => ?_, fun h => by cases h; rfl⟩
      rw [← str_eq z, h, str_eq z']
    rw [← this]
    exact g
  · exact gen e
theorem o_ne (hu : X.A.units + 64 < cLine) : OpR X (compareOp .NotEq) (RB2 X.K fun a b => (eqV a b).map (!·)) := by
  intro pins s σ H x y v u Q I rx ry h
  obtain ⟨w, a, b, k', rfl, ra, rb, e, g⟩ := h
  simp only [Option.map_eq_some_iff] at e
  obtain ⟨k, e, rfl⟩ := e
  have gen : (if a.okD && b.okD then some (PyData.eqv a.toD b.toD) else none) = some k → wpAny (model X.prog X.w) X.A (compareOp .NotEq v u) (EP X pins σ Q) X.xe s := fun e => by
    simp only [Option.ite_none_right_eq_some, Option.some.injEq, Bool.and_eq_true] at e
    obtain ⟨⟨h1, h2⟩, rfl⟩ := e
    unfold PV.okD at h1 h2
    simp only [Bool.and_eq_true] at h1 h2
    exact op_neD hu pins s σ w.H _ _ v u Q I rx ry ⟨a.toD, b.toD, ra.dp h1.1, rb.dp h2.1, h1.2, h2.2, g⟩
  unfold eqV at e
  split at e
  · simp only [Option.some.injEq] at e
    subst e
    cases ra.int_inv; cases rb.int_inv
    refine op_ne pins s σ w.H _ _ v u Q I rx ry ⟨rfl, ?_⟩
    simpa using g
  · simp only [Option.some.injEq] at e
    subst e
    obtain ⟨z, rfl, rfl, hz1⟩ := ra.str_inv
    obtain ⟨z', rfl, rfl, hz2⟩ := rb.str_inv
    refine op_ne pins s σ w.H _ _ v u Q I rx ry ⟨rfl, ?_⟩
    have : decide (z.cps.toList = z'.cps.toList) = decide (V.str z = V.str z') := by
      refine decide_eq_decide.mpr ⟨fun h => ?_, fun h => by cases h; rfl⟩
      rw [← str_eq z, h, str_eq z']
    rw [← this]
    exact g
  · exact gen e
theorem o_lt : OpR X (compareOp .Lt) (RB2 X.K ltV) := by
  intro pins s σ H x y v u Q I rx ry h
  obtain ⟨w, a, b, k, rfl, ra, rb, e, g⟩ := h
  cases a <;> cases b <;> simp only [ltV, reduceCtorEq, Option.some.injEq] at e
  subst e
  cases ra.int_inv; cases rb.int_inv
  exact op_lt pins s σ w.H _ _ v u Q I rx ry ⟨_, _, rfl, rfl, g⟩
theorem o_le : OpR X (compareOp .LtE) (RB2 X.K leV) := by
  intro pins s σ H x y v u Q I rx ry h
  obtain ⟨w, a, b, k, rfl, ra, rb, e, g⟩ := h
  cases a <;> cases b <;> simp only [leV, reduceCtorEq, Option.some.injEq] at e
  subst e
  cases ra.int_inv; cases rb.int_inv
  exact op_le pins s σ w.H _ _ v u Q I rx ry ⟨_, _, rfl, rfl, g⟩
theorem o_gt : OpR X (compareOp .Gt) (RB2 X.K fun a b => ltV b a) := by
  intro pins s σ H x y v u Q I rx ry h
  obtain ⟨w, a, b, k, rfl, ra, rb, e, g⟩ := h
  cases a <;> cases b <;> simp only [ltV, reduceCtorEq, Option.some.injEq] at e
  subst e
  cases ra.int_inv; cases rb.int_inv
  exact op_gt pins s σ w.H _ _ v u Q I rx ry ⟨_, _, rfl, rfl, g⟩
theorem o_ge : OpR X (compareOp .GtE) (RB2 X.K fun a b => leV b a) := by
  intro pins s σ H x y v u Q I rx ry h
  obtain ⟨w, a, b, k, rfl, ra, rb, e, g⟩ := h
  cases a <;> cases b <;> simp only [leV, reduceCtorEq, Option.some.injEq] at e
  subst e
  cases ra.int_inv; cases rb.int_inv
  exact op_ge pins s σ w.H _ _ v u Q I rx ry ⟨_, _, rfl, rfl, g⟩
theorem RepW.not_non {K : PySem.W.Frag} {w : Wd} {a : PV} {u : V} (h : RepW K w a u) (hn : a ≠ .non) (hr : ∀ l, a ≠ .ref l) : u ≠ .non := by
  rcases h with h | ⟨_, _, _, _, rfl, _⟩
  case inr => exact fun z => by cases z
  cases h with
  | non => exact absurd rfl hn
  | ref _ => exact absurd rfl (hr _)
  | gone _ => exact absurd rfl (hr _)
  | _ => exact fun z => by cases z
theorem o_is : OpR X (compareOp .Is) (RB2 X.K isV) := by
  intro pins s σ H x y v u Q I rx ry h
  obtain ⟨w, a, b, k, rfl, ra, rb, e, g⟩ := h
  unfold isV at e
  split at e
  · cases e
    cases ra.non_inv; cases rb.non_inv
    exact op_isN pins s σ w.H _ _ v u Q I rx ry ⟨rfl, by simpa using g⟩
  · cases e
  · cases e
    cases rb.non_inv
    have hn : x ≠ .non := ra.not_non (fun z => by simp_all) (fun l z => by simp_all)
    exact op_isN pins s σ w.H _ _ v u Q I rx ry ⟨rfl, by rw [decide_eq_false hn]; exact g⟩
  · cases e
    cases ra.bl_inv; cases rb.bl_inv
    exact op_isBl pins s σ w.H _ _ v u Q I rx ry ⟨_, _, rfl, rfl, g⟩
  · cases e
theorem o_isnot : OpR X (compareOp .IsNot) (RB2 X.K fun a b => (isV a b).map (!·)) := by
  intro pins s σ H x y v u Q I rx ry h
  obtain ⟨w, a, b, k', rfl, ra, rb, e, g⟩ := h
  simp only [Option.map_eq_some_iff] at e
  obtain ⟨k, e, rfl⟩ := e
  unfold isV at e
  split at e
  · cases e
    cases ra.non_inv; cases rb.non_inv
    exact op_notN pins s σ w.H _ _ v u Q I rx ry ⟨rfl, by simpa using g⟩
  · cases e
  · cases e
    cases rb.non_inv
    have hn : x ≠ .non := ra.not_non (fun z => by simp_all) (fun l z => by simp_all)
    exact op_notN pins s σ w.H _ _ v u Q I rx ry ⟨rfl, by rw [decide_eq_false hn]; exact g⟩
  · cases e
    cases ra.bl_inv; cases rb.bl_inv
    exact op_notBl pins s σ w.H _ _ v u Q I rx ry ⟨_, _, rfl, rfl, g⟩
  · cases e
theorem sign_of {z : Str} {c : Nat} (h : z.cps.toList = [c]) : z = ⟨#[c]⟩ := by
  rw [← str_eq z, h]
theorem str_dec (z z' : Str) : decide (V.str z = V.str z') = decide (z.cps.toList = z'.cps.toList) := by
  refine decide_eq_decide.mpr ⟨fun h => by cases h; rfl, fun h => ?_⟩
  rw [← str_eq z, h, str_eq z']
theorem strsV_in {K : PySem.W.Frag} {w : Wd} (z : Str) : ∀ {xs : List PV} {us : List V} {ts : List (List Nat)}, Reps K w xs us → strsV xs = some ts → us.all flatV = true ∧ L2.inV (.str z) us = decide (z.cps.toList ∈ ts)
  | _, _, _, .nil, e => by simp [strsV] at e; subst e; exact ⟨rfl, by simp [L2.inV]⟩
  | _, _, _, .cons (x := x) h r, e => by
    cases x with
    | str s =>
      simp only [strsV, Option.map_eq_some_iff] at e
      obtain ⟨ts, e, rfl⟩ := e
      obtain ⟨z', rfl, rfl, _⟩ := h.str_inv
      obtain ⟨h1, h2⟩ := strsV_in z r e
      refine ⟨by rw [List.all_cons, h1]; rfl, ?_⟩
      unfold L2.inV at h2 ⊢
      rw [List.any_cons, h2]
      have e0 : L2.eqV (V.str z') (V.str z) = decide (z.cps.toList = z'.cps.toList) := by
        show (z' == z) = _
        rw [← str_dec]
        by_cases q : z' = z
        · subst q; simp
        · have : (z' == z) = false := beq_eq_false_iff_ne.mpr q
          rw [this]
          exact (decide_eq_false fun y => q (by cases y; rfl)).symm
      rw [e0]
      simp only [List.mem_cons, Bool.decide_or]
    | _ => simp [strsV] at e
theorem intsW_in {K : PySem.W.Frag} {w : Wd} (i : Int) : ∀ {xs : List PV} {us : List V} {ns : List Int}, Reps K w xs us → intsW xs = some ns → us.all flatV = true ∧ L2.inV (.int i) us = decide (i ∈ ns)
  | _, _, _, .nil, e => by simp [intsW] at e; subst e; exact ⟨rfl, by simp [L2.inV]⟩
  | _, _, _, .cons (x := x) h r, e => by
    cases x with
    | int j =>
      simp only [intsW, Option.map_eq_some_iff] at e
      obtain ⟨ts, e, rfl⟩ := e
      cases h.int_inv
      obtain ⟨h1, h2⟩ := intsW_in i r e
      refine ⟨by rw [List.all_cons, h1]; rfl, ?_⟩
      unfold L2.inV at h2 ⊢
      rw [List.any_cons, h2]
      have e0 : L2.eqV (V.int j) (V.int i) = decide (i = j) := by
        show (j == i) = _
        by_cases q : j = i
        · subst q; simp
        · have : (j == i) = false := beq_eq_false_iff_ne.mpr q
          rw [this]
          exact (decide_eq_false fun y => q y.symm).symm
      rw [e0]
      simp only [List.mem_cons, Bool.decide_or]
    | _ => simp [intsW] at e
theorem inSeq_ok {K : PySem.W.Frag} {w : Wd} {a : PV} {x : V} {xs : List PV} {us : List V} {k : Bool} (ra : RepW K w a x) (r : Reps K w xs us) (e : inSeq a xs = some k) : flatV x = true ∧ us.all flatV = true ∧ L2.inV x us = k := by
  unfold inSeq at e
  split at e
  · rw [Option.map_eq_some_iff] at e
    obtain ⟨ts, e, rfl⟩ := e
    obtain ⟨z, rfl, rfl, _⟩ := ra.str_inv
    obtain ⟨h1, h2⟩ := strsV_in z r e
    exact ⟨rfl, h1, h2⟩
  · rw [Option.map_eq_some_iff] at e
    obtain ⟨ts, e, rfl⟩ := e
    cases ra.int_inv
    obtain ⟨h1, h2⟩ := intsW_in _ r e
    exact ⟨rfl, h1, h2⟩
  · cases e
theorem o_in : OpR X (compareOp .In) (RB2 X.K inV) := by
  intro pins s σ H x y v u Q I rx ry h
  obtain ⟨w, a, b, k, rfl, ra, rb, e, g⟩ := h
  unfold inV at e
  split at e
  · cases e
    obtain ⟨z, rfl, hz, _⟩ := ra.str_inv
    obtain ⟨z', rfl, rfl, _⟩ := rb.str_inv
    exact op_in_sign pins s σ w.H _ _ v u Q I rx ry ⟨_, _, by rw [sign_of hz], rfl, g⟩
  · obtain ⟨p, us, rfl, h1, r1⟩ := rb.tup_inv
    obtain ⟨f1, f2, f3⟩ := inSeq_ok ra r1 e
    exact op_in_seq pins s σ w.H _ _ v u Q I rx ry ⟨p, us, rfl, .inr h1.sq, f1, f2, by simp only [Bool.false_eq_true, if_false]; rw [f3]; exact g⟩
  · obtain ⟨p, us, rfl, h1, r1⟩ := rb.lst_inv
    obtain ⟨f1, f2, f3⟩ := inSeq_ok ra r1 e
    exact op_in_seq pins s σ w.H _ _ v u Q I rx ry ⟨p, us, rfl, .inl (SqL.of h1), f1, f2, by simp only [Bool.false_eq_true, if_false]; rw [f3]; exact g⟩
  · cases e
theorem o_notin : OpR X (compareOp .NotIn) (RB2 X.K fun a b => (inV a b).map (!·)) := by
  intro pins s σ H x y v u Q I rx ry h
  obtain ⟨w, a, b, k', rfl, ra, rb, e, g⟩ := h
  simp only [Option.map_eq_some_iff] at e
  obtain ⟨k, e, rfl⟩ := e
  unfold inV at e
  split at e
  · cases e
    obtain ⟨z, rfl, hz, _⟩ := ra.str_inv
    obtain ⟨z', rfl, rfl, _⟩ := rb.str_inv
    exact op_notIn_sign pins s σ w.H _ _ v u Q I rx ry ⟨_, _, by rw [sign_of hz], rfl, g⟩
  · obtain ⟨p, us, rfl, h1, r1⟩ := rb.tup_inv
    obtain ⟨f1, f2, f3⟩ := inSeq_ok ra r1 e
    exact op_notIn_seq pins s σ w.H _ _ v u Q I rx ry ⟨p, us, rfl, .inr h1.sq, f1, f2, by simp only [if_true]; rw [f3]; exact g⟩
  · obtain ⟨p, us, rfl, h1, r1⟩ := rb.lst_inv
    obtain ⟨f1, f2, f3⟩ := inSeq_ok ra r1 e
    exact op_notIn_seq pins s σ w.H _ _ v u Q I rx ry ⟨p, us, rfl, .inl (SqL.of h1), f1, f2, by simp only [if_true]; rw [f3]; exact g⟩
  · cases e
theorem o_cmp (hu : X.A.units + 64 < cLine) (op : CmpOp) : OpR X (compareOp op) (RB2 X.K (cmpV op)) := by
  cases op with
  | Eq => exact o_eq hu
  | NotEq => exact o_ne hu
  | Lt => exact o_lt
  | LtE => exact o_le
  | Gt => exact o_gt
  | GtE => exact o_ge
  | Is => exact o_is
  | IsNot => exact o_isnot
  | In => exact o_in
  | NotIn => exact o_notin

/-! truth -/
theorem truV_ok {K : PySem.W.Frag} {w : Wd} {a : PV} {x : V} {k : Bool} (r : RepW K w a x) (e : truV a = some k) : TruV K x w.H k := by
  rcases r with r | ⟨_, _, _, rfl, rfl, h, r⟩
  case inr =>
    simp only [truV, Option.some.injEq] at e
    subst e
    refine .inl ⟨_, SqL.of h, ?_⟩
    cases r <;> rfl
  cases r with
  | non => simp only [truV, Option.some.injEq] at e; subst e; rfl
  | bl b => simp only [truV, Option.some.injEq] at e; subst e; rfl
  | int i => simp only [truV, Option.some.injEq] at e; subst e; rfl
  | str z hz =>
    simp only [truV, Option.some.injEq] at e
    subst e
    refine ⟨hz, ?_⟩
    rw [len_eq]
    cases z.cps.toList <;> simp
    omega
  | tup h r =>
    simp only [truV, Option.some.injEq] at e
    subst e
    refine .inr (.inl ⟨_, h.sq, ?_⟩)
    cases r <;> rfl
  | lst h n r =>
    simp only [truV, Option.some.injEq] at e
    subst e
    refine .inl ⟨_, SqL.of h, ?_⟩
    cases r <;> rfl
  | scr _ => simp [truV] at e
  | ref _ => simp [truV] at e
  | gone _ => simp [truV] at e

/-! subscripts -/
theorem Reps.atI {K : PySem.W.Frag} {w : Wd} {xs : List PV} {us : List V} {i : Int} {v : PV} (r : Reps K w xs us) (e : L2.atI xs i = some v) : ∃ u, L2.atI us i = some u ∧ Rep K w v u := by
  unfold L2.atI at e ⊢
  rw [r.length] at e
  cases q : ixN us.length i with
  | none => rw [q] at e; simp at e
  | some j =>
    rw [q] at e
    simp only [Option.bind_some] at e ⊢
    exact r.get e
theorem o_at : IxR X (RV2 X.K atV) := by
  intro va sl pins s σ H x y v u Q I rx ry h hs
  obtain ⟨w, st, a, b, r, rfl, ok, ra, rb, e, g⟩ := h
  cases a <;> cases b <;> simp only [atV, reduceCtorEq, Option.map_eq_some_iff] at e
  · obtain ⟨c, e, rfl⟩ := e
    obtain ⟨z, rfl, rfl, hz⟩ := ra.str_inv
    cases rb.int_inv
    exact ix_str va sl pins s σ w.H _ _ v u Q I rx ry ⟨z, _, c, rfl, rfl, hz, e, g.same ok (Rep.ofStr (by show 1 ≤ sizeLine; decide))⟩ hs
  · obtain ⟨a1, us, rfl, h1, r1⟩ := ra.tup_inv
    cases rb.int_inv
    obtain ⟨q, h2, h3⟩ := r1.atI e
    exact ix_tup va sl pins s σ w.H _ _ v u Q I rx ry ⟨a1, us, _, q, rfl, rfl, h1.sq, h2, g.same ok h3⟩ hs
  · obtain ⟨a1, us, rfl, h1, r1⟩ := ra.lst_inv
    cases rb.int_inv
    obtain ⟨q, h2, h3⟩ := r1.atI e
    exact ix_list va sl pins s σ w.H _ _ v u Q I rx ry ⟨a1, us, _, q, rfl, rfl, SqL.of h1, h2, g.same ok h3⟩ hs
  · obtain ⟨c, e, rfl⟩ := e
    obtain ⟨a1, rfl, h1⟩ := ra.scr_inv
    cases rb.int_inv
    refine ix_list va sl pins s σ w.H _ _ v u Q I rx ry ⟨a1, _, _, .int c, rfl, rfl, h1.sq, ?_, g.same ok (.int c)⟩ hs
    unfold L2.atI at e ⊢
    rw [List.length_map]
    cases q : ixN _ _ with
    | none => rw [q] at e; simp at e
    | some j =>
      rw [q] at e
      simp only [Option.bind_some, List.getElem?_map] at e ⊢
      rw [e]; rfl

/-! slices -/
def RSl (K : PySem.W.Frag) : V → Option Int → Option Int → Hp → VK → Prop := fun x lo hi H Q => ∃ (w : Wd) (st : Sto) (a v : PV), w.H = H ∧ StOk K w st ∧ RepW K w a x ∧ slV a lo hi = some v ∧ Gets K w v st Q
theorem cutL_all {α : Type} (xs : List α) (lo hi : Option Int) (h : HT.sIx xs.length 0 lo = 0 ∧ HT.sIx xs.length xs.length hi = xs.length) : cutL xs lo hi = xs := by
  unfold cutL
  rw [h.1, h.2]
  simp
theorem o_sl : SlR X (RSl X.K) := by
  intro pins s σ H x v vl vu lo hi sl Q I rx hs pl pu h
  obtain ⟨w, st, a, r, rfl, ok, ra, e, g⟩ := h
  cases a <;> simp only [slV, reduceCtorEq, Option.some.injEq] at e
  · subst e
    obtain ⟨z, rfl, rfl, hz⟩ := ra.str_inv
    refine sl_str pins s σ w.H _ v vl vu lo hi sl Q I rx hs pl pu ⟨z, rfl, hz, ?_⟩
    have e1 : (cutS z lo hi).cps.toList = cutL z.cps.toList lo hi := by
      unfold cutS cutL
      rw [len_eq]
    have := Rep.str (K := X.K) (w := w) (cutS z lo hi) (by
      rw [len_eq, e1]
      unfold cutL
      rw [List.length_take, List.length_drop]
      rw [len_eq] at hz
      omega)
    rw [e1] at this
    exact g.same ok this
  · subst e
    obtain ⟨a1, us, rfl, h1, r1⟩ := ra.tup_inv
    refine sl_tupA pins s σ w.H _ v vl vu lo hi sl Q I rx hs pl pu ⟨a1, us, rfl, h1.sq, fun z => ?_, fun _ p hp => g.tup ok (r1.cut lo hi) hp⟩
    rw [← r1.length] at z
    rw [cutL_all _ _ _ z] at g
    exact g.same ok ra.tup_rep
  · subst e
    obtain ⟨a1, us, rfl, h1, r1⟩ := ra.lst_inv
    exact sl_list pins s σ w.H _ v vl vu lo hi sl Q I rx hs pl pu ⟨a1, us, rfl, SqL.of h1, fun p hp => g.lst ok (r1.cut lo hi) hp⟩
end
end PL

/-! PL4: readings by the evaluator; a rule for each form of an expression. -/
namespace PL
open PySem L2

/-- what is to be shown where the evaluator says r -/
def RdR {α β : Type} (K : PySem.W.Frag) (cl : Nat → Value) (E : XK) (R : Wd → α → β → Prop) (w : Wd) (r : Res α) (Q : β → Hp → Prop) : Prop :=
  match r with
  | .ok a st => ∀ w' b, w.le w' → StOk K w' st → R w' a b → Q b w'.H
  | .exc c st => ∀ w', w.le w' → StOk K w' st → E (cl c) none w'.H
  | .stuck => False
section
variable {α β γ δ : Type} {K : PySem.W.Frag} {cl : Nat → Value} {E : XK} {R : Wd → α → β → Prop} {R' : Wd → γ → δ → Prop} {w : Wd}
theorem RdR.mono {r : Res α} {Q Q' : β → Hp → Prop} (h : RdR K cl E R w r Q) (f : ∀ b H, Q b H → Q' b H) : RdR K cl E R w r Q' := by
  cases r with
  | ok a st => exact fun w' b h1 h2 h3 => f b _ (h w' b h1 h2 h3)
  | exc c st => exact h
  | stuck => exact h
theorem RdR.bind {r : Res α} {f : α → Sto → Res γ} {Q : δ → Hp → Prop} (h : RdR K cl E R' w (r.bind f) Q) :
    RdR K cl E R w r (fun b H => ∃ (w' : Wd) (a : α) (st : Sto), w'.H = H ∧ w.le w' ∧ StOk K w' st ∧ R w' a b ∧ RdR K cl E R' w' (f a st) Q) := by
  cases r with
  | ok a st =>
    intro w' b h1 h2 h3
    refine ⟨w', a, st, rfl, h1, h2, h3, ?_⟩
    rw [Res.bind_ok] at h
    cases q : f a st with
    | ok c st2 => rw [q] at h; exact fun w2 d g1 g2 g3 => h w2 d (h1.trans g1) g2 g3
    | exc c st2 => rw [q] at h; exact fun w2 g1 g2 => h w2 (h1.trans g1) g2
    | stuck => rw [q] at h; exact h
  | exc c st => exact h
  | stuck => exact h
theorem RdR.ofO {o : Option α} {st : Sto} {Q : β → Hp → Prop} (h : RdR K cl E R w (.ofO o st) Q) : ∃ a, o = some a ∧ ∀ w' b, w.le w' → StOk K w' st → R w' a b → Q b w'.H := by
  cases o with
  | none => exact h.elim
  | some a => exact ⟨a, rfl, h⟩
end

def rdE (K : PySem.W.Frag) (cl : Nat → Value) (W : WX) (cf : CF) (p : PX) : TE := fun σ H Q =>
  ∃ (w : Wd) (e : Env) (st : Sto), w.H = H ∧ EnvOk K w e σ ∧ StOk K w st ∧ RdR K cl (WE W σ) (Rep K) w (ev cf p e st) Q
def rdA (K : PySem.W.Frag) (cl : Nat → Value) (W : WX) (cf : CF) (p : PXs) : TA := fun σ H Q =>
  ∃ (w : Wd) (e : Env) (st : Sto), w.H = H ∧ EnvOk K w e σ ∧ StOk K w st ∧ RdR K cl (WE W σ) (Reps K) w (evs cf p e st) Q
def rdT (K : PySem.W.Frag) (cl : Nat → Value) (W : WX) (cf : CF) (p : PT) : TT := fun σ H Q =>
  ∃ (w : Wd) (e : Env) (st : Sto), w.H = H ∧ EnvOk K w e σ ∧ StOk K w st ∧ RdR K cl (WE W σ) (fun _ a b => a = b) w (evT cf p e st) Q
def rdO (K : PySem.W.Frag) (cl : Nat → Value) (W : WX) (cf : CF) (p : PO) : TO := fun σ H Q =>
  ∃ (w : Wd) (e : Env) (st : Sto), w.H = H ∧ EnvOk K w e σ ∧ StOk K w st ∧ RdR K cl (WE W σ) (fun _ a b => a = b) w (evO cf p e st) Q
def rdB (K : PySem.W.Frag) (cl : Nat → Value) (W : WX) (cf : CF) (op : BoolOp) (p : PXs) : TE := fun σ H Q =>
  ∃ (w : Wd) (e : Env) (st : Sto), w.H = H ∧ EnvOk K w e σ ∧ StOk K w st ∧ RdR K cl (WE W σ) (Rep K) w (evB cf op p e st) Q
def rdBT (K : PySem.W.Frag) (cl : Nat → Value) (W : WX) (cf : CF) (op : BoolOp) (p : PTs) : TT := fun σ H Q =>
  ∃ (w : Wd) (e : Env) (st : Sto), w.H = H ∧ EnvOk K w e σ ∧ StOk K w st ∧ RdR K cl (WE W σ) (fun _ a b => a = b) w (evBT cf op p e st) Q

theorem PEimp {X : Cx} {e : Expr} {t t' : TE} (h : L2.PE X e t) (f : ∀ σ H Q, t' σ H Q → t σ H Q) : L2.PE X e t' := ⟨fun pins s σ H Q I q => h.run pins s σ H Q I (f σ H Q q)⟩
theorem PTimp {X : Cx} {e : Expr} {t t' : TT} (h : L2.PT X e t) (f : ∀ σ H Q, t' σ H Q → t σ H Q) : L2.PT X e t' := ⟨fun pins s σ H Q I q => h.run pins s σ H Q I (f σ H Q q)⟩
theorem PAimp {X : Cx} {e : List Expr} {t t' : TA} (h : L2.PA X e t) (f : ∀ σ H Q, t' σ H Q → t σ H Q) : L2.PA X e t' := ⟨fun pos pins s σ H Q I q => h.run pos pins s σ H Q I (f σ H Q q)⟩
theorem POimp {X : Cx} {e : Option Expr} {t t' : TO} (h : L2.PO X e t) (f : ∀ σ H Q, t' σ H Q → t σ H Q) : L2.PO X e t' := ⟨fun pins s σ H Q I q => h.run pins s σ H Q I (f σ H Q q)⟩
theorem PWimp {X : Cx} {e : Expr} {t t' : TT} (h : L2.PW X e t) (f : ∀ σ H Q, t' σ H Q → t σ H Q) : L2.PW X e t' := ⟨fun wh pins s σ H Q I q => h.run wh pins s σ H Q I (f σ H Q q)⟩

section
variable {X : Cx} {cl : Nat → Value} {W : WX} {cf : CF} {pos : Pos} {a b c : Expr} {pa pb pc : PX}

theorem x_var {i : Nat} {x : Str} (hN : X.N[i]? = some x) (hv : Vis X.env.scope x) (hd : (x == ("__debug__" : Str)) = false) (hcd : (x == ("__classdict__" : Str)) = false) : L2.PE X (.Name x pos) (rdE X.K cl W cf (.var i)) := by
  refine PEimp (pe_var hN hv hd hcd) fun σ H Q h => ?_
  obtain ⟨w, e, st, rfl, he, hs, h⟩ := h
  simp only [ev] at h
  split at h
  · rename_i v q
    obtain ⟨u, h1, h2⟩ := he i v q
    exact ⟨u, h1, h w u (.refl w) hs h2⟩
  · exact h.elim
theorem x_cst {v : PV} {u : V} {t : Expr} (h : L2.PE X t (tC u)) (r : ∀ w, Rep X.K w v u) : L2.PE X t (rdE X.K cl W cf (.cst v)) := by
  refine PEimp h fun σ H Q h => ?_
  obtain ⟨w, e, st, rfl, he, hs, h⟩ := h
  simp only [ev] at h
  exact h w u (.refl w) hs (r w)
theorem x_glb {v : PV} {u : V} {t : Expr} {x : Str} (h : L2.PE X t (tC u)) (r : ∀ w, Rep X.K w v u) : L2.PE X t (rdE X.K cl W cf (.glb x v)) := by
  refine PEimp h fun σ H Q h => ?_
  obtain ⟨w, e, st, rfl, he, hs, h⟩ := h
  simp only [ev] at h
  exact h w u (.refl w) hs (r w)
theorem x_nil : L2.PA X [] (rdA X.K cl W cf .nil) := by
  refine PAimp pa_nil fun σ H Q h => ?_
  obtain ⟨w, e, st, rfl, he, hs, h⟩ := h
  simp only [evs] at h
  exact h w [] (.refl w) hs .nil
theorem x_cons {es : List Expr} {pr : PXs} (ha : L2.PE X a (rdE X.K cl W cf pa)) (hr : L2.PA X es (rdA X.K cl W cf pr)) (hst : starEach (a :: es) X.env = (false, eval a X.env) :: starEach es X.env) :
    L2.PA X (a :: es) (rdA X.K cl W cf (.cons pa pr)) := by
  refine PAimp (pa_cons ha hr hst) fun σ H Q h => ?_
  obtain ⟨w, e, st, rfl, he, hs, h⟩ := h
  simp only [evs] at h
  refine ⟨w, e, st, rfl, he, hs, h.bind.mono fun x H1 ⟨w1, v1, st1, e1, hw1, hs1, r1, h1⟩ => ?_⟩
  subst e1
  refine ⟨w1, e, st1, rfl, he.mono hw1, hs1, h1.bind.mono fun xs H2 ⟨w2, v2, st2, e2, hw2, hs2, r2, h2⟩ => ?_⟩
  subst e2
  exact h2 w2 _ (.refl w2) hs2 (.cons (r1.mono hw2) r2)
theorem x_tup {es : List Expr} {ps : PXs} {k : Nat} (hr : L2.PA X es (rdA X.K cl W cf ps)) : L2.PE X (.Tuple es k pos) (rdE X.K cl W cf (.tup ps)) := by
  refine PEimp (pe_tup hr) fun σ H Q h => ?_
  obtain ⟨w, e, st, rfl, he, hs, h⟩ := h
  simp only [ev] at h
  refine ⟨w, e, st, rfl, he, hs, h.bind.mono fun xs H1 ⟨w1, v1, st1, e1, hw1, hs1, r1, h1⟩ => ?_⟩
  subst e1
  split at h1
  · rename_i hz
    exact ⟨by rw [← r1.length]; exact hz, fun p hp => Gets.tup (fun w' u a b c => h1 w' u a b c) hs1 r1 hp⟩
  · exact h1.elim
theorem x_lst {es : List Expr} {ps : PXs} (hr : L2.PA X es (rdA X.K cl W cf ps)) : L2.PE X (.List es pos) (rdE X.K cl W cf (.lst ps)) := by
  refine PEimp (pe_lst hr) fun σ H Q h => ?_
  obtain ⟨w, e, st, rfl, he, hs, h⟩ := h
  simp only [ev] at h
  refine ⟨w, e, st, rfl, he, hs, h.bind.mono fun xs H1 ⟨w1, v1, st1, e1, hw1, hs1, r1, h1⟩ => ?_⟩
  subst e1
  split at h1
  · rename_i hz
    exact ⟨by rw [← r1.length]; exact hz, fun p hp => Gets.lst (fun w' u a b c => h1 w' u a b c) hs1 r1 hp⟩
  · exact h1.elim
theorem x_bin {op : Operator} (ha : L2.PE X a (rdE X.K cl W cf pa)) (hb : L2.PE X b (rdE X.K cl W cf pb)) : L2.PE X (.BinOp a op b pos) (rdE X.K cl W cf (.bin op pa pb)) := by
  refine PEimp (pe_op (o_bin op) ha hb) fun σ H Q h => ?_
  obtain ⟨w, e, st, rfl, he, hs, h⟩ := h
  simp only [ev] at h
  refine ⟨w, e, st, rfl, he, hs, h.bind.mono fun x H1 ⟨w1, v1, st1, e1, hw1, hs1, r1, h1⟩ => ?_⟩
  subst e1
  refine ⟨w1, e, st1, rfl, he.mono hw1, hs1, h1.bind.mono fun y H2 ⟨w2, v2, st2, e2, hw2, hs2, r2, h2⟩ => ?_⟩
  subst e2
  obtain ⟨v, q, h2⟩ := h2.ofO
  exact ⟨w2, st2, _, _, v, rfl, hs2, (r1.mono hw2).deref hs2, r2.deref hs2, q, h2⟩
theorem x_cmp {op : CmpOp} (hu : X.A.units + 64 < cLine) (ha : L2.PE X a (rdE X.K cl W cf pa)) (hb : L2.PE X b (rdE X.K cl W cf pb)) (hm : behindInMarks op b = false) : L2.PE X (.Compare a [op] [b] pos) (rdE X.K cl W cf (.cmp op pa pb)) := by
  refine PEimp (pe_cmpR (o_cmp hu op) ha hb hm) fun σ H Q h => ?_
  obtain ⟨w, e, st, rfl, he, hs, h⟩ := h
  simp only [ev] at h
  refine ⟨w, e, st, rfl, he, hs, h.bind.mono fun x H1 ⟨w1, v1, st1, e1, hw1, hs1, r1, h1⟩ => ?_⟩
  subst e1
  refine ⟨w1, e, st1, rfl, he.mono hw1, hs1, h1.bind.mono fun y H2 ⟨w2, v2, st2, e2, hw2, hs2, r2, h2⟩ => ?_⟩
  subst e2
  obtain ⟨v, q, h2⟩ := h2.ofO
  rw [Option.map_eq_some_iff] at q
  obtain ⟨k, q, rfl⟩ := q
  exact ⟨w2, _, _, k, rfl, (r1.mono hw2).deref hs2, r2.deref hs2, q, h2 w2 _ (.refl w2) hs2 (.bl k)⟩
theorem x_tcmp {op : CmpOp} (hu : X.A.units + 64 < cLine) (ha : L2.PE X a (rdE X.K cl W cf pa)) (hb : L2.PE X b (rdE X.K cl W cf pb)) (hm : behindInMarks op b = false) : L2.PT X (.Compare a [op] [b] pos) (rdT X.K cl W cf (.cmp op pa pb)) := by
  refine PTimp (pt_cmpR (o_cmp hu op) ha hb hm) fun σ H Q h => ?_
  obtain ⟨w, e, st, rfl, he, hs, h⟩ := h
  simp only [evT] at h
  refine ⟨w, e, st, rfl, he, hs, h.bind.mono fun x H1 ⟨w1, v1, st1, e1, hw1, hs1, r1, h1⟩ => ?_⟩
  subst e1
  refine ⟨w1, e, st1, rfl, he.mono hw1, hs1, h1.bind.mono fun y H2 ⟨w2, v2, st2, e2, hw2, hs2, r2, h2⟩ => ?_⟩
  subst e2
  obtain ⟨k, q, h2⟩ := h2.ofO
  exact ⟨w2, _, _, k, rfl, (r1.mono hw2).deref hs2, r2.deref hs2, q, k, rfl, h2 w2 _ (.refl w2) hs2 rfl⟩
theorem x_cmp2 {op op' : CmpOp} (hu : X.A.units + 64 < cLine) (ha : L2.PE X a (rdE X.K cl W cf pa)) (hb : L2.PE X b (rdE X.K cl W cf pb)) (hc : L2.PE X c (rdE X.K cl W cf pc)) (hm : lastMarks [op, op'] [b, c] = false) :
    L2.PE X (.Compare a [op, op'] [b, c] pos) (rdE X.K cl W cf (.cmp2 op op' pa pb pc)) := by
  refine PEimp (pe_chain (o_cmp hu op) (o_cmp hu op') ha hb hc hm) fun σ H Q h => ?_
  obtain ⟨w, e, st, rfl, he, hs, h⟩ := h
  simp only [ev] at h
  refine ⟨w, e, st, rfl, he, hs, h.bind.mono fun x H1 ⟨w1, v1, st1, e1, hw1, hs1, r1, h1⟩ => ?_⟩
  subst e1
  refine ⟨w1, e, st1, rfl, he.mono hw1, hs1, h1.bind.mono fun y H2 ⟨w2, v2, st2, e2, hw2, hs2, r2, h2⟩ => ?_⟩
  subst e2
  obtain ⟨k, q, h2⟩ := (h2.bind (R := fun _ a b => a = b)).ofO
  obtain ⟨w3, k', st3, e3, hw3, hs3, rfl, h3⟩ := h2 w2 k (.refl w2) hs2 rfl
  refine ⟨w2, _, _, k', rfl, (r1.mono hw2).deref hs2, r2.deref hs2, q, k', rfl, ?_⟩
  rw [← e3]
  cases k' with
  | false => exact h3 w3 _ (.refl w3) hs3 (.bl false)
  | true =>
    simp only [ite_true] at h3 ⊢
    have hw := hw2.trans hw3
    refine ⟨w3, e, st3, rfl, he.mono (hw1.trans hw), hs3, h3.bind.mono fun z H4 ⟨w4, v4, st4, e4, hw4, hs4, r4, h4⟩ => ?_⟩
    subst e4
    obtain ⟨v, q, h4⟩ := h4.ofO
    rw [Option.map_eq_some_iff] at q
    obtain ⟨k, q, rfl⟩ := q
    exact ⟨w4, _, _, k, rfl, (r2.mono (hw3.trans hw4)).deref hs4, r4.deref hs4, q, h4 w4 _ (.refl w4) hs4 (.bl k)⟩
theorem x_tcmp2 {op op' : CmpOp} (hu : X.A.units + 64 < cLine) (ha : L2.PE X a (rdE X.K cl W cf pa)) (hb : L2.PE X b (rdE X.K cl W cf pb)) (hc : L2.PE X c (rdE X.K cl W cf pc)) (hm : lastMarks [op, op'] [b, c] = false) :
    L2.PT X (.Compare a [op, op'] [b, c] pos) (rdT X.K cl W cf (.cmp2 op op' pa pb pc)) := by
  refine PTimp (pt_chain (o_cmp hu op) (o_cmp hu op') ha hb hc hm) fun σ H Q h => ?_
  obtain ⟨w, e, st, rfl, he, hs, h⟩ := h
  simp only [evT] at h
  refine ⟨w, e, st, rfl, he, hs, h.bind.mono fun x H1 ⟨w1, v1, st1, e1, hw1, hs1, r1, h1⟩ => ?_⟩
  subst e1
  refine ⟨w1, e, st1, rfl, he.mono hw1, hs1, h1.bind.mono fun y H2 ⟨w2, v2, st2, e2, hw2, hs2, r2, h2⟩ => ?_⟩
  subst e2
  obtain ⟨k, q, h2⟩ := (h2.bind (R := fun _ a b => a = b)).ofO
  obtain ⟨w3, k', st3, e3, hw3, hs3, rfl, h3⟩ := h2 w2 k (.refl w2) hs2 rfl
  refine ⟨w2, _, _, k', rfl, (r1.mono hw2).deref hs2, r2.deref hs2, q, k', rfl, ?_⟩
  rw [← e3]
  cases k' with
  | false => exact ⟨false, rfl, h3 w3 _ (.refl w3) hs3 rfl⟩
  | true =>
    simp only [ite_true] at h3 ⊢
    have hw := hw2.trans hw3
    refine ⟨w3, e, st3, rfl, he.mono (hw1.trans hw), hs3, h3.bind.mono fun z H4 ⟨w4, v4, st4, e4, hw4, hs4, r4, h4⟩ => ?_⟩
    subst e4
    obtain ⟨k, q, h4⟩ := h4.ofO
    exact ⟨w4, _, _, k, rfl, (r2.mono (hw3.trans hw4)).deref hs4, r4.deref hs4, q, k, rfl, h4 w4 _ (.refl w4) hs4 rfl⟩
/-! and, or, not as values -/
theorem x_b1 {op : BoolOp} (ha : L2.PE X a (rdE X.K cl W cf pa)) : L2.PE X (.BoolOp op [a] pos) (rdB X.K cl W cf op (.cons pa .nil)) := by
  refine PEimp (pe_one ha) fun σ H Q h => ?_
  obtain ⟨w, e, st, rfl, he, hs, h⟩ := h
  simp only [evB] at h
  exact ⟨w, e, st, rfl, he, hs, h⟩
theorem x_b2 {op : BoolOp} {rest : List Expr} {pr : PXs} (ha : L2.PE X a (rdE X.K cl W cf pa)) (hr : L2.PE X (.BoolOp op (b :: rest) pos) (rdB X.K cl W cf op (.cons pb pr))) :
    L2.PE X (.BoolOp op (a :: b :: rest) pos) (rdB X.K cl W cf op (.cons pa (.cons pb pr))) := by
  cases op with
  | And =>
    refine PEimp (pe_and ha hr) fun σ H Q h => ?_
    obtain ⟨w, e, st, rfl, he, hs, h⟩ := h
    simp only [evB] at h
    refine ⟨w, e, st, rfl, he, hs, h.bind.mono fun x H1 ⟨w1, v1, st1, e1, hw1, hs1, r1, h1⟩ => ?_⟩
    subst e1
    cases v1 with
    | bl k =>
      cases r1.bl_inv
      refine ⟨k, rfl, ?_⟩
      cases k with
      | true => exact ⟨w1, e, st1, rfl, he.mono hw1, hs1, by simpa [evB] using h1⟩
      | false => exact h1 w1 _ (.refl w1) hs1 (.bl false)
    | _ => exact h1.elim
  | Or =>
    refine PEimp (pe_or ha hr) fun σ H Q h => ?_
    obtain ⟨w, e, st, rfl, he, hs, h⟩ := h
    simp only [evB] at h
    refine ⟨w, e, st, rfl, he, hs, h.bind.mono fun x H1 ⟨w1, v1, st1, e1, hw1, hs1, r1, h1⟩ => ?_⟩
    subst e1
    cases v1 with
    | bl k =>
      cases r1.bl_inv
      refine ⟨k, rfl, ?_⟩
      cases k with
      | false => exact ⟨w1, e, st1, rfl, he.mono hw1, hs1, by simpa [evB] using h1⟩
      | true => exact h1 w1 _ (.refl w1) hs1 (.bl true)
    | _ => exact h1.elim
theorem x_bop {op : BoolOp} {es : List Expr} {ps : PXs} (h : L2.PE X (.BoolOp op es pos) (rdB X.K cl W cf op ps)) : L2.PE X (.BoolOp op es pos) (rdE X.K cl W cf (.bop op ps)) := by
  refine PEimp h fun σ H Q h => ?_
  obtain ⟨w, e, st, rfl, he, hs, h⟩ := h
  simp only [ev] at h
  exact ⟨w, e, st, rfl, he, hs, h⟩
theorem x_nt (ha : L2.PE X a (rdE X.K cl W cf pa)) : L2.PE X (.UnaryOp .Not a pos) (rdE X.K cl W cf (.nt pa)) := by
  refine PEimp (pe_not ha) fun σ H Q h => ?_
  obtain ⟨w, e, st, rfl, he, hs, h⟩ := h
  simp only [ev] at h
  refine ⟨w, e, st, rfl, he, hs, h.bind.mono fun x H1 ⟨w1, v1, st1, e1, hw1, hs1, r1, h1⟩ => ?_⟩
  subst e1
  cases v1 with
  | bl k =>
    cases r1.bl_inv
    exact ⟨k, rfl, h1 w1 _ (.refl w1) hs1 (.bl _)⟩
  | _ => exact h1.elim
theorem x_neg (ha : L2.PE X a (rdE X.K cl W cf pa)) : L2.PE X (.UnaryOp .USub a pos) (rdE X.K cl W cf (.neg pa)) := by
  refine PEimp (pe_un un_neg ha) fun σ H Q h => ?_
  obtain ⟨w, e, st, rfl, he, hs, h⟩ := h
  simp only [ev] at h
  refine ⟨w, e, st, rfl, he, hs, h.bind.mono fun x H1 ⟨w1, v1, st1, e1, hw1, hs1, r1, h1⟩ => ?_⟩
  subst e1
  cases v1 with
  | int k =>
    cases r1.int_inv
    exact ⟨k, rfl, h1 w1 _ (.refl w1) hs1 (.int _)⟩
  | _ => exact h1.elim
/-! tests -/
theorem x_tval (he : ∀ whole, isTrue a X.env whole = (do let v ← whole; standAt a.pos; holding [v] (truthy v))) (ha : L2.PE X a (rdE X.K cl W cf pa)) : L2.PT X a (rdT X.K cl W cf (.val pa)) := by
  refine PTimp (pt_truth ha he) fun σ H Q h => ?_
  obtain ⟨w, e, st, rfl, he, hs, h⟩ := h
  simp only [evT] at h
  refine ⟨w, e, st, rfl, he, hs, h.bind.mono fun x H1 ⟨w1, v1, st1, e1, hw1, hs1, r1, h1⟩ => ?_⟩
  subst e1
  obtain ⟨k, q, h1⟩ := h1.ofO
  exact ⟨k, truV_ok (r1.deref hs1) q, h1 w1 _ (.refl w1) hs1 rfl⟩
theorem x_tnt {ta : PT} (ha : L2.PT X a (rdT X.K cl W cf ta)) : L2.PT X (.UnaryOp .Not a pos) (rdT X.K cl W cf (.nt ta)) := by
  refine PTimp (pt_not ha) fun σ H Q h => ?_
  obtain ⟨w, e, st, rfl, he, hs, h⟩ := h
  simp only [evT] at h
  refine ⟨w, e, st, rfl, he, hs, h.bind.mono fun x H1 ⟨w1, v1, st1, e1, hw1, hs1, r1, h1⟩ => ?_⟩
  subst e1
  subst r1
  exact h1 w1 _ (.refl w1) hs1 rfl
theorem x_tb1 {op : BoolOp} {ta : PT} (ha : L2.PT X a (rdT X.K cl W cf ta)) : L2.PW X (.BoolOp op [a] pos) (rdBT X.K cl W cf op (.cons ta .nil)) := by
  have g : ∀ σ H Q, rdBT X.K cl W cf op (.cons ta .nil) σ H Q → rdT X.K cl W cf ta σ H Q := fun σ H Q h => by
    obtain ⟨w, e, st, rfl, he, hs, h⟩ := h
    simp only [evBT] at h
    exact ⟨w, e, st, rfl, he, hs, h⟩
  cases op with
  | And => exact PWimp (pw_and1 ha) g
  | Or => exact PWimp (pw_or1 ha) g
theorem x_tb2 {op : BoolOp} {rest : List Expr} {ta tb : PT} {tr : PTs} (ha : L2.PT X a (rdT X.K cl W cf ta)) (hr : L2.PW X (.BoolOp op (b :: rest) pos) (rdBT X.K cl W cf op (.cons tb tr))) :
    L2.PW X (.BoolOp op (a :: b :: rest) pos) (rdBT X.K cl W cf op (.cons ta (.cons tb tr))) := by
  cases op with
  | And =>
    refine PWimp (pw_and ha hr) fun σ H Q h => ?_
    obtain ⟨w, e, st, rfl, he, hs, h⟩ := h
    simp only [evBT] at h
    refine ⟨w, e, st, rfl, he, hs, h.bind.mono fun x H1 ⟨w1, v1, st1, e1, hw1, hs1, r1, h1⟩ => ?_⟩
    subst e1
    subst r1
    cases v1 with
    | true => exact ⟨w1, e, st1, rfl, he.mono hw1, hs1, by simpa [evBT] using h1⟩
    | false => exact h1 w1 _ (.refl w1) hs1 rfl
  | Or =>
    refine PWimp (pw_or ha hr) fun σ H Q h => ?_
    obtain ⟨w, e, st, rfl, he, hs, h⟩ := h
    simp only [evBT] at h
    refine ⟨w, e, st, rfl, he, hs, h.bind.mono fun x H1 ⟨w1, v1, st1, e1, hw1, hs1, r1, h1⟩ => ?_⟩
    subst e1
    subst r1
    cases v1 with
    | false => exact ⟨w1, e, st1, rfl, he.mono hw1, hs1, by simpa [evBT] using h1⟩
    | true => exact h1 w1 _ (.refl w1) hs1 rfl
theorem x_tbop {op : BoolOp} {es : List Expr} {ts : PTs} (h : L2.PW X (.BoolOp op es pos) (rdBT X.K cl W cf op ts)) : L2.PT X (.BoolOp op es pos) (rdT X.K cl W cf (.bop op ts)) := by
  refine PTimp h.pt fun σ H Q h => ?_
  obtain ⟨w, e, st, rfl, he, hs, h⟩ := h
  simp only [evT] at h
  exact ⟨w, e, st, rfl, he, hs, h⟩
theorem x_ite {tc : PT} (hc : L2.PT X c (rdT X.K cl W cf tc)) (ha : L2.PE X a (rdE X.K cl W cf pa)) (hb : L2.PE X b (rdE X.K cl W cf pb)) : L2.PE X (.IfExp c a b pos) (rdE X.K cl W cf (.ite tc pa pb)) := by
  refine PEimp (pe_ifExp hc ha hb) fun σ H Q h => ?_
  obtain ⟨w, e, st, rfl, he, hs, h⟩ := h
  simp only [ev] at h
  refine ⟨w, e, st, rfl, he, hs, h.bind.mono fun x H1 ⟨w1, v1, st1, e1, hw1, hs1, r1, h1⟩ => ?_⟩
  subst e1
  subst r1
  cases v1 with
  | true => exact ⟨w1, e, st1, rfl, he.mono hw1, hs1, h1⟩
  | false => exact ⟨w1, e, st1, rfl, he.mono hw1, hs1, h1⟩
/-! subscripts, slices -/
theorem x_sub (ha : L2.PE X a (rdE X.K cl W cf pa)) (hb : L2.PE X b (rdE X.K cl W cf pb)) (hx : PlainIx b) : L2.PE X (.Subscript a b pos) (rdE X.K cl W cf (.sub pa pb)) := by
  refine PEimp (pe_ix o_at ha hb hx) fun σ H Q h => ?_
  obtain ⟨w, e, st, rfl, he, hs, h⟩ := h
  simp only [ev] at h
  refine ⟨w, e, st, rfl, he, hs, h.bind.mono fun x H1 ⟨w1, v1, st1, e1, hw1, hs1, r1, h1⟩ => ?_⟩
  subst e1
  refine ⟨w1, e, st1, rfl, he.mono hw1, hs1, h1.bind.mono fun y H2 ⟨w2, v2, st2, e2, hw2, hs2, r2, h2⟩ => ?_⟩
  subst e2
  obtain ⟨v, q, h2⟩ := h2.ofO
  exact ⟨w2, st2, _, _, v, rfl, hs2, (r1.mono hw2).deref hs2, r2.wk, q, h2⟩
theorem x_ono : L2.PO X none (rdO X.K cl W cf .no) := by
  refine POimp po_none fun σ H Q h => ?_
  obtain ⟨w, e, st, rfl, he, hs, h⟩ := h
  simp only [evO] at h
  exact h w none (.refl w) hs rfl
theorem x_osome (ha : L2.PE X a (rdE X.K cl W cf pa)) : L2.PO X (some a) (rdO X.K cl W cf (.some pa)) := by
  refine POimp (po_some ha) fun σ H Q h => ?_
  obtain ⟨w, e, st, rfl, he, hs, h⟩ := h
  simp only [evO] at h
  refine ⟨w, e, st, rfl, he, hs, h.bind.mono fun x H1 ⟨w1, v1, st1, e1, hw1, hs1, r1, h1⟩ => ?_⟩
  subst e1
  obtain ⟨o, q, h1⟩ := h1.ofO
  cases v1 with
  | int i =>
    cases r1.int_inv
    simp only [ivO, Option.some.injEq] at q
    subst q
    exact ⟨i, rfl, h1 w1 _ (.refl w1) hs1 rfl⟩
  | _ => simp [ivO] at q
theorem x_slc {lo hi : Option Expr} {pl ph : PO} {p2 : Pos} (ha : L2.PE X a (rdE X.K cl W cf pa)) (hl : L2.PO X lo (rdO X.K cl W cf pl)) (hh : L2.PO X hi (rdO X.K cl W cf ph)) :
    L2.PE X (.Subscript a (.Slice lo hi none p2) pos) (rdE X.K cl W cf (.slc pa pl ph)) := by
  refine PEimp (pe_slice o_sl ha hl hh) fun σ H Q h => ?_
  obtain ⟨w, e, st, rfl, he, hs, h⟩ := h
  simp only [ev] at h
  refine ⟨w, e, st, rfl, he, hs, h.bind.mono fun x H1 ⟨w1, v1, st1, e1, hw1, hs1, r1, h1⟩ => ?_⟩
  subst e1
  refine ⟨w1, e, st1, rfl, he.mono hw1, hs1, h1.bind.mono fun l H2 ⟨w2, v2, st2, e2, hw2, hs2, r2, h2⟩ => ?_⟩
  subst e2
  subst r2
  refine ⟨w2, e, st2, rfl, he.mono (hw1.trans hw2), hs2, h2.bind.mono fun u H3 ⟨w3, v3, st3, e3, hw3, hs3, r3, h3⟩ => ?_⟩
  subst e3
  subst r3
  obtain ⟨v, q, h3⟩ := h3.ofO
  exact ⟨w3, st3, _, v, rfl, hs3, (r1.mono (hw2.trans hw3)).deref hs3, q, h3⟩
/-! lists that may be written -/
theorem x_nlst {es : List Expr} {ps : PXs} (hr : L2.PA X es (rdA X.K cl W cf ps)) : L2.PE X (.List es pos) (rdE X.K cl W cf (.nlst ps)) := by
  refine PEimp (pe_lst hr) fun σ H Q h => ?_
  obtain ⟨w, e, st, rfl, he, hs, h⟩ := h
  simp only [ev] at h
  refine ⟨w, e, st, rfl, he, hs, h.bind.mono fun xs H1 ⟨w1, v1, st1, e1, hw1, hs1, r1, h1⟩ => ?_⟩
  subst e1
  split at h1
  · rename_i hz
    exact ⟨by rw [← r1.length]; exact hz, fun p hp => Gets.loc (fun w' u a b c => h1 w' u a b c) hs1 r1 hp⟩
  · exact h1.elim
theorem x_fz {a : Expr} (ha : L2.PE X a (rdE X.K cl W cf pa)) : L2.PE X a (rdE X.K cl W cf (.fz pa)) := by
  refine PEimp ha fun σ H Q h => ?_
  obtain ⟨w, e, st, rfl, he, hs, h⟩ := h
  simp only [ev] at h
  refine ⟨w, e, st, rfl, he, hs, h.bind.mono fun x H1 ⟨w1, v1, st1, e1, hw1, hs1, r1, h1⟩ => ?_⟩
  subst e1
  have same : fzV v1 st1 = .ok v1 st1 → Q x w1.H := fun z => by
    rw [z] at h1
    exact h1 w1 x (.refl w1) hs1 r1
  cases r1 with
  | ref q =>
    obtain ⟨c, hc, ok⟩ := hs1.cell _ _ q
    cases c with
    | dead => exact ok.elim
    | lst xs =>
      simp only [fzV, hc] at h1
      exact h1 (w1.frz _) _ Wd.frz_le (hs1.frz _) (hs1.frz_rep q hc)
  | gone q =>
    simp only [fzV, hs1.gone _ q] at h1
    exact h1.elim
  | _ => exact same rfl
/-- what a list's method reads -/
def rMth (K : PySem.W.Frag) (cl : Nat → Value) (E : XK) (m : Mth) : V → List V → Hp → VK → Prop := fun x vs H Q =>
  ∃ (w : Wd) (st : Sto) (l : Nat) (a : Addr) (args : List PV), w.H = H ∧ StOk K w st ∧ x = .ref a ∧ w.m[l]? = some (some a) ∧ Reps K w args vs ∧ RdR K cl E (Rep K) w (mthV m (.ref l) args st) Q
theorem StOk.lst_at {K : PySem.W.Frag} {w : Wd} {st : Sto} (h : StOk K w st) {l : Nat} {a : Addr} {xs : List PV} (e : w.m[l]? = some (some a)) (hc : st[l]? = some (.lst xs)) : ∃ us, w.H a = some (.lst us) ∧ Reps K w xs us := by
  obtain ⟨c, hc2, ok⟩ := h.cell l a e
  rw [hc] at hc2
  cases hc2
  exact ok
theorem RdR.wr {K : PySem.W.Frag} {cl : Nat → Value} {E : XK} {w : Wd} {st : Sto} {l : Nat} {a : Addr} {xs : List PV} {us : List V} {v : PV} {u : V} {Q : VK} (ok : StOk K w st) (e : w.m[l]? = some (some a)) (r : Reps K w xs us) (rv : Rep K w v u)
    (h : RdR K cl E (Rep K) w (.ok v (st.set l (.lst xs))) Q) : Q u (upd w.H a (.lst us)) :=
  h (w.lw a us) u (Wd.lw_le (m_mem e)) (ok.lw e r) (rv.mono (Wd.lw_le (m_mem e)))
theorem Reps.one_inv {K : PySem.W.Frag} {w : Wd} {x : PV} {us : List V} (h : Reps K w [x] us) : ∃ u, us = [u] ∧ Rep K w x u := by
  cases h with
  | cons h r => cases r; exact ⟨_, rfl, h⟩
theorem Reps.nil_inv {K : PySem.W.Frag} {w : Wd} {us : List V} (h : Reps K w [] us) : us = [] := by
  cases h; rfl
theorem Reps.dropLast {K : PySem.W.Frag} {w : Wd} : ∀ {xs : List PV} {us : List V}, Reps K w xs us → Reps K w xs.dropLast us.dropLast
  | _, _, .nil => .nil
  | _, _, .cons _ .nil => .nil
  | _, _, .cons h (.cons h' r) => .cons h (Reps.dropLast (.cons h' r))
theorem Reps.eraseIdx {K : PySem.W.Frag} {w : Wd} : ∀ {xs : List PV} {us : List V} (i : Nat), Reps K w xs us → Reps K w (xs.eraseIdx i) (us.eraseIdx i)
  | _, _, _, .nil => .nil
  | _, _, 0, .cons _ r => r
  | _, _, i + 1, .cons h r => .cons h (Reps.eraseIdx i r)
theorem mt_app {E : XK} : MtR X "list.append" (rMth X.K cl E .append) := by
  intro pins s σ H x vs v us Q I rx rv h
  obtain ⟨w, st, l, a, args, rfl, ok, rfl, e, r, h⟩ := h
  rcases args with _ | ⟨y, _ | ⟨_, _⟩⟩
  · exact h.elim
  · obtain ⟨u, rfl, ru⟩ := r.one_inv
    simp only [mthV] at h
    split at h
    · rename_i xs hc
      obtain ⟨ws, hw, rw'⟩ := ok.lst_at e hc
      split at h
      · rename_i hz
        exact mt_append pins s σ w.H _ _ v us Q I rx rv ⟨a, ws, u, rfl, rfl, hw, by rw [← rw'.length]; exact hz, RdR.wr ok e (rw'.append (.cons ru .nil)) .non h⟩
      · exact h.elim
    · exact h.elim
  · exact h.elim
theorem mt_ext {E : XK} : MtR X "list.extend" (rMth X.K cl E .extend) := by
  intro pins s σ H x vs v us Q I rx rv h
  obtain ⟨w, st, l, a, args, rfl, ok, rfl, e, r, h⟩ := h
  rcases args with _ | ⟨y, _ | ⟨_, _⟩⟩
  · exact h.elim
  · obtain ⟨u, rfl, ru⟩ := r.one_inv
    simp only [mthV] at h
    split at h
    · rename_i xs ys hc hy
      obtain ⟨ws, hw, rw'⟩ := ok.lst_at e hc
      have ry := ru.deref ok
      rw [hy] at ry
      obtain ⟨a2, us2, rfl, h2, r2⟩ := ry.lst_inv
      split at h
      · rename_i hz
        exact mt_extend pins s σ w.H _ _ v us Q I rx rv ⟨a, a2, ws, us2, rfl, rfl, hw, h2, by rw [← rw'.length, ← r2.length]; exact hz, RdR.wr ok e (rw'.append r2) .non h⟩
      · exact h.elim
    · exact h.elim
  · exact h.elim
theorem mt_popA {E : XK} : MtR X "list.pop" (rMth X.K cl E .pop) := by
  intro pins s σ H x vs v us Q I rx rv h
  obtain ⟨w, st, l, a, args, rfl, ok, rfl, e, r, h⟩ := h
  rcases args with _ | ⟨y, _ | ⟨_, _⟩⟩
  · cases r.nil_inv
    simp only [mthV] at h
    split at h
    · rename_i xs hc
      obtain ⟨ws, hw, rw'⟩ := ok.lst_at e hc
      split at h
      · rename_i z hz
        obtain ⟨u, hu, ru⟩ := rw'.get hz
        exact mt_pop pins s σ w.H _ _ v us Q I rx rv ⟨a, ws, u, rfl, rfl, hw, by rw [← rw'.length]; exact hu, RdR.wr ok e rw'.dropLast ru h⟩
      · exact h.elim
    · exact h.elim
  · obtain ⟨u, rfl, ru⟩ := r.one_inv
    cases y with
    | int i =>
      cases ru.int_inv
      simp only [mthV] at h
      split at h
      · rename_i xs hc
        obtain ⟨ws, hw, rw'⟩ := ok.lst_at e hc
        split at h
        · rename_i k hk
          split at h
          · rename_i z hz
            obtain ⟨u, hu, ru⟩ := rw'.get hz
            obtain ⟨zz, _, _, _, _⟩ := I.lstM hw
            rw [rw'.length] at hk
            obtain ⟨k1, k2, k3, k4⟩ := ixN_seq hk
            have hs : sizeLine = 16777216 := rfl
            exact mt_popAt pins s σ w.H _ _ v us Q I rx rv ⟨a, ws, i, k, u, rfl, rfl, hw, by omega, by omega, k1, hu, RdR.wr ok e (rw'.eraseIdx k) ru h⟩
          · exact h.elim
        · exact h.elim
      · exact h.elim
    | _ => exact h.elim
  · simp only [mthV] at h
    exact h.elim
theorem live_of {K : PySem.W.Frag} {w : Wd} {st : Sto} {x : PV} {u : V} (ok : StOk K w st) (r : Rep K w x u) (h : liveL x st = true) : ∃ l a us, x = .ref l ∧ u = .ref a ∧ w.m[l]? = some (some a) ∧ w.H a = some (.lst us) := by
  cases r with
  | ref e =>
    obtain ⟨c, hc, o⟩ := ok.cell _ _ e
    cases c with
    | dead => exact o.elim
    | lst xs =>
      obtain ⟨us, hu, _⟩ := o
      exact ⟨_, _, us, rfl, rfl, e, hu⟩
  | gone e => simp [liveL, ok.gone _ e] at h
  | _ => simp [liveL] at h
theorem mth_rd {m : Mth} {qs : PXs} {σ : St} {w : Wd} {e : Env} {st : Sto} {Q : VK} {ta : TE} {tq : TA} (he : EnvOk X.K w e σ)
    (h1 : ∀ Q', RdR X.K cl (WE W σ) (Rep X.K) w (ev cf pa e st) Q' → ta σ w.H Q') (h2 : ∀ (w1 : Wd) (st1 : Sto) Q', w.le w1 → StOk X.K w1 st1 → RdR X.K cl (WE W σ) (Reps X.K) w1 (evs cf qs e st1) Q' → tq σ w1.H Q')
    (h : RdR X.K cl (WE W σ) (Rep X.K) w (ev cf (.mth m pa qs) e st) Q) : ta σ w.H fun x H1 => tyV X.K "list" x H1 ∧ tq σ H1 fun xs H2 => rMth X.K cl (WE W σ) m x xs H2 Q := by
  simp only [ev] at h
  refine h1 _ (h.bind.mono fun x H1 ⟨w1, v1, st1, e1, hw1, hs1, r1, h3⟩ => ?_)
  subst e1
  split at h3
  · rename_i hl
    obtain ⟨l, a, us, rfl, rfl, el, hu⟩ := live_of hs1 r1 hl
    refine ⟨.inl ⟨rfl, us, SqL.of hu⟩, h2 w1 st1 _ hw1 hs1 (h3.bind.mono fun xs H2 ⟨w2, v2, st2, e2, hw2, hs2, r2, h4⟩ => ?_)⟩
    subst e2
    rcases hw2.loc _ _ el with z | z
    · exact ⟨w2, st2, l, a, v2, rfl, hs2, rfl, z, r2, h4⟩
    · exfalso
      have := hs2.gone _ z
      cases m <;> rcases v2 with _ | ⟨y, _ | ⟨_, _⟩⟩ <;> (try cases y) <;> simp only [mthV, this] at h4 <;> exact h4
  · exact h3.elim
end
end PL

/-! PL5: calls, built-ins, what is walked, targets, comprehensions. -/
namespace PL
open PySem L2

/-- the promise of the i-th def -/
def spF (K : PySem.W.Frag) (cl : Nat → Value) (cf : CF) (n i : Nat) : Sp := fun vs H Q E => vs.length = n ∧ ∃ (w : Wd) (st : Sto) (args : List PV), w.H = H ∧ StOk K w st ∧ Reps K w args vs ∧ RdR K cl E (Rep K) w (cf i args st) Q
def PXs.len : PXs → Nat
  | .nil => 0
  | .cons _ r => r.len + 1
theorem evs_len {cf : CF} {e : Env} : ∀ {ps : PXs} {st st' : Sto} {vs : List PV}, evs cf ps e st = .ok vs st' → vs.length = ps.len
  | .nil, st, st', vs, h => by simp only [evs, Res.ok.injEq] at h; rw [← h.1]; rfl
  | .cons a r, st, st', vs, h => by
    simp only [evs] at h
    cases q : ev cf a e st with
    | ok x st1 =>
      rw [q, Res.bind_ok] at h
      cases q2 : evs cf r e st1 with
      | ok xs st2 =>
        rw [q2, Res.bind_ok, Res.ok.injEq] at h
        rw [← h.1, List.length_cons, evs_len q2]; rfl
      | exc c st2 => rw [q2, Res.bind_exc] at h; cases h
      | stuck => rw [q2, Res.bind_stuck] at h; cases h
    | exc c st1 => rw [q, Res.bind_exc] at h; cases h
    | stuck => rw [q, Res.bind_stuck] at h; cases h
/-- what the evaluator says, kept in hand -/
theorem RdR.bindE {α β γ δ : Type} {K : PySem.W.Frag} {cl : Nat → Value} {E : XK} {R : Wd → α → β → Prop} {R' : Wd → γ → δ → Prop} {w : Wd} {r : Res α} {f : α → Sto → Res γ} {Q : δ → Hp → Prop} (h : RdR K cl E R' w (r.bind f) Q) :
    RdR K cl E R w r (fun b H => ∃ (w' : Wd) (a : α) (st : Sto), r = .ok a st ∧ w'.H = H ∧ w.le w' ∧ StOk K w' st ∧ R w' a b ∧ RdR K cl E R' w' (f a st) Q) := by
  cases r with
  | ok a st =>
    intro w' b h1 h2 h3
    obtain ⟨w2, a2, st2, e, g1, g2, g3, g4⟩ := (RdR.bind (R := R) h) w' b h1 h2 h3
    refine ⟨w', a, st, rfl, rfl, h1, h2, h3, ?_⟩
    rw [Res.bind_ok] at h
    cases q : f a st with
    | ok c st2 => rw [q] at h; exact fun w2 d g1 g2 g3 => h w2 d (h1.trans g1) g2 g3
    | exc c st2 => rw [q] at h; exact fun w2 g1 g2 => h w2 (h1.trans g1) g2
    | stuck => rw [q] at h; exact h
  | exc c st => exact h
  | stuck => exact h

section
variable {X : Cx} {cl : Nat → Value} {W : WX} {cf : CF} {pos p : Pos} {a b c : Expr} {pa pb pc : PX} {k : Nat}

theorem x_call {f : Addr} {fd : FuncData} {ps : List Str} {i : Nat} {x : Str} {es : List Expr} {qs : PXs} (F : FnOk X.prog X.w X.K X.mg X.base (L2.CX X.prog X.w) k f fd ps (spF X.K cl cf ps.length i)) (hr : Room k X.A)
    (hg : Gl X x) (hm : X.mg x = some (.ref f)) (hk : PySem.W.keepIn X.K (.ref f) = true) (hb : Binds X.K fd ps []) (tk : Takes X W) (hl : qs.len = ps.length)
    (ha : L2.PA X (a :: es) (rdA X.K cl W cf qs)) (hdb : (x == ("__debug__" : Str)) = false) (he : starEach (a :: es) X.env = (false, eval a X.env) :: starEach es X.env) (hpl : (backTo pos (starEach es X.env)).any (·.1) = false) :
    L2.PE X (.Call (.Name x p) (a :: es) [] pos) (rdE X.K cl W cf (.call i qs)) := by
  refine PEimp (pe_callSD (E := WE W) F hr hg hm hk hb .nil (fun σ => passAt tk σ) ha hdb he hpl) fun σ H Q h => ?_
  obtain ⟨w, e, st, rfl, he, hs, h⟩ := h
  simp only [ev] at h
  refine ⟨w, e, st, rfl, he, hs, h.bindE.mono fun xs H1 ⟨w1, v1, st1, e0, e1, hw1, hs1, r1, h1⟩ => ?_⟩
  subst e1
  rw [List.append_nil]
  exact ⟨by rw [← r1.length, evs_len e0, hl], w1, st1, v1, rfl, hs1, r1, h1⟩
theorem x_call0 {f : Addr} {fd : FuncData} {i : Nat} {x : Str} (F : FnOk X.prog X.w X.K X.mg X.base (L2.CX X.prog X.w) k f fd [] (spF X.K cl cf 0 i)) (hr : Room k X.A)
    (hg : Gl X x) (hm : X.mg x = some (.ref f)) (hk : PySem.W.keepIn X.K (.ref f) = true) (hb : Binds X.K fd [] []) (tk : Takes X W) (hdb : (x == ("__debug__" : Str)) = false) :
    L2.PE X (.Call (.Name x p) [] [] pos) (rdE X.K cl W cf (.call i .nil)) := by
  refine ⟨fun pins s σ H Q I h => ?_⟩
  refine wpAny_Call_Name_kw (ld_glob I hg hm ?_ hdb)
  refine PySem.W.callWith_K0 I.kIn hk ?_
  obtain ⟨w, e, st, rfl, he, hs, h⟩ := h
  simp only [ev, evs, Res.bind_ok] at h
  exact run_fnSD (E := WE W) (us := []) (vs := []) (dvs := []) (ds := []) F hr hb .nil (passAt tk σ) I .nil ⟨rfl, w, st, [], rfl, hs, .nil, h⟩

/-! ### built-ins -/
def RVs (K : PySem.W.Frag) (f : List PV → Option PV) : List V → Hp → VK → Prop := fun xs H Q => ∃ (w : Wd) (st : Sto) (as : List PV) (v : PV), w.H = H ∧ StOk K w st ∧ RepsW K w as xs ∧ f as = some v ∧ Gets K w v st Q
theorem Reps.one {K : PySem.W.Frag} {w : Wd} {v : PV} {us : List V} (h : Reps K w [v] us) : ∃ u, us = [u] ∧ Rep K w v u := by
  cases h with
  | cons h r => cases r; exact ⟨_, rfl, h⟩
theorem Reps.two {K : PySem.W.Frag} {w : Wd} {v v' : PV} {us : List V} (h : Reps K w [v, v'] us) : ∃ u u', us = [u, u'] ∧ Rep K w v u ∧ Rep K w v' u' := by
  cases h with
  | cons h r =>
    obtain ⟨u', rfl, h'⟩ := r.one
    exact ⟨_, u', rfl, h, h'⟩
theorem RepsW.one {K : PySem.W.Frag} {w : Wd} {v : PV} {us : List V} (h : RepsW K w [v] us) : ∃ u, us = [u] ∧ RepW K w v u := by
  cases h with
  | cons h r => cases r; exact ⟨_, rfl, h⟩
theorem RepsW.two {K : PySem.W.Frag} {w : Wd} {v v' : PV} {us : List V} (h : RepsW K w [v, v'] us) : ∃ u u', us = [u, u'] ∧ RepW K w v u ∧ RepW K w v' u' := by
  cases h with
  | cons h r =>
    obtain ⟨u', rfl, h'⟩ := r.one
    exact ⟨_, u', rfl, h, h'⟩
theorem foldl_max_mem : ∀ (ns : List Int) (i : Int), ns.foldl max i ∈ i :: ns
  | [], i => by simp
  | j :: r, i => by
    rw [List.foldl_cons]
    have := foldl_max_mem r (max i j)
    rcases List.mem_cons.mp this with e | e
    · rw [e]
      by_cases h : i ≤ j
      · rw [Int.max_eq_right h]; simp
      · rw [Int.max_eq_left (by omega)]; simp
    · exact List.mem_cons_of_mem _ (List.mem_cons_of_mem _ e)
theorem foldl_max_le : ∀ (ns : List Int) (i : Int), ∀ y ∈ i :: ns, y ≤ ns.foldl max i
  | [], i => by simp
  | j :: r, i => fun y hy => by
    rw [List.foldl_cons]
    have h := foldl_max_le r (max i j)
    have h0 := h (max i j) (by simp)
    rcases List.mem_cons.mp hy with e | e
    · subst e; omega
    · rcases List.mem_cons.mp e with e | e
      · subst e; omega
      · exact h y (List.mem_cons_of_mem _ e)
theorem foldl_min_mem : ∀ (ns : List Int) (i : Int), ns.foldl min i ∈ i :: ns
  | [], i => by simp
  | j :: r, i => by
    rw [List.foldl_cons]
    have := foldl_min_mem r (min i j)
    rcases List.mem_cons.mp this with e | e
    · rw [e]
      by_cases h : i ≤ j
      · rw [Int.min_eq_left h]; simp
      · rw [Int.min_eq_right (by omega)]; simp
    · exact List.mem_cons_of_mem _ (List.mem_cons_of_mem _ e)
theorem foldl_min_le : ∀ (ns : List Int) (i : Int), ∀ y ∈ i :: ns, ns.foldl min i ≤ y
  | [], i => by simp
  | j :: r, i => fun y hy => by
    rw [List.foldl_cons]
    have h := foldl_min_le r (min i j)
    have h0 := h (min i j) (by simp)
    rcases List.mem_cons.mp hy with e | e
    · subst e; omega
    · rcases List.mem_cons.mp e with e | e
      · subst e; omega
      · exact h y (List.mem_cons_of_mem _ e)
theorem c_len : CallR X (.builtin "len") (RVs X.K (biV .len)) := by
  intro pins s σ H xs us Q I r h
  obtain ⟨w, st, as, v, rfl, ok, ra, e, g⟩ := h
  simp only [biV] at e
  unfold bLen at e
  split at e
  all_goals try contradiction
  rename_i a
  obtain ⟨u, rfl, ru⟩ := ra.one
  have fin : ∀ n : Nat, lenV a = some (.int n) → LenV X.K u w.H n → wpAny (model X.prog X.w) X.A (call (.builtin "len") us) (EP X pins σ Q) X.xe s := fun n e1 hl => by
    rw [e1] at e
    cases e
    exact call_len pins s σ w.H _ us Q I r ⟨u, n, rfl, hl, g.same ok (.int _)⟩
  rcases ru with ru | ⟨_, _, _, rfl, rfl, h, q⟩
  case inr => exact fin _ rfl (.inl ⟨_, SqL.of h, q.length⟩)
  cases ru with
  | str z hz => exact fin _ rfl ⟨hz, by rw [len_eq]⟩
  | tup h q => exact fin _ rfl (.inr ⟨_, h.sq, q.length⟩)
  | lst h n q => exact fin _ rfl (.inl ⟨_, SqL.of h, q.length⟩)
  | scr h => exact fin _ rfl (.inl ⟨_, h.sq, by simp⟩)
  | _ => simp [lenV] at e
theorem c_max1 (hc : X.calm = true) : CallR X (.builtin "max") (RVs X.K (biV .max1)) := by
  intro pins s σ H xs us Q I r h
  obtain ⟨w, st, as, v, rfl, ok, ra, e, g⟩ := h
  simp only [biV] at e
  unfold bMax1 at e
  split at e
  all_goals try contradiction
  rename_i ys
  obtain ⟨u, rfl, ru⟩ := ra.one
  obtain ⟨a1, us1, rfl, h1, r1⟩ := ru.lst_inv
  cases q : intsV ys with
  | none => rw [q] at e; cases e
  | some ns =>
    rw [q] at e
    simp only [Option.bind_some, Option.map_eq_some_iff] at e
    obtain ⟨m, e, rfl⟩ := e
    have hv := r1.ints q
    subst hv
    cases ns with
    | nil => cases e
    | cons i ns =>
      simp only [maxI, Option.some.injEq] at e
      subst e
      refine cr_max hc pins s σ w.H _ us Q I r ⟨a1, i :: ns, rfl, SqL.of h1, by simp, fun m hm hle => ?_⟩
      have e1 : m = ns.foldl max i := Int.le_antisymm (foldl_max_le ns i m hm) (hle _ (foldl_max_mem ns i))
      rw [e1]
      exact g.same ok (.int _)
mutual
theorem PV.toD_inj : ∀ (a b : PV), a.isData = true → b.isData = true → a.toD = b.toD → a = b
  | .non, b, _, h, e => by cases b <;> simp_all [PV.toD, PV.isData]
  | .bl _, b, _, h, e => by cases b <;> simp_all [PV.toD, PV.isData]
  | .int _, b, _, h, e => by cases b <;> simp_all [PV.toD, PV.isData]
  | .str _, b, _, h, e => by cases b <;> simp_all [PV.toD, PV.isData]
  | .scr _, b, h, _, e => by simp [PV.isData] at h
  | .ref _, b, h, _, e => by simp [PV.isData] at h
  | .tup xs, b, ha, h, e => by
    cases b with
    | tup ys =>
      simp only [PV.toD, PyData.tuple.injEq] at e
      simp only [PV.isData] at ha h
      rw [PV.toDs_inj xs ys ha h e]
    | _ => simp [PV.toD, PV.isData] at e h
  | .lst xs, b, ha, h, e => by
    cases b with
    | lst ys =>
      simp only [PV.toD, PyData.list.injEq] at e
      simp only [PV.isData] at ha h
      rw [PV.toDs_inj xs ys ha h e]
    | _ => simp [PV.toD, PV.isData] at e h
theorem PV.toDs_inj : ∀ (a b : List PV), PV.areData a = true → PV.areData b = true → PV.toDs a = PV.toDs b → a = b
  | [], [], _, _, _ => rfl
  | [], _ :: _, _, _, e => by simp [PV.toDs] at e
  | _ :: _, [], _, _, e => by simp [PV.toDs] at e
  | x :: xs, y :: ys, ha, hb, e => by
    simp only [PV.toDs, List.cons.injEq] at e
    simp only [PV.areData, Bool.and_eq_true] at ha hb
    rw [PV.toD_inj x y ha.1 hb.1 e.1, PV.toDs_inj xs ys ha.2 hb.2 e.2]
end
theorem toDs_map : ∀ xs : List PV, PV.toDs xs = xs.map PV.toD
  | [] => by simp [PV.toDs]
  | x :: r => by simp [PV.toDs, toDs_map r]
theorem areData_iff : ∀ {xs : List PV}, PV.areData xs = true ↔ ∀ x ∈ xs, x.isData = true
  | [] => by simp [PV.areData]
  | x :: r => by simp [PV.areData, areData_iff (xs := r)]
theorem minV_fold : ∀ (xs : List PV) (x : PV), (xs.foldl (fun a y => if PySem.W.dataLt y.toD a.toD then y else a) x).toD = (PV.toDs xs).foldl (fun a y => if PySem.W.dataLt y a then y else a) x.toD ∧ xs.foldl (fun a y => if PySem.W.dataLt y.toD a.toD then y else a) x ∈ x :: xs
  | [], x => by simp [PV.toDs]
  | y :: r, x => by
    have ih := minV_fold r (if PySem.W.dataLt y.toD x.toD then y else x)
    simp only [List.foldl_cons, PV.toDs]
    refine ⟨?_, ?_⟩
    · rw [ih.1]
      congr 1
      split <;> rfl
    · rcases List.mem_cons.mp ih.2 with z | z
      · rw [z]
        split
        · simp
        · simp
      · exact List.mem_cons_of_mem _ (List.mem_cons_of_mem _ z)
theorem toD_none {x : PV} (h : x.isData = true) (e : x.toD = .none) : x = .non := by cases x <;> simp [PV.toD, PV.isData] at e h ⊢
theorem c_min1 (hc : X.calm = true) (hu : X.A.units + 64 < cLine) : CallR X (.builtin "min") (RVs X.K (biV .min1)) := by
  intro pins s σ H xs us Q I r h
  obtain ⟨w, st, as, v, rfl, ok, ra, e, g⟩ := h
  simp only [biV] at e
  unfold bMin1 at e
  split at e
  all_goals try contradiction
  rename_i ys
  obtain ⟨u, rfl, ru⟩ := ra.one
  obtain ⟨a1, us1, rfl, h1, r1⟩ := ru.lst_inv
  cases q : intsV ys with
  | none =>
    rw [q] at e
    simp only at e
    cases ys with
    | nil => simp [minV] at e
    | cons y ys =>
      simp only [minV, Option.ite_none_right_eq_some, Option.some.injEq, ordOk, Bool.and_eq_true, decide_eq_true_eq, List.all_eq_true] at e
      obtain ⟨⟨⟨⟨hd, hdep⟩, hal⟩, hnn⟩, rfl⟩ := e
      obtain ⟨its, rv, hl, _⟩ := I.list (SqL.of h1)
      obtain ⟨bs0, hr⟩ := Dp.readsAll I _ _ _ (r1.dp hd) rv
      rw [Vals.ref1 r]
      have hfold := minV_fold ys y
      have hda := areData_iff.mp hd
      have hal2 : PySem.W.AlikeAll (PV.toDs (y :: ys)) := ⟨hal, fun d hd' z => by
        rw [toDs_map] at hd'
        obtain ⟨x, hx, e⟩ := List.mem_map.mp hd'
        have := hnn x hx
        have e2 := toD_none (hda x hx) (e.trans z)
        subst e2
        simp at this⟩
      refine PySem.W.min_list_data (x := y.toD) (xs := PV.toDs ys) (I.ok.hd hc) hl.isList (by simpa [PV.toDs] using hr) (by simpa [PV.toDs] using hal2) (by simp only [PV.toDs] at hdep; omega) fun i v h' tk bs hv hrd hk => ?_
      have hi : i < its.length := by
        rw [List.getElem?_toArray] at hv
        exact (List.getElem?_eq_some_iff.mp hv).1
      have hlen := rv.length
      obtain ⟨yv, hyv⟩ : ∃ yv, (y :: ys)[i]? = some yv := ⟨_, List.getElem?_eq_getElem (by rw [r1.length, hlen]; exact hi)⟩
      obtain ⟨u2, hu2, ru2⟩ := r1.get hyv
      obtain ⟨v2, hv2, rv2⟩ := rv.get hu2
      rw [List.getElem?_toArray] at hv
      rw [hv] at hv2
      cases hv2
      have hyd := hda yv (List.mem_of_getElem? hyv)
      obtain ⟨cs, hrv⟩ := Dp.reads I _ _ _ (ru2.dp hyd) rv2
      have hmem : yv.toD ∈ PV.toDs (y :: ys) := by rw [toDs_map]; exact List.mem_map_of_mem (List.mem_of_getElem? hyv)
      have hmem2 : PySem.W.minD y.toD (PV.toDs ys) ∈ PV.toDs (y :: ys) := by
        have e1 := hfold.1
        unfold PySem.W.minD
        rw [← e1, toDs_map]
        exact List.mem_map_of_mem hfold.2
      have heq := PySem.W.alike_unique _ _ _ _ _ (hal _ hmem2 _ hmem) hrd (PySem.W.reads_keeps hk hrv)
      have hfin : ys.foldl (fun a y => if PySem.W.dataLt y.toD a.toD then y else a) y = yv := by
        refine PV.toD_inj _ _ (hda _ hfold.2) hyd ?_
        rw [hfold.1]; exact heq
      rw [hfin] at g
      exact ⟨u2, w.H, I.kept hk, rv2, g.same ok ru2⟩
  | some ns =>
    rw [q] at e
    simp only [Option.map_eq_some_iff] at e
    obtain ⟨m, e, rfl⟩ := e
    have hv := r1.ints q
    subst hv
    cases ns with
    | nil => cases e
    | cons i ns =>
      simp only [minI, Option.some.injEq] at e
      subst e
      refine cr_min hc pins s σ w.H _ us Q I r ⟨a1, i :: ns, rfl, SqL.of h1, by simp, fun m hm hle => ?_⟩
      have e1 : m = ns.foldl min i := Int.le_antisymm (hle _ (foldl_min_mem ns i)) (foldl_min_le ns i m hm)
      rw [e1]
      exact g.same ok (.int _)
theorem c_max2 (hc : X.calm = true) : CallR X (.builtin "max") (RVs X.K (biV .max2)) := by
  intro pins s σ H xs us Q I r h
  obtain ⟨w, st, as, v, rfl, ok, ra, e, g⟩ := h
  simp only [biV] at e
  unfold bMax2 at e
  split at e
  all_goals try contradiction
  cases e
  obtain ⟨u, u', rfl, r1, r2⟩ := ra.two
  cases r1.int_inv; cases r2.int_inv
  exact call_max2 hc pins s σ w.H _ us Q I r ⟨_, _, rfl, g.same ok (.int _)⟩
theorem c_min2 (hc : X.calm = true) : CallR X (.builtin "min") (RVs X.K (biV .min2)) := by
  intro pins s σ H xs us Q I r h
  obtain ⟨w, st, as, v, rfl, ok, ra, e, g⟩ := h
  simp only [biV] at e
  unfold bMin2 at e
  split at e
  all_goals try contradiction
  cases e
  obtain ⟨u, u', rfl, r1, r2⟩ := ra.two
  cases r1.int_inv; cases r2.int_inv
  exact call_min2 hc pins s σ w.H _ us Q I r ⟨_, _, rfl, g.same ok (.int _)⟩
theorem c_sum (hc : X.calm = true) : CallR X (.builtin "sum") (RVs X.K (biV .sum)) := by
  intro pins s σ H xs us Q I r h
  obtain ⟨w, st, as, v, rfl, ok, ra, e, g⟩ := h
  simp only [biV] at e
  unfold bSum at e
  split at e
  all_goals try contradiction
  rename_i ys
  obtain ⟨u, rfl, ru⟩ := ra.one
  obtain ⟨a1, us1, rfl, h1, r1⟩ := ru.lst_inv
  rw [Option.map_eq_some_iff] at e
  obtain ⟨ns, q, rfl⟩ := e
  have hv := r1.ints q
  subst hv
  exact cr_sum hc pins s σ w.H _ us Q I r ⟨a1, ns, rfl, SqL.of h1, g.same ok (.int _)⟩
theorem c_all (hc : X.calm = true) : CallR X (.builtin "all") (RVs X.K (biV .all)) := by
  intro pins s σ H xs us Q I r h
  obtain ⟨w, st, as, v, rfl, ok, ra, e, g⟩ := h
  simp only [biV] at e
  unfold bAll at e
  split at e
  all_goals try contradiction
  rename_i ys
  obtain ⟨u, rfl, ru⟩ := ra.one
  obtain ⟨a1, us1, rfl, h1, r1⟩ := ru.lst_inv
  rw [Option.map_eq_some_iff] at e
  obtain ⟨ns, q, rfl⟩ := e
  have hv := r1.bls q
  subst hv
  exact cr_all hc pins s σ w.H _ us Q I r ⟨a1, ns, rfl, SqL.of h1, g.same ok (.bl _)⟩
theorem c_any (hc : X.calm = true) : CallR X (.builtin "any") (RVs X.K (biV .any)) := by
  intro pins s σ H xs us Q I r h
  obtain ⟨w, st, as, v, rfl, ok, ra, e, g⟩ := h
  simp only [biV] at e
  unfold bAny at e
  split at e
  all_goals try contradiction
  rename_i ys
  obtain ⟨u, rfl, ru⟩ := ra.one
  obtain ⟨a1, us1, rfl, h1, r1⟩ := ru.lst_inv
  rw [Option.map_eq_some_iff] at e
  obtain ⟨ns, q, rfl⟩ := e
  have hv := r1.bls q
  subst hv
  exact cr_any hc pins s σ w.H _ us Q I r ⟨a1, ns, rfl, SqL.of h1, g.same ok (.bl _)⟩
theorem c_tuple : CallR X (.type "tuple") (RVs X.K (biV .tuple)) := by
  intro pins s σ H xs us Q I r h
  obtain ⟨w, st, as, v, rfl, ok, ra, e, g⟩ := h
  simp only [biV] at e
  unfold bTuple at e
  split at e
  all_goals try contradiction
  · cases e
    obtain ⟨u, rfl, ru⟩ := ra.one
    obtain ⟨a1, us1, rfl, h1, r1⟩ := ru.lst_inv
    exact call_tuple_of pins s σ w.H _ us Q I r ⟨a1, us1, rfl, .inl ⟨SqL.of h1, fun p hp => g.tup ok r1 hp⟩⟩
  · cases e
    obtain ⟨u, rfl, ru⟩ := ra.one
    obtain ⟨a1, us1, rfl, h1, r1⟩ := id ru.tup_inv
    exact call_tuple_of pins s σ w.H _ us Q I r ⟨a1, us1, rfl, .inr ⟨h1.sq, g.same ok ru.tup_rep⟩⟩
theorem c_list : CallR X (.type "list") (RVs X.K (biV .list)) := by
  intro pins s σ H xs us Q I r h
  obtain ⟨w, st, as, v, rfl, ok, ra, e, g⟩ := h
  simp only [biV] at e
  unfold bList at e
  split at e
  all_goals try contradiction
  · cases e
    obtain ⟨u, rfl, ru⟩ := ra.one
    obtain ⟨a1, us1, rfl, h1, r1⟩ := ru.lst_inv
    exact call_list_of pins s σ w.H _ us Q I r ⟨a1, us1, rfl, .inl (SqL.of h1), fun p hp => g.lst ok r1 hp⟩
  · cases e
    obtain ⟨u, rfl, ru⟩ := ra.one
    obtain ⟨a1, us1, rfl, h1, r1⟩ := id ru.tup_inv
    exact call_list_of pins s σ w.H _ us Q I r ⟨a1, us1, rfl, .inr h1.sq, fun p hp => g.lst ok r1 hp⟩
theorem c_int : CallR X (.type "int") (RVs X.K (biV .int)) := by
  intro pins s σ H xs us Q I r h
  obtain ⟨w, st, as, v, rfl, ok, ra, e, g⟩ := h
  simp only [biV] at e
  unfold bInt at e
  split at e
  all_goals try contradiction
  · cases e
    obtain ⟨u, rfl, ru⟩ := ra.one
    cases ru.int_inv
    exact call_int1 pins s σ w.H _ us Q I r (.inl ⟨_, rfl, g.same ok (.int _)⟩)
  · cases e
    obtain ⟨u, rfl, ru⟩ := ra.one
    cases ru.bl_inv
    exact call_int1 pins s σ w.H _ us Q I r (.inr ⟨_, rfl, g.same ok (.int _)⟩)
theorem c_bi (hc : X.calm = true) (hu : X.A.units + 64 < cLine) (b : Bi) : (∃ id, bootBuiltins b.name = some (.builtin id) ∧ CallR X (.builtin id) (RVs X.K (biV b))) ∨ ∃ T, bootBuiltins b.name = some (.type T) ∧ CallR X (.type T) (RVs X.K (biV b)) := by
  cases b with
  | len => exact .inl ⟨_, boot_len, c_len⟩
  | max1 => exact .inl ⟨_, PyProof.Rows.boot_max, c_max1 hc⟩
  | max2 => exact .inl ⟨_, PyProof.Rows.boot_max, c_max2 hc⟩
  | min1 => exact .inl ⟨_, PyProof.Rows.boot_min, c_min1 hc hu⟩
  | min2 => exact .inl ⟨_, PyProof.Rows.boot_min, c_min2 hc⟩
  | sum => exact .inl ⟨_, PyProof.Rows.boot_sum, c_sum hc⟩
  | all => exact .inl ⟨_, PyProof.Rows.boot_all, c_all hc⟩
  | any => exact .inl ⟨_, PyProof.Rows.boot_any, c_any hc⟩
  | tuple => exact .inr ⟨_, PyProof.Rows.boot_tuple, c_tuple⟩
  | list => exact .inr ⟨_, PyProof.Rows.boot_list, c_list⟩
  | int => exact .inr ⟨_, PyProof.Rows.boot_int, c_int⟩
theorem Bi.ok1 (b : Bi) : b.name ≠ "__name__" := by cases b <;> decide
theorem Bi.ok2 (b : Bi) : (b.name == ("__debug__" : Str)) = false := by cases b <;> decide
theorem x_bi {bi : Bi} {es : List Expr} {qs : PXs} (hc : X.calm = true) (hu : X.A.units + 64 < cLine) (hg : Gl X bi.name) (hm : X.mg bi.name = none) (ha : L2.PA X (a :: es) (rdA X.K cl W cf qs))
    (he : starEach (a :: es) X.env = (false, eval a X.env) :: starEach es X.env) (hpl : (backTo pos (starEach es X.env)).any (·.1) = false) :
    L2.PE X (.Call (.Name bi.name p) (a :: es) [] pos) (rdE X.K cl W cf (.bi bi qs)) := by
  have main : ∀ r, L2.PE X (.Call (.Name bi.name p) (a :: es) [] pos) (tCB r (rdA X.K cl W cf qs)) → r = RVs X.K (biV bi) → L2.PE X (.Call (.Name bi.name p) (a :: es) [] pos) (rdE X.K cl W cf (.bi bi qs)) := fun r h e => by
    subst e
    refine PEimp h fun σ H Q h => ?_
    obtain ⟨w, e, st, rfl, he, hs, h⟩ := h
    simp only [ev] at h
    refine ⟨w, e, st, rfl, he, hs, h.bind.mono fun xs H1 ⟨w1, v1, st1, e1, hw1, hs1, r1, h1⟩ => ?_⟩
    subst e1
    obtain ⟨v, q, h1⟩ := h1.ofO
    exact ⟨w1, st1, _, v, rfl, hs1, r1.derefs hs1, q, h1⟩
  rcases c_bi hc hu bi with ⟨id, e, c⟩ | ⟨T, e, c⟩
  · exact main _ (pe_callB c hg hm e ha bi.ok1 bi.ok2 he hpl) rfl
  · exact main _ (pe_callTy c hg hm e ha bi.ok1 bi.ok2 he hpl) rfl

/-- list(..), to be written -/
theorem c_nof : CallR X (.type "list") (fun xs H Q => ∃ (w : Wd) (st : Sto) (a : PV) (x : V) (ys : List PV), w.H = H ∧ StOk X.K w st ∧ xs = [x] ∧ RepW X.K w a x ∧ bList [a] = some (.lst ys) ∧ Gets X.K w (.ref st.length) (st ++ [.lst ys]) Q) := by
  intro pins s σ H xs us Q I r h
  obtain ⟨w, st, a, x, ys, rfl, ok, rfl, ra, e, g⟩ := h
  unfold bList at e
  split at e
  all_goals try contradiction
  · rename_i z
    simp only [List.cons.injEq, and_true] at z
    cases e
    subst z
    obtain ⟨a1, us1, rfl, h1, r1⟩ := ra.lst_inv
    exact call_list_of pins s σ w.H _ us Q I r ⟨a1, us1, rfl, .inl (SqL.of h1), fun p hp => g.loc ok r1 hp⟩
  · rename_i z
    simp only [List.cons.injEq, and_true] at z
    cases e
    subst z
    obtain ⟨a1, us1, rfl, h1, r1⟩ := ra.tup_inv
    exact call_list_of pins s σ w.H _ us Q I r ⟨a1, us1, rfl, .inr h1.sq, fun p hp => g.loc ok r1 hp⟩
theorem x_nof (hg : Gl X "list") (hm : X.mg "list" = none) (ha : L2.PE X a (rdE X.K cl W cf pa)) (he : starEach [a] X.env = (false, eval a X.env) :: starEach [] X.env) :
    L2.PE X (.Call (.Name "list" p) [a] [] pos) (rdE X.K cl W cf (.nof pa)) := by
  refine PEimp (pe_callTy c_nof hg hm PyProof.Rows.boot_list (x_cons ha x_nil he) (by decide) (by decide) he rfl) fun σ H Q h => ?_
  obtain ⟨w, e, st, rfl, he, hs, h⟩ := h
  simp only [ev] at h
  refine ⟨w, e, st, rfl, he, hs, ?_⟩
  simp only [evs]
  cases q : ev cf pa e st with
  | ok v st1 =>
    rw [q] at h
    simp only [Res.bind_ok] at h ⊢
    intro w1 us hw1 hs1 r1
    obtain ⟨u, rfl, ru⟩ := r1.one
    cases q2 : bList [deref st1 v] with
    | none => rw [q2] at h; exact h.elim
    | some y =>
      rw [q2] at h
      cases y with
      | lst ys => exact ⟨w1, st1, _, u, ys, rfl, hs1, rfl, ru.deref hs1, q2, fun w' z a b c => h w' z (hw1.trans a) b c⟩
      | _ => exact h.elim
  | exc c st1 => rw [q] at h; exact h
  | stuck => rw [q] at h; exact h.elim

/-! ### what is walked -/
/-- J walks the items, whatever the world becomes -/
def IsIt (K : PySem.W.Frag) (w : Wd) (items : List PV) (J : It) : Prop := ∀ (w2 : Wd) (st2 : Sto), w.le w2 → StOk K w2 st2 →
  (∀ i, i < items.length → J.go i w2.H ∧ ∀ x H', J.yld i w2.H x H' → ∃ (w3 : Wd) (v : PV), w3.H = H' ∧ w2.le w3 ∧ StOk K w3 st2 ∧ items[i]? = some v ∧ Rep K w3 v x) ∧ J.stop items.length w2.H
def rdI (K : PySem.W.Frag) (cl : Nat → Value) (W : WX) (cf : CF) (p : Src) : TI := fun σ H R =>
  ∃ (w : Wd) (e : Env) (st : Sto), w.H = H ∧ EnvOk K w e σ ∧ StOk K w st ∧ RdR K cl (WE W σ) (IsIt K) w (evI cf p e st) R
theorem isIt_tup {K : PySem.W.Frag} {w : Wd} {items : List PV} {us : List V} {a1 : Addr} (h : SqI K w a1 us) (r : Reps K w items us) : IsIt K w items (Itt K a1) := fun w2 st2 hw hs => by
  have h2 := h.mono hw
  have r2 := r.mono hw
  refine ⟨fun i hi => ?_, ⟨us, h2.sq, by rw [← r.length]; exact Nat.le_refl _⟩⟩
  obtain ⟨u, hu, ru⟩ := r2.get (List.getElem?_eq_getElem hi)
  refine ⟨⟨us, u, h2.sq, hu⟩, fun x H' hy => ?_⟩
  obtain ⟨rfl, hy⟩ := hy
  have e := hy us h2.sq
  rw [hu] at e
  cases e
  exact ⟨w2, _, rfl, .refl w2, hs, List.getElem?_eq_getElem hi, ru⟩
theorem isIt_lst {K : PySem.W.Frag} {w : Wd} {items : List PV} {us : List V} {a1 : Addr} (h : w.H a1 = some (.lst us)) (n : some a1 ∉ w.m) (r : Reps K w items us) : IsIt K w items (Itl K a1) := fun w2 st2 hw hs => by
  have h2 := hw.keep _ _ h n
  have r2 := r.mono hw
  refine ⟨fun i hi => ?_, ⟨us, SqL.of h2, by rw [← r.length]; exact Nat.le_refl _⟩⟩
  obtain ⟨u, hu, ru⟩ := r2.get (List.getElem?_eq_getElem hi)
  refine ⟨⟨us, u, SqL.of h2, hu⟩, fun x H' hy => ?_⟩
  obtain ⟨rfl, hy⟩ := hy
  have e := hy us (SqL.of h2)
  rw [hu] at e
  cases e
  exact ⟨w2, _, rfl, .refl w2, hs, List.getElem?_eq_getElem hi, ru⟩
theorem isIt_str {K : PySem.W.Frag} {w : Wd} {z : Str} : IsIt K w (z.cps.toList.map fun c => .str [c]) (Its z) := fun w2 st2 hw hs => by
  have wk := walk_str (z := z)
  rw [List.length_map]
  have hl : z.cps.toList.length = z.cps.size := by simp
  refine ⟨fun i hi => ⟨wk.goes i w2.H (by omega) trivial, fun x H' hy => ?_⟩, ?_⟩
  · obtain ⟨rfl, c, hc, rfl⟩ := wk.yields i w2.H x H' (by omega) trivial hy
    refine ⟨w2, .str [c], rfl, .refl w2, hs, ?_, Rep.ofStr (by show 1 ≤ sizeLine; decide)⟩
    rw [List.getElem?_map, Array.getElem?_toList, hc]; rfl
  · show z.cps.size ≤ _
    omega
theorem isIt_rng {K : PySem.W.Frag} {w : Wd} {lo : Int} {n : Nat} : IsIt K w (rngL lo 1 n) (Itr lo n) := fun w2 st2 hw hs => by
  have hl : (rngL lo 1 n).length = n := by unfold rngL; simp
  rw [hl]
  refine ⟨fun i hi => ⟨hi, fun x H' hy => ?_⟩, Nat.le_refl n⟩
  obtain ⟨rfl, rfl⟩ := hy
  refine ⟨w2, .int (lo + i), rfl, .refl w2, hs, ?_, .int _⟩
  unfold rngL
  rw [List.getElem?_map, List.getElem?_range hi]
  simp
theorem isIt_rngC {K : PySem.W.Frag} {w : Wd} {lo c : Int} {n : Nat} : IsIt K w (rngL lo c n) (Itc lo c n) := fun w2 st2 hw hs => by
  have hl : (rngL lo c n).length = n := by unfold rngL; simp
  have wk := walk_rangeC (lo := lo) (c := c) (n := n)
  rw [hl]
  refine ⟨fun i hi => ⟨wk.goes i w2.H hi trivial, fun x H' hy => ?_⟩, Nat.le_refl n⟩
  obtain ⟨rfl, rfl⟩ := wk.yields i w2.H x H' hi trivial hy
  refine ⟨w2, .int (lo + i * c), rfl, .refl w2, hs, ?_, .int _⟩
  unfold rngL
  rw [List.getElem?_map, List.getElem?_range hi]
  simp
variable {tg : Expr}
theorem x_seq (ha : L2.PE X a (rdE X.K cl W cf pa)) : PI X tg a (rdI X.K cl W cf (.seq pa)) := by
  refine ⟨fun pins s σ H R I h => ?_⟩
  obtain ⟨w, e, st, rfl, he, hs, h⟩ := h
  simp only [evI] at h
  have q : rdE X.K cl W cf pa σ w.H (fun x H1 => ∃ (w1 : Wd) (items : List PV) (st1 : Sto) (v1 : PV), w1.H = H1 ∧ StOk X.K w1 st1 ∧ Rep X.K w1 v1 x ∧ itV v1 = some items ∧ ∀ J, IsIt X.K w1 items J → R J H1) := by
    refine ⟨w, e, st, rfl, he, hs, h.bind.mono fun x H1 ⟨w1, v1, st1, e1, hw1, hs1, r1, h1⟩ => ?_⟩
    subst e1
    obtain ⟨items, q, h1⟩ := h1.ofO
    exact ⟨w1, items, st1, v1, rfl, hs1, r1, q, fun J hJ => h1 w1 J (.refl w1) hs1 hJ⟩
  refine thn (ha.run pins s σ w.H _ I q) fun v s1 ⟨x, H1, I1, r1, w1, items, st1, v1, e1, hs1, rr, hi, g⟩ => ?_
  subst e1
  cases rr with
  | str z hz =>
    simp only [itV, Option.some.injEq] at hi
    subst hi
    obtain ⟨t, rfl⟩ := r1
    have q := g _ (isIt_str (z := z))
    cases hal : z.cps.all (· < 128)
    · exact wpAny_pyIter_wide hal (pi_one (tk := s1.toks) I1 _ (turn_str _ z t "str_iterator" (.inr rfl)) ⟨_, Heap.get?_push_size _ rfl, rfl, rfl⟩ q)
    · exact wpAny_pyIter_ascii hal (pi_one (tk := s1.toks) I1 _ (turn_str _ z t "str_ascii_iterator" (.inl rfl)) ⟨_, Heap.get?_push_size _ rfl, rfl, rfl⟩ q)
  | tup h2 q2 =>
    simp only [itV, Option.some.injEq] at hi
    subst hi
    cases r1
    obtain ⟨its, rv, p, hz⟩ := I1.tuple h2.sq
    exact wpAny_pyIter_tuple (show s1.heap.IsTuple _ its.toArray from p) (pi_one (tk := s1.toks) I1 _ (turn_tuple _ _) ⟨_, Heap.get?_push_size _ rfl, rfl, rfl⟩ (g _ (isIt_tup h2 q2)))
  | lst h2 n2 q2 =>
    simp only [itV, Option.some.injEq] at hi
    subst hi
    cases r1
    obtain ⟨its, rv, p, hz⟩ := I1.list (SqL.of h2)
    exact wpAny_pyIter_list p.isList (pi_one (tk := s1.toks) I1 _ (turn_list _ _) ⟨_, Heap.get?_push_size _ rfl, rfl, rfl⟩ (g _ (isIt_lst h2 n2.1 q2)))
  | _ => simp [itV] at hi
theorem PIimp {t t' : TI} (h : PI X tg a t) (f : ∀ σ H R, t' σ H R → t σ H R) : PI X tg a t' := ⟨fun pins s σ H R I q => h.run pins s σ H R I (f σ H R q)⟩
theorem small62_iff {i : Int} : small62 i = true ↔ -(2 ^ 62) ≤ i ∧ i < 2 ^ 62 := by
  unfold small62
  simp only [Bool.and_eq_true, decide_eq_true_eq]
theorem rd_args {ps : PXs} {σ : St} {H : Hp} {R : It → Hp → Prop} (h : rdI X.K cl W cf (.rng ps) σ H R) :
    rdA X.K cl W cf ps σ H fun vs H1 => ∃ (w1 : Wd) (items : List PV) (v1 : List PV), w1.H = H1 ∧ Reps X.K w1 v1 vs ∧ rngV v1 = some items ∧ ∀ J, IsIt X.K w1 items J → R J H1 := by
  obtain ⟨w, e, st, rfl, he, hs, h⟩ := h
  simp only [evI] at h
  refine ⟨w, e, st, rfl, he, hs, h.bind.mono fun x H1 ⟨w1, v1, st1, e1, hw1, hs1, r1, h1⟩ => ?_⟩
  subst e1
  obtain ⟨items, q, h1⟩ := h1.ofO
  exact ⟨w1, items, v1, rfl, r1, q, fun J hJ => h1 w1 J (.refl w1) hs1 hJ⟩
theorem Reps.cons_inv {K : PySem.W.Frag} {w : Wd} {u : V} {us : List V} {vs : List PV} (h : Reps K w vs (u :: us)) : ∃ x xs, vs = x :: xs ∧ Rep K w x u ∧ Reps K w xs us := by
  cases h with
  | cons h r => exact ⟨_, _, rfl, h, r⟩
theorem tA1 {ta : TA} {Q : List V → Hp → Prop} {σ : St} {H : Hp} {R : List V → Hp → Prop} (h : ta σ H R) (hm : ∀ (Q Q' : List V → Hp → Prop), (∀ v H, Q v H → Q' v H) → ta σ H Q → ta σ H Q') (f : ∀ v H, R v H → Q v H) : ta σ H Q := hm R Q f h
theorem rdA_mono {ps : PXs} {σ : St} {H : Hp} {Q Q' : List V → Hp → Prop} (h : rdA X.K cl W cf ps σ H Q) (f : ∀ v H, Q v H → Q' v H) : rdA X.K cl W cf ps σ H Q' := by
  obtain ⟨w, e, st, rfl, he, hs, h⟩ := h
  exact ⟨w, e, st, rfl, he, hs, h.mono f⟩
theorem rngV_one {v1 : List PV} {items : List PV} {n : Int} (e : v1 = [.int n]) (h : rngV v1 = some items) : small62 n = true ∧ items = rngL 0 1 n.toNat := by
  subst e
  simp only [rngV, Option.ite_none_right_eq_some, Option.some.injEq] at h
  exact ⟨h.1, h.2.symm⟩
theorem Reps.len_eq {K : PySem.W.Frag} {w : Wd} {v : List PV} {u : List V} (h : Reps K w v u) : u.length = v.length := h.length.symm
/-- the shapes that range takes -/
theorem rng_shape {v1 : List PV} {items : List PV} (h : rngV v1 = some items) : (∃ n, v1 = [.int n]) ∨ (∃ a b, v1 = [.int a, .int b]) ∨ ∃ a b c, v1 = [.int a, .int b, .int c] := by
  unfold rngV at h
  split at h
  · exact .inl ⟨_, rfl⟩
  · exact .inr (.inl ⟨_, _, rfl⟩)
  · exact .inr (.inr ⟨_, _, _, rfl⟩)
  · cases h
theorem x_rng1 {q1 : PX} (hg : Gl X "range") (hm : X.mg "range" = none) (ha : L2.PA X [a] (rdA X.K cl W cf (.cons q1 .nil))) (hs : starEach [a] X.env = [(false, eval a X.env)]) :
    PI X tg (.Call (.Name "range" p) [a] [] pos) (rdI X.K cl W cf (.rng (.cons q1 .nil))) := by
  refine PIimp (pi_range1 hg hm ha hs) fun σ H R h => ?_
  have lenOk : ∀ (e : Env) (st st' : Sto) (vs : List PV), evs cf (.cons q1 .nil) e st = .ok vs st' → vs.length = 1 := fun e st st' vs q => evs_len q
  obtain ⟨w, e, st, rfl, he, hs, h⟩ := h
  simp only [evI] at h
  refine ⟨w, e, st, rfl, he, hs, h.bindE.mono fun x H1 ⟨w1, v1, st1, e0, e1, hw1, hs1, r1, h1⟩ => ?_⟩
  subst e1
  obtain ⟨items, q, h1⟩ := h1.ofO
  have hl := lenOk e st st1 v1 e0
  rcases rng_shape q with ⟨n, rfl⟩ | ⟨a, b, rfl⟩ | ⟨a, b, c, rfl⟩
  · obtain ⟨h2, rfl⟩ := rngV_one rfl q
    rw [small62_iff] at h2
    obtain ⟨u, rfl, ru⟩ := r1.one
    cases ru.int_inv
    exact ⟨n, rfl, h2.1, h2.2, h1 w1 _ (.refl w1) hs1 isIt_rng⟩
  · simp at hl
  · simp at hl
theorem x_rng2 {q1 q2 : PX} (hg : Gl X "range") (hm : X.mg "range" = none) (ha : L2.PA X [a, b] (rdA X.K cl W cf (.cons q1 (.cons q2 .nil)))) (hs : starEach [a, b] X.env = [(false, eval a X.env), (false, eval b X.env)]) (hs2 : starEach [b] X.env = [(false, eval b X.env)]) :
    PI X tg (.Call (.Name "range" p) [a, b] [] pos) (rdI X.K cl W cf (.rng (.cons q1 (.cons q2 .nil)))) := by
  refine PIimp (pi_range2 hg hm ha hs hs2) fun σ H R h => ?_
  obtain ⟨w, e, st, rfl, he, hs, h⟩ := h
  simp only [evI] at h
  refine ⟨w, e, st, rfl, he, hs, h.bindE.mono fun x H1 ⟨w1, v1, st1, e0, e1, hw1, hs1, r1, h1⟩ => ?_⟩
  subst e1
  obtain ⟨items, q, h1⟩ := h1.ofO
  have hl : v1.length = 2 := evs_len e0
  rcases rng_shape q with ⟨n, rfl⟩ | ⟨i, j, rfl⟩ | ⟨i, j, l, rfl⟩
  · simp at hl
  · simp only [rngV, Option.ite_none_right_eq_some, Option.some.injEq, Bool.and_eq_true, small62_iff] at q
    obtain ⟨⟨h2, h3⟩, rfl⟩ := q
    obtain ⟨u, u', rfl, ru, ru'⟩ := r1.two
    cases ru.int_inv
    cases ru'.int_inv
    exact ⟨i, j, rfl, ⟨h2.1, h2.2, h3.1, h3.2⟩, h1 w1 _ (.refl w1) hs1 isIt_rng⟩
  · simp at hl
theorem x_rng3 {q1 q2 q3 : PX} (hg : Gl X "range") (hm : X.mg "range" = none) (ha : L2.PA X [a, b, c] (rdA X.K cl W cf (.cons q1 (.cons q2 (.cons q3 .nil))))) (hs : starEach [a, b, c] X.env = (false, eval a X.env) :: starEach [b, c] X.env)
    (hpl : (backTo pos (starEach [b, c] X.env)).any (·.1) = false) :
    PI X tg (.Call (.Name "range" p) [a, b, c] [] pos) (rdI X.K cl W cf (.rng (.cons q1 (.cons q2 (.cons q3 .nil))))) := by
  refine PIimp (pi_range3 hg hm ha hs hpl) fun σ H R h => ?_
  obtain ⟨w, e, st, rfl, he, hs, h⟩ := h
  simp only [evI] at h
  refine ⟨w, e, st, rfl, he, hs, h.bindE.mono fun x H1 ⟨w1, v1, st1, e0, e1, hw1, hs1, r1, h1⟩ => ?_⟩
  subst e1
  obtain ⟨items, q, h1⟩ := h1.ofO
  have hl : v1.length = 3 := evs_len e0
  rcases rng_shape q with ⟨n, rfl⟩ | ⟨i, j, rfl⟩ | ⟨i, j, l, rfl⟩
  · simp at hl
  · simp at hl
  · simp only [rngV, Option.ite_none_right_eq_some, Option.some.injEq, Bool.and_eq_true, decide_eq_true_eq] at q
    obtain ⟨⟨⟨h2, h3⟩, h4, h5⟩, rfl⟩ := q
    obtain ⟨u, us, rfl⟩ : ∃ u us, x = u :: us := by cases r1; exact ⟨_, _, rfl⟩
    cases r1 with
    | cons ru rr =>
      obtain ⟨u', u2, rfl, ru', ru2⟩ := rr.two
      cases ru.int_inv
      cases ru'.int_inv
      cases ru2.int_inv
      exact ⟨i, j, l, _, rfl, ⟨h2, h3, h4, by omega⟩, h1 w1 _ (.refl w1) hs1 isIt_rngC⟩
end
end PL

/-! PL6: targets, comprehensions. -/
namespace PL
open PySem L2

mutual
def Tg.slots : Tg → List Nat
  | .nm i => [i]
  | .tp ts => Tgs.slots ts
def Tgs.slots : Tgs → List Nat
  | .nil => []
  | .cons t r => Tg.slots t ++ Tgs.slots r
end
def Tgs.len : Tgs → Nat
  | .nil => 0
  | .cons _ r => r.len + 1
theorem asgTs_len : ∀ {ts : Tgs} {vs : List PV} {e e' : Env}, asgTs ts vs e = some e' → vs.length = ts.len
  | .nil, [], _, _, _ => rfl
  | .nil, _ :: _, _, _, h => by simp [asgTs] at h
  | .cons t r, [], _, _, h => by simp [asgTs] at h
  | .cons t r, v :: vs, e, e', h => by
    simp only [asgTs] at h
    cases q : asgT t v e with
    | none => rw [q] at h; cases h
    | some e1 =>
      rw [q] at h
      rw [List.length_cons, asgTs_len h]; rfl

/-- the slots behind an assignment -/
def AsgOk (K : PySem.W.Frag) (w : Wd) (e' : Env) (sl : List Nat) (σ σ' : St) : Prop := σ'.length = σ.length ∧ (∀ i, i ∉ sl → σ'[i]? = σ[i]?) ∧ EnvOk K w e' σ'
def rdG (K : PySem.W.Frag) (t : Tg) : TG := fun v σ H Q => ∃ (w : Wd) (e e' : Env) (pv : PV), w.H = H ∧ EnvOk K w e σ ∧ Rep K w pv v ∧ asgT t pv e = some e' ∧ ∀ σ', AsgOk K w e' t.slots σ σ' → Q σ' H
def rdGs (K : PySem.W.Frag) (t : Tgs) : TGs := fun v σ H Q => ∃ (w : Wd) (e e' : Env) (pv : List PV), w.H = H ∧ EnvOk K w e σ ∧ Reps K w pv v ∧ asgTs t pv e = some e' ∧ ∀ σ', AsgOk K w e' t.slots σ σ' → Q σ' H
section
variable {X : Cx} {pos : Pos}
theorem PGimp {tg : Expr} {t t' : TG} (h : PG X tg t) (f : ∀ v σ H Q, σ.length = X.N.length → t' v σ H Q → t v σ H Q) : PG X tg t' := ⟨fun pins s σ H v u Q I r q => h.run pins s σ H v u Q I r (f v σ H Q I.len q)⟩
theorem PGsimp {tg : List Expr} {t t' : TGs} (h : PGs X tg t) (f : ∀ v σ H Q, σ.length = X.N.length → t' v σ H Q → t v σ H Q) : PGs X tg t' := ⟨fun pins s σ H v u Q I r q => h.run pins s σ H v u Q I r (f v σ H Q I.len q)⟩
theorem PGor {tg : Expr} {t t' : TG} (h : PG X tg t) (h' : PG X tg t') : PG X tg (fun v σ H Q => t v σ H Q ∨ t' v σ H Q) := ⟨fun pins s σ H v u Q I r q => q.elim (fun q => h.run pins s σ H v u Q I r q) fun q => h'.run pins s σ H v u Q I r q⟩
theorem g_name {i : Nat} {x : Str} (hN : X.N.Nodup) (hi : X.N[i]? = some x) (hx : Loc X.env.scope x) (hf : X.fn x = true ∨ X.env.scope.names.lookup x = some .local) : PG X (.Name x pos) (rdG X.K (.nm i)) := by
  refine PGimp (pg_name hN hi hx hf) fun v σ H Q hl h => ?_
  obtain ⟨w, e, e', pv, rfl, he, r, q, h⟩ := h
  simp only [asgT, Option.some.injEq] at q
  subst q
  have hiσ : i < σ.length := by rw [hl]; exact (List.getElem?_eq_some_iff.mp hi).1
  refine h _ ⟨by simp, fun j hj => ?_, he.set r i hiσ⟩
  rw [List.getElem?_set_ne]
  intro z
  exact hj (by simp [Tg.slots, z])
theorem gs_nil : PGs X [] (rdGs X.K .nil) := by
  refine PGsimp pgs_nil fun v σ H Q hl h => ?_
  obtain ⟨w, e, e', pv, rfl, he, r, q, h⟩ := h
  cases pv with
  | nil =>
    cases r
    simp only [asgTs, Option.some.injEq] at q
    subst q
    exact ⟨rfl, h σ ⟨rfl, fun _ _ => rfl, he⟩⟩
  | cons _ _ => simp [asgTs] at q
theorem gs_cons {a : Expr} {es : List Expr} {t : Tg} {r : Tgs} (h1 : PG X a (rdG X.K t)) (h2 : PGs X es (rdGs X.K r)) (hs : (assignEach (a :: es) X.env).map (·.2) = assign a X.env :: (assignEach es X.env).map (·.2)) :
    PGs X (a :: es) (rdGs X.K (.cons t r)) := by
  refine PGsimp (pgs_cons h1 h2 hs) fun v σ H Q hl h => ?_
  obtain ⟨w, e, e', pv, rfl, he, rr, q, h⟩ := h
  cases pv with
  | nil => simp [asgTs] at q
  | cons x xs =>
    cases rr with
    | cons ra rb =>
      simp only [asgTs] at q
      cases q1 : asgT t x e with
      | none => rw [q1] at q; cases q
      | some e1 =>
        rw [q1] at q
        simp only [Option.bind_some] at q
        refine ⟨_, _, rfl, w, e, e1, x, rfl, he, ra, q1, fun σ1 ⟨l1, k1, he1⟩ => ?_⟩
        refine ⟨w, e1, e', xs, rfl, he1, rb, q, fun σ2 ⟨l2, k2, he2⟩ => h σ2 ⟨l2.trans l1, fun i hi => ?_, he2⟩⟩
        simp only [Tgs.slots, List.mem_append, not_or] at hi
        rw [k2 i hi.2, k1 i hi.1]
theorem g_tup {es : List Expr} {k : Nat} {ts : Tgs} (hc : X.calm = true) (h : PGs X es (rdGs X.K ts)) (hn : (assignEach es X.env).length = ts.len) (hst : (assignEach es X.env).findIdx? (·.1) = none) : PG X (.Tuple es k pos) (rdG X.K (.tp ts)) := by
  refine PGimp (PGor (pg_tup hc h hn hst) (pg_unl hc h hn hst)) fun v σ H Q hl h => ?_
  obtain ⟨w, e, e', pv, rfl, he, r, q, h⟩ := h
  cases r with
  | tup h2 r2 =>
    simp only [asgT] at q
    exact .inl ⟨_, _, rfl, h2.sq, by rw [← r2.length, asgTs_len q], w, e, e', _, rfl, he, r2, q, h⟩
  | lst h2 n2 r2 =>
    simp only [asgT] at q
    exact .inr ⟨_, _, rfl, SqL.of h2, by rw [← r2.length, asgTs_len q], w, e, e', _, rfl, he, r2, q, h⟩
  | _ => simp [asgT] at q
end

/-! ### comprehensions -/
/-- the list that is being made -/
def Wd.wr (w : Wd) (D : Addr) (o : HO) : Wd := ⟨w.m, w.p, upd w.H D o⟩
section
variable {K : PySem.W.Frag} {w : Wd} {D : Addr} {o : HO} {old : List V}
mutual
theorem Rep.wr (hD : D ∈ w.p) (hl : w.H D = some (.lst old)) : ∀ {v : PV} {u : V}, Rep K w v u → Rep K (w.wr D o) v u
  | _, _, .non => .non
  | _, _, .bl b => .bl b
  | _, _, .int i => .int i
  | _, _, .str z h => .str z h
  | _, _, .tup h r => .tup (by
      rcases h with ⟨h, n⟩ | h
      · refine .inl ⟨?_, n⟩
        rcases h with h | ⟨ob, h⟩
        · refine .inl ?_
          show upd w.H D o _ = _
          rw [upd_ne (fun z => by rw [z, hl] at h; cases h)]; exact h
        · refine .inr ⟨ob, ?_⟩
          show upd w.H D o _ = _
          rw [upd_ne (fun z => by rw [z, hl] at h; cases h)]; exact h
      · exact .inr h) (Reps.wr hD hl r)
  | _, _, .lst h n r => .lst (by
      show upd w.H D o _ = _
      rw [upd_ne (fun z => n.2 (by rw [z]; exact hD))]; exact h) n (Reps.wr hD hl r)
  | _, _, .scr h => .scr (by
      rcases h with ⟨ob, h, n⟩ | h
      · refine .inl ⟨ob, ?_, n⟩
        show upd w.H D o _ = _
        rw [upd_ne (fun z => by rw [z, hl] at h; cases h)]; exact h
      · exact .inr h)
  | _, _, .ref h => .ref h
  | _, _, .gone h => .gone h
theorem Reps.wr (hD : D ∈ w.p) (hl : w.H D = some (.lst old)) : ∀ {v : List PV} {u : List V}, Reps K w v u → Reps K (w.wr D o) v u
  | _, _, .nil => .nil
  | _, _, .cons h r => .cons (Rep.wr hD hl h) (Reps.wr hD hl r)
end
/-- what is not private any more -/
def Wd.own (w : Wd) (p : List Addr) : Wd := ⟨w.m, p, w.H⟩
mutual
theorem Rep.own {p : List Addr} (hp : ∀ a ∈ p, a ∈ w.p) : ∀ {v : PV} {u : V}, Rep K w v u → Rep K (w.own p) v u
  | _, _, .non => .non
  | _, _, .bl b => .bl b
  | _, _, .int i => .int i
  | _, _, .str z h => .str z h
  | _, _, .tup h r => .tup h (Reps.own hp r)
  | _, _, .lst h n r => .lst h ⟨n.1, fun z => n.2 (hp _ z)⟩ (Reps.own hp r)
  | _, _, .scr h => .scr h
  | _, _, .ref h => .ref h
  | _, _, .gone h => .gone h
theorem Reps.own {p : List Addr} (hp : ∀ a ∈ p, a ∈ w.p) : ∀ {v : List PV} {u : List V}, Reps K w v u → Reps K (w.own p) v u
  | _, _, .nil => .nil
  | _, _, .cons h r => .cons (Rep.own hp h) (Reps.own hp r)
end
theorem StOk.wr {st : Sto} (h : StOk K w st) (hD : D ∈ w.p) (hl : w.H D = some (.lst old)) (hm : some D ∉ w.m) : StOk K (w.wr D o) st where
  len := h.len
  inj := h.inj
  cell := fun l a q => by
    obtain ⟨c, hc, ok⟩ := h.cell l a q
    refine ⟨c, hc, ?_⟩
    have ne : a ≠ D := fun z => hm (by rw [← z]; exact m_mem q)
    cases c with
    | dead => exact ok
    | lst xs =>
      obtain ⟨us, h1, r⟩ := ok
      exact ⟨us, by show upd w.H D o a = _; rw [upd_ne ne]; exact h1, r.wr hD hl⟩
  prv := fun a q => by
    obtain ⟨u, hu⟩ := h.prv a q
    by_cases z : a = D
    · exact ⟨o, by show upd w.H D o a = _; rw [z]; exact upd_same⟩
    · exact ⟨u, by show upd w.H D o a = _; rw [upd_ne z]; exact hu⟩
  dis := h.dis
  gone := h.gone
theorem StOk.own {st : Sto} {p : List Addr} (h : StOk K w st) (hp : ∀ a ∈ p, a ∈ w.p) : StOk K (w.own p) st where
  len := h.len
  inj := h.inj
  cell := fun l a q => by
    obtain ⟨c, hc, ok⟩ := h.cell l a q
    refine ⟨c, hc, ?_⟩
    cases c with
    | dead => exact ok
    | lst xs =>
      obtain ⟨us, h1, r⟩ := ok
      exact ⟨us, h1, r.own hp⟩
  prv := fun a q => h.prv a (hp a q)
  dis := fun a q z => h.dis a q (hp a z)
  gone := h.gone
/-- a world with a private new list -/
def Wd.prv (w : Wd) (D : Addr) : Wd := ⟨w.m, D :: w.p, upd w.H D (.lst [])⟩
theorem Wd.prv_le (e : w.H D = none) : w.le (w.prv D) where
  len := Nat.le_refl _
  loc := fun _ _ h => .inl h
  dead := fun _ h => h
  keep := fun a u h _ => by
    show upd w.H D _ a = some u
    rw [upd_ne (ne_of_none h e)]; exact h
  fresh := fun _ h => .inl h
  priv := fun _ h => List.mem_cons_of_mem _ h
  freshp := fun a h => by
    rcases List.mem_cons.mp h with z | z
    · exact .inr (by rw [z]; exact e)
    · exact .inl z
  trk := fun a u h => ⟨u, by
    show upd w.H D _ a = some u
    rw [upd_ne (ne_of_none h e)]; exact h⟩
theorem StOk.prv' {st : Sto} (h : StOk K w st) (e : w.H D = none) : StOk K (w.prv D) st where
  len := h.len
  inj := h.inj
  cell := fun l a q => by
    obtain ⟨c, hc, ok⟩ := h.cell l a q
    refine ⟨c, hc, ok.put (Wd.prv_le e) fun u hu => ?_⟩
    show upd w.H D _ a = some u
    rw [upd_ne (ne_of_none hu e)]; exact hu
  prv := fun a q => by
    rcases List.mem_cons.mp q with z | z
    · exact ⟨_, by rw [z]; exact upd_same⟩
    · obtain ⟨u, hu⟩ := h.prv a z
      exact (Wd.prv_le e).trk a u hu
  dis := fun a q z => by
    rcases List.mem_cons.mp z with z | z
    · subst z; exact h.new e q
    · exact h.dis a q z
  gone := h.gone
end
theorem wipe_get {σ : St} {i : Nat} : ∀ {vs : List Nat}, (wipe σ vs)[i]? = if i ∈ vs ∧ i < σ.length then some none else σ[i]?
  | [] => by simp [wipe]
  | v :: vs => by
    have ih := wipe_get (σ := σ) (i := i) (vs := vs)
    unfold wipe
    rw [List.getElem?_set]
    by_cases hv : v = i
    · subst hv
      rw [wipe_length]
      by_cases hl : v < σ.length
      · simp [hl]
      · simp only [if_true, hl, if_false, and_false]
        exact (List.getElem?_eq_none (by omega)).symm
    · rw [if_neg hv, ih]
      simp [List.mem_cons, Ne.symm hv]
theorem wipe_eq {σ σ' : St} {vs : List Nat} (hl : σ'.length = σ.length) (h : ∀ i, i ∉ vs → σ'[i]? = σ[i]?) : wipe σ' vs = wipe σ vs := by
  apply List.ext_getElem?
  intro i
  rw [wipe_get, wipe_get, hl]
  by_cases hi : i ∈ vs
  · by_cases hs : i < σ.length
    · simp [hi, hs]
    · simp only [hi, hs, and_false, if_false]
      rw [List.getElem?_eq_none (by omega), List.getElem?_eq_none (by omega)]
  · simp only [hi, false_and, if_false]
    exact h i hi
theorem wipe_wipe {σ : St} {vs : List Nat} : wipe (wipe σ vs) vs = wipe σ vs := by
  refine wipe_eq (wipe_length _ _) fun i hi => ?_
  rw [wipe_get, if_neg (fun z => hi z.1)]

/-- the steps of the comprehension's loop, from the i-th item on -/
theorem compL_drop {f : PV → Sto → Res (Option PV)} {items : List PV} {i : Nat} {v : PV} (h : items[i]? = some v) (st : Sto) :
    compL f (items.drop i) st = (f v st).bind fun o st1 => (compL f (items.drop (i + 1)) st1).bind fun r st2 => .ok (o.toList ++ r) st2 := by
  obtain ⟨hi, e⟩ := List.getElem?_eq_some_iff.mp h
  rw [List.drop_eq_getElem_cons hi, e]
  rfl
theorem Res.bind_bind {α β γ : Type} (r : Res α) (f : α → Sto → Res β) (g : β → Sto → Res γ) : (r.bind f).bind g = r.bind fun a st => (f a st).bind g := by
  cases r <;> rfl
theorem Res.bind_id {α : Type} (r : Res α) : (r.bind fun a st => .ok a st) = r := by
  cases r <;> rfl

def Wfalse : WX := fun _ _ _ _ => False
/-- the tests of a clause -/
theorem ts_yes {X : Cx} {cl : Nat → Value} {W : WX} {cf : CF} : L2.PTs X [] (rdT X.K cl W cf .yes) := by
  refine ⟨fun pins s σ H Q I h => pts_nil.run pins s σ H Q I ?_⟩
  obtain ⟨w, e, st, rfl, he, hs, h⟩ := h
  simp only [evT] at h
  exact h w true (.refl w) hs rfl
theorem ts_one {X : Cx} {c : Expr} {t : TT} (h : L2.PT X c t) : L2.PTs X [c] t := pts_one h
theorem Res.bind_eq_ok {α β : Type} {r : Res α} {f : α → Sto → Res β} {b : β} {st : Sto} (h : r.bind f = .ok b st) : ∃ a st1, r = .ok a st1 ∧ f a st1 = .ok b st := by
  cases r with
  | ok a st1 => exact ⟨a, st1, rfl, h⟩
  | exc c st1 => cases h
  | stuck => cases h

theorem x_comp {X : Cx} {cl : Nat → Value} {W : WX} {cf : CF} {own : List Nat} {t : Tg} {s : Src} {c : PT} {pe : PX} (hsl : ∀ i ∈ t.slots, i ∈ own) {σ : St} {H : Hp} {Q : VK} (h : rdE X.K cl W cf (.comp own t s c pe) σ H Q) :
    tLc (rdI X.K cl W cf s) (rdG X.K t) (rdT X.K cl Wfalse cf c) (rdE X.K cl Wfalse cf pe) own σ H Q := by
  obtain ⟨w, e, st, rfl, he, hs, h⟩ := h
  simp only [ev] at h
  refine ⟨w, e, st, rfl, he, hs, h.bind.mono fun J H1 ⟨w1, items, st1, e1, hw1, hs1, hJ, h1⟩ => ?_⟩
  subst e1
  intro D hD
  by_cases hz : items.length ≤ SZ
  · rw [if_pos hz] at h1
    generalize hf : (fun (x : PV) (st2 : Sto) => match asgT t x (wipeR e own) with
          | none => (Res.stuck : Res (Option PV))
          | some e1 => (evT cf c e1 st2).bind fun b st3 => if b then (ev cf pe e1 st3).bind fun v st4 => .ok (some v) st4 else .ok none st3) = f at h1
    obtain ⟨vs, stF, hall, hQ⟩ : ∃ vs stF, compL f items st1 = .ok vs stF ∧ ∀ w' u, w1.le w' → StOk X.K w' stF → Rep X.K w' (.lst vs) u → Q u w'.H := by
      cases q : compL f items st1 with
      | ok vs stF => rw [q] at h1; exact ⟨vs, stF, rfl, h1⟩
      | exc c st => rw [q] at h1; exact h1.elim
      | stuck => rw [q] at h1; exact h1.elim
    refine ⟨fun i m H => m = items.length - i ∧ i ≤ items.length ∧ ∃ (w2 : Wd) (st2 : Sto) (acc : List PV) (us : List V), w2.H = H ∧ w1.le w2 ∧ D ∈ w2.p ∧ some D ∉ w2.m ∧ StOk X.K w2 st2 ∧
      w2.H D = some (.lst us) ∧ Reps X.K w2 acc us ∧ acc.length ≤ i ∧ ((compL f (items.drop i) st2).bind fun r st3 => .ok (acc ++ r) st3) = .ok vs stF, ⟨items.length, ?_⟩, ?_⟩
    · refine ⟨by omega, Nat.zero_le _, w1.prv D, st1, [], [], rfl, Wd.prv_le hD, by simp [Wd.prv], hs1.new hD, hs1.prv' hD, upd_same, .nil, Nat.le_refl _, ?_⟩
      rw [List.drop_zero, hall]; rfl
    · intro i m H ⟨hm, hi, w2, st2, acc, us, e2, hw2, hDp, hDm, hs2, hl, ra, hacc, heq⟩
      subst e2
      obtain ⟨go, stop⟩ := hJ w2 st2 hw2 hs2
      by_cases hin : i = items.length
      · subst hin
        refine .inl ⟨stop, ?_⟩
        rw [List.drop_length] at heq
        simp only [compL, Res.bind_ok, List.append_nil, Res.ok.injEq] at heq
        obtain ⟨rfl, rfl⟩ := heq
        have hw : w1.le (w2.own w1.p) := ⟨hw2.len, hw2.loc, hw2.dead, hw2.keep, hw2.fresh, fun _ z => z, fun _ z => .inl z, hw2.trk⟩
        exact hQ (w2.own w1.p) (.ref D) hw (hs2.own hw2.priv) (.lst hl ⟨hDm, hs1.newp hD⟩ (ra.own hw2.priv))
      · have hlt : i < items.length := by omega
        obtain ⟨hgo, hy⟩ := go i hlt
        refine .inr ⟨hgo, fun H' => i + 1 ≤ items.length ∧ ∃ (w2 : Wd) (st2 : Sto) (acc : List PV) (us : List V), w2.H = H' ∧ w1.le w2 ∧ D ∈ w2.p ∧ some D ∉ w2.m ∧ StOk X.K w2 st2 ∧
          w2.H D = some (.lst us) ∧ Reps X.K w2 acc us ∧ acc.length ≤ i + 1 ∧ ((compL f (items.drop (i + 1)) st2).bind fun r st3 => .ok (acc ++ r) st3) = .ok vs stF, fun H' q => ⟨items.length - (i + 1), by omega, rfl, q⟩, fun x H' hyx => ?_⟩
        obtain ⟨w3, v, e3, hw3, hs3, hv, rv⟩ := hy x H' hyx
        subst e3
        rw [compL_drop hv, Res.bind_bind] at heq
        obtain ⟨o, st3, hfv, heq⟩ := Res.bind_eq_ok heq
        rw [← hf] at hfv
        simp only at hfv
        have hD3 : D ∈ w3.p := hw3.priv D hDp
        have hl3 : w3.H D = some (.lst us) := hw3.keep D _ hl hDm
        have hm3 : some D ∉ w3.m := notin_of hw3 hl hDm
        cases qa : asgT t v (wipeR e own) with
        | none => rw [qa] at hfv; cases hfv
        | some e1 =>
          rw [qa] at hfv
          simp only at hfv
          obtain ⟨b, st4, hb, hfv⟩ := Res.bind_eq_ok hfv
          refine ⟨w3, wipeR e own, e1, v, rfl, (he.mono (hw1.trans (hw2.trans hw3))).wipe own, rv, qa, fun σ2 ⟨l2, k2, he2⟩ => ⟨?_, ?_⟩⟩
          · rw [wipe_eq (l2.trans (wipe_length σ own)) (fun j hj => ?_)]
            rw [k2 j (fun z => hj (hsl j z)), wipe_get, if_neg (fun z => hj z.1)]
          · refine ⟨w3, e1, st2, rfl, he2, hs3, ?_⟩
            rw [hb]
            intro w4 b' hw4 hs4 hbb
            subst hbb
            have hD4 : D ∈ w4.p := hw4.priv D hD3
            have hl4 : w4.H D = some (.lst us) := hw4.keep D _ hl3 hm3
            have hm4 : some D ∉ w4.m := notin_of hw4 hl3 hm3
            cases b with
            | false =>
              simp only [Bool.false_eq_true, if_false, Res.ok.injEq] at hfv
              obtain ⟨rfl, rfl⟩ := hfv
              rw [if_neg (by decide)]
              refine ⟨hlt, w4, st4, acc, us, rfl, hw2.trans (hw3.trans hw4), hD4, hm4, hs4, hl4, ra.mono (hw3.trans hw4), by omega, ?_⟩
              simpa [Res.bind_bind, Res.bind_ok] using heq
            | true =>
              simp only [if_true] at hfv
              obtain ⟨y, st5, hy5, hfv⟩ := Res.bind_eq_ok hfv
              simp only [Res.ok.injEq] at hfv
              obtain ⟨rfl, rfl⟩ := hfv
              rw [if_pos rfl]
              refine ⟨w4, e1, st4, rfl, he2.mono hw4, hs4, ?_⟩
              rw [hy5]
              intro w5 u hw5 hs5 ru
              have hD5 : D ∈ w5.p := hw5.priv D hD4
              have hl5 : w5.H D = some (.lst us) := hw5.keep D _ hl4 hm4
              have hm5 : some D ∉ w5.m := notin_of hw5 hl4 hm4
              have hlen : us.length = acc.length := ra.length.symm
              have hz' : items.length ≤ sizeLine := hz
              have ra5 := ra.mono (hw3.trans (hw4.trans hw5))
              refine ⟨us, hl5, by omega, hlt, w5.wr D (.lst (us ++ [u])), st5, acc ++ [y], us ++ [u], rfl, ?_, hD5, hm5, hs5.wr hD5 hl5 hm5, upd_same, (ra5.append (.cons ru .nil)).wr hD5 hl5, by simp; omega, ?_⟩
              · have hw := hw2.trans (hw3.trans (hw4.trans hw5))
                have ne : ∀ a o, w1.H a = some o → a ≠ D := fun a o q z => by rw [z, hD] at q; cases q
                refine ⟨hw.len, hw.loc, hw.dead, fun a o q n => ?_, hw.fresh, hw.priv, hw.freshp, fun a o q => ?_⟩
                · show upd w5.H D _ a = _
                  rw [upd_ne (ne a o q)]
                  exact hw.keep a o q n
                · obtain ⟨o', q'⟩ := hw.trk a o q
                  exact ⟨o', by show upd w5.H D _ a = _; rw [upd_ne (ne a o q)]; exact q'⟩
              · simpa [Res.bind_bind, Res.bind_ok] using heq
  · rw [if_neg hz] at h1
    exact h1.elim
end PL

/-! PL6b: enumerate and zip, over tuples, lists and texts. -/
namespace PL
open PySem L2

/-- what is walked within: a tuple, a list, a text -/
inductive Sk where
  | tup (a : Addr) | lst (a : Addr) | str (z : Str)
def Sk.rd (K : PySem.W.Frag) (H : Hp) : Sk → List V → Prop
  | .tup a, us => SqT K H a us
  | .lst a, us => SqL K H a us
  | .str z, us => us = z.cps.toList.map fun c => V.str ⟨#[c]⟩
def Sk.v : Sk → V
  | .tup a => .ref a
  | .lst a => .ref a
  | .str z => .str z
def Sk.stands (it : Addr) (i : Nat) (h : Heap) : Sk → Prop
  | .tup a => h.IsTupleIter it a i ∧ a ≠ it
  | .lst a => h.IsListIter it a i ∧ a ≠ it
  | .str z => ∃ t, h.IsStrIter it (strIterType z) z t i
def Sk.own (it : Addr) : Sk → List Addr
  | .tup a => [it, a]
  | .lst a => [it, a]
  | .str _ => [it]
theorem Sk.mem (it : Addr) (q : Sk) : it ∈ q.own it := by cases q <;> simp [Sk.own]
theorem Sk.obj {it : Addr} {i : Nat} {h : Heap} {q : Sk} (st : q.stands it i h) : ∃ o, h.get? it = some o ∧ ∀ v, o.data ≠ .cell v := by
  cases q with
  | tup a => obtain ⟨⟨o, e, c, d⟩, _⟩ := st; exact ⟨o, e, fun v z => by rw [d] at z; cases z⟩
  | lst a => obtain ⟨⟨o, e, c, d⟩, _⟩ := st; exact ⟨o, e, fun v z => by rw [d] at z; cases z⟩
  | str z => obtain ⟨t, o, e, c, d⟩ := st; exact ⟨o, e, fun v z => by rw [d] at z; cases z⟩
theorem Sk.keep {it : Addr} {i : Nat} {h h' : Heap} {q : Sk} (st : q.stands it i h) (k : ∀ o, h.get? it = some o → h'.get? it = some o) : q.stands it i h' := by
  cases q with
  | tup a => exact ⟨st.1.at fun o e => k o e, st.2⟩
  | lst a => exact ⟨st.1.at fun o e => k o e, st.2⟩
  | str z => obtain ⟨t, o, e, r⟩ := st; exact ⟨t, o, k o e, r⟩
theorem vals_getR : ∀ {xs : List V} {us : List Value} {i : Nat} {u : Value}, Vals xs us → us[i]? = some u → ∃ x, xs[i]? = some x ∧ RelV x u
  | _, _, _, _, .nil, e => by simp at e
  | _, _, 0, _, .cons r _, e => by simp at e; subst e; exact ⟨_, rfl, r⟩
  | _, _, i + 1, u, .cons _ t, e => by
    obtain ⟨x, h1, h2⟩ := vals_getR (i := i) t (by simpa using e)
    exact ⟨x, by simpa using h1, h2⟩
section
variable {X : Cx} {pins : List (Addr × Obj)} {σ : St} {H : Hp} {s : Shared}
theorem Sk.rd_inj (I : Inv X pins σ H s) {q : Sk} {us ws : List V} (h1 : q.rd X.K H us) (h2 : q.rd X.K H ws) : us = ws := by
  cases q with
  | tup a => exact I.tuple_inj h1 h2
  | lst a => exact I.list_inj h1 h2
  | str z => rw [show us = _ from h1, show ws = _ from h2]
theorem sk_draws (I : Inv X pins σ H s) (hc : X.calm = true) {q : Sk} {us : List V} {it : Addr} {i : Nat} (rd : q.rd X.K H us) (h : q.stands it i s.heap) :
    ∃ P St, Draws X.prog X.w X.A.in1 it (q.own it) us.length P St ∧ St i s.heap ∧ (∀ j x, P j x → ∃ v, us[j]? = some v ∧ RelV v x) ∧ ∀ j h, St j h → q.stands it j h := by
  have hh : X.A.in1.handled = none := I.ok.hd hc
  cases q with
  | tup a =>
    obtain ⟨its, rv, p, hz⟩ := I.tuple rd
    have e : us.length = its.toArray.size := by rw [List.size_toArray]; exact rv.length
    rw [e]
    refine ⟨_, _, Draws.tuple hh it a h.2 its.toArray, ⟨h.1, p⟩, fun j x hx => ?_, fun j h' st => ⟨st.1, h.2⟩⟩
    obtain ⟨v, hv, r⟩ := vals_getR rv (by simpa using hx)
    exact ⟨v, hv, r⟩
  | lst a =>
    obtain ⟨its, rv, p, hz⟩ := I.list rd
    have e : us.length = its.toArray.size := by rw [List.size_toArray]; exact rv.length
    rw [e]
    refine ⟨_, _, Draws.list hh it a h.2 its.toArray, ⟨h.1, p.isList⟩, fun j x hx => ?_, fun j h' st => ⟨st.1, h.2⟩⟩
    obtain ⟨v, hv, r⟩ := vals_getR rv (by simpa using hx)
    exact ⟨v, hv, r⟩
  | str z =>
    obtain ⟨t, h⟩ := h
    have e : us.length = z.cps.size := by rw [show us = _ from rd]; simp
    rw [e]
    refine ⟨_, _, Draws.text hh it z t, h, fun j x hx => ?_, fun j h' st => ⟨t, st⟩⟩
    obtain ⟨c, u, hcx, rfl⟩ := hx
    refine ⟨.str ⟨#[c]⟩, ?_, u, rfl⟩
    rw [show us = _ from rd, List.getElem?_map, Array.getElem?_toList, hcx]; rfl
end
/-! enumerate -/
def ItE (K : PySem.W.Frag) (q : Sk) : It :=
  ⟨fun i H => ∃ (us : List V) (x : V), q.rd K H us ∧ us[i]? = some x,
    fun i H v H' => ∃ T x, v = .ref T ∧ H T = none ∧ H' = upd H T (.tup [.int (i : Nat), x]) ∧ ∀ us, q.rd K H us → us[i]? = some x,
    fun i H => ∃ us : List V, q.rd K H us ∧ us.length = i⟩
theorem turn_enumG {P : Program} {w : World} {K : PySem.W.Frag} {elts : List Expr} {kk : Nat} {tpos : Pos} (q : Sk) (e it : Addr) (hne : e ≠ it) (hef : e ∉ q.own it) :
    Turn P w K (.Tuple elts kk tpos) (ItE K q) [e, it] e (fun i h => (∃ old, IsEnum h e it ((i : Nat) : Int) old) ∧ q.stands it i h) where
  mem := by simp
  obj := fun i h st b hb => by
    obtain ⟨⟨old, he⟩, hs⟩ := st
    have e' : b = e ∨ b = it := by simpa using hb
    rcases e' with z | z
    · rw [z]; exact ⟨_, he, fun v q => nomatch q⟩
    · rw [z]; exact Sk.obj hs
  keep := fun i h h' st k => let ⟨⟨old, he⟩, hi⟩ := st; ⟨⟨old, k e (by simp) _ he⟩, Sk.keep hi fun o q => k it (by simp) o q⟩
  item := by
    intro X hP hw hK hc i pins s σ H E I hf st hg
    subst hP hw hK
    obtain ⟨⟨old, he⟩, hs⟩ := st
    obtain ⟨us, x, hq, hx⟩ := hg
    have hel : e < s.heap.objs.size := Heap.lt_size he
    have hil : it < s.heap.objs.size := by obtain ⟨o, q1, _⟩ := Sk.obj hs; exact Heap.lt_size q1
    obtain ⟨P, St, D, hst, hP, hat⟩ := sk_draws I hc hq hs
    have hlt : i < us.length := (List.getElem?_eq_some_iff.mp hx).1
    refine wpAny_pyNext_enum_itemD D he hst hlt hne hef fun u h' tk hPu ho hst' hT hsz hk => ?_
    obtain ⟨x', hx', ru⟩ := hP i u hPu
    rw [hx] at hx'
    cases hx'
    refine ⟨_, rfl, wpAny_letOwnedTupleGo_enum (s := { s with heap := h', toks := tk + 1 }) ho fun h'' he' sb => ?_⟩
    have hT2 : h''.get? s.heap.objs.size = some { cls := .type "tuple", data := .seq #[.int i tk, u] } := (sb.2 _ (Nat.ne_of_gt hel)).trans hT
    have new : ObjOk X.prog X.w (upd H s.heap.objs.size (.tup [.int (i : Nat), x])) h'' s.heap.objs.size (.tup [.int (i : Nat), x]) :=
      ⟨by show 2 ≤ sizeLine; decide, [.int i tk, u], .cons ⟨_, rfl⟩ (.cons ru .nil), ⟨_, hT2, rfl, _, rfl⟩⟩
    have I1 : Inv X pins σ (upd H s.heap.objs.size (.tup [.int (i : Nat), x])) { s with heap := h'', toks := tk + 1 } :=
      I.turnedNew (ch := [e, it]) (fun b ob hb q => (sb.2 b (fun z => hb (by simp [z]))).trans (hk b ob (fun z => hb (by simp [z])) (fun z => hb (by simp [z])) q)) hf (Nat.le_refl _) new
    refine ⟨.ref s.heap.objs.size, _, I1, rfl, ⟨_, x, rfl, I.hok.fresh (Nat.le_refl _), rfl, fun ys hy => by rw [Sk.rd_inj I hy hq]; exact hx⟩, ⟨⟨u, ?_⟩, Sk.keep (hat _ _ hst') fun o q => (sb.2 it (Ne.symm hne)).trans q⟩, fun b hb => ?_⟩
    · have e1 : ((i + 1 : Nat) : Int) = (i : Int) + 1 := by omega
      rw [e1]; exact he'
    · have hb' : b < s.heap.objs.size := by
        have e' : b = e ∨ b = it := by simpa using hb
        rcases e' with z | z
        · rw [z]; exact hel
        · rw [z]; exact hil
      rw [upd_ne (Nat.ne_of_lt hb')]
      exact (hf b hb).1
  done := by
    intro X hP hw hK hc i pins s σ H E I hf st hg
    subst hP hw hK
    obtain ⟨⟨old, he⟩, hs⟩ := st
    obtain ⟨us, hq, rfl⟩ := hg
    obtain ⟨P, St, D, hst, hP, hat⟩ := sk_draws I hc hq hs
    obtain ⟨f0, f1, f2, f3, f4, f5⟩ := hf it (by simp)
    exact wpAny_pyNext_enum_endD D he hst fun h' eb => ⟨rfl, I.turned (t' := s.toks) (fun b o hb q => eb b o hb q) f0 f1 f3 f4 f5⟩
  self := fun A i s Q E st h => let ⟨⟨_, he⟩, _⟩ := st; wpAny_pyIter_enum he h
/-! zip -/
def ItZ (K : PySem.W.Frag) (q r : Sk) : It :=
  ⟨fun i H => ∃ (us ws : List V) (x y : V), q.rd K H us ∧ r.rd K H ws ∧ us[i]? = some x ∧ ws[i]? = some y,
    fun i H v H' => ∃ T x y, v = .ref T ∧ H T = none ∧ H' = upd H T (.tup [x, y]) ∧ (∀ us, q.rd K H us → us[i]? = some x) ∧ ∀ ws, r.rd K H ws → ws[i]? = some y,
    fun i H => ∃ us ws : List V, q.rd K H us ∧ r.rd K H ws ∧ i = min us.length ws.length⟩
theorem turn_zipG {P : Program} {w : World} {K : PySem.W.Frag} {elts : List Expr} {kk : Nat} {tpos : Pos} (q r : Sk) {z TI TO i1 i2 : Addr} (S : ZipSep2 z TI TO i1 i2 (q.own i1) (r.own i2)) :
    Turn P w K (.Tuple elts kk tpos) (ItZ K q r) [z, TI, TO, i1, i2] z (fun i h => IsZip h z TI TO .none ∧ IsTupOf2 h TI (.ref i1) (.ref i2) ∧ (∃ x y, IsTupOf2 h TO x y) ∧ q.stands i1 i h ∧ r.stands i2 i h) where
  mem := by simp
  obj := fun i h st c hc => by
    obtain ⟨hz, hTI, ⟨x, y, hTO⟩, s1, s2⟩ := st
    have e' : c = z ∨ c = TI ∨ c = TO ∨ c = i1 ∨ c = i2 := by simpa using hc
    rcases e' with q | q | q | q | q
    · rw [q]; exact ⟨_, hz, fun v q => nomatch q⟩
    · rw [q]; exact ⟨_, hTI, fun v q => nomatch q⟩
    · rw [q]; exact ⟨_, hTO, fun v q => nomatch q⟩
    · rw [q]; exact Sk.obj s1
    · rw [q]; exact Sk.obj s2
  keep := fun i h h' st k => by
    obtain ⟨hz, hTI, ⟨x, y, hTO⟩, h1, h2⟩ := st
    exact ⟨k z (by simp) _ hz, k TI (by simp) _ hTI, ⟨x, y, k TO (by simp) _ hTO⟩, Sk.keep h1 fun o q => k i1 (by simp) o q, Sk.keep h2 fun o q => k i2 (by simp) o q⟩
  item := by
    intro X hP hw hK hc i pins s σ H E I hf st hg
    subst hP hw hK
    obtain ⟨hz, hTI, ⟨x0, y0, hTO⟩, s1, s2⟩ := st
    obtain ⟨us, ws, x, y, hqx, hqy, hx, hy⟩ := hg
    obtain ⟨P1, St1, D1, st1, hP1, hat1⟩ := sk_draws I hc hqx s1
    obtain ⟨P2, St2, D2, st2, hP2, hat2⟩ := sk_draws I hc hqy s2
    have hl1 : i < us.length := (List.getElem?_eq_some_iff.mp hx).1
    have hl2 : i < ws.length := (List.getElem?_eq_some_iff.mp hy).1
    have hzl : z < s.heap.objs.size := Heap.lt_size hz
    refine wpAny_pyNext_zipD2_item S D1 D2 hz hTI hTO st1 st2 hl1 hl2 fun u u2 h' tk p1 p2 z' TO' n1 n2 hT hsz hk => ?_
    obtain ⟨x', hx', ru⟩ := hP1 i u p1
    rw [hx] at hx'; cases hx'
    obtain ⟨y', hy', ru2⟩ := hP2 i u2 p2
    rw [hy] at hy'; cases hy'
    refine ⟨_, rfl, wpAny_letOwnedTupleGo_zip (s := { s with heap := h', toks := tk }) z' fun h'' z'' sb => ?_⟩
    have hT2 : h''.get? s.heap.objs.size = some { cls := .type "tuple", data := .seq #[u, u2] } := (sb.2 _ (Nat.ne_of_gt hzl)).trans hT
    have new : ObjOk X.prog X.w (upd H s.heap.objs.size (.tup [x, y])) h'' s.heap.objs.size (.tup [x, y]) :=
      ⟨by show 2 ≤ sizeLine; decide, [u, u2], .cons ru (.cons ru2 .nil), ⟨_, hT2, rfl, _, rfl⟩⟩
    have I1 : Inv X pins σ (upd H s.heap.objs.size (.tup [x, y])) { s with heap := h'', toks := tk } :=
      I.turnedNew (t' := tk) (ch := [z, TI, TO, i1, i2]) (fun c o hb q => (sb.2 c (fun q' => hb (by simp [q']))).trans (hk c o (fun q' => hb (by simp [q'])) (fun q' => hb (by simp [q'])) (fun q' => hb (by simp [q'])) (fun q' => hb (by simp [q'])) q)) hf (Nat.le_refl _) new
    have zi1 : i1 ≠ z := S.zi1.symm
    have zi2 : i2 ≠ z := S.zi2.symm
    refine ⟨.ref s.heap.objs.size, _, I1, rfl, ⟨_, x, y, rfl, I.hok.fresh (Nat.le_refl _), rfl, fun l hl => by rw [Sk.rd_inj I hl hqx]; exact hx, fun l hl => by rw [Sk.rd_inj I hl hqy]; exact hy⟩, ⟨z'', ?_, ⟨u, u2, ?_⟩, ?_, ?_⟩, fun c hcm => ?_⟩
    · exact (sb.2 _ S.TIz).trans (hk _ _ S.TIz S.TITO S.TIi1 S.TIi2 hTI)
    · exact (sb.2 _ S.TOz).trans TO'
    · exact Sk.keep (hat1 _ _ n1) fun o q => (sb.2 _ zi1).trans q
    · exact Sk.keep (hat2 _ _ n2) fun o q => (sb.2 _ zi2).trans q
    · have hlt : c < s.heap.objs.size := by
        have e' : c = z ∨ c = TI ∨ c = TO ∨ c = i1 ∨ c = i2 := by simpa using hcm
        rcases e' with q | q | q | q | q
        · rw [q]; exact hzl
        · rw [q]; exact Heap.lt_size hTI
        · rw [q]; exact Heap.lt_size hTO
        · rw [q]; obtain ⟨_, e1, _⟩ := Sk.obj s1; exact Heap.lt_size e1
        · rw [q]; obtain ⟨_, e2, _⟩ := Sk.obj s2; exact Heap.lt_size e2
      rw [upd_ne (Nat.ne_of_lt hlt)]
      exact (hf c hcm).1
  done := by
    intro X hP hw hK hc i pins s σ H E I hf st hg
    subst hP hw hK
    obtain ⟨hz, hTI, ⟨x0, y0, hTO⟩, s1, s2⟩ := st
    obtain ⟨us, ws, hqx, hqy, hend⟩ := hg
    obtain ⟨P1, St1, D1, st1, hP1, hat1⟩ := sk_draws I hc hqx s1
    obtain ⟨P2, St2, D2, st2, hP2, hat2⟩ := sk_draws I hc hqy s2
    exact wpAny_pyNext_zipD2_end S D1 D2 hz hTI hTO st1 st2 (by omega) (by omega) (by omega) fun h' tk hk => ⟨rfl, I.turnedL (t' := tk) (ch := [z, TI, TO, i1, i2]) (fun c o hb q =>
      hk c o (fun q' => hb (by simp [q'])) (fun q' => hb (by simp [q'])) (fun q' => hb (by simp [q'])) (fun q' => hb (by simp [q'])) q) hf⟩
  self := fun A i s Q E st h => wpAny_pyIter_zip st.1 h
/-! they begin -/
/-- the iterator's object at the start -/
def Sk.o (v : Value) : Sk → Obj
  | .tup a => { cls := .type "tuple_iterator", data := .fields #[.ref a, .int 0 0] }
  | .lst a => { cls := .type "list_iterator", data := .fields #[.ref a, .int 0 0] }
  | .str z => { cls := .type (strIterType z), data := .fields #[v, .int 0 0] }
theorem sk_begins {X : Cx} {pins : List (Addr × Obj)} {σ : St} {H : Hp} {s : Shared} (I : Inv X pins σ H s) {q : Sk} {us : List V} (rd : q.rd X.K H us) {v : Value} (r : RelV q.v v) :
    ∃ B, Begins v (q.o v) B ∧ B s.heap ∧ (∀ it, ∀ b ∈ q.own it, b = it ∨ b < s.heap.objs.size) ∧ ∀ it h', h'.get? it = some (q.o v) → s.heap.objs.size ≤ it → q.stands it 0 h' := by
  cases q with
  | tup a =>
    cases r
    obtain ⟨its, rv, p, hz⟩ := I.tuple rd
    have hlt : a < s.heap.objs.size := by obtain ⟨o, e, _⟩ := p; exact Heap.lt_size e
    refine ⟨_, begins_tuple a its.toArray, p, fun it b hb => ?_, fun it h' g hi => ⟨⟨_, g, rfl, rfl⟩, Nat.ne_of_lt (Nat.lt_of_lt_of_le hlt hi)⟩⟩
    simp only [Sk.own, List.mem_cons, List.not_mem_nil, or_false] at hb
    rcases hb with z | z
    · exact .inl z
    · rw [z]; exact .inr hlt
  | lst a =>
    cases r
    obtain ⟨its, rv, p, hz⟩ := I.list rd
    have hlt : a < s.heap.objs.size := by obtain ⟨o, n, e, _⟩ := p; exact Heap.lt_size e
    refine ⟨_, begins_list a its.toArray, p.isList, fun it b hb => ?_, fun it h' g hi => ⟨⟨_, g, rfl, rfl⟩, Nat.ne_of_lt (Nat.lt_of_lt_of_le hlt hi)⟩⟩
    simp only [Sk.own, List.mem_cons, List.not_mem_nil, or_false] at hb
    rcases hb with z | z
    · exact .inl z
    · rw [z]; exact .inr hlt
  | str z =>
    obtain ⟨t, rfl⟩ := r
    refine ⟨_, begins_text z t, trivial, fun it b hb => ?_, fun it h' g hi => ⟨t, _, g, rfl, rfl⟩⟩
    simp only [Sk.own, List.mem_cons, List.not_mem_nil, or_false] at hb
    exact .inl hb
set_option maxHeartbeats 1000000 in
theorem meets_enum1 {v : Value} {o : Obj} {B : Heap → Prop} (G : Begins v o B) :
    Meets (Builtin.«enumerate.__new__» ⟨[.type "enumerate", v], []⟩) (fun _ R s => B s.heap ∧
      R (.ok (.ret (.ref (s.heap.push o).objs.size))) { s with heap := (s.heap.push o).push { cls := .type "enumerate", data := .fields #[.none, .bool false, .ref s.heap.objs.size, rawInt 0, .none, .none] } }) :=
  .of_wp fun prog w A R s h => by
    obtain ⟨hp, g, d, tk, os⟩ := s; obtain ⟨h1, h⟩ := h
    have hsub := sub_enumerate
    have q1 : ∀ {A' : Around} {E : Value → Shared → Prop} {Q : Value → Shared → Prop}, Q (.ref hp.objs.size) ⟨hp.push o, g, d, tk, os⟩ → wpAny (model prog w) A' (pyIter v) Q E ⟨hp, g, d, tk, os⟩ :=
      fun q => G.iter prog w _ _ ⟨hp, g, d, tk, os⟩ _ h1 q
    wp_walk using q1
    refine wpAny_stack_any fun st => wpAny_pure ?_
    split
    · rename_i c _ _ _ _ _
      cases (c == Value.type "enumerate")
      · wp_walk using q1
        exact ⟨_, rfl, h⟩
      · wp_walk using q1
        exact ⟨_, rfl, h⟩
    · wp_walk using q1
      exact ⟨_, rfl, h⟩
theorem enum_begins1 {prog : Program} {w : World} {A : Around} {E : Value → Shared → Prop} {s : Shared} {v : Value} {o : Obj} {B : Heap → Prop} {Q : Value → Shared → Prop} (G : Begins v o B) (h1 : B s.heap)
    (h : ∀ h', IsEnum h' (s.heap.objs.size + 1) s.heap.objs.size 0 .none → h'.get? s.heap.objs.size = some o → h'.objs.size = s.heap.objs.size + 2 →
      (∀ b o, s.heap.get? b = some o → h'.get? b = some o) → Q (.ref (s.heap.objs.size + 1)) { s with heap := h' }) :
    wpAny (model prog w) A (call (.type "enumerate") [v]) Q E s := by
  refine callType_new F.called_enumerate (by decide) (F.typeCall_enumerate_1 _) (F.newCall_enumerate_1 _) (fun obj => F.args_object_init_2 obj _) F.entry_enumerate_new (meets_enum1 G) ⟨h1, ?_⟩
  have hz : (s.heap.push o).objs.size = s.heap.objs.size + 1 := Heap.size_push ..
  show _ ∧ _
  rw [hz]
  have he : IsEnum ((s.heap.push o).push { cls := .type "enumerate", data := .fields #[.none, .bool false, .ref s.heap.objs.size, rawInt 0, .none, .none] }) (s.heap.objs.size + 1) s.heap.objs.size 0 .none := by
    have := Heap.get?_push_size (s.heap.push o) (o := { cls := .type "enumerate", data := .fields #[.none, .bool false, .ref s.heap.objs.size, rawInt 0, .none, .none] }) rfl
    rw [hz] at this; exact this
  exact ⟨⟨_, he, rfl⟩, h _ he (Heap.get?_push_of_some _ (Heap.get?_push_size _ G.free)) (by rw [Heap.size_push, hz]) fun b o x => Heap.get?_push_of_some _ (Heap.get?_push_of_some _ x)⟩
/-! what the evaluator walks -/
theorem enumL_get : ∀ (items : List PV) (k i : Nat), (enumL k items)[i]? = items[i]?.map fun x => .tup [.int ((k + i : Nat) : Int), x]
  | [], _, _ => by simp [enumL]
  | x :: r, k, 0 => by simp [enumL]
  | x :: r, k, i + 1 => by
    rw [enumL, List.getElem?_cons_succ, enumL_get r (k + 1) i, List.getElem?_cons_succ, show k + 1 + i = k + (i + 1) by omega]
theorem enumL_len : ∀ (items : List PV) (k : Nat), (enumL k items).length = items.length
  | [], _ => rfl
  | x :: r, k => by rw [enumL, List.length_cons, enumL_len r, List.length_cons]
theorem zipL_get : ∀ (xs ys : List PV) (i : Nat) (x y : PV), xs[i]? = some x → ys[i]? = some y → (zipL xs ys)[i]? = some (.tup [x, y])
  | [], _, _, _, _, h, _ => by simp at h
  | _ :: _, [], _, _, _, _, h => by simp at h
  | a :: r, b :: s, 0, x, y, h, h' => by simp at h h'; subst h h'; rfl
  | a :: r, b :: s, i + 1, x, y, h, h' => by
    rw [zipL, List.getElem?_cons_succ]
    exact zipL_get r s i x y (by simpa using h) (by simpa using h')
theorem zipL_len : ∀ (xs ys : List PV), (zipL xs ys).length = min xs.length ys.length
  | [], _ => by simp [zipL]
  | _ :: _, [] => by simp [zipL]
  | a :: r, b :: s => by rw [zipL, List.length_cons, zipL_len r s]; simp only [List.length_cons]; omega
theorem Reps.signs {K : PySem.W.Frag} {w : Wd} : ∀ cs : List Nat, Reps K w (cs.map fun c => .str [c]) (cs.map fun c => V.str ⟨#[c]⟩)
  | [] => .nil
  | c :: r => .cons (Rep.ofStr (by show 1 ≤ sizeLine; decide)) (Reps.signs r)
/-- a walked value by its kind -/
theorem sk_of {K : PySem.W.Frag} {w : Wd} {v : PV} {x : V} {items : List PV} (r : Rep K w v x) (h : itV v = some items) : ∃ (q : Sk) (us : List V), q.v = x ∧ (∀ w2, w.le w2 → q.rd K w2.H us) ∧ Reps K w items us := by
  cases r with
  | str z hz =>
    simp only [itV, Option.some.injEq] at h
    subst h
    exact ⟨.str z, _, rfl, fun w2 _ => rfl, Reps.signs _⟩
  | tup h2 q2 =>
    simp only [itV, Option.some.injEq] at h
    subst h
    exact ⟨.tup _, _, rfl, fun w2 hw => (h2.mono hw).sq, q2⟩
  | lst h2 n2 q2 =>
    simp only [itV, Option.some.injEq] at h
    subst h
    exact ⟨.lst _, _, rfl, fun w2 hw => SqL.of (hw.keep _ _ h2 n2.1), q2⟩
  | _ => simp [itV] at h
theorem Rep.pair {K : PySem.W.Frag} {w : Wd} {st : Sto} {a b : PV} {x y : V} {T : Addr} (hs : StOk K w st) (e : w.H T = none) (ra : Rep K w a x) (rb : Rep K w b y) : Rep K (w.put T (.tup [x, y])) (.tup [a, b]) (.ref T) :=
  .tup (.inl ⟨.inl upd_same, hs.new e⟩) (.cons (ra.mono (Wd.put_le e)) (.cons (rb.mono (Wd.put_le e)) .nil))
theorem isIt_enum {K : PySem.W.Frag} {w : Wd} {items : List PV} {us : List V} {q : Sk} (hq : ∀ w2, w.le w2 → q.rd K w2.H us) (r : Reps K w items us) : IsIt K w (enumL 0 items) (ItE K q) := fun w2 st2 hw hs => by
  rw [enumL_len]
  refine ⟨fun i hi => ?_, us, hq w2 hw, r.length.symm⟩
  obtain ⟨u, hu, ru⟩ := (r.mono hw).get (List.getElem?_eq_getElem hi)
  refine ⟨⟨us, u, hq w2 hw, hu⟩, fun x H' hy => ?_⟩
  obtain ⟨T, x', rfl, hT, rfl, hx⟩ := hy
  have e := hx us (hq w2 hw)
  rw [hu] at e
  cases e
  refine ⟨w2.put T (.tup [.int (i : Nat), u]), .tup [.int (i : Int), items[i]], rfl, Wd.put_le hT, hs.put hT, ?_, Rep.pair hs hT (.int _) ru⟩
  rw [enumL_get, List.getElem?_eq_getElem hi]
  simp
theorem isIt_zip {K : PySem.W.Frag} {w : Wd} {xs ys : List PV} {us ws : List V} {q r : Sk} (hq : ∀ w2, w.le w2 → q.rd K w2.H us) (rq : Reps K w xs us) (hr : ∀ w2, w.le w2 → r.rd K w2.H ws) (rr : Reps K w ys ws) : IsIt K w (zipL xs ys) (ItZ K q r) := fun w2 st2 hw hs => by
  rw [zipL_len]
  refine ⟨fun i hi => ?_, us, ws, hq w2 hw, hr w2 hw, by rw [rq.length, rr.length]⟩
  have hi1 : i < xs.length := by omega
  have hi2 : i < ys.length := by omega
  obtain ⟨u, hu, ru⟩ := (rq.mono hw).get (List.getElem?_eq_getElem hi1)
  obtain ⟨u2, hu2, ru2⟩ := (rr.mono hw).get (List.getElem?_eq_getElem hi2)
  refine ⟨⟨us, ws, u, u2, hq w2 hw, hr w2 hw, hu, hu2⟩, fun x H' hy => ?_⟩
  obtain ⟨T, x', y', rfl, hT, rfl, hx, hy⟩ := hy
  have e := hx us (hq w2 hw)
  rw [hu] at e
  cases e
  have e := hy ws (hr w2 hw)
  rw [hu2] at e
  cases e
  exact ⟨w2.put T (.tup [u, u2]), .tup [xs[i], ys[i]], rfl, Wd.put_le hT, hs.put hT, zipL_get xs ys i _ _ (List.getElem?_eq_getElem hi1) (List.getElem?_eq_getElem hi2), Rep.pair hs hT ru ru2⟩
section
variable {X : Cx} {cl : Nat → Value} {W : WX} {cf : CF} {pos p tpos : Pos} {a b : Expr} {pa pb : PX} {elts : List Expr} {kk : Nat}
theorem x_enum (hg : Gl X "enumerate") (hm : X.mg "enumerate" = none) (ha : L2.PE X a (rdE X.K cl W cf pa)) (hs : starEach [a] X.env = [(false, eval a X.env)]) :
    PI X (.Tuple elts kk tpos) (.Call (.Name "enumerate" p) [a] [] pos) (rdI X.K cl W cf (.enum pa)) := by
  refine ⟨fun pins s σ H R I h => ?_⟩
  obtain ⟨w, e, st, rfl, he, hs', h⟩ := h
  simp only [evI] at h
  have hA : rdA X.K cl W cf (.cons pa .nil) σ w.H (fun xs H1 => ∃ (w1 : Wd) (items : List PV) (st1 : Sto) (v1 : PV) (x : V), xs = [x] ∧ w1.H = H1 ∧ StOk X.K w1 st1 ∧ Rep X.K w1 v1 x ∧ itV v1 = some items ∧ ∀ J, IsIt X.K w1 (enumL 0 items) J → R J H1) := by
    refine ⟨w, e, st, rfl, he, hs', ?_⟩
    simp only [evs]
    cases q : ev cf pa e st with
    | ok v st1 =>
      rw [q] at h
      simp only [Res.bind_ok] at h ⊢
      intro w1 us hw1 hs1 r1
      obtain ⟨u, rfl, ru⟩ := r1.one
      obtain ⟨its, q2, h⟩ := h.ofO
      rw [Option.map_eq_some_iff] at q2
      obtain ⟨items, q2, rfl⟩ := q2
      exact ⟨w1, items, st1, v, u, rfl, rfl, hs1, ru, q2, fun J hJ => h w1 J hw1 hs1 hJ⟩
    | exc c st1 => rw [q] at h; exact h
    | stuck => rw [q] at h; exact h.elim
  refine PyProof.Rows.Call_ (ld_blt I hg hm PyProof.Rows.boot_enumerate (PyProof.Rows.callWith_type1 (thn ((x_cons ha x_nil hs).run pos pins s σ w.H _ I hA) fun us s1 ⟨vs, H1, I1, r1, q1⟩ => ?_) hs rfl))
  obtain ⟨w1, items, st1, v1, x, rfl, rfl, hs1, rx, hi, g⟩ := q1
  obtain ⟨q, ws, rfl, hq, rq⟩ := sk_of rx hi
  cases r1 with
  | cons r rr =>
    cases rr
    obtain ⟨B, G, hB, hown, hstand⟩ := sk_begins I1 (hq w1 (.refl w1)) r
    refine enum_begins1 G hB fun h' he hit hsz hk => wpAny_pyIter_enum he ?_
    have I2 : Inv X pins σ w1.H { s1 with heap := h' } := I1.kept (t' := s1.toks) hk
    refine ⟨s1.heap.objs.size + 1, [s1.heap.objs.size + 1, s1.heap.objs.size], _, _, w1.H, rfl, I2, turn_enumG q (s1.heap.objs.size + 1) s1.heap.objs.size (Nat.succ_ne_self _) (fun z => ?_), ⟨⟨.none, he⟩, hstand _ _ hit (Nat.le_refl _)⟩, fun b hb => ?_, g _ (isIt_enum hq rq)⟩
    · rcases hown _ _ z with y | y
      · exact Nat.succ_ne_self _ y
      · exact absurd y (Nat.not_lt.mpr (Nat.le_succ _))
    · have e' : b = s1.heap.objs.size + 1 ∨ b = s1.heap.objs.size := by simpa using hb
      have hle : s1.heap.objs.size ≤ b := by
        rcases e' with z | z
        · rw [z]; exact Nat.le_add_right _ _
        · rw [z]; exact Nat.le_refl _
      exact I1.fpOk hle (I1.hok.fresh hle)
theorem x_zip (hg : Gl X "zip") (hm : X.mg "zip" = none) (ha : L2.PE X a (rdE X.K cl W cf pa)) (hb : L2.PE X b (rdE X.K cl W cf pb)) (hs : starEach [a, b] X.env = (false, eval a X.env) :: starEach [b] X.env) (hs2 : starEach [b] X.env = (false, eval b X.env) :: starEach [] X.env)
    (hpl : (backTo pos (starEach [b] X.env)).any (·.1) = false) : PI X (.Tuple elts kk tpos) (.Call (.Name "zip" p) [a, b] [] pos) (rdI X.K cl W cf (.zip pa pb)) := by
  refine ⟨fun pins s σ H R I h => ?_⟩
  obtain ⟨w, e, st, rfl, he, hs', h⟩ := h
  simp only [evI] at h
  have hA : rdA X.K cl W cf (.cons pa (.cons pb .nil)) σ w.H (fun xs H1 => ∃ (w1 : Wd) (xs1 xs2 : List PV) (st1 : Sto) (v1 v2 : PV) (x y : V), xs = [x, y] ∧ w1.H = H1 ∧ StOk X.K w1 st1 ∧ Rep X.K w1 v1 x ∧ Rep X.K w1 v2 y ∧ itV v1 = some xs1 ∧ itV v2 = some xs2 ∧ ∀ J, IsIt X.K w1 (zipL xs1 xs2) J → R J H1) := by
    refine ⟨w, e, st, rfl, he, hs', ?_⟩
    simp only [evs]
    cases q : ev cf pa e st with
    | ok v st1 =>
      rw [q] at h
      simp only [Res.bind_ok] at h ⊢
      cases q3 : ev cf pb e st1 with
      | ok v2 st2 =>
        rw [q3] at h
        simp only [Res.bind_ok] at h ⊢
        intro w1 us hw1 hs1 r1
        obtain ⟨u, u2, rfl, ru, ru2⟩ := r1.two
        obtain ⟨its, q2, h⟩ := h.ofO
        rw [Option.bind_eq_some_iff] at q2
        obtain ⟨xs1, q4, q2⟩ := q2
        rw [Option.map_eq_some_iff] at q2
        obtain ⟨xs2, q5, rfl⟩ := q2
        exact ⟨w1, xs1, xs2, st2, v, v2, u, u2, rfl, rfl, hs1, ru, ru2, q4, q5, fun J hJ => h w1 J hw1 hs1 hJ⟩
      | exc c st2 => rw [q3] at h; exact h
      | stuck => rw [q3] at h; exact h.elim
    | exc c st1 => rw [q] at h; exact h
    | stuck => rw [q] at h; exact h.elim
  refine PyProof.Rows.Call_ (ld_blt I hg hm PyProof.Rows.boot_zip (PyProof.Rows.callWith_type1 (thn ((x_cons ha (x_cons hb x_nil hs2) hs).run pos pins s σ w.H _ I hA) fun us s1 ⟨vs, H1, I1, r1, q1⟩ => ?_) hs hpl))
  obtain ⟨w1, xs1, xs2, st1, v1, v2, x, y, rfl, rfl, hs1, rx, ry, hi1, hi2, g⟩ := q1
  obtain ⟨q, ws, rfl, hq, rq⟩ := sk_of rx hi1
  obtain ⟨r, ws2, rfl, hr, rr2⟩ := sk_of ry hi2
  cases r1 with
  | cons r1 rr =>
    cases rr with
    | cons r2 rr =>
      cases rr
      obtain ⟨B1, G1, hB1, hown1, hst1⟩ := sk_begins I1 (hq w1 (.refl w1)) r1
      obtain ⟨B2, G2, hB2, hown2, hst2⟩ := sk_begins I1 (hr w1 (.refl w1)) r2
      refine zip_begins2 G1 G2 hB1 hB2 fun h' hz hTI hTO g1 g2 hsz hk => wpAny_pyIter_zip hz ?_
      have I2 : Inv X pins σ w1.H { s1 with heap := h' } := I1.kept (t' := s1.toks) hk
      have n1 : ∀ c, s1.heap.objs.size < c → c ∉ q.own s1.heap.objs.size := fun c hc z => by
        rcases hown1 _ _ z with y | y
        · rw [y] at hc; exact Nat.lt_irrefl _ hc
        · exact Nat.lt_irrefl _ (Nat.lt_trans y hc)
      have n2 : ∀ c, s1.heap.objs.size ≤ c → c ≠ s1.heap.objs.size + 1 → c ∉ r.own (s1.heap.objs.size + 1) := fun c hc hn z => by
        rcases hown2 _ _ z with y | y
        · exact hn y
        · exact Nat.lt_irrefl _ (Nat.lt_of_lt_of_le y hc)
      have S : ZipSep2 (s1.heap.objs.size + 4) (s1.heap.objs.size + 2) (s1.heap.objs.size + 3) s1.heap.objs.size (s1.heap.objs.size + 1) (q.own s1.heap.objs.size) (r.own (s1.heap.objs.size + 1)) :=
        ⟨by simp, by simp, by simp, by simp, Sk.mem _ _, n1 _ (by simp), n1 _ (by simp), by simp, Sk.mem _ _, n2 _ (by simp) (by simp), n2 _ (by simp) (by simp), n2 _ (Nat.le_refl _) (by simp), n1 _ (by simp)⟩
      refine ⟨s1.heap.objs.size + 4, [s1.heap.objs.size + 4, s1.heap.objs.size + 2, s1.heap.objs.size + 3, s1.heap.objs.size, s1.heap.objs.size + 1], _, _, w1.H, rfl, I2, turn_zipG q r S, ⟨hz, hTI, ⟨_, _, hTO⟩, hst1 _ _ g1 (Nat.le_refl _), hst2 _ _ g2 (Nat.le_succ _)⟩, fun b hb => ?_, g _ (isIt_zip hq rq hr rr2)⟩
      have hle : s1.heap.objs.size ≤ b := by
        have e' : b = s1.heap.objs.size + 4 ∨ b = s1.heap.objs.size + 2 ∨ b = s1.heap.objs.size + 3 ∨ b = s1.heap.objs.size ∨ b = s1.heap.objs.size + 1 := by simpa using hb
        rcases e' with z | z | z | z | z <;> rw [z] <;> first | exact Nat.le_refl _ | exact Nat.le_add_right _ _
      exact I1.fpOk hle (I1.hok.fresh hle)
end
/-! isinstance -/
def Ty.nm : Ty → String
  | .int => "int" | .str => "str" | .bool => "bool" | .tuple => "tuple"
theorem Ty.boot (t : Ty) : bootBuiltins t.name = some (.type t.nm) := by cases t <;> decide +kernel
theorem Ty.ok1 (t : Ty) : t.name ≠ "__name__" := by cases t <;> decide
theorem Ty.ok2 (t : Ty) : (t.name == ("__debug__" : Str)) = false := by cases t <;> decide
theorem kit_isi {K : PySem.W.Frag} {a : String} {t : Ty} {r : Bool} (h : kitB a t.nm = some r) : PySem.W.kitOne K (.type a) (.type t.nm) = some r := kit_ty h
theorem isi_ty {K : PySem.W.Frag} {w : Wd} {v : PV} {x : V} (r : RepW K w v x) {t : Ty} {b : Bool} (h : isiB v t = some b) : ∃ a, TyX K w.H x (.type a) ∧ ∀ u : Ty, ∀ c, isiB v u = some c → kitB a u.nm = some c := by
  rcases r with r | ⟨xs, a, us, rfl, rfl, hl, _⟩
  case inr =>
    exact ⟨"list", .base (.lst hl), fun u c hc => by simp only [isiB, Option.some.injEq] at hc; subst hc; cases u <;> decide +kernel⟩
  cases r with
  | non => exact ⟨"NoneType", .base .non, fun u c hc => by simp only [isiB, Option.some.injEq] at hc; subst hc; cases u <;> decide +kernel⟩
  | bl y => exact ⟨"bool", .base (.bl y), fun u c hc => by simp only [isiB, Option.some.injEq] at hc; subst hc; cases u <;> decide +kernel⟩
  | int i => exact ⟨"int", .base (.int i), fun u c hc => by simp only [isiB, Option.some.injEq] at hc; subst hc; cases u <;> decide +kernel⟩
  | str z hz => exact ⟨"str", .base (.str z), fun u c hc => by simp only [isiB, Option.some.injEq] at hc; subst hc; cases u <;> decide +kernel⟩
  | tup hq _ =>
    refine ⟨"tuple", ?_, fun u c hc => by simp only [isiB, Option.some.injEq] at hc; subst hc; cases u <;> decide +kernel⟩
    rcases hq with ⟨hq, _⟩ | ⟨o, its, n, e, c, _⟩
    · rcases hq with hq | ⟨o, hq⟩
      · exact .base (.tup hq)
      · exact .fTuple hq
    · exact .kTuple e c
  | lst hl n _ => exact ⟨"list", .base (.lst hl), fun u c hc => by simp only [isiB, Option.some.injEq] at hc; subst hc; cases u <;> decide +kernel⟩
  | scr _ => simp [isiB] at h
  | ref _ => simp [isiB] at h
  | gone _ => simp [isiB] at h
section
variable {X : Cx} {cl : Nat → Value} {W : WX} {cf : CF} {pos p p2 p3 p4 : Pos} {a : Expr} {pa : PX} {kk : Nat}
theorem x_isi1 {t : Ty} (hg : Gl X "isinstance") (hm : X.mg "isinstance" = none) (hg2 : Gl X t.name) (hm2 : X.mg t.name = none) (ha : L2.PE X a (rdE X.K cl W cf pa)) (hs : starEach [a, .Name t.name p2] X.env = (false, eval a X.env) :: starEach [.Name t.name p2] X.env) :
    L2.PE X (.Call (.Name "isinstance" p) [a, .Name t.name p2] [] pos) (rdE X.K cl W cf (.isi pa [t])) := by
  refine PEimp (pe_callB call_isi hg hm PyProof.Rows.boot_isinstance (pa_cons ha (pa_cons (pe_bltn (v := .ty t.nm) hg2 hm2 t.boot rfl t.ok1 t.ok2) pa_nil rfl) hs) (by decide) (by decide) hs rfl) fun σ H Q h => ?_
  obtain ⟨w, e, st, rfl, he, hs, h⟩ := h
  simp only [ev] at h
  refine ⟨w, e, st, rfl, he, hs, h.bind.mono fun x H1 ⟨w1, v1, st1, e1, hw1, hs1, r1, h1⟩ => ?_⟩
  subst e1
  obtain ⟨v, q, h1⟩ := h1.ofO
  rw [Option.map_eq_some_iff] at q
  obtain ⟨b, q, rfl⟩ := q
  simp only [isiV] at q
  obtain ⟨n, ty, hk⟩ := isi_ty (r1.deref hs1) q
  exact ⟨x, .ty t.nm, _, _, b, rfl, .ty _, ty, kit_isi (hk t b q), h1 w1 _ (.refl w1) hs1 (.bl b)⟩
theorem x_isi2 {t u : Ty} (hg : Gl X "isinstance") (hm : X.mg "isinstance" = none) (hg2 : Gl X t.name) (hm2 : X.mg t.name = none) (hg3 : Gl X u.name) (hm3 : X.mg u.name = none) (ha : L2.PE X a (rdE X.K cl W cf pa))
    (hs : starEach [a, .Tuple [.Name t.name p2, .Name u.name p3] kk p4] X.env = (false, eval a X.env) :: starEach [.Tuple [.Name t.name p2, .Name u.name p3] kk p4] X.env) :
    L2.PE X (.Call (.Name "isinstance" p) [a, .Tuple [.Name t.name p2, .Name u.name p3] kk p4] [] pos) (rdE X.K cl W cf (.isi pa [t, u])) := by
  refine PEimp (pe_callB call_isiT hg hm PyProof.Rows.boot_isinstance (pa_cons ha (pa_cons (pe_tup (pa_cons (pe_bltn (v := .ty t.nm) hg2 hm2 t.boot rfl t.ok1 t.ok2) (pa_cons (pe_bltn (v := .ty u.nm) hg3 hm3 u.boot rfl u.ok1 u.ok2) pa_nil rfl) rfl)) pa_nil rfl) hs) (by decide) (by decide) hs rfl) fun σ H Q h => ?_
  obtain ⟨w, e, st, rfl, he, hs, h⟩ := h
  simp only [ev] at h
  refine ⟨w, e, st, rfl, he, hs, h.bind.mono fun x H1 ⟨w1, v1, st1, e1, hw1, hs1, r1, h1⟩ => ?_⟩
  subst e1
  obtain ⟨v, q, h1⟩ := h1.ofO
  rw [Option.map_eq_some_iff] at q
  obtain ⟨b, q, rfl⟩ := q
  simp only [isiV, Option.bind_eq_some_iff, Option.map_eq_some_iff] at q
  obtain ⟨b1, q1, b2, q2, rfl⟩ := q
  obtain ⟨n, ty, hk⟩ := isi_ty (r1.deref hs1) q1
  have k1 := kit_isi (K := X.K) (hk t b1 q1)
  have k2 := kit_isi (K := X.K) (hk u b2 q2)
  refine ⟨by show 2 ≤ sizeLine; decide, fun p hp => ⟨x, p, _, .type n, [.type t.nm, .type u.nm], b1 || b2, rfl, upd_same, .cons (.ty _) (.cons (.ty _) .nil), ?_, ?_, h1 (w1.put p _) _ (Wd.put_le hp) (hs1.put hp) (.bl _)⟩⟩
  · cases ty with
    | base h =>
      refine .base ?_
      cases h with
      | non => exact .non
      | bl y => exact .bl y
      | int i => exact .int i
      | str y => exact .str y
      | flt y => exact .flt y
      | lst e => exact .lst (by rw [upd_ne (ne_of_none e hp)]; exact e)
      | frz e => exact .frz (by rw [upd_ne (ne_of_none e hp)]; exact e)
      | tup e => exact .tup (by rw [upd_ne (ne_of_none e hp)]; exact e)
      | dK e => exact .dK (by rw [upd_ne (ne_of_none e hp)]; exact e)
      | dT e => exact .dT (by rw [upd_ne (ne_of_none e hp)]; exact e)
    | byt b => exact .byt b
    | set e => exact .set (by rw [upd_ne (ne_of_none e hp)]; exact e)
    | kList e c => exact .kList e c
    | kTuple e c => exact .kTuple e c
    | kDict e c => exact .kDict e c
    | fTuple e => exact .fTuple (by rw [upd_ne (ne_of_none e hp)]; exact e)
    | fDict e => exact .fDict (by rw [upd_ne (ne_of_none e hp)]; exact e)
  · refine kitAny_cons k1 (fun z => ?_) (fun z => by rw [z]; rfl)
    refine kitAny_cons k2 (fun z2 => ?_) (fun z2 => by rw [z2]; simp)
    rw [kitAny_nil, z, z2]; rfl
/-! methods of lists that write -/
theorem x_mth1 {m : Mth} {q : PX} {o e : Expr} {apos : Pos} (ho : L2.PE X o (rdE X.K cl W cf pa)) (he : L2.PE X e (rdE X.K cl W cf q)) (hbase : attributeBase o m.name X.env (eval o X.env) = eval o X.env) (hline : (apos.endLine == pos.line) = true)
    (hs : starEach [e] X.env = (false, eval e X.env) :: starEach [] X.env) : L2.PE X (.Call (.Attribute o m.name apos) [e] [] pos) (rdE X.K cl W cf (.mth m pa (.cons q .nil))) := by
  have hfew : ((backTo pos (starEach [e] X.env)).all (fun x => !x.1) && (backToKw pos (keywordEach [] X.env)).all (fun x => x.1.isSome) && decide (([e] : List Expr).length + ([] : List Keyword).length + (if ([] : List Keyword).isEmpty then 0 else 1) < 30)) = true := by
    rw [hs]; rfl
  have main : ∀ {id : String} (slot : Slot "list" m.name id) (hty : typeOf (.builtin id) = pure (.type "method_descriptor")) (hm : ∀ E, MtR X id (rMth X.K cl E m)), L2.PE X (.Call (.Attribute o m.name apos) [e] [] pos) (rdE X.K cl W cf (.mth m pa (.cons q .nil))) := fun slot hty hm =>
    ⟨fun pins s σ H Q I h => (pe_bm (cpos := pos) PySem.F.plainAttrs_list slot hty (hm (WE W σ)) ho (x_cons he x_nil hs) hbase hfew hline hs rfl).run pins s σ H Q I (by
      obtain ⟨w, e, st, rfl, he, hs, h⟩ := h
      exact mth_rd he (fun Q' z => ⟨w, e, st, rfl, he, hs, z⟩) (fun w1 st1 Q' hw hs' z => ⟨w1, e, st1, rfl, he.mono hw, hs', z⟩) h)⟩
  cases m with
  | append => exact main PySem.F.slot_list_append PySem.F.type_list_append fun E => mt_app
  | extend => exact main PySem.F.slot_list_extend PySem.F.type_list_extend fun E => mt_ext
  | pop => exact main PySem.F.slot_list_pop PySem.F.type_list_pop fun E => mt_popA
theorem x_mth0 {m : Mth} {o : Expr} {apos : Pos} (ho : L2.PE X o (rdE X.K cl W cf pa)) (hbase : attributeBase o m.name X.env (eval o X.env) = eval o X.env) (hline : (apos.endLine == pos.line) = true) :
    L2.PE X (.Call (.Attribute o m.name apos) [] [] pos) (rdE X.K cl W cf (.mth m pa .nil)) := by
  have main : ∀ {id : String} (slot : Slot "list" m.name id) (hty : typeOf (.builtin id) = pure (.type "method_descriptor")) (hm : ∀ E, MtR X id (rMth X.K cl E m)), L2.PE X (.Call (.Attribute o m.name apos) [] [] pos) (rdE X.K cl W cf (.mth m pa .nil)) := fun slot hty hm =>
    ⟨fun pins s σ H Q I h => (pe_bm0 (cpos := pos) PySem.F.plainAttrs_list slot hty (hm (WE W σ)) ho hbase hline).run pins s σ H Q I (by
      obtain ⟨w, e, st, rfl, he, hs, h⟩ := h
      exact mth_rd (tq := fun σ H Q => Q [] H) he (fun Q' z => ⟨w, e, st, rfl, he, hs, z⟩) (fun w1 st1 Q' hw hs' z => by
        simp only [evs] at z
        exact z w1 [] (.refl w1) hs' .nil) h)⟩
  cases m with
  | append => exact main PySem.F.slot_list_append PySem.F.type_list_append fun E => mt_app
  | extend => exact main PySem.F.slot_list_extend PySem.F.type_list_extend fun E => mt_ext
  | pop => exact main PySem.F.slot_list_pop PySem.F.type_list_pop fun E => mt_popA
/-! methods of texts -/
def RM (K : PySem.W.Frag) (m : Sm1) : V → List V → Hp → VK → Prop := fun x xs H Q => ∃ (w : Wd) (st : Sto) (a : List Nat) (b v : PV) (y : V), w.H = H ∧ StOk K w st ∧ RepW K w (.str a) x ∧ xs = [y] ∧ RepW K w b y ∧ smV m a b = some v ∧ Gets K w v st Q
theorem ofL_tl (z : Str) : ofL z.cps.toList = z := str_eq z
theorem Reps.strs {K : PySem.W.Frag} {w : Wd} : ∀ {v : List PV} {u : List V} {ts : List (List Nat)}, Reps K w v u → strsV v = some ts → ∃ ys : List Str, u = ys.map V.str ∧ ys.map (fun z => z.cps.toList) = ts
  | _, _, _, .nil, e => by simp [strsV] at e; subst e; exact ⟨[], rfl, rfl⟩
  | _, _, _, .cons (.str z _) r, e => by
    simp only [strsV, Option.map_eq_some_iff] at e
    obtain ⟨ms, e1, rfl⟩ := e
    obtain ⟨ys, rfl, h⟩ := Reps.strs r e1
    exact ⟨z :: ys, rfl, by simp [h]⟩
  | _, _, _, .cons .non r, e => by simp [strsV] at e
  | _, _, _, .cons (.bl _) r, e => by simp [strsV] at e
  | _, _, _, .cons (.int _) r, e => by simp [strsV] at e
  | _, _, _, .cons (.tup _ _) r, e => by simp [strsV] at e
  | _, _, _, .cons (.lst _ _ _) r, e => by simp [strsV] at e
  | _, _, _, .cons (.scr _) r, e => by simp [strsV] at e
  | _, _, _, .cons (.ref _) r, e => by simp [strsV] at e
  | _, _, _, .cons (.gone _) r, e => by simp [strsV] at e
theorem repsStr {K : PySem.W.Frag} {w : Wd} : ∀ (zs : List Str), (∀ z ∈ zs, z.length ≤ sizeLine) → Reps K w (zs.map fun z => PV.str z.cps.toList) (zs.map V.str)
  | [], _ => .nil
  | z :: zs, h => .cons (.str z (h z (by simp))) (repsStr zs fun y hy => h y (by simp [hy]))
theorem mj_join : MtR X "str.join" (RM X.K .join) := by
  intro pins s σ H x xs v us Q I rx rs h
  obtain ⟨w, st, a, b, r, y, rfl, ok, ra, rfl, rb, e, g⟩ := h
  obtain ⟨z, rfl, rfl, hz⟩ := ra.str_inv
  have jo : ∀ ys, joV z.cps.toList ys = some r → ∀ p vs, (SqL X.K w.H p vs ∨ SqT X.K w.H p vs) → Reps X.K w ys vs → y = .ref p → wpAny (model X.prog X.w) X.A (call (.builtin "str.join") (v :: us)) (EP X pins σ Q) X.xe s := fun ys e p vs hp hr hy => by
    unfold joV at e
    rw [Option.bind_eq_some_iff] at e
    obtain ⟨ts, e1, e2⟩ := e
    simp only [Option.ite_none_right_eq_some, Option.some.injEq] at e2
    obtain ⟨hz2, rfl⟩ := e2
    obtain ⟨zs, rfl, rfl⟩ := hr.strs e1
    subst hy
    have hsz : (zs.map (·.length)).sum + zs.length * z.length ≤ 16777216 := by
      have e1 : zs.map (·.length) = (zs.map fun z => z.cps.toList).map List.length := by simp [Function.comp_def, len_eq]
      rw [e1, len_eq]
      simpa using hz2
    refine mt_join pins s σ w.H _ _ v us Q I rx rs ⟨z, p, zs, rfl, rfl, hp, hsz, ?_⟩
    have hl : (Txt.join z zs).length ≤ sizeLine := by
      rw [TL.join_eq]
      exact Nat.le_trans (StrLaws.join_length_le z zs) hsz
    have hr2 := Rep.str (K := X.K) (w := w) (Txt.join z zs) hl
    have e3 : (Txt.join z zs).cps.toList = TL.joinL z.cps.toList (zs.map fun z => z.cps.toList) := by
      rw [TL.join_eq]; exact TL.tl_join z zs
    rw [e3] at hr2
    exact g.same ok hr2
  cases b with
  | lst ys =>
    simp only [smV] at e
    obtain ⟨p, vs, rfl, hp, hr⟩ := rb.lst_inv
    exact jo ys e p vs (.inl (SqL.of hp)) hr rfl
  | tup ys =>
    simp only [smV] at e
    obtain ⟨p, vs, rfl, hp, hr⟩ := rb.tup_inv
    exact jo ys e p vs (.inr hp.sq) hr rfl
  | _ => simp [smV] at e
theorem mj_split : MtR X "str.split" (RM X.K .split) := by
  intro pins s σ H x xs v us Q I rx rs h
  obtain ⟨w, st, a, b, r, y, rfl, ok, ra, rfl, rb, e, g⟩ := h
  obtain ⟨z, rfl, rfl, hz⟩ := ra.str_inv
  cases b with
  | str b =>
    simp only [smV, Option.ite_none_right_eq_some, Option.some.injEq] at e
    obtain ⟨⟨h1, h2, h3, h4⟩, rfl⟩ := e
    obtain ⟨c, rfl, rfl, hc⟩ := rb.str_inv
    refine mt_split pins s σ w.H _ _ v us Q I rx rs ⟨z, c, rfl, rfl, by rw [len_eq, h1]; rfl, by rw [len_eq]; exact h3, fun p hp => ?_⟩
    have hne : TL.tl c ≠ [] := fun q => by have : c.cps.toList = [] := q; rw [this] at h1; simp at h1
    have hk : c.cps.all (· < 256) = true := by rw [← Array.all_toList]; exact h2
    have e3 := TL.split_spl z c hne (TL.kind_ok hk)
    have e4 : (TL.spl c.cps.toList 0 [] z.cps.toList).map PV.str = (Txt.split z c).map fun z => PV.str z.cps.toList := by
      rw [← e3, List.map_map]; rfl
    rw [e4] at g
    refine g.lst ok (repsStr _ fun q hq => ?_) hp
    have : q.cps.toList ∈ TL.spl c.cps.toList 0 [] z.cps.toList := by rw [← e3]; exact List.mem_map_of_mem (f := TL.tl) hq
    have := List.all_eq_true.mp h4 _ this
    rw [len_eq, ← SZ_eq]
    simpa using this
  | _ => simp [smV] at e
theorem mj_strip {m : Sm1} {id : String} {F : Str → Str → Str} (hF : ∀ x y, (F x y).length ≤ x.length) (hm : MtR X id (fun x xs H Q => ∃ a b, x = .str a ∧ xs = [.str b] ∧ a.length ≤ sizeLine ∧ Q (.str (F a b)) H)) (hv : ∀ a b r, smV m a b = some r → ∃ c, b = .str c ∧ r = .str (F (ofL a) (ofL c)).cps.toList) : MtR X id (RM X.K m) := by
  intro pins s σ H x xs v us Q I rx rs h
  obtain ⟨w, st, a, b, r, y, rfl, ok, ra, rfl, rb, e, g⟩ := h
  obtain ⟨z, rfl, rfl, hz⟩ := ra.str_inv
  obtain ⟨c, rfl, rfl⟩ := hv _ _ _ e
  obtain ⟨c, rfl, rfl, hc⟩ := rb.str_inv
  rw [ofL_tl, ofL_tl] at g
  exact hm pins s σ w.H _ _ v us Q I rx rs ⟨z, c, rfl, rfl, hz, g.same ok (.str _ (Nat.le_trans (hF z c) hz))⟩
theorem x_sm {m : Sm1} {q : PX} {o e : Expr} {apos : Pos} (ho : L2.PE X o (rdE X.K cl W cf pa)) (he : L2.PE X e (rdE X.K cl W cf q)) (hbase : attributeBase o m.name X.env (eval o X.env) = eval o X.env) (hline : (apos.endLine == pos.line) = true)
    (hs : starEach [e] X.env = [(false, eval e X.env)]) : L2.PE X (.Call (.Attribute o m.name apos) [e] [] pos) (rdE X.K cl W cf (.sm m pa q)) := by
  have main : ∀ {id : String} (slot : Slot "str" m.name id) (hty : typeOf (.builtin id) = pure (.type "method_descriptor")) (hm : MtR X id (RM X.K m)), L2.PE X (.Call (.Attribute o m.name apos) [e] [] pos) (rdE X.K cl W cf (.sm m pa q)) := fun slot hty hm => by
    refine PEimp (pe_m1 slot hty hm ho he hs hbase hline) fun σ H Q h => ?_
    obtain ⟨w, e, st, rfl, he, hs, h⟩ := h
    simp only [ev] at h
    refine ⟨w, e, st, rfl, he, hs, h.bind.mono fun x H1 ⟨w1, v1, st1, e1, hw1, hs1, r1, h1⟩ => ?_⟩
    subst e1
    split at h1
    · rename_i t
      obtain ⟨z, rfl, rfl, hz⟩ := r1.str_inv
      refine ⟨⟨z, rfl⟩, w1, e, st1, rfl, he.mono hw1, hs1, h1.bind.mono fun y H2 ⟨w2, v2, st2, e2, hw2, hs2, r2, h2⟩ => ?_⟩
      subst e2
      obtain ⟨v, q, h2⟩ := h2.ofO
      exact ⟨w2, st2, _, _, v, y, rfl, hs2, .inl (.str z hz), rfl, r2.deref hs2, q, h2⟩
    · exact h1.elim
  cases m with
  | join => exact main PySem.F.slot_str_join PySem.F.type_str_join mj_join
  | split => exact main PySem.F.slot_str_split PySem.F.type_str_split mj_split
  | rstrip => exact main PySem.F.slot_str_rstrip PySem.F.type_str_rstrip (mj_strip (F := Txt.rstripChars) (fun x y => PyProof.Rows.len_stripBy _ _ _ x) mt_rstripChars fun a b r e => by cases b <;> simp [smV] at e; exact ⟨_, rfl, e.symm⟩)
  | lstrip => exact main PySem.F.slot_str_lstrip PySem.F.type_str_lstrip (mj_strip (F := Txt.lstripChars) (fun x y => PyProof.Rows.len_stripBy _ _ _ x) mt_lstripChars fun a b r e => by cases b <;> simp [smV] at e; exact ⟨_, rfl, e.symm⟩)
  | strip => exact main PySem.F.slot_str_strip PySem.F.type_str_strip (mj_strip (F := Txt.stripChars) (fun x y => PyProof.Rows.len_stripBy _ _ _ x) mt_stripChars fun a b r e => by cases b <;> simp [smV] at e; exact ⟨_, rfl, e.symm⟩)
theorem Reps.reverse {K : PySem.W.Frag} {w : Wd} : ∀ {v : List PV} {u : List V}, Reps K w v u → Reps K w v.reverse u.reverse
  | _, _, .nil => .nil
  | _, _, .cons h r => by
    rw [List.reverse_cons, List.reverse_cons]
    exact (Reps.reverse r).append (.cons h .nil)
theorem x_rv {q : PX} {o e : Expr} {p2 : Pos} (ho : L2.PE X o (rdE X.K cl W cf pa)) (he : L2.PE X e (rdE X.K cl W cf q)) : L2.PE X (.Subscript o (.Slice none none (some e) p2) pos) (rdE X.K cl W cf (.rv pa q)) := by
  refine PEimp (pe_rev ho he) fun σ H Q h => ?_
  obtain ⟨w, e, st, rfl, he, hs, h⟩ := h
  simp only [ev] at h
  refine ⟨w, e, st, rfl, he, hs, h.bind.mono fun x H1 ⟨w1, v1, st1, e1, hw1, hs1, r1, h1⟩ => ?_⟩
  subst e1
  refine ⟨w1, e, st1, rfl, he.mono hw1, hs1, h1.bind.mono fun y H2 ⟨w2, v2, st2, e2, hw2, hs2, r2, h2⟩ => ?_⟩
  subst e2
  obtain ⟨v, q, h2⟩ := h2.ofO
  unfold rvV at q
  split at q
  · rename_i xs i hx
    simp only [Option.ite_none_right_eq_some, Option.some.injEq] at q
    obtain ⟨rfl, rfl⟩ := q
    cases r2.int_inv
    have r3 := (r1.mono hw2).deref hs2
    rw [hx] at r3
    obtain ⟨a, us, rfl, ha, hr⟩ := r3.tup_inv
    exact ⟨rfl, a, us, rfl, ha.sq, fun p hp => Gets.tup h2 hs2 hr.reverse hp⟩
  · cases q
end
end PL

/-! PL7: the checker, and that what it takes is evaluated as told. -/
namespace PL
open PySem L2

structure Tb where
  T : Tab
  cs : List (Str × PV)
  bs : List Str

def isVis (sc : Scope) (x : Str) : Bool := match sc.names.lookup x with
  | some .local => true
  | some .cell => true
  | some .free => true
  | _ => false
def isLoc (sc : Scope) (x : Str) : Bool := match sc.names.lookup x with
  | some .local => true
  | some .cell => true
  | _ => false
def isGl (sc : Scope) (x : Str) : Bool := match sc.names.lookup x with
  | some .globalImplicit => true
  | _ => false
def okName (x : Str) : Bool := !(x == ("__debug__" : Str)) && !(x == ("__classdict__" : Str)) && !(x == ("__name__" : Str))
def notStar : Expr → Bool
  | .Starred .. => false
  | _ => true
def plainIx : Expr → Bool
  | .Slice .. => false
  | _ => true
def plainTest : Expr → Bool
  | .UnaryOp .. => false
  | .BoolOp .. => false
  | .IfExp .. => false
  | .Compare .. => false
  | _ => true
def notSet : Expr → Bool
  | .Set .. => false
  | _ => true
def notLC : Expr → Bool
  | .ListComp .. => false
  | _ => true
def notSup : Expr → Bool
  | .Call (.Name _ _) [] [] _ => false
  | _ => true
def notCall : Expr → Bool
  | .Call .. => false
  | _ => true
def isiT (B : Tb) (sc : Scope) : List Ty → Expr → Bool
  | [t], .Name x _ => decide (x = t.name) && isGl sc x && decide (x ∈ B.bs)
  | [t, u], .Tuple [.Name x _, .Name y _] _ _ => decide (x = t.name) && isGl sc x && decide (x ∈ B.bs) && decide (y = u.name) && isGl sc y && decide (y ∈ B.bs)
  | _, _ => false
def cstOk : PV → Const → Bool
  | .int i, .int j => decide (i = j)
  | .str s, .str z => decide (z.cps.toList = s) && decide (s.length ≤ SZ)
  | .bl a, .bool b => decide (a = b)
  | .non, .none => true
  | _, _ => false
def glbIn (cs : List (Str × PV)) (x : Str) (v : PV) : Bool := cs.any fun p => decide (p.1 = x) && PV.beq p.2 v
def ownP (N : List Str) (own : List Nat) : List (Str × Nat) := own.map fun i => (N.getD i "", i)

def isYes : PT → Bool
  | .yes => true
  | _ => false

mutual
def chG (N : List Str) (sc : Scope) : Tg → Expr → Bool
  | .nm i, .Name x _ => decide (N[i]? = some x) && isLoc sc x
  | .tp ts, .Tuple es _ _ => chGs N sc ts es
  | _, _ => false
def chGs (N : List Str) (sc : Scope) : Tgs → List Expr → Bool
  | .nil, [] => true
  | .cons t r, e :: es => notStar e && chG N sc t e && chGs N sc r es
  | _, _ => false
end

mutual
def chE (B : Tb) (N : List Str) : PX → Scope → Expr → Bool
  | .var i, sc, .Name x _ => decide (N[i]? = some x) && isVis sc x && okName x
  | .cst v, _, .Constant c _ _ => cstOk v c
  | .glb x v, sc, .Name y _ => decide (x = y) && isGl sc x && okName x && glbIn B.cs x v
  | .tup es, sc, .Tuple xs _ _ => chA B N es sc xs
  | .lst es, sc, .List xs _ => chA B N es sc xs
  | .bin op a b, sc, .BinOp x op' y _ => decide (op = op') && chE B N a sc x && chE B N b sc y
  | .cmp op a b, sc, .Compare x [op'] [y] _ => decide (op = op') && !behindInMarks op y && chE B N a sc x && chE B N b sc y
  | .cmp2 o1 o2 a b c, sc, .Compare x [o1', o2'] [y, z] _ => decide (o1 = o1') && decide (o2 = o2') && !lastMarks [o1, o2] [y, z] && chE B N a sc x && chE B N b sc y && chE B N c sc z
  | .bop op es, sc, .BoolOp op' xs _ => decide (op = op') && chB B N es sc xs
  | .nt a, sc, .UnaryOp .Not x _ => chE B N a sc x
  | .neg a, sc, .UnaryOp .USub x _ => chE B N a sc x
  | .ite c a b, sc, .IfExp x y z _ => chT B N c sc x && chE B N a sc y && chE B N b sc z
  | .sub a i, sc, .Subscript x y _ => plainIx y && chE B N a sc x && chE B N i sc y
  | .slc a lo hi, sc, .Subscript x (.Slice l h none _) _ => chE B N a sc x && chO B N lo sc l && chO B N hi sc h
  | .call f es, sc, .Call (.Name x _) xs [] _ => isGl sc x && okName x && (match B.T.lookup f with
      | some d => decide (d.name = x) && decide (es.len = d.ps.length)
      | none => false) && chA B N es sc xs
  | .bi b es, sc, .Call (.Name x _) (y :: ys) [] _ => decide (x = b.name) && isGl sc x && decide (x ∈ B.bs) && chA B N es sc (y :: ys)
  | .comp own t s c e, sc, .ListComp elt [⟨tg, iter, ifs, asy⟩] scope _ => decide (asy = 0) && blkC N sc scope (ownP N own) && t.slots.all (fun i => decide (i ∈ own)) && notSet iter && chI B N s sc tg iter && chG N scope t tg && (match ifs with
      | [] => isYes c
      | [x] => chT B N c scope x
      | _ => false) && chE B N e scope elt
  | .nlst es, sc, .List xs _ => chA B N es sc xs
  | .nof a, sc, .Call (.Name x _) [y] [] _ => decide (x = "list") && isGl sc x && decide (x ∈ B.bs) && notStar y && chE B N a sc y
  | .fz a, sc, x => notLC x && chE B N a sc x
  | .mth m a (.cons b .nil), sc, .Call (.Attribute o n apos) [y] [] pos => decide (n = m.name) && notCall o && (apos.endLine == pos.line) && notStar y && chE B N a sc o && chE B N b sc y
  | .mth m a .nil, sc, .Call (.Attribute o n apos) [] [] pos => decide (n = m.name) && notCall o && (apos.endLine == pos.line) && chE B N a sc o
  | .rv a b, sc, .Subscript x (.Slice none none (some y) _) _ => chE B N a sc x && chE B N b sc y
  | .sm m a b, sc, .Call (.Attribute o n apos) [y] [] pos => decide (n = m.name) && notSup o && (apos.endLine == pos.line) && notStar y && chE B N a sc o && chE B N b sc y
  | .isi a ts, sc, .Call (.Name x _) [y, z] [] _ => decide (x = "isinstance") && isGl sc x && decide (x ∈ B.bs) && notStar y && isiT B sc ts z && chE B N a sc y
  | _, _, _ => false
def chA (B : Tb) (N : List Str) : PXs → Scope → List Expr → Bool
  | .nil, _, [] => true
  | .cons a r, sc, x :: xs => notStar x && chE B N a sc x && chA B N r sc xs
  | _, _, _ => false
def chB (B : Tb) (N : List Str) : PXs → Scope → List Expr → Bool
  | .cons a .nil, sc, [x] => chE B N a sc x
  | .cons a (.cons b r), sc, x :: y :: xs => chE B N a sc x && chB B N (.cons b r) sc (y :: xs)
  | _, _, _ => false
def chT (B : Tb) (N : List Str) : PT → Scope → Expr → Bool
  | .val a, sc, x => plainTest x && chE B N a sc x
  | .cmp op a b, sc, .Compare x [op'] [y] _ => decide (op = op') && !behindInMarks op y && chE B N a sc x && chE B N b sc y
  | .cmp2 o1 o2 a b c, sc, .Compare x [o1', o2'] [y, z] _ => decide (o1 = o1') && decide (o2 = o2') && !lastMarks [o1, o2] [y, z] && chE B N a sc x && chE B N b sc y && chE B N c sc z
  | .bop op es, sc, .BoolOp op' xs _ => decide (op = op') && chTs B N es sc xs
  | .nt a, sc, .UnaryOp .Not x _ => chT B N a sc x
  | _, _, _ => false
def chTs (B : Tb) (N : List Str) : PTs → Scope → List Expr → Bool
  | .cons a .nil, sc, [x] => chT B N a sc x
  | .cons a (.cons b r), sc, x :: y :: xs => chT B N a sc x && chTs B N (.cons b r) sc (y :: xs)
  | _, _, _ => false
def chO (B : Tb) (N : List Str) : PO → Scope → Option Expr → Bool
  | .no, _, none => true
  | .some a, sc, some x => chE B N a sc x
  | _, _, _ => false
def chI (B : Tb) (N : List Str) : Src → Scope → Expr → Expr → Bool
  | .seq a, sc, _, x => chE B N a sc x
  | .rng es, sc, _, .Call (.Name x _) xs [] _ => decide (x = "range") && isGl sc x && decide (x ∈ B.bs) && decide (1 ≤ es.len ∧ es.len ≤ 3) && chA B N es sc xs
  | .enum a, sc, .Tuple _ _ _, .Call (.Name x _) [y] [] _ => decide (x = "enumerate") && isGl sc x && decide (x ∈ B.bs) && notStar y && chE B N a sc y
  | .zip a b, sc, .Tuple _ _ _, .Call (.Name x _) [y, z] [] _ => decide (x = "zip") && isGl sc x && decide (x ∈ B.bs) && notStar y && notStar z && chE B N a sc y && chE B N b sc z
  | _, _, _, _ => false
end

/-! ### the context -/
structure GOk (B : Tb) (cl : Nat → Value) (cf : CF) (k : Nat) (P : Program) (w : World) (K : PySem.W.Frag) (mg : Str → Option Value) (base : Heap) : Prop where
  fn : ∀ (i : Nat) (d : Dd), B.T.lookup i = some d → ∃ (f : Addr) (fd : FuncData), mg d.name = some (.ref f) ∧ PySem.W.keepIn K (.ref f) = true ∧ Binds K fd d.ps [] ∧ FnOk P w K mg base (L2.CX P w) k f fd d.ps (spF K cl cf d.ps.length i)
  bi : ∀ x ∈ B.bs, mg x = none
  cs : ∀ p ∈ B.cs, ∃ u V, mg p.1 = some u ∧ RelV V u ∧ ∀ wd, Rep K wd p.2 V
/-- the scope that runs is the written one, captured names may be cells -/
structure ScRel (sc run : Scope) : Prop where
  kind : run.kind = .function
  rel : ∀ x k, sc.names.lookup x = some k → ∃ k', run.names.lookup x = some k' ∧ (k' = k ∨ (k = .free ∧ k' = .cell))
structure Fit (B : Tb) (cl : Nat → Value) (cf : CF) (k : Nat) (N : List Str) (sc : Scope) (W : WX) (X : Cx) : Prop where
  gok : GOk B cl cf k X.prog X.w X.K X.mg X.base
  hN : X.N = N
  nd : N.Nodup
  srl : ScRel sc X.env.scope
  fnm : ∀ x, sc.names.lookup x = some .cell → X.fn x = true
  calm : X.calm = true
  room : Room k X.A
  tk : Takes X W

section
variable {B : Tb} {cl : Nat → Value} {cf : CF} {k : Nat} {N : List Str} {sc : Scope} {W : WX} {X : Cx}
theorem ScRel.vis {run : Scope} (h : ScRel sc run) {x : Str} (v : isVis sc x = true) : Vis run x := by
  unfold isVis at v
  split at v
  · rename_i e
    obtain ⟨k', e', z⟩ := h.rel x _ e
    rcases z with z | z
    · subst z; exact .inl e'
    · cases z.1
  · rename_i e
    obtain ⟨k', e', z⟩ := h.rel x _ e
    rcases z with z | z
    · subst z; exact .inr (.inl e')
    · cases z.1
  · rename_i e
    obtain ⟨k', e', z⟩ := h.rel x _ e
    rcases z with z | z
    · subst z; exact .inr (.inr e')
    · rw [z.2] at e'; exact .inr (.inl e')
  · cases v
theorem Fit.loc (F : Fit B cl cf k N sc W X) {x : Str} (v : isLoc sc x = true) : Loc X.env.scope x ∧ (X.fn x = true ∨ X.env.scope.names.lookup x = some .local) := by
  unfold isLoc at v
  split at v
  · rename_i e
    obtain ⟨k', e', z⟩ := F.srl.rel x _ e
    rcases z with z | z
    · subst z; exact ⟨.inl e', .inr e'⟩
    · cases z.1
  · rename_i e
    obtain ⟨k', e', z⟩ := F.srl.rel x _ e
    rcases z with z | z
    · subst z; exact ⟨.inr e', .inl (F.fnm x e)⟩
    · cases z.1
  · cases v
theorem Fit.gl (F : Fit B cl cf k N sc W X) {x : Str} (v : isGl sc x = true) : Gl X x := by
  unfold isGl at v
  split at v
  · rename_i e
    obtain ⟨k', e', z⟩ := F.srl.rel x _ e
    rcases z with z | z
    · subst z; exact e'
    · cases z.1
  · cases v
theorem Fit.units (F : Fit B cl cf k N sc W X) : X.A.units + 64 < cLine := F.room.units
theorem okName_iff {x : Str} (h : okName x = true) : (x == ("__debug__" : Str)) = false ∧ (x == ("__classdict__" : Str)) = false ∧ x ≠ "__name__" := by
  unfold okName at h
  simp only [Bool.and_eq_true, Bool.not_eq_true'] at h
  exact ⟨h.1.1, h.1.2, fun z => by rw [z] at h; simp at h⟩
theorem star_cons {a : Expr} {es : List Expr} {env : PySem.Env} (h : notStar a = true) : starEach (a :: es) env = (false, eval a env) :: starEach es env := by
  cases a <;> first | rfl | (simp [notStar] at h)
theorem star_none {env : PySem.Env} {pos : Pos} : ∀ {es : List Expr}, es.all notStar = true → (backTo pos (starEach es env)).any (·.1) = false
  | [], _ => rfl
  | a :: es, h => by
    rw [List.all_cons, Bool.and_eq_true] at h
    rw [star_cons h.1]
    show (false || (backTo pos (starEach es env)).any (·.1)) = false
    rw [star_none h.2]; rfl
theorem asg_cons {a : Expr} {es : List Expr} {env : PySem.Env} (h : notStar a = true) : assignEach (a :: es) env = (false, assign a env) :: assignEach es env := by
  cases a <;> first | rfl | (simp [notStar] at h)
theorem chA_star {B : Tb} {N : List Str} {sc : Scope} : ∀ {ps : PXs} {es : List Expr}, chA B N ps sc es = true → es.all notStar = true
  | .nil, [], _ => rfl
  | .nil, _ :: _, h => by simp [chA] at h
  | .cons _ _, [], h => by simp [chA] at h
  | .cons a r, e :: es, h => by
    simp only [chA, Bool.and_eq_true] at h
    rw [List.all_cons, h.1.1, chA_star h.2]; rfl
theorem chGs_facts {N : List Str} {sc : Scope} {env : PySem.Env} : ∀ {ts : Tgs} {es : List Expr}, chGs N sc ts es = true → (assignEach es env).length = ts.len ∧ (assignEach es env).findIdx? (·.1) = none
  | .nil, [], _ => ⟨rfl, rfl⟩
  | .nil, _ :: _, h => by simp [chGs] at h
  | .cons _ _, [], h => by simp [chGs] at h
  | .cons t r, e :: es, h => by
    simp only [chGs, Bool.and_eq_true] at h
    obtain ⟨h1, h2⟩ := chGs_facts (env := env) h.2
    rw [asg_cons h.1.1]
    refine ⟨by rw [List.length_cons, h1]; rfl, ?_⟩
    rw [List.findIdx?_cons, h2]; rfl
mutual
theorem g_of (F : Fit B cl cf k N sc W X) : ∀ {t : Tg} {e : Expr}, chG N sc t e = true → PG X e (rdG X.K t)
  | .nm i, e, h => by
    cases e with
    | Name x pos =>
      simp only [chG, Bool.and_eq_true, decide_eq_true_eq] at h
      obtain ⟨h1, h2⟩ := F.loc h.2
      exact g_name (by rw [F.hN]; exact F.nd) (by rw [F.hN]; exact h.1) h1 h2
    | _ => simp [chG] at h
  | .tp ts, e, h => by
    cases e with
    | Tuple es kk pos =>
      simp only [chG] at h
      obtain ⟨h1, h2⟩ := chGs_facts (env := X.env) h
      exact g_tup F.calm (gs_of F h) h1 h2
    | _ => simp [chG] at h
theorem gs_of (F : Fit B cl cf k N sc W X) : ∀ {t : Tgs} {e : List Expr}, chGs N sc t e = true → PGs X e (rdGs X.K t)
  | .nil, [], _ => gs_nil
  | .nil, _ :: _, h => by simp [chGs] at h
  | .cons _ _, [], h => by simp [chGs] at h
  | .cons t r, e :: es, h => by
    simp only [chGs, Bool.and_eq_true] at h
    refine gs_cons (g_of F h.1.2) (gs_of F h.2) ?_
    rw [asg_cons h.1.1]; rfl
end
theorem plain_ix {b : Expr} (h : plainIx b = true) : PlainIx b := fun o i => by
  cases b <;> first | rfl | (simp [plainIx] at h)
theorem plain_test {a : Expr} {env : PySem.Env} (h : plainTest a = true) (whole : Sem Value) : isTrue a env whole = (do let v ← whole; standAt a.pos; holding [v] (truthy v)) := by
  cases a <;> first | rfl | (simp [plainTest] at h)
theorem not_set {a : Expr} {env : PySem.Env} (h : notSet a = true) (x : Value) : foldedSetIterable a env x = pure x := by
  cases a <;> first | rfl | (simp [notSet] at h)
theorem lookup_map {g : Str → NameKind → NameKind} : ∀ {l : List (Str × NameKind)} {x : Str}, (l.map fun (n, k) => (n, g n k)).lookup x = (l.lookup x).map (g x)
  | [], _ => rfl
  | (n, k) :: r, x => by
    rw [List.map_cons, List.lookup_cons, List.lookup_cons]
    by_cases h : x = n
    · subst h; simp
    · have e : (x == n) = false := beq_eq_false_iff_ne.mpr h
      simp only [e]
      exact lookup_map
theorem relabel_names (scope : Scope) (env : PySem.Env) (x : Str) : (relabel scope env).names.lookup x = (scope.names.lookup x).map fun k => if (k == .free && env.scope.kind == .function && env.kindOf x == some .cell) then .cell else k := by
  unfold relabel
  have : (fun (p : Str × NameKind) => if (p.2 == .free && env.scope.kind == .function && env.kindOf p.1 == some .cell) = true then (p.1, NameKind.cell) else (p.1, p.2)) =
      fun (p : Str × NameKind) => (p.1, (fun n k => if (k == .free && env.scope.kind == .function && env.kindOf n == some .cell) = true then NameKind.cell else k) p.1 p.2) := by
    funext p
    split <;> simp_all
  show (scope.names.map (fun (p : Str × NameKind) => if (p.2 == .free && env.scope.kind == .function && env.kindOf p.1 == some .cell) = true then (p.1, NameKind.cell) else (p.1, p.2))).lookup x = _
  rw [this]
  exact lookup_map (g := fun n k => if (k == .free && env.scope.kind == .function && env.kindOf n == some .cell) = true then NameKind.cell else k)
theorem blk_run {N : List Str} {sc run scope : Scope} {own : List (Str × Nat)} (h : BlkOk N sc scope own) (r : ScRel sc run) : BlkOk N run scope own :=
  ⟨h.kind, h.uniq, h.ix, fun y hy e => by
    rcases h.free y hy e with z | z
    · obtain ⟨k', e', q⟩ := r.rel _ _ z
      rcases q with q | q
      · subst q; exact .inl e'
      · cases q.1
    · obtain ⟨k', e', q⟩ := r.rel _ _ z
      rcases q with q | q
      · subst q; exact .inr e'
      · rw [q.2] at e'; exact .inl e', h.own⟩
theorem Fit.blk (F : Fit B cl cf k N sc W X) {scope : Scope} (hk : scope.kind = .function) (s : Shared) (H : Hp) (C : Addr) (cl' : List (Str × Addr)) (fp : List Addr) :
    Fit B cl cf k N scope Wfalse (X.blk s H scope (compEnvC scope cl' C X.env) fp) where
  gok := F.gok
  hN := F.hN
  nd := F.nd
  srl := ⟨hk, fun x kd e => by
    show ∃ k', (relabel scope X.env).names.lookup x = some k' ∧ _
    rw [relabel_names, e]
    refine ⟨_, rfl, ?_⟩
    simp only
    split
    · rename_i h
      simp only [Bool.and_eq_true, beq_iff_eq] at h
      exact .inr ⟨h.1.1, rfl⟩
    · exact .inl rfl⟩
  fnm := fun x e => by
    show (scope.names.lookup x == some .cell) = true
    rw [e]; rfl
  calm := F.calm
  room := F.room
  tk := fun u s' ⟨_, _, _, _, _, _, _, _, _, _, _, _, _, _, _, _, h⟩ => h.elim
theorem ownP_snd {N : List Str} (own : List Nat) : (ownP N own).map (·.2) = own := by
  unfold ownP
  rw [List.map_map]
  exact List.map_id _

theorem not_sup {o : Expr} {n : Str} {env : PySem.Env} (h : notSup o = true) : attributeBase o n env (eval o env) = eval o env := by
  unfold attributeBase
  split
  · simp [notSup] at h
  · rfl
theorem not_call {o : Expr} {n : Str} {env : PySem.Env} (h : notCall o = true) : attributeBase o n env (eval o env) = eval o env := by
  cases o <;> first | rfl | (simp [notCall] at h)
theorem cst_of {v : PV} {c : Const} {j : Nat} {pos : Pos} (h : cstOk v c = true) : ∃ u, L2.PE X (.Constant c j pos) (tC u) ∧ ∀ w, Rep X.K w v u := by
  unfold cstOk at h
  split at h
  · rw [decide_eq_true_eq] at h
    subst h
    exact ⟨_, pe_int, fun w => .int _⟩
  · rw [Bool.and_eq_true, decide_eq_true_eq, decide_eq_true_eq] at h
    obtain ⟨rfl, hz⟩ := h
    exact ⟨_, pe_str, fun w => .str _ (by rw [PL.len_eq]; exact hz)⟩
  · rw [decide_eq_true_eq] at h
    subst h
    exact ⟨_, pe_bl, fun w => .bl _⟩
  · exact ⟨_, pe_non, fun w => .non⟩
  · cases h

mutual
theorem sE : ∀ (p : PX) (sc : Scope) (W : WX) (X : Cx) (e : Expr), Fit B cl cf k N sc W X → chE B N p sc e = true → L2.PE X e (rdE X.K cl W cf p)
  | .var i, sc, W, X, e, F, h => by
    cases e with
    | Name x pos =>
      simp only [chE, Bool.and_eq_true, decide_eq_true_eq] at h
      obtain ⟨h1, h2, _⟩ := okName_iff h.2
      exact x_var (by rw [F.hN]; exact h.1.1) (F.srl.vis h.1.2) h1 h2
    | _ => simp [chE] at h
  | .cst v, sc, W, X, e, F, h => by
    cases e with
    | Constant c j pos =>
      simp only [chE] at h
      obtain ⟨u, h1, h2⟩ := cst_of (X := X) (j := j) (pos := pos) h
      exact x_cst h1 h2
    | _ => simp [chE] at h
  | .glb x v, sc, W, X, e, F, h => by
    cases e with
    | Name y pos =>
      simp only [chE, Bool.and_eq_true, decide_eq_true_eq] at h
      obtain ⟨⟨⟨rfl, h1⟩, h2⟩, h3⟩ := h
      unfold glbIn at h3
      rw [List.any_eq_true] at h3
      obtain ⟨⟨y, v'⟩, hm, h3⟩ := h3
      rw [Bool.and_eq_true, decide_eq_true_eq] at h3
      obtain ⟨h4, h5⟩ := h3
      cases h4
      cases PV.eq_of_beq h5
      obtain ⟨u, V, e1, e2, e3⟩ := F.gok.cs _ hm
      exact x_glb (pe_glob (F.gl h1) e1 e2 (okName_iff h2).1) e3
    | _ => simp [chE] at h
  | .tup es, sc, W, X, e, F, h => by
    cases e with
    | Tuple xs j pos =>
      simp only [chE] at h
      exact x_tup (sA es sc W X xs F h)
    | _ => simp [chE] at h
  | .lst es, sc, W, X, e, F, h => by
    cases e with
    | List xs pos =>
      simp only [chE] at h
      exact x_lst (sA es sc W X xs F h)
    | _ => simp [chE] at h
  | .bin op a b, sc, W, X, e, F, h => by
    cases e with
    | BinOp x op' y pos =>
      simp only [chE, Bool.and_eq_true, decide_eq_true_eq] at h
      obtain ⟨⟨rfl, h1⟩, h2⟩ := h
      exact x_bin (sE a sc W X x F h1) (sE b sc W X y F h2)
    | _ => simp [chE] at h
  | .cmp op a b, sc, W, X, e, F, h => by
    cases e with
    | Compare x ops cs pos =>
      rcases ops with _ | ⟨op', _ | ⟨_, _⟩⟩ <;> rcases cs with _ | ⟨y, _ | ⟨_, _⟩⟩ <;> simp [chE] at h
      obtain ⟨⟨⟨rfl, h0⟩, h1⟩, h2⟩ := h
      exact x_cmp F.units (sE a sc W X _ F h1) (sE b sc W X _ F h2) h0
    | _ => simp [chE] at h
  | .cmp2 o1 o2 a b c, sc, W, X, e, F, h => by
    cases e with
    | Compare x ops cs pos =>
      rcases ops with _ | ⟨o1', _ | ⟨o2', _ | ⟨_, _⟩⟩⟩ <;> rcases cs with _ | ⟨y, _ | ⟨z, _ | ⟨_, _⟩⟩⟩ <;> simp [chE] at h
      obtain ⟨⟨⟨⟨⟨rfl, rfl⟩, h0⟩, h1⟩, h2⟩, h3⟩ := h
      exact x_cmp2 F.units (sE a sc W X _ F h1) (sE b sc W X _ F h2) (sE c sc W X _ F h3) h0
    | _ => simp [chE] at h
  | .bop op es, sc, W, X, e, F, h => by
    cases e with
    | BoolOp op' xs pos =>
      simp only [chE, Bool.and_eq_true, decide_eq_true_eq] at h
      obtain ⟨rfl, h1⟩ := h
      exact x_bop (sB es op sc W X xs pos F h1)
    | _ => simp [chE] at h
  | .nt a, sc, W, X, e, F, h => by
    cases e with
    | UnaryOp o x pos =>
      cases o <;> simp [chE] at h
      exact x_nt (sE a sc W X _ F h)
    | _ => simp [chE] at h
  | .neg a, sc, W, X, e, F, h => by
    cases e with
    | UnaryOp o x pos =>
      cases o <;> simp [chE] at h
      exact x_neg (sE a sc W X _ F h)
    | _ => simp [chE] at h
  | .ite c a b, sc, W, X, e, F, h => by
    cases e with
    | IfExp x y z pos =>
      simp only [chE, Bool.and_eq_true] at h
      exact x_ite (sT c sc W X x F h.1.1) (sE a sc W X y F h.1.2) (sE b sc W X z F h.2)
    | _ => simp [chE] at h
  | .sub a i, sc, W, X, e, F, h => by
    cases e with
    | Subscript x y pos =>
      simp only [chE, Bool.and_eq_true] at h
      exact x_sub (sE a sc W X x F h.1.2) (sE i sc W X y F h.2) (plain_ix h.1.1)
    | _ => simp [chE] at h
  | .slc a lo hi, sc, W, X, e, F, h => by
    cases e with
    | Subscript x y pos =>
      cases y with
      | Slice l u st p2 =>
        cases st <;> simp [chE] at h
        exact x_slc (sE a sc W X _ F h.1.1) (sO lo sc W X _ F h.1.2) (sO hi sc W X _ F h.2)
      | _ => simp [chE] at h
    | _ => simp [chE] at h
  | .call f es, sc, W, X, e, F, h => by
    cases e with
    | Call fn xs kws pos =>
      cases fn with
      | Name x p =>
        cases kws with
        | nil =>
          simp only [chE, Bool.and_eq_true] at h
          obtain ⟨⟨⟨h1, h2⟩, h3⟩, h4⟩ := h
          split at h3
          · rename_i d hd
            rw [Bool.and_eq_true, decide_eq_true_eq, decide_eq_true_eq] at h3
            obtain ⟨rfl, h3⟩ := h3
            obtain ⟨fa, fd, e1, e2, e3, e4⟩ := F.gok.fn f d hd
            have hA := sA es sc W X _ F h4
            cases xs with
            | nil =>
              cases es with
              | nil =>
                have hp : d.ps = [] := List.eq_nil_of_length_eq_zero h3.symm
                rw [hp] at e3 e4
                exact x_call0 e4 F.room (F.gl h1) e1 e2 e3 F.tk (okName_iff h2).1
              | cons a r => simp [chA] at h4
            | cons x xs =>
              have hst := chA_star h4
              rw [List.all_cons, Bool.and_eq_true] at hst
              exact x_call e4 F.room (F.gl h1) e1 e2 e3 F.tk h3 hA (okName_iff h2).1 (star_cons hst.1) (star_none hst.2)
          · cases h3
        | cons _ _ => simp [chE] at h
      | _ => simp [chE] at h
    | _ => simp [chE] at h
  | .bi b es, sc, W, X, e, F, h => by
    cases e with
    | Call fn xs kws pos =>
      cases fn with
      | Name x p =>
        cases kws with
        | nil =>
          cases xs with
          | nil => simp [chE] at h
          | cons y ys =>
            simp only [chE, Bool.and_eq_true, decide_eq_true_eq] at h
            obtain ⟨⟨⟨rfl, h1⟩, h2⟩, h3⟩ := h
            have hst := chA_star h3
            rw [List.all_cons, Bool.and_eq_true] at hst
            exact x_bi F.calm F.units (F.gl h1) (F.gok.bi _ h2) (sA es sc W X _ F h3) (star_cons hst.1) (star_none hst.2)
        | cons _ _ => simp [chE] at h
      | _ => simp [chE] at h
    | _ => simp [chE] at h
  | .comp own t s c el, sc, W, X, e, F, h => by
    cases e with
    | ListComp elt gens scope pos =>
      rcases gens with _ | ⟨⟨tg, iter, ifs, asy⟩, _ | ⟨_, _⟩⟩
      · simp [chE] at h
      · simp only [chE, Bool.and_eq_true, decide_eq_true_eq, List.all_eq_true] at h
        obtain ⟨⟨⟨⟨⟨⟨⟨rfl, h1⟩, h2⟩, h3⟩, h4⟩, h5⟩, h6⟩, h7⟩ := h
        have htt : ∀ {Y : Cx}, Fit B cl cf k N scope Wfalse Y → L2.PTs Y ifs (rdT Y.K cl Wfalse cf c) := fun {Y} FY => by
          rcases ifs with _ | ⟨x, _ | ⟨_, _⟩⟩
          · cases c <;> simp [isYes] at h6
            exact ts_yes
          · exact ts_one (sT c scope Wfalse Y x FY h6)
          · cases h6
        have ok := blk_run (blkOk_by h1) F.srl
        rw [← F.hN] at ok
        have q := pe_lc (own := ownP X.N own) (pos := pos) (g := rdG X.K t) (tt := rdT X.K cl Wfalse cf c) (te := rdE X.K cl Wfalse cf el) F.calm (by rw [F.hN]; exact F.nd) (sI s sc W X _ _ F h4) ok (fun s H C cl' fp => g_of (F.blk ok.kind s H C cl' fp) h5)
          (fun s H C cl' fp => htt (F.blk ok.kind s H C cl' fp)) (fun s H C cl' fp => sE el _ _ _ _ (F.blk ok.kind s H C cl' fp) h7) (not_set h3)
        rw [ownP_snd] at q
        exact PEimp q fun σ H Q h => x_comp h2 h
      · simp [chE] at h
    | _ => simp [chE] at h
  | .nlst es, sc, W, X, e, F, h => by
    cases e with
    | List xs pos =>
      simp only [chE] at h
      exact x_nlst (sA es sc W X _ F h)
    | _ => simp [chE] at h
  | .nof a, sc, W, X, e, F, h => by
    cases e with
    | Call fn xs kws pos =>
      cases fn with
      | Name x p =>
        rcases xs with _ | ⟨y, _ | ⟨_, _⟩⟩ <;> cases kws <;> simp [chE] at h
        obtain ⟨⟨⟨⟨rfl, h1⟩, h2⟩, h3⟩, h4⟩ := h
        exact x_nof (F.gl h1) (F.gok.bi _ h2) (sE a sc W X _ F h4) (star_cons h3)
      | _ => simp [chE] at h
    | _ => simp [chE] at h
  | .fz a, sc, W, X, e, F, h => by
    simp only [chE, Bool.and_eq_true] at h
    exact x_fz (sE a sc W X _ F h.2)
  | .mth m a .nil, sc, W, X, e, F, h => by
    cases e with
    | Call fn xs kws pos =>
      cases fn with
      | Attribute o n apos =>
        rcases xs with _ | ⟨y, _ | ⟨_, _⟩⟩ <;> cases kws <;> simp [chE] at h
        obtain ⟨⟨⟨rfl, h1⟩, h2⟩, h3⟩ := h
        exact x_mth0 (sE a sc W X _ F h3) (not_call h1) (by simp [h2])
      | _ => simp [chE] at h
    | _ => simp [chE] at h
  | .mth m a (.cons b .nil), sc, W, X, e, F, h => by
    cases e with
    | Call fn xs kws pos =>
      cases fn with
      | Attribute o n apos =>
        rcases xs with _ | ⟨y, _ | ⟨_, _⟩⟩ <;> cases kws <;> simp [chE] at h
        obtain ⟨⟨⟨⟨⟨rfl, h1⟩, h2⟩, h3⟩, h4⟩, h5⟩ := h
        exact x_mth1 (sE a sc W X _ F h4) (sE b sc W X _ F h5) (not_call h1) (by simp [h2]) (star_cons h3)
      | _ => simp [chE] at h
    | _ => simp [chE] at h
  | .mth m a (.cons b (.cons c r)), sc, W, X, e, F, h => by
    cases e with
    | Call fn xs kws pos => cases fn <;> simp [chE] at h
    | _ => simp [chE] at h
  | .rv a b, sc, W, X, e, F, h => by
    cases e with
    | Subscript x sl pos =>
      cases sl with
      | Slice l u stp p2 =>
        cases l <;> cases u <;> cases stp <;> simp [chE] at h
        exact x_rv (sE a sc W X _ F h.1) (sE b sc W X _ F h.2)
      | _ => simp [chE] at h
    | _ => simp [chE] at h
  | .sm m a b, sc, W, X, e, F, h => by
    cases e with
    | Call fn xs kws pos =>
      cases fn with
      | Attribute o n apos =>
        rcases xs with _ | ⟨y, _ | ⟨_, _⟩⟩ <;> cases kws <;> simp [chE] at h
        obtain ⟨⟨⟨⟨⟨rfl, h1⟩, h2⟩, h3⟩, h4⟩, h5⟩ := h
        exact x_sm (sE a sc W X _ F h4) (sE b sc W X _ F h5) (not_sup h1) (by simp [h2]) (star_cons h3)
      | _ => simp [chE] at h
    | _ => simp [chE] at h
  | .isi a ts, sc, W, X, e, F, h => by
    cases e with
    | Call fn xs kws pos =>
      cases fn with
      | Name x p =>
        rcases xs with _ | ⟨y, _ | ⟨z, _ | ⟨_, _⟩⟩⟩ <;> cases kws <;> simp [chE] at h
        obtain ⟨⟨⟨⟨⟨rfl, h1⟩, h2⟩, h3⟩, h4⟩, h5⟩ := h
        unfold isiT at h4
        split at h4
        · simp only [Bool.and_eq_true, decide_eq_true_eq] at h4
          obtain ⟨⟨rfl, g1⟩, g2⟩ := h4
          exact x_isi1 (F.gl h1) (F.gok.bi _ h2) (F.gl g1) (F.gok.bi _ g2) (sE a sc W X _ F h5) (star_cons h3)
        · simp only [Bool.and_eq_true, decide_eq_true_eq] at h4
          obtain ⟨⟨⟨⟨⟨rfl, g1⟩, g2⟩, rfl⟩, g3⟩, g4⟩ := h4
          exact x_isi2 (F.gl h1) (F.gok.bi _ h2) (F.gl g1) (F.gok.bi _ g2) (F.gl g3) (F.gok.bi _ g4) (sE a sc W X _ F h5) (star_cons h3)
        · cases h4
      | _ => simp [chE] at h
    | _ => simp [chE] at h
theorem sA : ∀ (p : PXs) (sc : Scope) (W : WX) (X : Cx) (e : List Expr), Fit B cl cf k N sc W X → chA B N p sc e = true → L2.PA X e (rdA X.K cl W cf p)
  | .nil, sc, W, X, [], F, h => x_nil
  | .nil, sc, W, X, _ :: _, F, h => by simp [chA] at h
  | .cons _ _, sc, W, X, [], F, h => by simp [chA] at h
  | .cons a r, sc, W, X, x :: xs, F, h => by
    simp only [chA, Bool.and_eq_true] at h
    exact x_cons (sE a sc W X x F h.1.2) (sA r sc W X xs F h.2) (star_cons h.1.1)
theorem sB : ∀ (p : PXs) (op : BoolOp) (sc : Scope) (W : WX) (X : Cx) (e : List Expr) (pos : Pos), Fit B cl cf k N sc W X → chB B N p sc e = true → L2.PE X (.BoolOp op e pos) (rdB X.K cl W cf op p)
  | .nil, op, sc, W, X, e, pos, F, h => by simp [chB] at h
  | .cons a .nil, op, sc, W, X, [], pos, F, h => by simp [chB] at h
  | .cons a .nil, op, sc, W, X, [x], pos, F, h => by
    simp only [chB] at h
    exact x_b1 (sE a sc W X x F h)
  | .cons a .nil, op, sc, W, X, _ :: _ :: _, pos, F, h => by simp [chB] at h
  | .cons a (.cons b r), op, sc, W, X, [], pos, F, h => by simp [chB] at h
  | .cons a (.cons b r), op, sc, W, X, [_], pos, F, h => by simp [chB] at h
  | .cons a (.cons b r), op, sc, W, X, x :: y :: xs, pos, F, h => by
    simp only [chB, Bool.and_eq_true] at h
    exact x_b2 (sE a sc W X x F h.1) (sB (.cons b r) op sc W X (y :: xs) pos F h.2)
theorem sT : ∀ (p : PT) (sc : Scope) (W : WX) (X : Cx) (e : Expr), Fit B cl cf k N sc W X → chT B N p sc e = true → L2.PT X e (rdT X.K cl W cf p)
  | .yes, sc, W, X, e, F, h => by simp [chT] at h
  | .val a, sc, W, X, e, F, h => by
    simp only [chT, Bool.and_eq_true] at h
    exact x_tval (plain_test h.1) (sE a sc W X e F h.2)
  | .cmp op a b, sc, W, X, e, F, h => by
    cases e with
    | Compare x ops cs pos =>
      rcases ops with _ | ⟨op', _ | ⟨_, _⟩⟩ <;> rcases cs with _ | ⟨y, _ | ⟨_, _⟩⟩ <;> simp [chT] at h
      obtain ⟨⟨⟨rfl, h0⟩, h1⟩, h2⟩ := h
      exact x_tcmp F.units (sE a sc W X _ F h1) (sE b sc W X _ F h2) h0
    | _ => simp [chT] at h
  | .cmp2 o1 o2 a b c, sc, W, X, e, F, h => by
    cases e with
    | Compare x ops cs pos =>
      rcases ops with _ | ⟨o1', _ | ⟨o2', _ | ⟨_, _⟩⟩⟩ <;> rcases cs with _ | ⟨y, _ | ⟨z, _ | ⟨_, _⟩⟩⟩ <;> simp [chT] at h
      obtain ⟨⟨⟨⟨⟨rfl, rfl⟩, h0⟩, h1⟩, h2⟩, h3⟩ := h
      exact x_tcmp2 F.units (sE a sc W X _ F h1) (sE b sc W X _ F h2) (sE c sc W X _ F h3) h0
    | _ => simp [chT] at h
  | .bop op es, sc, W, X, e, F, h => by
    cases e with
    | BoolOp op' xs pos =>
      simp only [chT, Bool.and_eq_true, decide_eq_true_eq] at h
      obtain ⟨rfl, h1⟩ := h
      exact x_tbop (sTs es op sc W X xs pos F h1)
    | _ => simp [chT] at h
  | .nt a, sc, W, X, e, F, h => by
    cases e with
    | UnaryOp o x pos =>
      cases o <;> simp [chT] at h
      exact x_tnt (sT a sc W X _ F h)
    | _ => simp [chT] at h
theorem sTs : ∀ (p : PTs) (op : BoolOp) (sc : Scope) (W : WX) (X : Cx) (e : List Expr) (pos : Pos), Fit B cl cf k N sc W X → chTs B N p sc e = true → L2.PW X (.BoolOp op e pos) (rdBT X.K cl W cf op p)
  | .nil, op, sc, W, X, e, pos, F, h => by simp [chTs] at h
  | .cons a .nil, op, sc, W, X, [], pos, F, h => by simp [chTs] at h
  | .cons a .nil, op, sc, W, X, [x], pos, F, h => by
    simp only [chTs] at h
    exact x_tb1 (sT a sc W X x F h)
  | .cons a .nil, op, sc, W, X, _ :: _ :: _, pos, F, h => by simp [chTs] at h
  | .cons a (.cons b r), op, sc, W, X, [], pos, F, h => by simp [chTs] at h
  | .cons a (.cons b r), op, sc, W, X, [_], pos, F, h => by simp [chTs] at h
  | .cons a (.cons b r), op, sc, W, X, x :: y :: xs, pos, F, h => by
    simp only [chTs, Bool.and_eq_true] at h
    exact x_tb2 (sT a sc W X x F h.1) (sTs (.cons b r) op sc W X (y :: xs) pos F h.2)
theorem sO : ∀ (p : PO) (sc : Scope) (W : WX) (X : Cx) (e : Option Expr), Fit B cl cf k N sc W X → chO B N p sc e = true → L2.PO X e (rdO X.K cl W cf p)
  | .no, sc, W, X, none, F, h => x_ono
  | .no, sc, W, X, some _, F, h => by simp [chO] at h
  | .some _, sc, W, X, none, F, h => by simp [chO] at h
  | .some a, sc, W, X, some x, F, h => by
    simp only [chO] at h
    exact x_osome (sE a sc W X x F h)
theorem sI : ∀ (p : Src) (sc : Scope) (W : WX) (X : Cx) (tg e : Expr), Fit B cl cf k N sc W X → chI B N p sc tg e = true → PI X tg e (rdI X.K cl W cf p)
  | .seq a, sc, W, X, tg, e, F, h => by
    simp only [chI] at h
    exact x_seq (sE a sc W X e F h)
  | .rng es, sc, W, X, tg, e, F, h => by
    cases e with
    | Call fn xs kws pos =>
      cases fn with
      | Name x p =>
        cases kws with
        | nil =>
          simp only [chI, Bool.and_eq_true, decide_eq_true_eq] at h
          obtain ⟨⟨⟨⟨rfl, h1⟩, h2⟩, h3⟩, h4⟩ := h
          have hm := F.gok.bi _ h2
          have hg := F.gl h1
          have hA := sA es sc W X _ F h4
          have hst := chA_star h4
          rcases es with _ | ⟨q1, _ | ⟨q2, _ | ⟨q3, _ | ⟨q4, _⟩⟩⟩⟩ <;> rcases xs with _ | ⟨x1, _ | ⟨x2, _ | ⟨x3, _ | ⟨x4, _⟩⟩⟩⟩ <;> (try (simp [chA] at h4; done)) <;> (try (simp [PXs.len] at h3; done))
          · simp only [List.all_cons, List.all_nil, Bool.and_true] at hst
            exact x_rng1 hg hm hA (star_cons hst)
          · simp only [List.all_cons, List.all_nil, Bool.and_true, Bool.and_eq_true] at hst
            exact x_rng2 hg hm hA (by rw [star_cons hst.1, star_cons hst.2]; rfl) (star_cons hst.2)
          · have h0 := hst
            simp only [List.all_cons, List.all_nil, Bool.and_true, Bool.and_eq_true] at hst
            exact x_rng3 hg hm hA (star_cons hst.1) (star_none (by simp [hst]))
        | cons _ _ => simp [chI] at h
      | _ => simp [chI] at h
    | _ => simp [chI] at h
  | .enum a, sc, W, X, tg, e, F, h => by
    cases tg with
    | Tuple elts kk tpos =>
      cases e with
      | Call fn xs kws pos =>
        cases fn with
        | Name x p =>
          rcases xs with _ | ⟨y, _ | ⟨_, _⟩⟩ <;> cases kws <;> simp [chI] at h
          obtain ⟨⟨⟨⟨rfl, h1⟩, h2⟩, h3⟩, h4⟩ := h
          exact x_enum (F.gl h1) (F.gok.bi _ h2) (sE a sc W X _ F h4) (star_cons h3)
        | _ => simp [chI] at h
      | _ => simp [chI] at h
    | _ => simp [chI] at h
  | .zip a b, sc, W, X, tg, e, F, h => by
    cases tg with
    | Tuple elts kk tpos =>
      cases e with
      | Call fn xs kws pos =>
        cases fn with
        | Name x p =>
          rcases xs with _ | ⟨y, _ | ⟨z, _ | ⟨_, _⟩⟩⟩ <;> cases kws <;> simp [chI] at h
          obtain ⟨⟨⟨⟨⟨⟨rfl, h1⟩, h2⟩, h3⟩, h3b⟩, h4⟩, h5⟩ := h
          exact x_zip (F.gl h1) (F.gok.bi _ h2) (sE a sc W X _ F h4) (sE b sc W X _ F h5) (star_cons h3) (star_cons h3b) (star_none (by simp [h3b]))
        | _ => simp [chI] at h
      | _ => simp [chI] at h
    | _ => simp [chI] at h
end
end
end PL

/-! PL8: statements. -/
namespace PL
open PySem L2

def RdO (K : PySem.W.Frag) (cl : Nat → Value) (W : WX) (w : Wd) (r : Out) (D : Ends) : Prop :=
  match r with
  | .next e st => ∀ w' σ', w.le w' → StOk K w' st → EnvOk K w' e σ' → D.nx σ' w'.H
  | .brk e st => ∀ w' σ', w.le w' → StOk K w' st → EnvOk K w' e σ' → D.bk σ' w'.H
  | .cnt e st => ∀ w' σ', w.le w' → StOk K w' st → EnvOk K w' e σ' → D.ct σ' w'.H
  | .ret v st => ∀ w' u, w.le w' → StOk K w' st → Rep K w' v u → D.rt u w'.H
  | .exc c e st => ∀ w' σ', w.le w' → StOk K w' st → EnvOk K w' e σ' → W (cl c) none σ' w'.H
  | .stuck => False
def rdS (K : PySem.W.Frag) (cl : Nat → Value) (W : WX) (cf : CF) (p : PS) : TS := fun D σ H =>
  ∃ (w : Wd) (e : Env) (st : Sto), w.H = H ∧ EnvOk K w e σ ∧ StOk K w st ∧ RdO K cl W w (run cf p e st) D
section
variable {K : PySem.W.Frag} {cl : Nat → Value} {W : WX} {w w' : Wd} {r : Out} {D D' : Ends}
theorem RdO.up (h : RdO K cl W w r D) (hw : w.le w') : RdO K cl W w' r D := by
  cases r with
  | next e st => exact fun w2 σ2 a b c => h w2 σ2 (hw.trans a) b c
  | brk e st => exact fun w2 σ2 a b c => h w2 σ2 (hw.trans a) b c
  | cnt e st => exact fun w2 σ2 a b c => h w2 σ2 (hw.trans a) b c
  | ret v st => exact fun w2 u a b c => h w2 u (hw.trans a) b c
  | exc c e st => exact fun w2 σ2 a b c => h w2 σ2 (hw.trans a) b c
  | stuck => exact h
/-- an expression ahead -/
theorem RdO.out {α β : Type} {R : Wd → α → β → Prop} {x : Res α} {e : Env} {σ : St} {f : α → Sto → Out} (he : EnvOk K w e σ) (h : RdO K cl W w (x.out e f) D) :
    RdR K cl (WE W σ) R w x (fun b H => ∃ (w' : Wd) (a : α) (st : Sto), w'.H = H ∧ w.le w' ∧ StOk K w' st ∧ R w' a b ∧ RdO K cl W w' (f a st) D) := by
  cases x with
  | ok a st => exact fun w2 b h1 h2 h3 => ⟨w2, a, st, rfl, h1, h2, h3, RdO.up h h1⟩
  | exc c st => exact fun w2 h1 h2 => h w2 σ h1 h2 (he.mono h1)
  | stuck => exact h
end
theorem PSimp {X : Cx} {s : Stmt} {t t' : TS} (h : L2.PS X s t) (f : ∀ D σ H, σ.length = X.N.length → t' D σ H → t D σ H) : L2.PS X s t' := ⟨fun pins s σ H D I q => h.run pins s σ H D I (f D σ H I.len q)⟩
theorem PSsimp {X : Cx} {s : List Stmt} {t t' : TS} (h : L2.PSs X s t) (f : ∀ D σ H, t' D σ H → t D σ H) : L2.PSs X s t' := ⟨fun pins s σ H D I q => h.run pins s σ H D I (f D σ H q)⟩

section
variable {X : Cx} {cl : Nat → Value} {W : WX} {cf : CF} {pos : Pos} {a b c tg iter : Expr} {pa pb : PX}
theorem s_nil : L2.PSs X [] (rdS X.K cl W cf .skip) := by
  refine PSsimp pss_nil fun D σ H h => ?_
  obtain ⟨w, e, st, rfl, he, hs, h⟩ := h
  simp only [run] at h
  exact h w σ (.refl w) hs he
theorem s_cons {s : Stmt} {ss : List Stmt} {p q : PS} (h1 : L2.PS X s (rdS X.K cl W cf p)) (h2 : L2.PSs X ss (rdS X.K cl W cf q)) : L2.PSs X (s :: ss) (rdS X.K cl W cf (.seq p q)) := by
  refine PSsimp (pss_cons h1 h2) fun D σ H h => ?_
  obtain ⟨w, e, st, rfl, he, hs, h⟩ := h
  simp only [run] at h
  refine ⟨w, e, st, rfl, he, hs, ?_⟩
  cases q : run cf p e st with
  | next e1 st1 =>
    rw [q] at h
    exact fun w2 σ2 h1 h2 h3 => ⟨w2, e1, st1, rfl, h3, h2, RdO.up h h1⟩
  | brk e1 st1 => rw [q] at h; exact h
  | cnt e1 st1 => rw [q] at h; exact h
  | ret v st1 => rw [q] at h; exact h
  | exc c e1 st1 => rw [q] at h; exact h
  | stuck => rw [q] at h; exact h
theorem s_pass : L2.PS X (.Pass pos) (rdS X.K cl W cf .skip) := by
  refine PSimp ps_pass fun D σ H _ h => ?_
  obtain ⟨w, e, st, rfl, he, hs, h⟩ := h
  simp only [run] at h
  exact h w σ (.refl w) hs he
theorem s_brk : L2.PS X (.Break pos) (rdS X.K cl W cf .brk) := by
  refine PSimp ps_break fun D σ H _ h => ?_
  obtain ⟨w, e, st, rfl, he, hs, h⟩ := h
  simp only [run] at h
  exact h w σ (.refl w) hs he
theorem s_cnt : L2.PS X (.Continue pos) (rdS X.K cl W cf .cnt) := by
  refine PSimp ps_continue fun D σ H _ h => ?_
  obtain ⟨w, e, st, rfl, he, hs, h⟩ := h
  simp only [run] at h
  exact h w σ (.refl w) hs he
theorem s_ret (ha : L2.PE X a (rdE X.K cl W cf pa)) : L2.PS X (.Return (some a) pos) (rdS X.K cl W cf (.ret pa)) := by
  refine PSimp (ps_ret ha) fun D σ H _ h => ?_
  obtain ⟨w, e, st, rfl, he, hs, h⟩ := h
  simp only [run] at h
  refine ⟨w, e, st, rfl, he, hs, (RdO.out he h).mono fun u H1 ⟨w1, v1, st1, e1, hw1, hs1, r1, h1⟩ => ?_⟩
  subst e1
  exact h1 w1 u (.refl w1) hs1 r1
theorem s_retN : L2.PS X (.Return none pos) (rdS X.K cl W cf (.ret (.cst .non))) := by
  refine PSimp ps_retN fun D σ H _ h => ?_
  obtain ⟨w, e, st, rfl, he, hs, h⟩ := h
  simp only [run, ev, Res.out] at h
  exact h w .non (.refl w) hs .non
theorem s_exp (ha : L2.PE X a (rdE X.K cl W cf pa)) (hw : swapsWith a none pos.line X.env = pure false) : L2.PS X (.Expr a pos) (rdS X.K cl W cf (.exp pa)) := by
  refine PSimp (ps_expr ha hw) fun D σ H _ h => ?_
  obtain ⟨w, e, st, rfl, he, hs, h⟩ := h
  simp only [run] at h
  refine ⟨w, e, st, rfl, he, hs, (RdO.out he h).mono fun u H1 ⟨w1, v1, st1, e1, hw1, hs1, r1, h1⟩ => ?_⟩
  subst e1
  exact h1 w1 σ (.refl w1) hs1 (he.mono hw1)
/-- what an assignment reads -/
theorem asg_rd {t : Tg} {te : TE} {D : Ends} {σ : St} {w : Wd} {e : Env} {st : Sto} (he : EnvOk X.K w e σ)
    (hte : ∀ Q, RdR X.K cl (WE W σ) (Rep X.K) w (ev cf pa e st) Q → te σ w.H Q) (h : RdO X.K cl W w (run cf (.asg t pa) e st) D) : tAsg te (rdG X.K t) D σ w.H := by
  simp only [run] at h
  refine hte _ ((RdO.out he h).mono fun u H1 ⟨w1, v1, st1, e1, hw1, hs1, r1, h1⟩ => ?_)
  subst e1
  cases q : asgT t v1 e with
  | none => rw [q] at h1; exact h1.elim
  | some e2 =>
    rw [q] at h1
    exact ⟨w1, e, e2, v1, rfl, he.mono hw1, r1, q, fun σ' ⟨_, _, he'⟩ => h1 w1 σ' (.refl w1) hs1 he'⟩
theorem s_asg {t : Tg} (ha : L2.PE X a (rdE X.K cl W cf pa)) (hg : PG X tg (rdG X.K t)) (h1 : swapsWithSole [tg] a pos.line X.env = pure false) (h2 : swappedStores [tg] a X.env = pure none) (h3 : (assignEach [tg] X.env).map (·.2) = [assign tg X.env]) :
    L2.PS X (.Assign [tg] a pos) (rdS X.K cl W cf (.asg t pa)) := by
  refine PSimp (ps_asg ha hg h1 h2 h3) fun D σ H _ h => ?_
  obtain ⟨w, e, st, rfl, he, hs, h⟩ := h
  exact asg_rd he (fun Q q => ⟨w, e, st, rfl, he, hs, q⟩) h
theorem s_par2 {i j : Nat} {x y : Str} {qs : PXs} {px py pt : Pos} {kt k2 pt2} (hc : X.calm = true) (hN : X.N.Nodup) (hi : X.N[i]? = some x) (hj : X.N[j]? = some y) (hij : i ≠ j)
    (hx : X.env.scope.names.lookup x = some .local) (hy : X.env.scope.names.lookup y = some .local) (ha : L2.PA X [a, b] (rdA X.K cl W cf qs))
    (hw : swappedStores [.Tuple [.Name x px, .Name y py] kt pt] (.Tuple [a, b] k2 pt2) X.env = pure (some [x, y])) :
    L2.PS X (.Assign [.Tuple [.Name x px, .Name y py] kt pt] (.Tuple [a, b] k2 pt2) pos) (rdS X.K cl W cf (.par [i, j] qs)) := by
  refine PSimp (ps_par hc hN hi hj hij hx hy ha hw) fun D σ H hl h => ?_
  obtain ⟨w, e, st, rfl, he, hs, h⟩ := h
  simp only [run] at h
  have hiσ : i < σ.length := by rw [hl]; exact (List.getElem?_eq_some_iff.mp hi).1
  have hjσ : j < σ.length := by rw [hl]; exact (List.getElem?_eq_some_iff.mp hj).1
  refine ⟨w, e, st, rfl, he, hs, (RdO.out he h).mono fun us H1 ⟨w1, vs, st1, e1, hw1, hs1, r1, h1⟩ => ?_⟩
  subst e1
  rcases vs with _ | ⟨v1, _ | ⟨v2, _ | ⟨_, _⟩⟩⟩
  · exact h1.elim
  · exact h1.elim
  · obtain ⟨u1, u2, rfl, q1, q2⟩ := r1.two
    refine ⟨u1, u2, rfl, ?_⟩
    simp only [setAll] at h1
    exact h1 w1 _ (.refl w1) hs1 (((he.mono hw1).set q1 i hiσ).set q2 j (by simpa using hjσ))
  · exact h1.elim
theorem s_par3 {i j l : Nat} {x y z : Str} {qs : PXs} {px py pz pt : Pos} {kt k2 pt2} (hc : X.calm = true) (hN : X.N.Nodup) (hi : X.N[i]? = some x) (hj : X.N[j]? = some y) (hlz : X.N[l]? = some z) (hij : i ≠ j) (hil : i ≠ l) (hjl : j ≠ l)
    (hx : X.env.scope.names.lookup x = some .local) (hy : X.env.scope.names.lookup y = some .local) (hz : X.env.scope.names.lookup z = some .local) (ha : L2.PA X [a, b, c] (rdA X.K cl W cf qs))
    (hw : swappedStores [.Tuple [.Name x px, .Name y py, .Name z pz] kt pt] (.Tuple [a, b, c] k2 pt2) X.env = pure (some [x, y, z])) :
    L2.PS X (.Assign [.Tuple [.Name x px, .Name y py, .Name z pz] kt pt] (.Tuple [a, b, c] k2 pt2) pos) (rdS X.K cl W cf (.par [i, j, l] qs)) := by
  refine PSimp (ps_par3 hc hN hi hj hlz hij hil hjl hx hy hz ha hw) fun D σ H hl h => ?_
  obtain ⟨w, e, st, rfl, he, hs, h⟩ := h
  simp only [run] at h
  have hiσ : i < σ.length := by rw [hl]; exact (List.getElem?_eq_some_iff.mp hi).1
  have hjσ : j < σ.length := by rw [hl]; exact (List.getElem?_eq_some_iff.mp hj).1
  have hlσ : l < σ.length := by rw [hl]; exact (List.getElem?_eq_some_iff.mp hlz).1
  refine ⟨w, e, st, rfl, he, hs, (RdO.out he h).mono fun us H1 ⟨w1, vs, st1, e1, hw1, hs1, r1, h1⟩ => ?_⟩
  subst e1
  rcases vs with _ | ⟨v1, _ | ⟨v2, _ | ⟨v3, _ | ⟨_, _⟩⟩⟩⟩
  · exact h1.elim
  · exact h1.elim
  · exact h1.elim
  · cases r1 with
    | cons q1 rr =>
      obtain ⟨u2, u3, rfl, q2, q3⟩ := rr.two
      refine ⟨_, u2, u3, rfl, ?_⟩
      simp only [setAll] at h1
      exact h1 w1 _ (.refl w1) hs1 ((((he.mono hw1).set q1 i hiσ).set q2 j (by simpa using hjσ)).set q3 l (by simpa using hlσ))
  · exact h1.elim
theorem s_ite {tc : PT} {sa sb : List Stmt} {qa qb : PS} (hc : L2.PT X c (rdT X.K cl W cf tc)) (ha : L2.PSs X sa (rdS X.K cl W cf qa)) (hb : L2.PSs X sb (rdS X.K cl W cf qb)) : L2.PS X (.If c sa sb pos) (rdS X.K cl W cf (.ite tc qa qb)) := by
  refine PSimp (ps_if hc ha hb) fun D σ H _ h => ?_
  obtain ⟨w, e, st, rfl, he, hs, h⟩ := h
  simp only [run] at h
  refine ⟨w, e, st, rfl, he, hs, (RdO.out he h).mono fun k H1 ⟨w1, v1, st1, e1, hw1, hs1, r1, h1⟩ => ?_⟩
  subst e1
  subst r1
  cases v1 with
  | true => exact ⟨w1, e, st1, rfl, he.mono hw1, hs1, h1⟩
  | false => exact ⟨w1, e, st1, rfl, he.mono hw1, hs1, h1⟩
theorem forL_drop {f : PV → Env → Sto → Out} {items : List PV} {i : Nat} {v : PV} (h : items[i]? = some v) (e : Env) (st : Sto) :
    forL f (items.drop i) e st = match f v e st with
      | .next e1 st1 => forL f (items.drop (i + 1)) e1 st1
      | .cnt e1 st1 => forL f (items.drop (i + 1)) e1 st1
      | .brk e1 st1 => .next e1 st1
      | .ret v st1 => .ret v st1
      | .exc c e1 st1 => .exc c e1 st1
      | .stuck => .stuck := by
  obtain ⟨hi, q⟩ := List.getElem?_eq_some_iff.mp h
  rw [List.drop_eq_getElem_cons hi, q]
  rfl
theorem s_for {t : Tg} {s : Src} {body : List Stmt} {q : PS} (hp : PassesOwn (model X.prog X.w) X.A X.env X.xe) (hc : X.calm = true) (hi : PI X tg iter (rdI X.K cl W cf s)) (hg : PG X tg (rdG X.K t)) (hb : L2.PSs X body (rdS X.K cl W cf q))
    (hs : ∀ x, foldedSetIterable iter X.env x = pure x) : L2.PS X (.For tg iter body [] pos) (rdS X.K cl W cf (.fr t s q)) := by
  refine PSimp (ps_for hp hc hi hg hb hs) fun D σ H _ h => ?_
  obtain ⟨w, e, st, rfl, he, hs, h⟩ := h
  simp only [run] at h
  refine ⟨w, e, st, rfl, he, hs, (RdO.out (R := IsIt X.K) he h).mono fun J H1 ⟨w1, items, st1, e1, hw1, hs1, hJ, h1⟩ => ?_⟩
  subst e1
  generalize hf : (fun (x : PV) (e1 : Env) (st2 : Sto) => match asgT t x e1 with
      | none => Out.stuck
      | some e2 => run cf q e2 st2) = f at h1
  let Wi : Nat → St → Hp → Prop := fun i σ H => i ≤ items.length ∧ ∃ (w2 : Wd) (e2 : Env) (st2 : Sto), w2.H = H ∧ w1.le w2 ∧ EnvOk X.K w2 e2 σ ∧ StOk X.K w2 st2 ∧ RdO X.K cl W w2 (forL f (items.drop i) e2 st2) D
  refine ⟨fun i m σ H => m = items.length - i ∧ Wi i σ H, ⟨items.length, by omega, Nat.zero_le _, w1, e, st1, rfl, .refl w1, he.mono hw1, hs1, h1⟩, ?_⟩
  intro i m σ H ⟨hm, hi, w2, e2, st2, q2, hw2, he2, hs2, h2⟩
  subst q2
  obtain ⟨go, stop⟩ := hJ w2 st2 hw2 hs2
  by_cases hin : i = items.length
  · subst hin
    refine .inl ⟨stop, ?_⟩
    rw [List.drop_length] at h2
    exact h2 w2 σ (.refl w2) hs2 he2
  · have hlt : i < items.length := by omega
    obtain ⟨hgo, hy⟩ := go i hlt
    refine .inr ⟨hgo, Wi (i + 1), fun σ' H' z => ⟨items.length - (i + 1), by omega, rfl, z⟩, fun x H' hyx => ?_⟩
    obtain ⟨w3, v, e3, hw3, hs3, hv, rv⟩ := hy x H' hyx
    subst e3
    rw [forL_drop hv] at h2
    cases qa : asgT t v e2 with
    | none =>
      have z : f v e2 st2 = .stuck := by rw [← hf]; simp only [qa]
      rw [z] at h2
      exact h2.elim
    | some e4 =>
      have z : f v e2 st2 = run cf q e4 st2 := by rw [← hf]; simp only [qa]
      rw [z] at h2
      refine ⟨w3, e2, e4, v, rfl, he2.mono hw3, rv, qa, fun σ2 ⟨_, _, he4⟩ => ⟨w3, e4, st2, rfl, he4, hs3, ?_⟩⟩
      have hww := hw2.trans hw3
      cases qr : run cf q e4 st2 with
      | next e5 st5 =>
        rw [qr] at h2
        exact fun w5 σ5 k1 k2 k3 => ⟨hlt, w5, e5, st5, rfl, hww.trans k1, k3, k2, RdO.up h2 (hw3.trans k1)⟩
      | cnt e5 st5 =>
        rw [qr] at h2
        exact fun w5 σ5 k1 k2 k3 => ⟨hlt, w5, e5, st5, rfl, hww.trans k1, k3, k2, RdO.up h2 (hw3.trans k1)⟩
      | brk e5 st5 =>
        rw [qr] at h2
        exact fun w5 σ5 k1 k2 k3 => h2 w5 σ5 (hw3.trans k1) k2 k3
      | ret v5 st5 =>
        rw [qr] at h2
        exact fun w5 u k1 k2 k3 => h2 w5 u (hw3.trans k1) k2 k3
      | exc c e5 st5 =>
        rw [qr] at h2
        exact fun w5 σ5 k1 k2 k3 => h2 w5 σ5 (hw3.trans k1) k2 k3
      | stuck => rw [qr] at h2; exact h2
theorem s_wh {tc : PT} {body : List Stmt} {q : PS} (hp : PassesOwn (model X.prog X.w) X.A X.env X.xe) (hc : L2.PT X c (rdT X.K cl W cf tc)) (hb : L2.PSs X body (rdS X.K cl W cf q)) : L2.PS X (.While c body [] pos) (rdS X.K cl W cf (.wh tc q)) := by
  refine PSimp (ps_while hp hc hb) fun D σ H _ h => ?_
  obtain ⟨w, e, st, rfl, he, hs, h⟩ := h
  simp only [run] at h
  let Wi : Nat → St → Hp → Prop := fun m σ H => ∃ (w2 : Wd) (e2 : Env) (st2 : Sto), w2.H = H ∧ EnvOk X.K w2 e2 σ ∧ StOk X.K w2 st2 ∧ RdO X.K cl W w2 (whL (fun e1 st1 => evT cf tc e1 st1) (fun e1 st1 => run cf q e1 st1) m e2 st2) D
  refine ⟨Wi, ⟨WH, w, e, st, rfl, he, hs, h⟩, ?_⟩
  intro m σ H ⟨w2, e2, st2, q2, he2, hs2, h2⟩
  subst q2
  cases m with
  | zero => exact h2.elim
  | succ m =>
    simp only [whL] at h2
    refine ⟨w2, e2, st2, rfl, he2, hs2, (RdO.out he2 h2).mono fun k H1 ⟨w3, v3, st3, e3, hw3, hs3, r3, h3⟩ => ?_⟩
    subst e3
    subst r3
    cases v3 with
    | false => exact h3 w3 σ (.refl w3) hs3 (he2.mono hw3)
    | true =>
      refine ⟨Wi m, fun σ' H' z => ⟨m, Nat.lt_succ_self m, z⟩, w3, e2, st3, rfl, he2.mono hw3, hs3, ?_⟩
      simp only [if_true] at h3
      cases qr : run cf q e2 st3 with
      | next e5 st5 =>
        rw [qr] at h3
        exact fun w5 σ5 k1 k2 k3 => ⟨w5, e5, st5, rfl, k3, k2, RdO.up h3 k1⟩
      | cnt e5 st5 =>
        rw [qr] at h3
        exact fun w5 σ5 k1 k2 k3 => ⟨w5, e5, st5, rfl, k3, k2, RdO.up h3 k1⟩
      | brk e5 st5 =>
        rw [qr] at h3
        exact fun w5 σ5 k1 k2 k3 => h3 w5 σ5 k1 k2 k3
      | ret v5 st5 =>
        rw [qr] at h3
        exact fun w5 u k1 k2 k3 => h3 w5 u k1 k2 k3
      | exc c e5 st5 =>
        rw [qr] at h3
        exact fun w5 σ5 k1 k2 k3 => h3 w5 σ5 k1 k2 k3
      | stuck => rw [qr] at h3; exact h3
end

/-! ### the checker -/
def notComp : Expr → Bool
  | .ListComp .. => false
  | .SetComp .. => false
  | .DictComp .. => false
  | _ => true
theorem not_comp {a : Expr} {t : Option Expr} {l : Nat} {env : PySem.Env} (h : notComp a = true) : swapsWith a t l env = pure false := by
  cases a <;> first | rfl | (simp [notComp] at h)
def isTup : Expr → Bool
  | .Tuple .. => true
  | _ => false
/-- whether name = [..] is stored within the comprehension -/
def swB (sc : Scope) (scope : Scope) (t : Str) (p1 p2 : Pos) : Bool := decide (sc.names.lookup t = some .local) && (p1.line == p2.line) && !(scope.names.any fun (n, k) => n == t && (k == .local || k == .cell))
theorem sw_of {sc scope : Scope} {elt : Expr} {gs : List Comprehension} {pos py : Pos} {y : Str} {l : Nat} {env : PySem.Env} (hk : env.scope.kind = .function) (hs : env.scope = sc) : swapsWith (.ListComp elt gs scope pos) (some (.Name y py)) l env = pure (swB sc scope y py pos) := by
  subst hs
  unfold swapsWith swB
  have hb : (env.blockKind == ScopeKind.function) = true := by
    unfold Env.blockKind
    rw [hk]; rfl
  have hk2 : (env.kindOf y == some NameKind.local) = decide (env.scope.names.lookup y = some NameKind.local) := by
    show (env.scope.names.lookup y == some NameKind.local) = _
    by_cases h : env.scope.names.lookup y = some NameKind.local
    · rw [h]; rfl
    · rw [decide_eq_false h]
      exact beq_eq_false_iff_ne.mpr h
  simp only [hb, hk2, Bool.true_and]
  rfl
/-- the swapped stores of a tuple's assignment; none: the model says nothing -/
def swS (sc : Scope) (ts vs : List Expr) : Option (Option (List Str)) :=
  if !(ts.length == 2 || ts.length == 3) || vs.length != ts.length then some none
  else if vs.any (fun e => !notStar e) then some none
  else
    let names := ts.filterMap fun
      | .Name id pos => if sc.names.lookup id == some .local && pos.line == (ts.head?.map (·.pos.line)).getD 0 then some id else none
      | _ => none
    if names.length != ts.length || names.eraseDups.length != names.length then some none
    else if vs.all (foldedForSure 8) then some none
    else if vs.all (constantsAlone 8) then none
    else some (some names)
theorem swS_of {sc : Scope} {ts vs : List Expr} {k k2 : Nat} {p p2 : Pos} {env : PySem.Env} {r : Option (List Str)} (hk : env.scope.kind = .function) (hs : env.scope = sc) (h : swS sc ts vs = some r) :
    swappedStores [.Tuple ts k p] (.Tuple vs k2 p2) env = pure r := by
  subst hs
  have hb : (env.blockKind != ScopeKind.function) = false := by
    unfold Env.blockKind
    rw [hk]; rfl
  unfold swappedStores
  unfold swS at h
  simp only [hb, Bool.or_false]
  split at h
  · rename_i h1
    cases h
    simp only [h1, if_true]
  · rename_i h1
    simp only [Bool.not_eq_true] at h1
    simp only [h1, Bool.false_eq_true, if_false]
    have hany : ∀ f : Expr → Bool, (∀ e, f e = !notStar e) → vs.any f = vs.any (fun e => !notStar e) := fun f hf => by
      congr
      funext e
      exact hf e
    split at h
    · rename_i h2
      cases h
      refine (if_pos ?_).trans rfl
      rw [hany _ (fun e => by cases e <;> rfl)]
      exact h2
    · rename_i h2
      refine (if_neg ?_).trans ?_
      · rw [hany _ (fun e => by cases e <;> rfl)]
        exact h2
      · generalize hg : List.filterMap _ ts = nm
        simp only at h
        generalize hg2 : List.filterMap _ ts = nm2 at h
        have e : nm = nm2 := by
          rw [← hg, ← hg2]
          rfl
        subst e
        split at h
        · rename_i h3
          cases h
          simp only [h3, if_true]
        · rename_i h3
          simp only [Bool.not_eq_true] at h3
          simp only [h3, Bool.false_eq_true, if_false]
          split at h
          · rename_i h4
            cases h
            simp only [h4, if_true]
          · rename_i h4
            simp only [Bool.not_eq_true] at h4
            simp only [h4, Bool.false_eq_true, if_false]
            split at h
            · cases h
            · rename_i h5
              cases h
              simp only [Bool.not_eq_true] at h5
              simp only [h5, Bool.false_eq_true, if_false]
end PL

/-! PL9: blocks, defs, the law's end. -/
namespace PL
open PySem L2

def asgOk (sc : Scope) : Expr → Expr → Bool
  | .Tuple ts _ _, .Tuple vs _ _ => decide (swS sc ts vs = some none)
  | .Tuple _ _ _, e => notComp e || (match e with
    | .ListComp .. => true
    | _ => false)
  | .Name y py, .ListComp _ _ scope pos => !swB sc scope y py pos
  | .Name _ _, e => notComp e
  | _, _ => false
def lcOk (sc : Scope) : Expr → Expr → Bool
  | .Name y py, .ListComp _ _ scope pos => swB sc scope y py pos
  | _, _ => false
def chAsg (B : Tb) (N : List Str) (sc : Scope) (t : Tg) (x : PX) : Stmt → Bool
  | .Assign [tg] e _ => chG N sc t tg && chE B N x sc e && (asgOk sc tg e || lcOk sc tg e)
  | _ => false
def par2 (N : List Str) (sc : Scope) (i j : Nat) : List Expr → List Expr → Bool
  | [.Name x px, .Name y py], [a, b] => decide (swS sc [.Name x px, .Name y py] [a, b] = some (some [x, y])) && decide (N[i]? = some x) && decide (N[j]? = some y) && decide (i ≠ j) &&
      decide (sc.names.lookup x = some .local) && decide (sc.names.lookup y = some .local)
  | _, _ => false
def par3 (N : List Str) (sc : Scope) (i j l : Nat) : List Expr → List Expr → Bool
  | [.Name x px, .Name y py, .Name z pz], [a, b, c] => decide (swS sc [.Name x px, .Name y py, .Name z pz] [a, b, c] = some (some [x, y, z])) &&
      decide (N[i]? = some x) && decide (N[j]? = some y) && decide (N[l]? = some z) && decide (i ≠ j) && decide (i ≠ l) && decide (j ≠ l) &&
      decide (sc.names.lookup x = some .local) && decide (sc.names.lookup y = some .local) && decide (sc.names.lookup z = some .local)
  | _, _ => false
def chPar (B : Tb) (N : List Str) (sc : Scope) (es : PXs) : List Nat → Stmt → Bool
  | [i, j], .Assign [.Tuple ts _ _] (.Tuple vs _ _) _ => par2 N sc i j ts vs && chA B N es sc vs
  | [i, j, l], .Assign [.Tuple ts _ _] (.Tuple vs _ _) _ => par3 N sc i j l ts vs && chA B N es sc vs
  | _, _ => false
def chRet (B : Tb) (N : List Str) (sc : Scope) (x : PX) : Stmt → Bool
  | .Return none _ => (match x with
    | .cst .non => true
    | _ => false)
  | .Return (some e) _ => chE B N x sc e
  | _ => false
mutual
def chS (B : Tb) (N : List Str) (sc : Scope) : PS → Stmt → Bool
  | .skip, .Pass _ => true
  | .nev, _ => true
  | .brk, .Break _ => true
  | .cnt, .Continue _ => true
  | .asg t x, s => chAsg B N sc t x s
  | .par is es, s => chPar B N sc es is s
  | .exp x, .Expr e _ => notComp e && chE B N x sc e
  | .ret x, s => chRet B N sc x s
  | .ite c a b, .If e x y _ => chT B N c sc e && chSs B N sc a x && chSs B N sc b y
  | .fr t s b, .For tg iter body [] _ => notSet iter && chI B N s sc tg iter && chG N sc t tg && chSs B N sc b body
  | .wh c b, .While e body [] _ => chT B N c sc e && chSs B N sc b body
  | _, _ => false
def chSs (B : Tb) (N : List Str) (sc : Scope) : PS → List Stmt → Bool
  | .skip, [] => true
  | .seq a b, s :: ss => chS B N sc a s && chSs B N sc b ss
  | _, _ => false
end

structure FitS (B : Tb) (cl : Nat → Value) (cf : CF) (k : Nat) (N : List Str) (sc : Scope) (W : WX) (X : Cx) : Prop where
  fit : Fit B cl cf k N sc W X
  sce : X.env.scope = sc
  po : PassesOwn (model X.prog X.w) X.A X.env X.xe
section
variable {B : Tb} {cl : Nat → Value} {cf : CF} {k : Nat} {N : List Str} {sc : Scope} {W : WX} {X : Cx}
theorem FitS.kind (F : FitS B cl cf k N sc W X) : X.env.scope.kind = .function := F.fit.srl.kind
theorem s_setLc {i : Nat} {y : Str} {py pos spos : Pos} {elt tg iter : Expr} {ifs : List Expr} {scope : Scope} {own : List Nat} {t : Tg} {s : Src} {c : PT} {pe : PX} (F : FitS B cl cf k N sc W X) (hi : N[i]? = some y) (hy : sc.names.lookup y = some .local)
    (hsw : swB sc scope y py pos = true) (h : chE B N (.comp own t s c pe) sc (.ListComp elt [⟨tg, iter, ifs, 0⟩] scope pos) = true) :
    L2.PS X (.Assign [.Name y py] (.ListComp elt [⟨tg, iter, ifs, 0⟩] scope pos) spos) (rdS X.K cl W cf (.asg (.nm i) (.comp own t s c pe))) := by
  simp only [chE, Bool.and_eq_true, decide_eq_true_eq, List.all_eq_true] at h
  obtain ⟨⟨⟨⟨⟨⟨⟨_, h1⟩, h2⟩, h3⟩, h4⟩, h5⟩, h6⟩, h7⟩ := h
  have F0 := F.fit
  have htt : ∀ {Y : Cx}, Fit B cl cf k N scope Wfalse Y → L2.PTs Y ifs (rdT Y.K cl Wfalse cf c) := fun {Y} FY => by
    rcases ifs with _ | ⟨x, _ | ⟨_, _⟩⟩
    · cases c <;> simp [isYes] at h6
      exact ts_yes
    · exact ts_one (sT c scope Wfalse Y x FY h6)
    · cases h6
  have ok := blk_run (blkOk_by h1) F0.srl
  rw [← F0.hN] at ok
  have q := ps_setLc (own := ownP X.N own) (pos := pos) (spos := spos) (py := py) (g := rdG X.K t) (tt := rdT X.K cl Wfalse cf c) (te := rdE X.K cl Wfalse cf pe) F0.calm (by rw [F0.hN]; exact F0.nd) (by rw [F0.hN]; exact hi) (by rw [F.sce]; exact hy)
    (by rw [sw_of F.kind F.sce, hsw]) (sI s sc W X _ _ F0 h4) ok (fun s H C cl' fp => g_of (F0.blk ok.kind s H C cl' fp) h5)
    (fun s H C cl' fp => htt (F0.blk ok.kind s H C cl' fp)) (fun s H C cl' fp => sE pe _ _ _ _ (F0.blk ok.kind s H C cl' fp) h7) (not_set h3)
  rw [ownP_snd] at q
  refine PSimp q fun D σ H hl h => ?_
  obtain ⟨w, e, st, rfl, he, hs, h⟩ := h
  have hiσ : i < σ.length := by rw [hl, F0.hN]; exact (List.getElem?_eq_some_iff.mp hi).1
  simp only [run] at h
  refine x_comp h2 ⟨w, e, st, rfl, he, hs, (RdO.out he h).mono fun u H1 ⟨w1, v1, st1, e1, hw1, hs1, r1, h1⟩ => ?_⟩
  subst e1
  simp only [asgT] at h1
  exact h1 w1 _ (.refl w1) hs1 ((he.mono hw1).set r1 i hiσ)
theorem sole_eq {tg a : Expr} {l : Nat} {env : PySem.Env} : swapsWithSole [tg] a l env = swapsWith a (some tg) l env := by
  unfold swapsWithSole
  rfl
theorem asg_ok {tg a : Expr} {l : Nat} (F : FitS B cl cf k N sc W X) (h : asgOk sc tg a = true) : swapsWithSole [tg] a l X.env = pure false ∧ swappedStores [tg] a X.env = pure none ∧ (assignEach [tg] X.env).map (·.2) = [assign tg X.env] := by
  rw [sole_eq]
  unfold asgOk at h
  split at h
  · rw [decide_eq_true_eq] at h
    exact ⟨rfl, swS_of F.kind F.sce h, rfl⟩
  · rename_i hn
    refine ⟨?_, ?_, rfl⟩
    · rw [Bool.or_eq_true] at h
      rcases h with h | h
      · exact not_comp h
      · split at h
        · rfl
        · cases h
    · cases a <;> first | rfl | (exfalso; exact hn _ _ _ rfl)
  · rw [Bool.not_eq_true'] at h
    refine ⟨?_, rfl, rfl⟩
    rw [sw_of F.kind F.sce, h]
  · refine ⟨not_comp h, ?_, rfl⟩
    cases a <;> rfl
  · cases h
theorem s_asgAny {t : Tg} {x : PX} {s : Stmt} (F : FitS B cl cf k N sc W X) (h : chAsg B N sc t x s = true) : L2.PS X s (rdS X.K cl W cf (.asg t x)) := by
  cases s with
  | Assign tgs e pos =>
    rcases tgs with _ | ⟨tg, _ | ⟨_, _⟩⟩
    · simp [chAsg] at h
    · simp only [chAsg, Bool.and_eq_true, Bool.or_eq_true] at h
      obtain ⟨⟨h1, h2⟩, h3⟩ := h
      rcases h3 with h3 | h3
      · obtain ⟨k1, k2, k3⟩ := asg_ok (l := pos.line) F h3
        exact s_asg (sE x sc W X e F.fit h2) (g_of F.fit h1) k1 k2 k3
      · unfold lcOk at h3
        split at h3
        · rename_i y py elt gs scope p
          have hy : sc.names.lookup y = some .local := by
            unfold swB at h3
            simp only [Bool.and_eq_true, decide_eq_true_eq] at h3
            exact h3.1.1
          cases t with
          | tp ts => simp [chG] at h1
          | nm i =>
            simp only [chG, Bool.and_eq_true, decide_eq_true_eq] at h1
            cases x with
            | comp own t2 s2 c2 el =>
              rcases gs with _ | ⟨⟨tg, iter, ifs, asy⟩, _ | ⟨_, _⟩⟩
              · simp [chE] at h2
              · have ea : asy = 0 := by
                  simp only [chE, Bool.and_eq_true, decide_eq_true_eq] at h2
                  exact h2.1.1.1.1.1.1.1
                subst ea
                exact s_setLc F h1.1 hy h3 h2
              · simp [chE] at h2
            | _ => simp [chE, notLC] at h2
        · cases h3
    · simp [chAsg] at h
  | _ => simp [chAsg] at h
theorem s_parAny {is : List Nat} {es : PXs} {s : Stmt} (F : FitS B cl cf k N sc W X) (h : chPar B N sc es is s = true) : L2.PS X s (rdS X.K cl W cf (.par is es)) := by
  have hN := F.fit.hN
  have nd : X.N.Nodup := by rw [hN]; exact F.fit.nd
  unfold chPar at h
  split at h
  · rw [Bool.and_eq_true] at h
    obtain ⟨h1, h2⟩ := h
    unfold par2 at h1
    split at h1
    · simp only [Bool.and_eq_true, decide_eq_true_eq] at h1
      obtain ⟨⟨⟨⟨⟨h3, h4⟩, h5⟩, h6⟩, h7⟩, h8⟩ := h1
      exact s_par2 F.fit.calm nd (by rw [hN]; exact h4) (by rw [hN]; exact h5) h6 (by rw [F.sce]; exact h7) (by rw [F.sce]; exact h8) (sA es sc W X _ F.fit h2) (swS_of F.kind F.sce h3)
    · cases h1
  · rw [Bool.and_eq_true] at h
    obtain ⟨h1, h2⟩ := h
    unfold par3 at h1
    split at h1
    · simp only [Bool.and_eq_true, decide_eq_true_eq] at h1
      obtain ⟨⟨⟨⟨⟨⟨⟨⟨⟨h3, h4⟩, h5⟩, h5b⟩, h6⟩, h6b⟩, h6c⟩, h7⟩, h8⟩, h9⟩ := h1
      exact s_par3 F.fit.calm nd (by rw [hN]; exact h4) (by rw [hN]; exact h5) (by rw [hN]; exact h5b) h6 h6b h6c (by rw [F.sce]; exact h7) (by rw [F.sce]; exact h8) (by rw [F.sce]; exact h9) (sA es sc W X _ F.fit h2) (swS_of F.kind F.sce h3)
    · cases h1
  · cases h
theorem s_retAny {x : PX} {s : Stmt} (F : FitS B cl cf k N sc W X) (h : chRet B N sc x s = true) : L2.PS X s (rdS X.K cl W cf (.ret x)) := by
  unfold chRet at h
  split at h
  · split at h
    · exact s_retN
    · cases h
  · exact s_ret (sE x sc W X _ F.fit h)
  · cases h
mutual
theorem sS : ∀ (p : PS) (s : Stmt), FitS B cl cf k N sc W X → chS B N sc p s = true → L2.PS X s (rdS X.K cl W cf p)
  | .skip, s, F, h => by
    cases s <;> simp [chS] at h
    exact s_pass
  | .nev, s, F, h => ⟨fun pins s σ H D I q => by
    obtain ⟨w, e, st, _, _, _, q⟩ := q
    simp only [run] at q
    exact q.elim⟩
  | .brk, s, F, h => by
    cases s <;> simp [chS] at h
    exact s_brk
  | .cnt, s, F, h => by
    cases s <;> simp [chS] at h
    exact s_cnt
  | .seq a b, s, F, h => by
    cases s <;> simp [chS] at h
  | .asg t x, s, F, h => by
    simp only [chS] at h
    exact s_asgAny F h
  | .par is es, s, F, h => by
    simp only [chS] at h
    exact s_parAny F h
  | .exp x, s, F, h => by
    cases s <;> simp [chS] at h
    exact s_exp (sE x sc W X _ F.fit h.2) (not_comp h.1)
  | .ret x, s, F, h => by
    simp only [chS] at h
    exact s_retAny F h
  | .ite c a b, s, F, h => by
    cases s <;> simp [chS] at h
    exact s_ite (sT c sc W X _ F.fit h.1.1) (sSs a _ F h.1.2) (sSs b _ F h.2)
  | .fr t s b, st, F, h => by
    cases st with
    | For tg iter body oe pos =>
      cases oe <;> simp [chS] at h
      exact s_for F.po F.fit.calm (sI s sc W X _ _ F.fit h.1.1.2) (g_of F.fit h.1.2) (sSs b _ F h.2) (not_set h.1.1.1)
    | _ => simp [chS] at h
  | .wh c b, st, F, h => by
    cases st with
    | While e body oe pos =>
      cases oe <;> simp [chS] at h
      exact s_wh F.po (sT c sc W X _ F.fit h.1) (sSs b _ F h.2)
    | _ => simp [chS] at h
theorem sSs : ∀ (p : PS) (ss : List Stmt), FitS B cl cf k N sc W X → chSs B N sc p ss = true → L2.PSs X ss (rdS X.K cl W cf p)
  | .skip, [], F, h => s_nil
  | .skip, _ :: _, F, h => by simp [chSs] at h
  | .nev, ss, F, h => by cases ss <;> simp [chSs] at h
  | .seq a b, [], F, h => by simp [chSs] at h
  | .seq a b, s :: ss, F, h => by
    simp only [chSs, Bool.and_eq_true] at h
    exact s_cons (sS a s F h.1) (sSs b ss F h.2)
  | .asg _ _, ss, F, h => by cases ss <;> simp [chSs] at h
  | .par _ _, ss, F, h => by cases ss <;> simp [chSs] at h
  | .exp _, ss, F, h => by cases ss <;> simp [chSs] at h
  | .ret _, ss, F, h => by cases ss <;> simp [chSs] at h
  | .ite _ _ _, ss, F, h => by cases ss <;> simp [chSs] at h
  | .fr _ _ _, ss, F, h => by cases ss <;> simp [chSs] at h
  | .wh _ _, ss, F, h => by cases ss <;> simp [chSs] at h
  | .brk, ss, F, h => by cases ss <;> simp [chSs] at h
  | .cnt, ss, F, h => by cases ss <;> simp [chSs] at h
end
end
end PL

/-! PL10: defs by their tables, the law's end. -/
namespace PL
open PySem L2

/-! ### behind a call: the locations that were made are forgotten -/
def Wd.cut (w : Wd) (n : Nat) : Wd := ⟨w.m.take n, w.p, w.H⟩
section
variable {K : PySem.W.Frag} {w w' : Wd} {n : Nat}
theorem cut_notin {a : Addr} (h : some a ∉ w.m) : some a ∉ (w.cut n).m := fun z => h (List.mem_of_mem_take z)
mutual
theorem Rep.cut : ∀ {v : PV} {u : V}, Rep K w v u → v.under n = true → Rep K (w.cut n) v u
  | _, _, .non, _ => .non
  | _, _, .bl b, _ => .bl b
  | _, _, .int i, _ => .int i
  | _, _, .str z h, _ => .str z h
  | _, _, .tup h r, q => .tup (by
      rcases h with ⟨h, n⟩ | h
      · exact .inl ⟨h, cut_notin n⟩
      · exact .inr h) (Reps.under_cut r (by simpa [PV.under] using q))
  | _, _, .lst h n r, q => .lst h ⟨cut_notin n.1, n.2⟩ (Reps.under_cut r (by simpa [PV.under] using q))
  | _, _, .scr h, q => .scr (by
      rcases h with ⟨o, h, n⟩ | h
      · exact .inl ⟨o, h, cut_notin n⟩
      · exact .inr h)
  | _, _, .ref h, q => .ref (by
      simp only [PV.under, decide_eq_true_eq] at q
      show (w.m.take n)[_]? = _
      rw [List.getElem?_take_of_lt q]; exact h)
  | _, _, .gone h, q => .gone (by
      simp only [PV.under, decide_eq_true_eq] at q
      show (w.m.take n)[_]? = _
      rw [List.getElem?_take_of_lt q]; exact h)
theorem Reps.under_cut : ∀ {v : List PV} {u : List V}, Reps K w v u → PV.unders n v = true → Reps K (w.cut n) v u
  | _, _, .nil, _ => .nil
  | _, _, .cons h r, q => by
    simp only [PV.unders, Bool.and_eq_true] at q
    exact .cons (Rep.cut h q.1) (Reps.under_cut r q.2)
end
mutual
theorem Rep.isUnder : ∀ {v : PV} {u : V}, Rep K w v u → v.under w.m.length = true
  | _, _, .non => by simp [PV.under]
  | _, _, .bl b => by simp [PV.under]
  | _, _, .int i => by simp [PV.under]
  | _, _, .str z h => by simp [PV.under]
  | _, _, .tup h r => by simp only [PV.under]; exact Reps.areUnder r
  | _, _, .lst h n r => by simp only [PV.under]; exact Reps.areUnder r
  | _, _, .scr h => by simp [PV.under]
  | _, _, .ref h => by
    simp only [PV.under, decide_eq_true_eq]
    exact (List.getElem?_eq_some_iff.mp h).1
  | _, _, .gone h => by
    simp only [PV.under, decide_eq_true_eq]
    exact (List.getElem?_eq_some_iff.mp h).1
theorem Reps.areUnder : ∀ {v : List PV} {u : List V}, Reps K w v u → PV.unders w.m.length v = true
  | _, _, .nil => by simp [PV.unders]
  | _, _, .cons h r => by simp only [PV.unders, Rep.isUnder h, Reps.areUnder r, Bool.and_self]
end
theorem CellOk.isUnder {a : Addr} : ∀ {c : Cell}, CellOk K w a c → c.under w.m.length = true
  | .dead, h => h.elim
  | .lst xs, ⟨_, _, r⟩ => by simp only [Cell.under]; exact Reps.areUnder r
theorem CellOk.cut {a : Addr} : ∀ {c : Cell}, CellOk K w a c → c.under n = true → CellOk K (w.cut n) a c
  | .dead, h, _ => h.elim
  | .lst xs, ⟨us, h, r⟩, q => ⟨us, h, Reps.under_cut r (by simpa [Cell.under] using q)⟩
theorem oldOk_get : ∀ {st st' : Sto} {l : Nat} {c : Cell}, oldOk n st st' = true → st[l]? = some c → ∃ d, st'[l]? = some d ∧ (c = d ∨ d.under n = true)
  | [], _, _, _, _, h => by simp at h
  | c :: r, [], _, _, h, _ => by simp [oldOk] at h
  | c :: r, d :: s, 0, _, h, e => by
    simp only [oldOk, Bool.and_eq_true, Bool.or_eq_true] at h
    simp only [List.getElem?_cons_zero, Option.some.injEq] at e
    subst e
    refine ⟨d, rfl, ?_⟩
    rcases h.1 with z | z
    · exact .inl (Cell.eq_of_beq z)
    · exact .inr z
  | c :: r, d :: s, l + 1, c', h, e => by
    simp only [oldOk, Bool.and_eq_true] at h
    obtain ⟨d', e1, e2⟩ := oldOk_get (l := l) (c := c') h.2 (by simpa using e)
    exact ⟨d', by simpa using e1, e2⟩
theorem cut_le (hw : w.le w') (hn : n = w.m.length) : w.le (w'.cut n) where
  len := by
    show w.m.length ≤ (w'.m.take n).length
    rw [List.length_take, hn]
    have := hw.len
    omega
  loc := fun l a e => by
    have hl : l < n := by rw [hn]; exact (List.getElem?_eq_some_iff.mp e).1
    show (w'.m.take n)[l]? = _ ∨ (w'.m.take n)[l]? = _
    rw [List.getElem?_take_of_lt hl]
    exact hw.loc l a e
  dead := fun l e => by
    have hl : l < n := by rw [hn]; exact (List.getElem?_eq_some_iff.mp e).1
    show (w'.m.take n)[l]? = _
    rw [List.getElem?_take_of_lt hl]
    exact hw.dead l e
  keep := hw.keep
  fresh := fun a e => hw.fresh a (List.mem_of_mem_take e)
  priv := hw.priv
  freshp := hw.freshp
  trk := hw.trk
theorem StOk.cut {st st' : Sto} (hw : w.le w') (h : StOk K w st) (h' : StOk K w' st') (ho : oldOk st.length st st' = true) : StOk K (w'.cut st.length) (st'.take st.length) where
  len := by
    show (w'.m.take st.length).length = (st'.take st.length).length
    rw [List.length_take, List.length_take, h'.len]
  inj := fun l l' a e e' => by
    have k1 : l < st.length := by
      have := (List.getElem?_eq_some_iff.mp e).1
      rw [show (w'.cut st.length).m = w'.m.take st.length from rfl, List.length_take] at this
      omega
    have k2 : l' < st.length := by
      have := (List.getElem?_eq_some_iff.mp e').1
      rw [show (w'.cut st.length).m = w'.m.take st.length from rfl, List.length_take] at this
      omega
    rw [show (w'.cut st.length).m = w'.m.take st.length from rfl, List.getElem?_take_of_lt k1] at e
    rw [show (w'.cut st.length).m = w'.m.take st.length from rfl, List.getElem?_take_of_lt k2] at e'
    exact h'.inj l l' a e e'
  cell := fun l a e => by
    have k1 : l < st.length := by
      have := (List.getElem?_eq_some_iff.mp e).1
      rw [show (w'.cut st.length).m = w'.m.take st.length from rfl, List.length_take] at this
      omega
    rw [show (w'.cut st.length).m = w'.m.take st.length from rfl, List.getElem?_take_of_lt k1] at e
    obtain ⟨c, hc, ok⟩ := h'.cell l a e
    refine ⟨c, by rw [List.getElem?_take_of_lt k1]; exact hc, ok.cut ?_⟩
    obtain ⟨d, hd, hu⟩ := oldOk_get ho (List.getElem?_eq_getElem k1)
    rw [hc] at hd
    cases hd
    rcases hu with hu | hu
    · have kw : l < w.m.length := by rw [h.len]; exact k1
      cases q : w.m[l]? with
      | none => rw [List.getElem?_eq_getElem kw] at q; cases q
      | some o =>
        cases o with
        | none => rw [hw.dead l q] at e; cases e
        | some b =>
          obtain ⟨c0, hc0, ok0⟩ := h.cell l b q
          rw [List.getElem?_eq_getElem k1] at hc0
          cases hc0
          rw [← hu]
          have := ok0.isUnder
          rw [h.len] at this
          exact this
    · exact hu
  prv := h'.prv
  dis := fun a q => h'.dis a (List.mem_of_mem_take q)
  gone := fun l e => by
    have k1 : l < st.length := by
      have := (List.getElem?_eq_some_iff.mp e).1
      rw [show (w'.cut st.length).m = w'.m.take st.length from rfl, List.length_take] at this
      omega
    rw [show (w'.cut st.length).m = w'.m.take st.length from rfl, List.getElem?_take_of_lt k1] at e
    rw [List.getElem?_take_of_lt k1]
    exact h'.gone l e
end
theorem envOk_start {K : PySem.W.Frag} {w : Wd} {d : Dd} {args : List PV} {vs : List V} (r : Reps K w args vs) : EnvOk K w (start d args) (L2.start d.N vs) := fun i v e => by
  unfold PL.start at e
  unfold L2.start
  have hl := r.length
  by_cases hi : i < args.length
  · rw [List.getElem?_append_left (by simpa using hi), List.getElem?_map] at e
    rw [List.getElem?_append_left (by simp; omega), List.getElem?_map]
    obtain ⟨x, e1, e2⟩ := Option.map_eq_some_iff.mp e
    cases e2
    obtain ⟨u, h1, h2⟩ := r.get e1
    exact ⟨u, by rw [h1]; rfl, h2⟩
  · rw [List.getElem?_append_right (by simpa using hi), List.getElem?_replicate] at e
    split at e <;> cases e

/-- texts that are constants -/
theorem Rep.strOf {K : PySem.W.Frag} {wd : Wd} {s : List Nat} {z : Str} (h : z.cps.toList = s) (hz : s.length ≤ SZ) : Rep K wd (.str s) (.str z) := by
  subst h
  exact .str z (by rw [PL.len_eq]; exact hz)
theorem SqI.ofK {K : PySem.W.Frag} {wd : Wd} {A : Addr} {od : Option Addr} {its : List Value} {n : Nat} {osl : Array (Option Value)} {us : List V} (l : K.lookup A = some ⟨.type "tuple", od, .seq its.toArray n, osl⟩) (hz : its.length ≤ sizeLine) (v : Vals us its) : SqI K wd A us :=
  .inr ⟨_, its.toArray, n, l, rfl, rfl, by simpa using hz, by simpa using v⟩

/-- a def of the text, where it stands -/
structure DefAt (K : PySem.W.Frag) (name : Str) (ps : List Str) (st : Stmt) : Prop where
  ex : ∃ (f : Addr) (fd : FuncData), PySem.W.nsIn K mainGlobals name = some (some (.ref f)) ∧ L2.Fun K name name st f fd ∧ ∀ us : List Value, us.length = ps.length → bindArgs fd ⟨us, []⟩ = pure (ps.zip us)
theorem DefAt.of {K : PySem.W.Frag} {name : Str} {ps : List Str} {st : Stmt} {f : Addr} {oc : Value} {od an : Option Addr} {osl : Array (Option Value)} {kV doc pm cdv ct : Value}
    (a : PySem.W.nsIn K mainGlobals name = some (some (.ref f))) (l : K.lookup f = some ⟨oc, od, .func (PySem.W.fnOf name name (defArgs st) (defBody st) (defScope st) .none kV doc pm an cdv ct), osl⟩)
    (c : PySem.W.codeIn K cdv name = true) (k : PySem.W.keepIn K (.ref f) = true)
    (b : ∀ (kV doc pm : Value) (an : Option Addr) (cdv ct : Value) (us : List Value), us.length = ps.length → bindArgs (PySem.W.fnOf name name (defArgs st) (defBody st) (defScope st) .none kV doc pm an cdv ct) ⟨us, []⟩ = pure (ps.zip us)) : DefAt K name ps st :=
  ⟨f, _, a, fun_mk l c k, b kV doc pm an cdv ct⟩

def scC (N ps : List Str) (sc : Scope) : Bool :=
  (match sc.kind with
    | .function => true
    | _ => false) && !sc.isCoroutine && !sc.isGenerator && decide N.Nodup && decide (N.take ps.length = ps) &&
  ps.all (fun x => isLoc sc x) && sc.names.all (fun y => match y.2 with
    | .free => false
    | _ => true)
theorem scC_of {N ps : List Str} {sc : Scope} (h : scC N ps sc = true) : FnScope N ps sc := by
  unfold scC at h
  simp only [Bool.and_eq_true, Bool.not_eq_true', decide_eq_true_eq, List.all_eq_true] at h
  obtain ⟨⟨⟨⟨⟨⟨h1, h2⟩, h3⟩, h4⟩, h5⟩, h6⟩, h7⟩ := h
  refine ⟨?_, h2, h3, h4, h5, fun x hx => ?_, fun y hy e => ?_⟩
  · split at h1
    · assumption
    · cases h1
  · have := h6 x hx
    unfold isLoc at this
    split at this
    · left; assumption
    · right; assumption
    · cases this
  · have := h7 y hy
    rw [e] at this
    cases this
/-- the table is the text's -/
def tabOk (B : Tb) : Tab → List Stmt → Bool
  | [], [] => true
  | (_, d) :: ds, s :: ss => scC d.N d.ps (defScope s) && chSs B d.N (defScope s) d.body (defBody s) && tabOk B ds ss
  | _, _ => false
def defsAt (K : PySem.W.Frag) : Tab → List Stmt → Prop
  | [], [] => True
  | (_, d) :: ds, s :: ss => DefAt K d.name d.ps s ∧ defsAt K ds ss
  | _, _ => False
theorem tab_get {B : Tb} {K : PySem.W.Frag} : ∀ {ds : Tab} {ss : List Stmt} {i : Nat} {d : Dd}, tabOk B ds ss = true → defsAt K ds ss → ds.lookup i = some d →
    ∃ s, FnScope d.N d.ps (defScope s) ∧ chSs B d.N (defScope s) d.body (defBody s) = true ∧ DefAt K d.name d.ps s
  | [], _, _, _, _, _, h => by simp at h
  | d :: ds, [], _, _, h, _, _ => by simp [tabOk] at h
  | (j, d) :: ds, s :: ss, i, d', h, k, e => by
    simp only [tabOk, Bool.and_eq_true] at h
    rw [List.lookup_cons] at e
    by_cases hij : i = j
    · subst hij
      simp only [beq_self_eq_true, Option.some.injEq] at e
      subst e
      exact ⟨s, scC_of h.1.1, h.1.2, k.1⟩
    · rw [beq_eq_false_iff_ne.mpr hij] at e
      exact tab_get (i := i) h.2 k.2 e

section
variable {B : Tb} {cl : Nat → Value} {P : Program} {w : World} {K : PySem.W.Frag} {mg : Str → Option Value} {base : Heap}
theorem def_ok {m k i : Nat} {d : Dd} {s : Stmt} {f : Addr} {fd : FuncData} (G : GOk B cl (callF B.T m) k P w K mg base) (hd : B.T.lookup i = some d) (S : FnScope d.N d.ps (defScope s)) (hc : chSs B d.N (defScope s) d.body (defBody s) = true)
    (F : L2.Fun K d.name d.name s f fd) : FnOk P w K mg base (L2.CX P w) (k + 1) f fd d.ps (spF K cl (callF B.T (m + 1)) d.ps.length i) := by
  refine L2.Fun.okX F S (fun vs H Q E h => h.1) fun cdv A outer s0 H vs Q E hr h => ?_
  obtain ⟨hl, w0, st, args, rfl, hs, ra, h⟩ := h
  have fit : FitS B cl (callF B.T m) k d.N (defScope s) (fun cls dd _ H => E cls dd H) (cxOf (L2.CX P w) P w K mg base d.N d.name (defScope s) f cdv A outer s0 w0.H E) :=
    { fit := { gok := G, hN := rfl, nd := S.nd, srl := ⟨S.kind, fun x kd e => ⟨kd, e, .inl rfl⟩⟩, fnm := fun _ _ => rfl, calm := rfl, room := hr, tk := takes_of rfl rfl rfl rfl }
      sce := rfl
      po := passes_of rfl }
  refine ⟨rdS K cl (fun cls dd _ H => E cls dd H) (callF B.T m) d.body, sSs d.body (defBody s) fit hc, w0, start d args, st, rfl, envOk_start ra, hs, ?_⟩
  simp only [callF, hd, runD] at h
  rw [if_pos (by rw [ra.length, hl])] at h
  have fn : ∀ (v : PV) (st1 : Sto), RdR K cl E (Rep K) w0 (fin st v st1) Q → ∀ w' u, w0.le w' → StOk K w' st1 → Rep K w' v u → Q u w'.H := fun v st1 h w' u k1 k2 k3 => by
    unfold fin at h
    split at h
    · rename_i hq
      rw [Bool.and_eq_true] at hq
      exact h (w'.cut st.length) u (cut_le k1 hs.len.symm) (hs.cut k1 k2 hq.2) (k3.cut hq.1)
    · exact h w' u k1 k2 k3
  cases q : run (callF B.T m) d.body (start d args) st with
  | next e1 st1 =>
    rw [q] at h
    exact fun w' σ' k1 k2 k3 => fn .non st1 h w' .non k1 k2 .non
  | ret v st1 =>
    rw [q] at h
    exact fun w' u k1 k2 k3 => fn v st1 h w' u k1 k2 k3
  | exc c e1 st1 =>
    rw [q] at h
    intro w' σ' k1 k2 k3
    simp only [finX] at h
    split at h
    · rename_i hq
      exact h (w'.cut st.length) (cut_le k1 hs.len.symm) (hs.cut k1 k2 hq)
    · exact h w' k1 k2
  | brk e1 st1 => rw [q] at h; exact h.elim
  | cnt e1 st1 => rw [q] at h; exact h.elim
  | stuck => rw [q] at h; exact h.elim
theorem all_ok {ss : List Stmt} (ht : tabOk B B.T ss = true) (hd : defsAt K B.T ss) (hg : ∀ x v, PySem.W.nsIn K mainGlobals x = some (some v) → mg x = some v) (hb : ∀ x ∈ B.bs, mg x = none)
    (hc : ∀ p ∈ B.cs, ∃ u V, mg p.1 = some u ∧ RelV V u ∧ ∀ wd, Rep K wd p.2 V) : ∀ m, GOk B cl (callF B.T m) m P w K mg base
  | 0 => by
    refine ⟨fun i d e => ?_, hb, hc⟩
    obtain ⟨s, S, c, ⟨f, fd, a, F, b⟩⟩ := tab_get ht hd e
    refine ⟨f, fd, hg _ _ a, F.kp, .all b, fun vs H Q E h => h.1, fun A outer s H args us vs Q E _ _ _ _ h => ?_⟩
    obtain ⟨_, _, _, _, _, _, _, h⟩ := h
    exact h.elim
  | m + 1 => by
    refine ⟨fun i d e => ?_, hb, hc⟩
    obtain ⟨s, S, c, ⟨f, fd, a, F, b⟩⟩ := tab_get ht hd e
    exact ⟨f, fd, hg _ _ a, F.kp, .all b, def_ok (all_ok ht hd hg hb hc m) e S c F⟩
end

/-! ### the law's end -/
/-- what the law promises: for at most 63 ints the answer is True -/
def spLaw (K : PySem.W.Frag) : Sp := fun vs H Q _ => ∃ (a : Addr) (ns : List Int), vs = [.ref a] ∧ SqL K H a (ns.map V.int) ∧ Only H ∧ ns.length ≤ 63 ∧ ∀ H', Q (.bl true) H'
def LawTrue (T : Tab) (m i : Nat) : Prop := ∀ ns : List Int, ns.length ≤ 63 → ∃ st, callF T m i [.scr ns] [] = .ok (.bl true) st
theorem law_ok {B : Tb} {P : Program} {w : World} {K : PySem.W.Frag} {mg : Str → Option Value} {ss : List Stmt} {m i : Nat} {d : Dd} (ht : tabOk B B.T ss = true) (hd : defsAt K B.T ss)
    (hg : ∀ x v, PySem.W.nsIn K mainGlobals x = some (some v) → mg x = some v) (hb : ∀ x ∈ B.bs, mg x = none)
    (hc : ∀ p ∈ B.cs, ∃ u V, mg p.1 = some u ∧ RelV V u ∧ ∀ wd, Rep K wd p.2 V) (hi : B.T.lookup i = some d) (hn : d.name = "law") (hp : d.ps = [("script" : Str)]) (law : LawTrue B.T (m + 1) i) {fa : Addr} (hfa : mg "law" = some (.ref fa)) :
    ∃ fd : FuncData, (∀ (s : Shared) (u : Value), BindsTo s fd ⟨[u], []⟩ [("script", u)]) ∧ ∀ base : Heap, FnOk P w K mg base (L2.CX P w) (m + 1) fa fd ["script"] (spLaw K) := by
  obtain ⟨s, S, c, ⟨f, fd, a, F, b⟩⟩ := tab_get ht hd hi
  have e1 := hg _ _ a
  rw [hn, hfa] at e1
  cases e1
  refine ⟨fd, fun s u => .of_eq ?_, fun base => ?_⟩
  · have := b [u] (by rw [hp]; rfl)
    rw [hp] at this
    exact this
  · have e4 := def_ok (all_ok (cl := fun _ => .none) (P := P) (w := w) (base := base) ht hd hg hb hc m) hi S c F
    rw [hp] at e4
    refine e4.imp fun vs H Q E h => ?_
    obtain ⟨a, ns, rfl, hS, hO, hl, q⟩ := h
    obtain ⟨st, e⟩ := law ns hl
    refine ⟨rfl, ⟨[], [], H⟩, [], [.scr ns], rfl, ⟨rfl, fun l l' a e => by simp at e, fun l a e => by simp at e, fun a e => by simp at e, fun a e => by simp at e, fun l e => by simp at e⟩, .cons (.scr ?_) .nil, ?_⟩
    · rcases hS with (h | ⟨o, h⟩) | h
      · rcases hO a with z | ⟨o, xs, z⟩
        · rw [h] at z; cases z
        · rw [h] at z; cases z
      · exact .inl ⟨o, h, by simp⟩
      · exact .inr h
    · rw [e]
      intro w' u _ _ r
      cases r.bl_inv
      exact q _
theorem walk {l : PySem.W.OpenLaw} {q : Program} {loose : List Str} {XP : (Str → Option Value) → Heap → Prop} {YP : World → Heap → Prop} {d : DefRec} {K : Params → PySem.W.Frag} {m : Nat} (hn : l.most = some 63) (hdf : d.params.defaults = []) (hr : Room m callerA)
    (hname : d.name = "law") (hY : ∀ (w : World) (h : Heap), YP w h → (K w.params).In h)
    (HB : ∀ (w : World) (mg : Str → Option Value) (fa : Addr) (h : Heap), (K w.params).In h → h.Ns mainGlobals mg → mg "law" = some (.ref fa) → ∃ fd : FuncData, (∀ (s : Shared) (u : Value), BindsTo s fd ⟨[u], []⟩ [("script", u)]) ∧
      ∀ base : Heap, FnOk l.prog w (K w.params) mg base (L2.CX l.prog w) m fa fd ["script"] (spLaw (K w.params))) :
    PySem.W.WalkO q loose XP YP l.row.toRowW d [] (fun f vs => PySem.call f vs) :=
  L2.walk_of (n := 63) (k := m) (x := "script") (CX := fun w => L2.CX l.prog w) (sp := fun w => spLaw (K w.params)) hn (by decide) hdf hr hY
    (fun w mg fa h KX G hmg => by
      rw [hname] at hmg
      obtain ⟨fd, h1, h2⟩ := HB w mg fa h KX G hmg
      exact ⟨fd, h1, fun base _ _ => h2 base⟩)
    (fun _ _ a ns hl hO hS => ⟨a, ns, rfl, hS, hO, hl, fun _ => rfl⟩) fun w H s e s' z => by
      obtain ⟨_, _, _, _, _, _, _, _, _, _, _, _, z⟩ := z
      exact z
end PL

/-! FN: the defs of all linked texts, printed by tr.py. -/
namespace Fn
open PySem
/-- number 7 -/
def f_law_cell : PL.Dd := ⟨"_law_cell", ["script", "k"], ["script", "k"],
  (.seq (.ite (.cmp .Lt (.var 1) (.bi .len (.cons (.var 0) .nil))) (.seq (.ret (.sub (.var 0) (.var 1)))
    .skip) .skip)
    (.seq (.ret (.cst (.int 0)))
    .skip))⟩
/-- number 8 -/
def f_law_mix : PL.Dd := ⟨"_law_mix", ["cell", "prime", "many"], ["cell", "prime", "many", "blend"],
  (.seq (.asg (.nm 3) (.bin .Mod (.bin .Mult (.var 0) (.cst (.int 48271))) (.var 1)))
    (.seq (.ret (.bin .Mod (.bin .Mod (.bin .Mult (.var 3) (.bin .Add (.var 3) (.cst (.int 7)))) (.var 1)) (.var 2)))
    .skip))⟩
/-- number 9 -/
def f_law_atom : PL.Dd := ⟨"_law_atom", ["cell"], ["cell"],
  (.seq (.ret (.tup (.cons (.cst (.str [119, 111, 114, 100])) (.cons (.sub (.tup (.cons (.cst (.str [97])) (.cons (.cst (.str [98])) (.cons (.cst (.str [120, 49])) (.cons (.cst (.str [108, 111, 110, 103])) (.cons (.cst (.str [55])) (.cons (.cst (.str [97, 98, 99, 100, 101, 102])) .nil))))))) (.call 8 (.cons (.var 0) (.cons (.cst (.int 9973)) (.cons (.cst (.int 6)) .nil))))) .nil))))
    .skip)⟩
/-- number 10 -/
def f_law_base : PL.Dd := ⟨"_law_base", ["cell", "left"], ["cell", "left", "way", "rows", "wide", "k", "seeds", "j", "seed"],
  (.seq (.asg (.nm 2) (.call 8 (.cons (.var 0) (.cons (.cst (.int 9967)) (.cons (.cst (.int 4)) .nil)))))
    (.seq (.ite (.bop .Or (.cons (.cmp .Eq (.var 1) (.cst (.int 1))) (.cons (.cmp .Lt (.var 2) (.cst (.int 2))) .nil))) (.seq (.ret (.call 9 (.cons (.var 0) .nil)))
    .skip) .skip)
    (.seq (.ite (.cmp .Eq (.var 2) (.cst (.int 2))) (.seq (.ret (.tup (.cons (.cst (.str [104, 101, 108, 100])) (.cons (.call 12 (.cons (.bin .Add (.bin .Mult (.var 0) (.cst (.int 3))) (.cst (.int 1))) (.cons (.bin .Sub (.var 1) (.cst (.int 1))) .nil))) .nil))))
    .skip) .skip)
    (.seq (.asg (.nm 3) (.tup .nil))
    (.seq (.asg (.nm 4) (.bin .Add (.cst (.int 1)) (.call 8 (.cons (.var 0) (.cons (.cst (.int 9949)) (.cons (.cst (.int 3)) .nil))))))
    (.seq (.fr (.nm 5) (.rng (.cons (.bin .Add (.cst (.int 1)) (.call 8 (.cons (.var 0) (.cons (.cst (.int 9941)) (.cons (.cst (.int 3)) .nil))))) .nil)) (.seq (.asg (.nm 6) (.comp [7] (.nm 7) (.rng (.cons (.var 4) .nil)) .yes (.bin .Add (.bin .Add (.bin .Add (.bin .Mult (.var 0) (.cst (.int 3))) (.bin .Mult (.cst (.int 7)) (.var 5))) (.bin .Mult (.cst (.int 5)) (.var 7))) (.cst (.int 2)))))
    (.seq (.asg (.nm 3) (.bin .Add (.var 3) (.tup (.cons (.bi .tuple (.cons (.comp [8] (.nm 8) (.seq (.var 6)) .yes (.call 12 (.cons (.var 8) (.cons (.bi .min2 (.cons (.bin .Sub (.var 1) (.cst (.int 1))) (.cons (.cst (.int 2)) .nil))) .nil)))) .nil)) .nil))))
    .skip)))
    (.seq (.ret (.tup (.cons (.cst (.str [116, 97, 98, 108, 101])) (.cons (.var 3) .nil))))
    .skip)))))))⟩
/-- number 11 -/
def f_law_item : PL.Dd := ⟨"_law_item", ["cell", "left"], ["cell", "left", "way", "both", "some"],
  (.seq (.asg (.nm 2) (.call 8 (.cons (.var 0) (.cons (.cst (.int 9931)) (.cons (.cst (.int 8)) .nil)))))
    (.seq (.ite (.bop .Or (.cons (.cmp .Eq (.var 1) (.cst (.int 1))) (.cons (.cmp .Lt (.var 2) (.cst (.int 2))) .nil))) (.seq (.ret (.call 10 (.cons (.var 0) (.cons (.var 1) .nil))))
    .skip) .skip)
    (.seq (.ite (.cmp .Eq (.var 2) (.cst (.int 2))) (.seq (.ret (.tup (.cons (.cst (.str [111, 118, 101, 114])) (.cons (.call 12 (.cons (.bin .Add (.bin .Mult (.var 0) (.cst (.int 3))) (.cst (.int 1))) (.cons (.bin .Sub (.var 1) (.cst (.int 1))) .nil))) (.cons (.call 12 (.cons (.bin .Add (.bin .Mult (.var 0) (.cst (.int 3))) (.cst (.int 2))) (.cons (.bin .Sub (.var 1) (.cst (.int 1))) .nil))) .nil)))))
    .skip) .skip)
    (.seq (.ite (.cmp .Eq (.var 2) (.cst (.int 3))) (.seq (.ret (.tup (.cons (.cst (.str [114, 111, 111, 116])) (.cons (.call 12 (.cons (.bin .Add (.bin .Mult (.var 0) (.cst (.int 3))) (.cst (.int 1))) (.cons (.bin .Sub (.var 1) (.cst (.int 1))) .nil))) .nil))))
    .skip) .skip)
    (.seq (.ite (.cmp .Lt (.var 2) (.cst (.int 6))) (.seq (.asg (.nm 3) (.lst (.cons (.call 12 (.cons (.bin .Add (.bin .Mult (.var 0) (.cst (.int 3))) (.cst (.int 4))) (.cons (.bin .Sub (.var 1) (.cst (.int 1))) .nil))) (.cons (.call 12 (.cons (.bin .Add (.bin .Mult (.var 0) (.cst (.int 3))) (.cst (.int 5))) (.cons (.bin .Sub (.var 1) (.cst (.int 1))) .nil))) .nil))))
    (.seq (.asg (.nm 4) (.call 8 (.cons (.var 0) (.cons (.cst (.int 9929)) (.cons (.cst (.int 3)) .nil)))))
    (.seq (.ret (.tup (.cons (.cst (.str [115, 99, 114, 105, 112, 116])) (.cons (.call 10 (.cons (.bin .Add (.var 0) (.cst (.int 1))) (.cons (.bin .Sub (.var 1) (.cst (.int 1))) .nil))) (.cons (.ite (.cmp .Eq (.var 4) (.cst (.int 0))) (.cst .non) (.sub (.var 3) (.cst (.int 0)))) (.cons (.ite (.cmp .Eq (.var 4) (.cst (.int 1))) (.cst .non) (.sub (.var 3) (.cst (.int 1)))) .nil))))))
    .skip))) .skip)
    (.seq (.ret (.call 10 (.cons (.bin .Add (.var 0) (.cst (.int 1))) (.cons (.var 1) .nil))))
    .skip))))))⟩
/-- number 12 -/
def f_law_draw : PL.Dd := ⟨"_law_draw", ["cell", "left"], ["cell", "left", "rest", "k", "sign"],
  (.seq (.ite (.bop .And (.cons (.cmp .Gt (.var 1) (.cst (.int 1))) (.cons (.cmp .Eq (.call 8 (.cons (.var 0) (.cons (.cst (.int 9923)) (.cons (.cst (.int 3)) .nil)))) (.cst (.int 0))) .nil))) (.seq (.asg (.nm 2) (.tup .nil))
    (.seq (.fr (.nm 3) (.rng (.cons (.bin .Add (.cst (.int 1)) (.call 8 (.cons (.var 0) (.cons (.cst (.int 9907)) (.cons (.cst (.int 3)) .nil))))) .nil)) (.seq (.asg (.nm 4) (.sub (.cst (.str [43, 45, 42, 61, 60])) (.call 8 (.cons (.bin .Add (.var 0) (.var 3)) (.cons (.cst (.int 9901)) (.cons (.cst (.int 5)) .nil))))))
    (.seq (.asg (.nm 2) (.bin .Add (.var 2) (.tup (.cons (.tup (.cons (.var 4) (.cons (.call 11 (.cons (.bin .Add (.bin .Add (.bin .Mult (.var 0) (.cst (.int 2))) (.bin .Mult (.cst (.int 11)) (.var 3))) (.cst (.int 3))) (.cons (.bin .Sub (.var 1) (.cst (.int 1))) .nil))) .nil))) .nil))))
    .skip)))
    (.seq (.ret (.tup (.cons (.cst (.str [99, 104, 97, 105, 110])) (.cons (.call 11 (.cons (.bin .Add (.bin .Mult (.var 0) (.cst (.int 2))) (.cst (.int 1))) (.cons (.bin .Sub (.var 1) (.cst (.int 1))) .nil))) (.cons (.var 2) .nil)))))
    .skip))) .skip)
    (.seq (.ret (.call 11 (.cons (.var 0) (.cons (.var 1) .nil))))
    .skip))⟩
/-- number 13 -/
def f_law_parts : PL.Dd := ⟨"_law_parts", ["some"], ["some", "gathered", "row", "part", "pair"],
  (.seq (.ite (.cmp .Eq (.sub (.var 0) (.cst (.int 0))) (.cst (.str [119, 111, 114, 100]))) (.seq (.ret (.lst .nil))
    .skip) .skip)
    (.seq (.ite (.cmp .Eq (.sub (.var 0) (.cst (.int 0))) (.cst (.str [99, 104, 97, 105, 110]))) (.seq (.ret (.bin .Add (.lst (.cons (.sub (.var 0) (.cst (.int 1))) .nil)) (.comp [4] (.nm 4) (.seq (.sub (.var 0) (.cst (.int 2)))) .yes (.sub (.var 4) (.cst (.int 1))))))
    .skip) .skip)
    (.seq (.ite (.cmp .Eq (.sub (.var 0) (.cst (.int 0))) (.cst (.str [116, 97, 98, 108, 101]))) (.seq (.asg (.nm 1) (.nlst .nil))
    (.seq (.fr (.nm 2) (.seq (.sub (.var 0) (.cst (.int 1)))) (.seq (.exp (.mth .extend (.var 1) (.cons (.bi .list (.cons (.var 2) .nil)) .nil)))
    .skip))
    (.seq (.ret (.fz (.var 1)))
    .skip))) .skip)
    (.seq (.ret (.comp [3] (.nm 3) (.seq (.slc (.var 0) (.some (.cst (.int 1))) .no)) (.cmp .IsNot (.var 3) (.cst .non)) (.var 3)))
    .skip))))⟩
/-- number 20 -/
def f_kind : PL.Dd := ⟨"kind", ["some"], ["some"],
  (.seq (.ret (.sub (.var 0) (.cst (.int 0))))
    .skip)⟩
/-- number 21 -/
def f_parts : PL.Dd := ⟨"parts", ["some"], ["some", "word", "found", "row", "part", "sign"],
  (.seq (.asg (.nm 1) (.call 20 (.cons (.var 0) .nil)))
    (.seq (.ite (.cmp .Eq (.var 1) (.cst (.str [119, 111, 114, 100]))) (.seq (.ret (.tup .nil))
    .skip) .skip)
    (.seq (.ite (.cmp .Eq (.var 1) (.cst (.str [99, 104, 97, 105, 110]))) (.seq (.ret (.bin .Add (.tup (.cons (.sub (.var 0) (.cst (.int 1))) .nil)) (.bi .tuple (.cons (.comp [5, 4] (.tp (.cons (.nm 5) (.cons (.nm 4) .nil))) (.seq (.sub (.var 0) (.cst (.int 2)))) .yes (.var 4)) .nil))))
    .skip) .skip)
    (.seq (.ite (.cmp .Eq (.var 1) (.cst (.str [116, 97, 98, 108, 101]))) (.seq (.asg (.nm 2) (.tup .nil))
    (.seq (.fr (.nm 3) (.seq (.sub (.var 0) (.cst (.int 1)))) (.seq (.asg (.nm 2) (.bin .Add (.var 2) (.var 3)))
    .skip))
    (.seq (.ret (.var 2))
    .skip))) .skip)
    (.seq (.ret (.bi .tuple (.cons (.comp [4] (.nm 4) (.seq (.slc (.var 0) (.some (.cst (.int 1))) .no)) (.cmp .IsNot (.var 4) (.cst .non)) (.var 4)) .nil)))
    .skip)))))⟩
/-- number 22 -/
def f_with_parts : PL.Dd := ⟨"with_parts", ["some", "new"], ["some", "new", "word", "left", "many", "part", "k", "pair"],
  (.seq (.asg (.nm 2) (.call 20 (.cons (.var 0) .nil)))
    (.seq (.ite (.cmp .Eq (.var 2) (.cst (.str [119, 111, 114, 100]))) (.seq (.ret (.var 0))
    .skip) .skip)
    (.seq (.ite (.cmp .Eq (.var 2) (.cst (.str [99, 104, 97, 105, 110]))) (.seq (.ret (.tup (.cons (.var 2) (.cons (.sub (.var 1) (.cst (.int 0))) (.cons (.bi .tuple (.cons (.comp [7, 5] (.tp (.cons (.nm 7) (.cons (.nm 5) .nil))) (.zip (.sub (.var 0) (.cst (.int 2))) (.slc (.var 1) (.some (.cst (.int 1))) .no)) .yes (.tup (.cons (.sub (.var 7) (.cst (.int 0))) (.cons (.var 5) .nil)))) .nil)) .nil)))))
    .skip) .skip)
    (.seq (.ite (.cmp .Eq (.var 2) (.cst (.str [116, 97, 98, 108, 101]))) (.seq (.asg (.nm 4) (.bi .len (.cons (.sub (.sub (.var 0) (.cst (.int 1))) (.cst (.int 0))) .nil)))
    (.seq (.ret (.tup (.cons (.var 2) (.cons (.bi .tuple (.cons (.comp [6] (.nm 6) (.rng (.cons (.cst (.int 0)) (.cons (.bi .len (.cons (.var 1) .nil)) (.cons (.var 4) .nil)))) .yes (.bi .tuple (.cons (.slc (.var 1) (.some (.var 6)) (.some (.bin .Add (.var 6) (.var 4)))) .nil))) .nil)) .nil))))
    .skip)) .skip)
    (.seq (.asg (.nm 3) (.nof (.var 1)))
    (.seq (.ret (.bin .Add (.tup (.cons (.var 2) .nil)) (.bi .tuple (.cons (.comp [5] (.nm 5) (.seq (.slc (.var 0) (.some (.cst (.int 1))) .no)) .yes (.ite (.cmp .Is (.var 5) (.cst .non)) (.cst .non) (.mth .pop (.var 3) (.cons (.cst (.int 0)) .nil)))) .nil))))
    .skip))))))⟩
/-- number 25 -/
def f_ways : PL.Dd := ⟨"ways", ["some"], ["some", "found", "k", "part", "way"],
  (.seq (.asg (.nm 1) (.nlst (.cons (.tup .nil) .nil)))
    (.seq (.fr (.tp (.cons (.nm 2) (.cons (.nm 3) .nil))) (.enum (.call 21 (.cons (.var 0) .nil))) (.seq (.exp (.mth .extend (.var 1) (.cons (.comp [4] (.nm 4) (.seq (.call 25 (.cons (.var 3) .nil))) .yes (.bin .Add (.tup (.cons (.var 2) .nil)) (.var 4))) .nil)))
    .skip))
    (.seq (.ret (.bi .tuple (.cons (.var 1) .nil)))
    .skip)))⟩
/-- number 26 -/
def f_part_at : PL.Dd := ⟨"part_at", ["some", "way"], ["some", "way", "k"],
  (.seq (.fr (.nm 2) (.seq (.var 1)) (.seq (.ite (.nt (.cmp2 .LtE .Lt (.cst (.int 0)) (.var 2) (.bi .len (.cons (.call 21 (.cons (.var 0) .nil)) .nil)))) (.seq .nev
    .skip) .skip)
    (.seq (.asg (.nm 0) (.sub (.call 21 (.cons (.var 0) .nil)) (.var 2)))
    .skip)))
    (.seq (.ret (.var 0))
    .skip))⟩
/-- number 27 -/
def f_may_be : PL.Dd := ⟨"may_be", ["some", "k", "new"], ["some", "k", "new"],
  (.seq (.ite (.cmp .Eq (.call 20 (.cons (.var 0) .nil)) (.cst (.str [99, 104, 97, 105, 110]))) (.seq (.ret (.cmp .NotEq (.call 20 (.cons (.var 2) .nil)) (.cst (.str [99, 104, 97, 105, 110]))))
    .skip) .skip)
    (.seq (.ret (.bop .Or (.cons (.cmp .NotEq (.call 20 (.cons (.var 0) .nil)) (.cst (.str [115, 99, 114, 105, 112, 116]))) (.cons (.cmp .Gt (.var 1) (.cst (.int 0))) (.cons (.cmp .In (.call 20 (.cons (.var 2) .nil)) (.glb "BASES" (.tup [(.str [119, 111, 114, 100]), (.str [104, 101, 108, 100]), (.str [116, 97, 98, 108, 101])]))) .nil)))))
    .skip))⟩
/-- number 28 -/
def f_put_at : PL.Dd := ⟨"put_at", ["some", "way", "new"], ["some", "way", "new", "k", "part"],
  (.seq (.exp (.call 26 (.cons (.var 0) (.cons (.var 1) .nil))))
    (.seq (.ite (.cmp .Eq (.var 1) (.tup .nil)) (.seq (.ret (.var 2))
    .skip) .skip)
    (.seq (.asg (.nm 3) (.sub (.var 1) (.cst (.int 0))))
    (.seq (.asg (.nm 4) (.call 28 (.cons (.sub (.call 21 (.cons (.var 0) .nil)) (.var 3)) (.cons (.slc (.var 1) (.some (.cst (.int 1))) .no) (.cons (.var 2) .nil)))))
    (.seq (.ite (.nt (.val (.call 27 (.cons (.var 0) (.cons (.var 3) (.cons (.var 4) .nil)))))) (.seq .nev
    .skip) .skip)
    (.seq (.ret (.call 22 (.cons (.var 0) (.cons (.bin .Add (.bin .Add (.slc (.call 21 (.cons (.var 0) .nil)) .no (.some (.var 3))) (.tup (.cons (.var 4) .nil))) (.slc (.call 21 (.cons (.var 0) .nil)) (.some (.bin .Add (.var 3) (.cst (.int 1)))) .no)) .nil))))
    .skip))))))⟩
/-- number 29 -/
def f_law_same : PL.Dd := ⟨"_law_same", ["found", "due"], ["found", "due", "one", "other"],
  (.seq (.ite (.val (.isi (.var 1) [.tuple])) (.seq (.ite (.bop .Or (.cons (.nt (.val (.isi (.var 0) [.tuple]))) (.cons (.cmp .NotEq (.bi .len (.cons (.var 0) .nil)) (.bi .len (.cons (.var 1) .nil))) .nil))) (.seq (.ret (.cst (.bl false)))
    .skip) .skip)
    (.seq (.ret (.bi .all (.cons (.comp [2, 3] (.tp (.cons (.nm 2) (.cons (.nm 3) .nil))) (.zip (.var 0) (.var 1)) .yes (.call 29 (.cons (.var 2) (.cons (.var 3) .nil)))) .nil)))
    .skip)) .skip)
    (.seq (.ite (.cmp .Is (.var 1) (.cst .non)) (.seq (.ret (.cmp .Is (.var 0) (.cst .non)))
    .skip) .skip)
    (.seq (.ite (.bop .Or (.cons (.val (.isi (.var 1) [.bool])) (.cons (.val (.isi (.var 0) [.bool])) .nil))) (.seq (.ret (.bop .And (.cons (.isi (.var 1) [.bool]) (.cons (.isi (.var 0) [.bool]) (.cons (.cmp .Eq (.var 0) (.var 1)) .nil)))))
    .skip) .skip)
    (.seq (.ret (.bop .And (.cons (.isi (.var 0) [.int, .str]) (.cons (.cmp .Eq (.var 0) (.var 1)) .nil))))
    .skip))))⟩
/-- number 35 -/
def f_rows_of : PL.Dd := ⟨"rows_of", ["one"], ["one"],
  (.seq (.ite (.cmp .Is (.var 0) (.cst .non)) (.seq (.ret (.cst (.int 0)))
    .skip) .skip)
    (.seq (.ret (.bin .Add (.bin .Add (.sub (.var 0) (.cst (.int 1))) (.sub (.var 0) (.cst (.int 2)))) (.cst (.int 1))))
    .skip))⟩
/-- number 36 -/
def f_box_or_none : PL.Dd := ⟨"box_or_none", ["some"], ["some"],
  (.seq (.ite (.cmp .Is (.var 0) (.cst .non)) (.seq (.ret (.cst .non))
    .skip) .skip)
    (.seq (.ret (.call 40 (.cons (.var 0) .nil)))
    .skip))⟩
/-- number 37 -/
def f_columns : PL.Dd := ⟨"columns", ["rows"], ["rows", "k", "row"],
  (.seq (.ret (.comp [1] (.nm 1) (.rng (.cons (.bi .len (.cons (.sub (.var 0) (.cst (.int 0))) .nil)) .nil)) .yes (.bi .max1 (.cons (.comp [2] (.nm 2) (.seq (.var 0)) .yes (.sub (.call 40 (.cons (.sub (.var 2) (.var 1)) .nil)) (.cst (.int 0)))) .nil))))
    .skip)⟩
/-- number 38 -/
def f_heights : PL.Dd := ⟨"heights", ["rows"], ["rows", "row", "part"],
  (.seq (.ret (.comp [1] (.nm 1) (.seq (.var 0)) .yes (.tup (.cons (.bi .max1 (.cons (.comp [2] (.nm 2) (.seq (.var 1)) .yes (.sub (.call 40 (.cons (.var 2) .nil)) (.cst (.int 1)))) .nil)) (.cons (.bi .max1 (.cons (.comp [2] (.nm 2) (.seq (.var 1)) .yes (.sub (.call 40 (.cons (.var 2) .nil)) (.cst (.int 2)))) .nil)) .nil)))))
    .skip)⟩
/-- number 39 -/
def f_table_box : PL.Dd := ⟨"table_box", ["rows"], ["rows", "wide", "high", "up", "down"],
  (.seq (.asg (.nm 1) (.call 37 (.cons (.var 0) .nil)))
    (.seq (.asg (.nm 2) (.bin .Sub (.bin .Add (.bi .sum (.cons (.comp [3, 4] (.tp (.cons (.nm 3) (.cons (.nm 4) .nil))) (.seq (.call 38 (.cons (.var 0) .nil))) .yes (.bin .Add (.bin .Add (.var 3) (.var 4)) (.cst (.int 1)))) .nil)) (.bi .len (.cons (.var 0) .nil))) (.cst (.int 1))))
    (.seq (.ret (.tup (.cons (.bin .Add (.bin .Add (.bi .sum (.cons (.var 1) .nil)) (.bin .Mult (.glb "BETWEEN" (.int 2)) (.bin .Sub (.bi .len (.cons (.var 1) .nil)) (.cst (.int 1))))) (.cst (.int 2))) (.cons (.bin .FloorDiv (.var 2) (.cst (.int 2))) (.cons (.bin .Sub (.bin .Sub (.var 2) (.cst (.int 1))) (.bin .FloorDiv (.var 2) (.cst (.int 2)))) .nil)))))
    .skip)))⟩
/-- number 40 -/
def f_box : PL.Dd := ⟨"box", ["some"], ["some", "word", "boxes", "wide", "up", "down", "base", "part", "one"],
  (.seq (.asg (.nm 1) (.call 20 (.cons (.var 0) .nil)))
    (.seq (.ite (.cmp .Eq (.var 1) (.cst (.str [119, 111, 114, 100]))) (.seq (.ret (.tup (.cons (.bi .len (.cons (.sub (.var 0) (.cst (.int 1))) .nil)) (.cons (.cst (.int 0)) (.cons (.cst (.int 0)) .nil)))))
    .skip) .skip)
    (.seq (.ite (.cmp .Eq (.var 1) (.cst (.str [116, 97, 98, 108, 101]))) (.seq (.ret (.call 39 (.cons (.sub (.var 0) (.cst (.int 1))) .nil)))
    .skip) .skip)
    (.seq (.ite (.cmp .Eq (.var 1) (.cst (.str [115, 99, 114, 105, 112, 116]))) (.seq (.asg (.tp (.cons (.nm 6) (.cons (.nm 4) (.cons (.nm 5) .nil)))) (.comp [7] (.nm 7) (.seq (.slc (.var 0) (.some (.cst (.int 1))) .no)) .yes (.call 36 (.cons (.var 7) .nil))))
    (.seq (.asg (.nm 3) (.bi .max1 (.cons (.comp [8] (.nm 8) (.seq (.tup (.cons (.var 4) (.cons (.var 5) .nil)))) (.cmp .IsNot (.var 8) (.cst .non)) (.sub (.var 8) (.cst (.int 0)))) .nil)))
    (.seq (.ret (.tup (.cons (.bin .Add (.sub (.var 6) (.cst (.int 0))) (.var 3)) (.cons (.bin .Add (.sub (.var 6) (.cst (.int 1))) (.call 35 (.cons (.var 4) .nil))) (.cons (.bin .Add (.sub (.var 6) (.cst (.int 2))) (.call 35 (.cons (.var 5) .nil))) .nil)))))
    .skip))) .skip)
    (.seq (.asg (.nm 2) (.comp [7] (.nm 7) (.seq (.call 21 (.cons (.var 0) .nil))) .yes (.call 40 (.cons (.var 7) .nil))))
    (.seq (.ite (.cmp .Eq (.var 1) (.cst (.str [99, 104, 97, 105, 110]))) (.seq (.asg (.nm 3) (.bin .Add (.bi .sum (.cons (.comp [8] (.nm 8) (.seq (.var 2)) .yes (.sub (.var 8) (.cst (.int 0)))) .nil)) (.bin .Mult (.glb "GAP" (.int 3)) (.bin .Sub (.bi .len (.cons (.var 2) .nil)) (.cst (.int 1))))))
    (.seq (.ret (.tup (.cons (.var 3) (.cons (.bi .max1 (.cons (.comp [8] (.nm 8) (.seq (.var 2)) .yes (.sub (.var 8) (.cst (.int 1)))) .nil)) (.cons (.bi .max1 (.cons (.comp [8] (.nm 8) (.seq (.var 2)) .yes (.sub (.var 8) (.cst (.int 2)))) .nil)) .nil)))))
    .skip)) .skip)
    (.seq (.ite (.cmp .Eq (.var 1) (.cst (.str [111, 118, 101, 114]))) (.seq (.ret (.tup (.cons (.bin .Add (.bi .max2 (.cons (.sub (.sub (.var 2) (.cst (.int 0))) (.cst (.int 0))) (.cons (.sub (.sub (.var 2) (.cst (.int 1))) (.cst (.int 0))) .nil))) (.cst (.int 2))) (.cons (.call 35 (.cons (.sub (.var 2) (.cst (.int 0))) .nil)) (.cons (.call 35 (.cons (.sub (.var 2) (.cst (.int 1))) .nil)) .nil)))))
    .skip) .skip)
    (.seq (.asg (.tp (.cons (.nm 3) (.cons (.nm 4) (.cons (.nm 5) .nil)))) (.sub (.var 2) (.cst (.int 0))))
    (.seq (.ite (.cmp .Eq (.var 1) (.cst (.str [114, 111, 111, 116]))) (.seq (.ret (.tup (.cons (.bin .Add (.var 3) (.cst (.int 1))) (.cons (.bin .Add (.var 4) (.cst (.int 1))) (.cons (.var 5) .nil)))))
    .skip) .skip)
    (.seq (.ret (.tup (.cons (.bin .Add (.var 3) (.cst (.int 2))) (.cons (.var 4) (.cons (.var 5) .nil)))))
    .skip))))))))))⟩
/-- number 41 -/
def f_law_rows : PL.Dd := ⟨"_law_rows", ["one"], ["one"],
  (.seq (.ret (.ite (.cmp .Is (.var 0) (.cst .non)) (.cst (.int 0)) (.bin .Add (.bin .Add (.sub (.var 0) (.cst (.int 1))) (.sub (.var 0) (.cst (.int 2)))) (.cst (.int 1)))))
    .skip)⟩
/-- number 42 -/
def f_law_box : PL.Dd := ⟨"_law_box", ["some"], ["some", "word", "boxes", "more", "base", "wide", "k", "row", "up", "down", "high", "part", "one"],
  (.seq (.asg (.nm 1) (.sub (.var 0) (.cst (.int 0))))
    (.seq (.ite (.cmp .Eq (.var 1) (.cst (.str [119, 111, 114, 100]))) (.seq (.ret (.tup (.cons (.bi .len (.cons (.sub (.var 0) (.cst (.int 1))) .nil)) (.cons (.cst (.int 0)) (.cons (.cst (.int 0)) .nil)))))
    .skip) .skip)
    (.seq (.ite (.cmp .Eq (.var 1) (.cst (.str [115, 99, 114, 105, 112, 116]))) (.seq (.asg (.nm 4) (.call 42 (.cons (.sub (.var 0) (.cst (.int 1))) .nil)))
    (.seq (.asg (.tp (.cons (.nm 8) (.cons (.nm 9) .nil))) (.comp [11] (.nm 11) (.seq (.slc (.var 0) (.some (.cst (.int 2))) .no)) .yes (.ite (.cmp .Is (.var 11) (.cst .non)) (.cst .non) (.call 42 (.cons (.var 11) .nil)))))
    (.seq (.asg (.nm 5) (.bi .max1 (.cons (.comp [12] (.nm 12) (.seq (.tup (.cons (.var 8) (.cons (.var 9) .nil)))) (.cmp .IsNot (.var 12) (.cst .non)) (.sub (.var 12) (.cst (.int 0)))) .nil)))
    (.seq (.ret (.tup (.cons (.bin .Add (.sub (.var 4) (.cst (.int 0))) (.var 5)) (.cons (.bin .Add (.sub (.var 4) (.cst (.int 1))) (.call 41 (.cons (.var 8) .nil))) (.cons (.bin .Add (.sub (.var 4) (.cst (.int 2))) (.call 41 (.cons (.var 9) .nil))) .nil)))))
    .skip)))) .skip)
    (.seq (.ite (.cmp .Eq (.var 1) (.cst (.str [116, 97, 98, 108, 101]))) (.seq (.par [5, 10] (.cons (.cst (.int 0)) (.cons (.bin .Sub (.bi .len (.cons (.sub (.var 0) (.cst (.int 1))) .nil)) (.cst (.int 1))) .nil)))
    (.seq (.fr (.nm 6) (.rng (.cons (.bi .len (.cons (.sub (.sub (.var 0) (.cst (.int 1))) (.cst (.int 0))) .nil)) .nil)) (.seq (.asg (.nm 5) (.bin .Add (.bin .Add (.var 5) (.bi .max1 (.cons (.comp [7] (.nm 7) (.seq (.sub (.var 0) (.cst (.int 1)))) .yes (.sub (.call 42 (.cons (.sub (.var 7) (.var 6)) .nil)) (.cst (.int 0)))) .nil))) (.cst (.int 2))))
    .skip))
    (.seq (.fr (.nm 7) (.seq (.sub (.var 0) (.cst (.int 1)))) (.seq (.asg (.nm 2) (.comp [11] (.nm 11) (.seq (.var 7)) .yes (.call 42 (.cons (.var 11) .nil))))
    (.seq (.asg (.nm 10) (.bin .Add (.bin .Add (.bin .Add (.var 10) (.bi .max1 (.cons (.comp [12] (.nm 12) (.seq (.var 2)) .yes (.sub (.var 12) (.cst (.int 1)))) .nil))) (.bi .max1 (.cons (.comp [12] (.nm 12) (.seq (.var 2)) .yes (.sub (.var 12) (.cst (.int 2)))) .nil))) (.cst (.int 1))))
    .skip)))
    (.seq (.ret (.tup (.cons (.var 5) (.cons (.bin .FloorDiv (.var 10) (.cst (.int 2))) (.cons (.bin .Sub (.bin .Sub (.var 10) (.bin .FloorDiv (.var 10) (.cst (.int 2)))) (.cst (.int 1))) .nil)))))
    .skip)))) .skip)
    (.seq (.asg (.nm 2) (.comp [11] (.nm 11) (.seq (.call 13 (.cons (.var 0) .nil))) .yes (.call 42 (.cons (.var 11) .nil))))
    (.seq (.ite (.cmp .Eq (.var 1) (.cst (.str [99, 104, 97, 105, 110]))) (.seq (.asg (.nm 5) (.bin .Sub (.bi .sum (.cons (.comp [12] (.nm 12) (.seq (.var 2)) .yes (.bin .Add (.sub (.var 12) (.cst (.int 0))) (.cst (.int 3)))) .nil)) (.cst (.int 3))))
    (.seq (.ret (.tup (.cons (.var 5) (.cons (.bi .max1 (.cons (.comp [12] (.nm 12) (.seq (.var 2)) .yes (.sub (.var 12) (.cst (.int 1)))) .nil)) (.cons (.bi .max1 (.cons (.comp [12] (.nm 12) (.seq (.var 2)) .yes (.sub (.var 12) (.cst (.int 2)))) .nil)) .nil)))))
    .skip)) .skip)
    (.seq (.ite (.cmp .Eq (.var 1) (.cst (.str [111, 118, 101, 114]))) (.seq (.ret (.tup (.cons (.bin .Add (.bi .max2 (.cons (.sub (.sub (.var 2) (.cst (.int 0))) (.cst (.int 0))) (.cons (.sub (.sub (.var 2) (.cst (.int 1))) (.cst (.int 0))) .nil))) (.cst (.int 2))) (.cons (.call 41 (.cons (.sub (.var 2) (.cst (.int 0))) .nil)) (.cons (.call 41 (.cons (.sub (.var 2) (.cst (.int 1))) .nil)) .nil)))))
    .skip) .skip)
    (.seq (.asg (.nm 3) (.ite (.cmp .Eq (.var 1) (.cst (.str [114, 111, 111, 116]))) (.cst (.int 1)) (.cst (.int 2))))
    (.seq (.ret (.tup (.cons (.bin .Add (.sub (.sub (.var 2) (.cst (.int 0))) (.cst (.int 0))) (.var 3)) (.cons (.bin .Sub (.bin .Add (.sub (.sub (.var 2) (.cst (.int 0))) (.cst (.int 1))) (.cst (.int 2))) (.var 3)) (.cons (.sub (.sub (.var 2) (.cst (.int 0))) (.cst (.int 2))) .nil)))))
    .skip)))))))))⟩
/-- number 43 -/
def f_law_k03 : PL.Dd := ⟨"law", ["script"], ["script", "k", "a", "some"],
  (.seq (.fr (.nm 1) (.rng (.cons (.cst (.int 16)) .nil)) (.seq (.asg (.nm 3) (.call 12 (.cons (.bin .Add (.call 7 (.cons (.var 0) (.cons (.bin .Mod (.var 1) (.cst (.int 9))) .nil))) (.bin .Mult (.cst (.int 31)) (.var 1))) (.cons (.cst (.int 5)) .nil))))
    (.seq (.ite (.nt (.val (.call 29 (.cons (.call 40 (.cons (.var 3) .nil)) (.cons (.call 42 (.cons (.var 3) .nil)) .nil))))) (.seq (.ret (.cst (.bl false)))
    .skip) .skip)
    .skip)))
    (.seq (.asg (.nm 2) (.tup (.cons (.cst (.str [119, 111, 114, 100])) (.cons (.cst (.str [97])) .nil))))
    (.seq (.ite (.bop .Or (.cons (.cmp .NotEq (.call 40 (.cons (.tup (.cons (.cst (.str [111, 118, 101, 114])) (.cons (.tup (.cons (.cst (.str [119, 111, 114, 100])) (.cons (.cst (.str [97, 98, 99])) .nil))) (.cons (.var 2) .nil)))) .nil)) (.tup (.cons (.cst (.int 5)) (.cons (.cst (.int 1)) (.cons (.cst (.int 1)) .nil))))) (.cons (.cmp .NotEq (.call 40 (.cons (.tup (.cons (.cst (.str [114, 111, 111, 116])) (.cons (.var 2) .nil))) .nil)) (.tup (.cons (.cst (.int 2)) (.cons (.cst (.int 1)) (.cons (.cst (.int 0)) .nil))))) .nil))) (.seq (.ret (.cst (.bl false)))
    .skip) .skip)
    (.seq (.ite (.cmp .NotEq (.call 40 (.cons (.tup (.cons (.cst (.str [115, 99, 114, 105, 112, 116])) (.cons (.var 2) (.cons (.var 2) (.cons (.var 2) .nil))))) .nil)) (.tup (.cons (.cst (.int 2)) (.cons (.cst (.int 1)) (.cons (.cst (.int 1)) .nil))))) (.seq (.ret (.cst (.bl false)))
    .skip) .skip)
    (.seq (.ret (.bop .And (.cons (.cmp .Eq (.call 40 (.cons (.tup (.cons (.cst (.str [116, 97, 98, 108, 101])) (.cons (.tup (.cons (.tup (.cons (.var 2) (.cons (.var 2) .nil))) (.cons (.tup (.cons (.var 2) (.cons (.var 2) .nil))) .nil))) .nil))) .nil)) (.tup (.cons (.cst (.int 6)) (.cons (.cst (.int 1)) (.cons (.cst (.int 1)) .nil))))) (.cons (.cmp .Eq (.call 40 (.cons (.tup (.cons (.cst (.str [99, 104, 97, 105, 110])) (.cons (.var 2) (.cons (.tup (.cons (.tup (.cons (.cst (.str [43])) (.cons (.tup (.cons (.cst (.str [111, 118, 101, 114])) (.cons (.var 2) (.cons (.var 2) .nil)))) .nil))) .nil)) .nil)))) .nil)) (.tup (.cons (.cst (.int 7)) (.cons (.cst (.int 1)) (.cons (.cst (.int 1)) .nil))))) .nil))))
    .skip)))))⟩
/-- number 44 -/
def f_padded : PL.Dd := ⟨"padded", ["line", "wide"], ["line", "wide", "left"],
  (.seq (.asg (.nm 2) (.bin .FloorDiv (.bin .Sub (.var 1) (.bi .len (.cons (.var 0) .nil))) (.cst (.int 2))))
    (.seq (.ret (.bin .Add (.bin .Add (.bin .Mult (.cst (.str [32])) (.var 2)) (.var 0)) (.bin .Mult (.cst (.str [32])) (.bin .Sub (.bin .Sub (.var 1) (.bi .len (.cons (.var 0) .nil))) (.var 2)))))
    .skip))⟩
/-- number 45 -/
def f_blanks : PL.Dd := ⟨"blanks", ["wide", "many"], ["wide", "many"],
  (.seq (.ret (.bin .Mult (.tup (.cons (.bin .Mult (.cst (.str [32])) (.var 0)) .nil)) (.var 1)))
    .skip)⟩
/-- number 46 -/
def f_raised : PL.Dd := ⟨"raised", ["some", "up", "down"], ["some", "up", "down", "wide", "own_up", "own_down"],
  (.seq (.asg (.tp (.cons (.nm 3) (.cons (.nm 4) (.cons (.nm 5) .nil)))) (.call 40 (.cons (.var 0) .nil)))
    (.seq (.ret (.bin .Add (.bin .Add (.call 45 (.cons (.var 3) (.cons (.bin .Sub (.var 1) (.var 4)) .nil))) (.call 51 (.cons (.var 0) .nil))) (.call 45 (.cons (.var 3) (.cons (.bin .Sub (.var 2) (.var 5)) .nil)))))
    .skip))⟩
/-- number 47 -/
def f_beside : PL.Dd := ⟨"beside", ["pictures"], ["pictures", "found", "some", "line", "other"],
  (.seq (.asg (.nm 1) (.bi .list (.cons (.sub (.var 0) (.cst (.int 0))) .nil)))
    (.seq (.fr (.nm 2) (.seq (.slc (.var 0) (.some (.cst (.int 1))) .no)) (.seq (.asg (.nm 1) (.comp [3, 4] (.tp (.cons (.nm 3) (.cons (.nm 4) .nil))) (.zip (.var 1) (.var 2)) .yes (.bin .Add (.var 3) (.var 4))))
    .skip))
    (.seq (.ret (.bi .tuple (.cons (.var 1) .nil)))
    .skip)))⟩
/-- number 48 -/
def f_chain_picture : PL.Dd := ⟨"chain_picture", ["some"], ["some", "found", "wide", "up", "down", "sign", "part"],
  (.seq (.asg (.tp (.cons (.nm 2) (.cons (.nm 3) (.cons (.nm 4) .nil)))) (.call 40 (.cons (.var 0) .nil)))
    (.seq (.asg (.nm 1) (.nlst (.cons (.call 46 (.cons (.sub (.var 0) (.cst (.int 1))) (.cons (.var 3) (.cons (.var 4) .nil)))) .nil)))
    (.seq (.fr (.tp (.cons (.nm 5) (.cons (.nm 6) .nil))) (.seq (.sub (.var 0) (.cst (.int 2)))) (.seq (.exp (.mth .append (.var 1) (.cons (.bin .Add (.bin .Add (.call 45 (.cons (.cst (.int 3)) (.cons (.var 3) .nil))) (.tup (.cons (.bin .Add (.bin .Add (.cst (.str [32])) (.var 5)) (.cst (.str [32]))) .nil))) (.call 45 (.cons (.cst (.int 3)) (.cons (.var 4) .nil)))) .nil)))
    (.seq (.exp (.mth .append (.var 1) (.cons (.call 46 (.cons (.var 6) (.cons (.var 3) (.cons (.var 4) .nil)))) .nil)))
    .skip)))
    (.seq (.ret (.call 47 (.cons (.fz (.var 1)) .nil)))
    .skip))))⟩
/-- number 49 -/
def f_script_picture : PL.Dd := ⟨"script_picture", ["some"], ["some", "wide", "found", "rows", "left", "base", "up", "down", "above", "below", "line"],
  (.seq (.asg (.tp (.cons (.nm 5) (.cons (.nm 6) (.cons (.nm 7) .nil)))) (.slc (.var 0) (.some (.cst (.int 1))) .no))
    (.seq (.asg (.nm 1) (.bin .Sub (.sub (.call 40 (.cons (.var 0) .nil)) (.cst (.int 0))) (.sub (.call 40 (.cons (.var 5) .nil)) (.cst (.int 0)))))
    (.seq (.asg (.nm 2) (.lst (.cons (.call 51 (.cons (.var 5) .nil)) (.cons (.bi .tuple (.cons (.comp [10] (.nm 10) (.seq (.call 51 (.cons (.var 5) .nil))) .yes (.bin .Mult (.cst (.str [32])) (.var 1))) .nil)) .nil))))
    (.seq (.asg (.nm 3) (.call 47 (.cons (.var 2) .nil)))
    (.seq (.asg (.nm 4) (.bin .Mult (.cst (.str [32])) (.sub (.call 40 (.cons (.var 5) .nil)) (.cst (.int 0)))))
    (.seq (.asg (.tp (.cons (.nm 8) (.cons (.nm 9) .nil))) (.tup (.cons (.tup .nil) (.cons (.tup .nil) .nil))))
    (.seq (.ite (.cmp .IsNot (.var 6) (.cst .non)) (.seq (.asg (.nm 8) (.bi .tuple (.cons (.comp [10] (.nm 10) (.seq (.call 51 (.cons (.var 6) .nil))) .yes (.bin .Add (.bin .Add (.var 4) (.var 10)) (.bin .Mult (.cst (.str [32])) (.bin .Sub (.var 1) (.bi .len (.cons (.var 10) .nil)))))) .nil)))
    .skip) .skip)
    (.seq (.ite (.cmp .IsNot (.var 7) (.cst .non)) (.seq (.asg (.nm 9) (.bi .tuple (.cons (.comp [10] (.nm 10) (.seq (.call 51 (.cons (.var 7) .nil))) .yes (.bin .Add (.bin .Add (.var 4) (.var 10)) (.bin .Mult (.cst (.str [32])) (.bin .Sub (.var 1) (.bi .len (.cons (.var 10) .nil)))))) .nil)))
    .skip) .skip)
    (.seq (.ret (.bin .Add (.bin .Add (.var 8) (.var 3)) (.var 9)))
    .skip)))))))))⟩
/-- number 50 -/
def f_table_picture : PL.Dd := ⟨"table_picture", ["some"], ["some", "rows", "wides", "found", "k", "pictures", "up", "down", "part", "wide", "line"],
  (.seq (.asg (.nm 1) (.sub (.var 0) (.cst (.int 1))))
    (.seq (.asg (.nm 2) (.call 37 (.cons (.var 1) .nil)))
    (.seq (.asg (.nm 3) (.tup .nil))
    (.seq (.fr (.tp (.cons (.nm 4) (.cons (.tp (.cons (.nm 6) (.cons (.nm 7) .nil))) .nil))) (.enum (.call 38 (.cons (.var 1) .nil))) (.seq (.asg (.nm 5) (.nlst .nil))
    (.seq (.fr (.tp (.cons (.nm 8) (.cons (.nm 9) .nil))) (.zip (.sub (.var 1) (.var 4)) (.var 2)) (.seq (.exp (.mth .append (.var 5) (.cons (.bi .tuple (.cons (.comp [10] (.nm 10) (.seq (.call 46 (.cons (.var 8) (.cons (.var 6) (.cons (.var 7) .nil))))) .yes (.call 44 (.cons (.var 10) (.cons (.var 9) .nil)))) .nil)) .nil)))
    (.seq (.exp (.mth .append (.var 5) (.cons (.call 45 (.cons (.glb "BETWEEN" (.int 2)) (.cons (.bin .Add (.bin .Add (.var 6) (.var 7)) (.cst (.int 1))) .nil))) .nil)))
    .skip)))
    (.seq (.ite (.cmp .Gt (.var 4) (.cst (.int 0))) (.seq (.asg (.nm 3) (.bin .Add (.var 3) (.call 45 (.cons (.bin .Add (.bi .sum (.cons (.var 2) .nil)) (.bin .Mult (.glb "BETWEEN" (.int 2)) (.bin .Sub (.bi .len (.cons (.var 2) .nil)) (.cst (.int 1))))) (.cons (.cst (.int 1)) .nil)))))
    .skip) .skip)
    (.seq (.asg (.nm 3) (.bin .Add (.var 3) (.call 47 (.cons (.slc (.var 5) .no (.some (.neg (.cst (.int 1))))) .nil))))
    .skip)))))
    (.seq (.ret (.bi .tuple (.cons (.comp [10] (.nm 10) (.seq (.var 3)) .yes (.bin .Add (.bin .Add (.cst (.str [91])) (.var 10)) (.cst (.str [93])))) .nil)))
    .skip)))))⟩
/-- number 51 -/
def f_picture : PL.Dd := ⟨"picture", ["some"], ["some", "word", "wide", "upper", "lower", "part", "line"],
  (.seq (.asg (.nm 1) (.call 20 (.cons (.var 0) .nil)))
    (.seq (.asg (.nm 2) (.sub (.call 40 (.cons (.var 0) .nil)) (.cst (.int 0))))
    (.seq (.ite (.cmp .Eq (.var 1) (.cst (.str [119, 111, 114, 100]))) (.seq (.ret (.tup (.cons (.sub (.var 0) (.cst (.int 1))) .nil)))
    .skip) .skip)
    (.seq (.ite (.cmp .Eq (.var 1) (.cst (.str [99, 104, 97, 105, 110]))) (.seq (.ret (.call 48 (.cons (.var 0) .nil)))
    .skip) .skip)
    (.seq (.ite (.cmp .Eq (.var 1) (.cst (.str [115, 99, 114, 105, 112, 116]))) (.seq (.ret (.call 49 (.cons (.var 0) .nil)))
    .skip) .skip)
    (.seq (.ite (.cmp .Eq (.var 1) (.cst (.str [116, 97, 98, 108, 101]))) (.seq (.ret (.call 50 (.cons (.var 0) .nil)))
    .skip) .skip)
    (.seq (.ite (.cmp .Eq (.var 1) (.cst (.str [111, 118, 101, 114]))) (.seq (.asg (.tp (.cons (.nm 3) (.cons (.nm 4) .nil))) (.comp [5] (.nm 5) (.seq (.slc (.var 0) (.some (.cst (.int 1))) .no)) .yes (.bi .tuple (.cons (.comp [6] (.nm 6) (.seq (.call 51 (.cons (.var 5) .nil))) .yes (.call 44 (.cons (.var 6) (.cons (.var 2) .nil)))) .nil))))
    (.seq (.ret (.bin .Add (.bin .Add (.var 3) (.tup (.cons (.bin .Mult (.cst (.str [45])) (.var 2)) .nil))) (.var 4)))
    .skip)) .skip)
    (.seq (.ite (.cmp .Eq (.var 1) (.cst (.str [114, 111, 111, 116]))) (.seq (.ret (.bin .Add (.tup (.cons (.bin .Add (.cst (.str [32])) (.bin .Mult (.cst (.str [95])) (.bin .Sub (.var 2) (.cst (.int 1))))) .nil)) (.bi .tuple (.cons (.comp [6] (.nm 6) (.seq (.call 51 (.cons (.sub (.var 0) (.cst (.int 1))) .nil))) .yes (.bin .Add (.cst (.str [124])) (.var 6))) .nil))))
    .skip) .skip)
    (.seq (.ret (.bi .tuple (.cons (.comp [6] (.nm 6) (.seq (.call 51 (.cons (.sub (.var 0) (.cst (.int 1))) .nil))) .yes (.bin .Add (.bin .Add (.cst (.str [40])) (.var 6)) (.cst (.str [41])))) .nil)))
    .skip)))))))))⟩
/-- number 57 -/
def f_middle : PL.Dd := ⟨"middle", ["wide", "inner"], ["wide", "inner"],
  (.seq (.ret (.bin .FloorDiv (.bin .Sub (.var 0) (.var 1)) (.cst (.int 2))))
    .skip)⟩
/-- number 58 -/
def f_table_corners : PL.Dd := ⟨"table_corners", ["some"], ["some", "rows", "found", "top", "row", "left", "up", "down", "part", "wide"],
  (.seq (.asg (.nm 1) (.sub (.var 0) (.cst (.int 1))))
    (.seq (.asg (.nm 2) (.nlst .nil))
    (.seq (.asg (.nm 3) (.cst (.int 0)))
    (.seq (.fr (.tp (.cons (.nm 4) (.cons (.tp (.cons (.nm 6) (.cons (.nm 7) .nil))) .nil))) (.zip (.var 1) (.call 38 (.cons (.var 1) .nil))) (.seq (.asg (.nm 5) (.cst (.int 1)))
    (.seq (.fr (.tp (.cons (.nm 8) (.cons (.nm 9) .nil))) (.zip (.var 4) (.call 37 (.cons (.var 1) .nil))) (.seq (.exp (.mth .append (.var 2) (.cons (.tup (.cons (.bin .Add (.var 5) (.call 57 (.cons (.var 9) (.cons (.sub (.call 40 (.cons (.var 8) .nil)) (.cst (.int 0))) .nil)))) (.cons (.bin .Sub (.bin .Add (.var 3) (.var 6)) (.sub (.call 40 (.cons (.var 8) .nil)) (.cst (.int 1)))) .nil))) .nil)))
    (.seq (.asg (.nm 5) (.bin .Add (.bin .Add (.var 5) (.var 9)) (.glb "BETWEEN" (.int 2))))
    .skip)))
    (.seq (.asg (.nm 3) (.bin .Add (.bin .Add (.bin .Add (.var 3) (.var 6)) (.var 7)) (.cst (.int 2))))
    .skip))))
    (.seq (.ret (.fz (.var 2)))
    .skip)))))⟩
/-- number 59 -/
def f_script_corners : PL.Dd := ⟨"script_corners", ["some"], ["some", "base", "found", "wide", "up", "down"],
  (.seq (.asg (.tp (.cons (.nm 3) (.cons (.nm 4) (.cons (.nm 5) .nil)))) (.call 40 (.cons (.var 0) .nil)))
    (.seq (.asg (.nm 1) (.call 40 (.cons (.sub (.var 0) (.cst (.int 1))) .nil)))
    (.seq (.asg (.nm 2) (.nlst (.cons (.tup (.cons (.cst (.int 0)) (.cons (.bin .Sub (.var 4) (.sub (.var 1) (.cst (.int 1)))) .nil))) .nil)))
    (.seq (.ite (.cmp .IsNot (.sub (.var 0) (.cst (.int 2))) (.cst .non)) (.seq (.exp (.mth .append (.var 2) (.cons (.tup (.cons (.sub (.var 1) (.cst (.int 0))) (.cons (.bin .Sub (.bin .Sub (.var 4) (.sub (.var 1) (.cst (.int 1)))) (.call 35 (.cons (.call 40 (.cons (.sub (.var 0) (.cst (.int 2))) .nil)) .nil))) .nil))) .nil)))
    .skip) .skip)
    (.seq (.ite (.cmp .IsNot (.sub (.var 0) (.cst (.int 3))) (.cst .non)) (.seq (.exp (.mth .append (.var 2) (.cons (.tup (.cons (.sub (.var 1) (.cst (.int 0))) (.cons (.bin .Add (.bin .Add (.var 4) (.sub (.var 1) (.cst (.int 2)))) (.cst (.int 1))) .nil))) .nil)))
    .skip) .skip)
    (.seq (.ret (.fz (.var 2)))
    .skip))))))⟩
/-- number 60 -/
def f_corners : PL.Dd := ⟨"corners", ["some"], ["some", "word", "boxes", "wide", "up", "down", "found", "left", "one", "part"],
  (.seq (.asg (.nm 1) (.call 20 (.cons (.var 0) .nil)))
    (.seq (.asg (.tp (.cons (.nm 3) (.cons (.nm 4) (.cons (.nm 5) .nil)))) (.call 40 (.cons (.var 0) .nil)))
    (.seq (.ite (.cmp .Eq (.var 1) (.cst (.str [116, 97, 98, 108, 101]))) (.seq (.ret (.call 58 (.cons (.var 0) .nil)))
    .skip) .skip)
    (.seq (.ite (.cmp .Eq (.var 1) (.cst (.str [115, 99, 114, 105, 112, 116]))) (.seq (.ret (.call 59 (.cons (.var 0) .nil)))
    .skip) .skip)
    (.seq (.asg (.nm 2) (.comp [9] (.nm 9) (.seq (.call 21 (.cons (.var 0) .nil))) .yes (.call 40 (.cons (.var 9) .nil))))
    (.seq (.ite (.cmp .Eq (.var 1) (.cst (.str [99, 104, 97, 105, 110]))) (.seq (.asg (.nm 6) (.nlst .nil))
    (.seq (.asg (.nm 7) (.cst (.int 0)))
    (.seq (.fr (.nm 8) (.seq (.var 2)) (.seq (.exp (.mth .append (.var 6) (.cons (.tup (.cons (.var 7) (.cons (.bin .Sub (.var 4) (.sub (.var 8) (.cst (.int 1)))) .nil))) .nil)))
    (.seq (.asg (.nm 7) (.bin .Add (.bin .Add (.var 7) (.sub (.var 8) (.cst (.int 0)))) (.glb "GAP" (.int 3))))
    .skip)))
    (.seq (.ret (.fz (.var 6)))
    .skip)))) .skip)
    (.seq (.ite (.cmp .Eq (.var 1) (.cst (.str [111, 118, 101, 114]))) (.seq (.ret (.lst (.cons (.tup (.cons (.call 57 (.cons (.var 3) (.cons (.sub (.sub (.var 2) (.cst (.int 0))) (.cst (.int 0))) .nil))) (.cons (.cst (.int 0)) .nil))) (.cons (.tup (.cons (.call 57 (.cons (.var 3) (.cons (.sub (.sub (.var 2) (.cst (.int 1))) (.cst (.int 0))) .nil))) (.cons (.bin .Add (.var 4) (.cst (.int 1))) .nil))) .nil))))
    .skip) .skip)
    (.seq (.ite (.cmp .Eq (.var 1) (.cst (.str [114, 111, 111, 116]))) (.seq (.ret (.lst (.cons (.tup (.cons (.cst (.int 1)) (.cons (.cst (.int 1)) .nil))) .nil)))
    .skip) .skip)
    (.seq (.ite (.cmp .Eq (.var 1) (.cst (.str [104, 101, 108, 100]))) (.seq (.ret (.lst (.cons (.tup (.cons (.cst (.int 1)) (.cons (.cst (.int 0)) .nil))) .nil)))
    .skip) .skip)
    (.seq (.ret (.lst .nil))
    .skip))))))))))⟩
/-- number 61 -/
def f_frame : PL.Dd := ⟨"frame", ["some", "way"], ["some", "way", "k", "left", "top", "column", "row"],
  (.seq (.exp (.call 26 (.cons (.var 0) (.cons (.var 1) .nil))))
    (.seq (.asg (.tp (.cons (.nm 3) (.cons (.nm 4) .nil))) (.tup (.cons (.cst (.int 0)) (.cons (.cst (.int 0)) .nil))))
    (.seq (.fr (.nm 2) (.seq (.var 1)) (.seq (.asg (.tp (.cons (.nm 5) (.cons (.nm 6) .nil))) (.sub (.call 60 (.cons (.var 0) .nil)) (.var 2)))
    (.seq (.par [3, 4] (.cons (.bin .Add (.var 3) (.var 5)) (.cons (.bin .Add (.var 4) (.var 6)) .nil)))
    (.seq (.asg (.nm 0) (.sub (.call 21 (.cons (.var 0) .nil)) (.var 2)))
    .skip))))
    (.seq (.ret (.tup (.cons (.var 3) (.cons (.var 4) (.cons (.sub (.call 40 (.cons (.var 0) .nil)) (.cst (.int 0))) (.cons (.call 35 (.cons (.call 40 (.cons (.var 0) .nil)) .nil)) .nil))))))
    .skip))))⟩
/-- number 139 -/
def f_opened : PL.Dd := ⟨"opened", ["some", "k", "part"], ["some", "k", "part"],
  (.seq (.wh (.bop .And (.cons (.cmp .Eq (.call 20 (.cons (.var 2) .nil)) (.cst (.str [104, 101, 108, 100]))) (.cons (.nt (.bop .And (.cons (.cmp .Eq (.call 20 (.cons (.var 0) .nil)) (.cst (.str [115, 99, 114, 105, 112, 116]))) (.cons (.cmp .Eq (.var 1) (.cst (.int 0))) .nil)))) .nil))) (.seq (.ite (.bop .And (.cons (.cmp .Eq (.call 20 (.cons (.sub (.var 2) (.cst (.int 1))) .nil)) (.cst (.str [99, 104, 97, 105, 110]))) (.cons (.cmp .Eq (.call 20 (.cons (.var 0) .nil)) (.cst (.str [99, 104, 97, 105, 110]))) .nil))) (.seq (.ret (.var 2))
    .skip) .skip)
    (.seq (.asg (.nm 2) (.sub (.var 2) (.cst (.int 1))))
    .skip)))
    (.seq (.ret (.var 2))
    .skip))⟩
/-- number 140 -/
def f_freed : PL.Dd := ⟨"freed", ["some"], ["some"],
  (.seq (.wh (.cmp .Eq (.call 20 (.cons (.var 0) .nil)) (.cst (.str [104, 101, 108, 100]))) (.seq (.asg (.nm 0) (.sub (.var 0) (.cst (.int 1))))
    .skip))
    (.seq (.ret (.call 141 (.cons (.var 0) .nil)))
    .skip))⟩
/-- number 141 -/
def f_freed_parts : PL.Dd := ⟨"freed_parts", ["some"], ["some", "found", "k", "part"],
  (.seq (.asg (.nm 1) (.comp [2, 3] (.tp (.cons (.nm 2) (.cons (.nm 3) .nil))) (.enum (.call 21 (.cons (.var 0) .nil))) .yes (.call 141 (.cons (.call 139 (.cons (.var 0) (.cons (.var 2) (.cons (.var 3) .nil)))) .nil))))
    (.seq (.ret (.call 22 (.cons (.var 0) (.cons (.bi .tuple (.cons (.var 1) .nil)) .nil))))
    .skip))⟩
/-- number 143 -/
def f_longest : PL.Dd := ⟨"longest", ["some"], ["some", "best", "way", "one"],
  (.seq (.asg (.nm 1) (.cst .non))
    (.seq (.fr (.nm 2) (.seq (.slc (.call 25 (.cons (.var 0) .nil)) (.some (.cst (.int 1))) .no)) (.seq (.asg (.nm 3) (.call 40 (.cons (.call 26 (.cons (.var 0) (.cons (.var 2) .nil))) .nil)))
    (.seq (.ite (.bop .Or (.cons (.cmp .Is (.var 1) (.cst .non)) (.cons (.cmp .Gt (.bin .Mult (.sub (.var 3) (.cst (.int 0))) (.call 35 (.cons (.var 3) .nil))) (.sub (.var 1) (.cst (.int 0)))) .nil))) (.seq (.asg (.nm 1) (.tup (.cons (.bin .Mult (.sub (.var 3) (.cst (.int 0))) (.call 35 (.cons (.var 3) .nil))) (.cons (.var 2) .nil))))
    .skip) .skip)
    .skip)))
    (.seq (.ite (.cmp .Is (.var 1) (.cst .non)) (.seq (.ret (.cst .non))
    .skip) .skip)
    (.seq (.ret (.sub (.var 1) (.cst (.int 1))))
    .skip))))⟩
/-- number 166 -/
def f_law_high_2 : PL.Dd := ⟨"_law_high", ["one"], ["one"],
  (.seq (.ret (.bin .Add (.bin .Add (.sub (.var 0) (.cst (.int 1))) (.sub (.var 0) (.cst (.int 2)))) (.cst (.int 1))))
    .skip)⟩
/-- number 167 -/
def f_law_k21 : PL.Dd := ⟨"law", ["script"], ["script", "k", "cell", "wide", "due", "sign", "chain", "high", "one", "other", "mine", "yours"],
  (.seq (.fr (.nm 1) (.rng (.cons (.cst (.int 12)) .nil)) (.seq (.asg (.nm 2) (.bin .Add (.call 7 (.cons (.var 0) (.cons (.bin .Mod (.var 1) (.cst (.int 9))) .nil))) (.bin .Mult (.cst (.int 37)) (.var 1))))
    (.seq (.par [8, 9] (.cons (.call 12 (.cons (.var 2) (.cons (.cst (.int 3)) .nil))) (.cons (.call 12 (.cons (.bin .Add (.var 2) (.cst (.int 5))) (.cons (.cst (.int 3)) .nil))) .nil)))
    (.seq (.par [10, 11] (.cons (.call 40 (.cons (.var 8) .nil)) (.cons (.call 40 (.cons (.var 9) .nil)) .nil)))
    (.seq (.ite (.bop .Or (.cons (.cmp .NotEq (.call 40 (.cons (.tup (.cons (.cst (.str [114, 111, 111, 116])) (.cons (.var 8) .nil))) .nil)) (.tup (.cons (.bin .Add (.sub (.var 10) (.cst (.int 0))) (.cst (.int 1))) (.cons (.bin .Add (.sub (.var 10) (.cst (.int 1))) (.cst (.int 1))) (.cons (.sub (.var 10) (.cst (.int 2))) .nil))))) (.cons (.cmp .NotEq (.call 40 (.cons (.tup (.cons (.cst (.str [104, 101, 108, 100])) (.cons (.var 8) .nil))) .nil)) (.bin .Add (.tup (.cons (.bin .Add (.sub (.var 10) (.cst (.int 0))) (.cst (.int 2))) .nil)) (.slc (.var 10) (.some (.cst (.int 1))) .no))) .nil))) (.seq (.ret (.cst (.bl false)))
    .skip) .skip)
    (.seq (.ite (.cmp .NotEq (.call 40 (.cons (.tup (.cons (.cst (.str [111, 118, 101, 114])) (.cons (.var 8) (.cons (.var 9) .nil)))) .nil)) (.tup (.cons (.bin .Add (.bi .max2 (.cons (.sub (.var 10) (.cst (.int 0))) (.cons (.sub (.var 11) (.cst (.int 0))) .nil))) (.cst (.int 2))) (.cons (.call 166 (.cons (.var 10) .nil)) (.cons (.call 166 (.cons (.var 11) .nil)) .nil))))) (.seq (.ret (.cst (.bl false)))
    .skip) .skip)
    (.seq (.asg (.nm 3) (.bin .Add (.sub (.var 10) (.cst (.int 0))) (.cst (.int 2))))
    (.seq (.asg (.nm 4) (.tup (.cons (.bin .Add (.var 3) (.sub (.var 11) (.cst (.int 0)))) (.cons (.bin .Add (.sub (.var 10) (.cst (.int 1))) (.call 166 (.cons (.var 11) .nil))) (.cons (.sub (.var 10) (.cst (.int 2))) .nil)))))
    (.seq (.ite (.cmp .NotEq (.call 40 (.cons (.tup (.cons (.cst (.str [115, 99, 114, 105, 112, 116])) (.cons (.tup (.cons (.cst (.str [104, 101, 108, 100])) (.cons (.var 8) .nil))) (.cons (.var 9) (.cons (.cst .non) .nil))))) .nil)) (.var 4)) (.seq (.ret (.cst (.bl false)))
    .skip) .skip)
    (.seq (.asg (.nm 4) (.tup (.cons (.bin .Add (.var 3) (.sub (.var 11) (.cst (.int 0)))) (.cons (.sub (.var 10) (.cst (.int 1))) (.cons (.bin .Add (.sub (.var 10) (.cst (.int 2))) (.call 166 (.cons (.var 11) .nil))) .nil)))))
    (.seq (.ite (.cmp .NotEq (.call 40 (.cons (.tup (.cons (.cst (.str [115, 99, 114, 105, 112, 116])) (.cons (.tup (.cons (.cst (.str [104, 101, 108, 100])) (.cons (.var 8) .nil))) (.cons (.cst .non) (.cons (.var 9) .nil))))) .nil)) (.var 4)) (.seq (.ret (.cst (.bl false)))
    .skip) .skip)
    (.seq (.asg (.nm 4) (.tup (.cons (.bin .Add (.var 3) (.bi .max2 (.cons (.sub (.var 10) (.cst (.int 0))) (.cons (.sub (.var 11) (.cst (.int 0))) .nil)))) (.cons (.bin .Add (.sub (.var 10) (.cst (.int 1))) (.call 166 (.cons (.var 10) .nil))) (.cons (.bin .Add (.sub (.var 10) (.cst (.int 2))) (.call 166 (.cons (.var 11) .nil))) .nil)))))
    (.seq (.ite (.cmp .NotEq (.call 40 (.cons (.tup (.cons (.cst (.str [115, 99, 114, 105, 112, 116])) (.cons (.tup (.cons (.cst (.str [104, 101, 108, 100])) (.cons (.var 8) .nil))) (.cons (.var 8) (.cons (.var 9) .nil))))) .nil)) (.var 4)) (.seq (.ret (.cst (.bl false)))
    .skip) .skip)
    (.seq (.asg (.nm 5) (.sub (.cst (.str [43, 45, 42, 61, 60])) (.call 8 (.cons (.var 2) (.cons (.cst (.int 9277)) (.cons (.cst (.int 5)) .nil))))))
    (.seq (.asg (.nm 6) (.tup (.cons (.cst (.str [99, 104, 97, 105, 110])) (.cons (.tup (.cons (.cst (.str [104, 101, 108, 100])) (.cons (.var 8) .nil))) (.cons (.tup (.cons (.tup (.cons (.var 5) (.cons (.tup (.cons (.cst (.str [104, 101, 108, 100])) (.cons (.var 9) .nil))) .nil))) (.cons (.tup (.cons (.var 5) (.cons (.tup (.cons (.cst (.str [119, 111, 114, 100])) (.cons (.cst (.str [97])) .nil))) .nil))) .nil))) .nil)))))
    (.seq (.ite (.cmp .NotEq (.call 40 (.cons (.var 6) .nil)) (.tup (.cons (.bin .Add (.bin .Add (.sub (.var 10) (.cst (.int 0))) (.sub (.var 11) (.cst (.int 0)))) (.cst (.int 11))) (.cons (.bi .max2 (.cons (.sub (.var 10) (.cst (.int 1))) (.cons (.sub (.var 11) (.cst (.int 1))) .nil))) (.cons (.bi .max2 (.cons (.sub (.var 10) (.cst (.int 2))) (.cons (.sub (.var 11) (.cst (.int 2))) .nil))) .nil))))) (.seq (.ret (.cst (.bl false)))
    .skip) .skip)
    (.seq (.asg (.nm 7) (.bin .Add (.bin .Add (.bi .max2 (.cons (.sub (.var 10) (.cst (.int 1))) (.cons (.sub (.var 11) (.cst (.int 1))) .nil))) (.bi .max2 (.cons (.sub (.var 10) (.cst (.int 2))) (.cons (.sub (.var 11) (.cst (.int 2))) .nil)))) (.cst (.int 1))))
    (.seq (.ite (.cmp .NotEq (.call 40 (.cons (.tup (.cons (.cst (.str [116, 97, 98, 108, 101])) (.cons (.tup (.cons (.tup (.cons (.var 8) (.cons (.var 9) .nil))) .nil)) .nil))) .nil)) (.tup (.cons (.bin .Add (.bin .Add (.sub (.var 10) (.cst (.int 0))) (.sub (.var 11) (.cst (.int 0)))) (.cst (.int 4))) (.cons (.bin .FloorDiv (.var 7) (.cst (.int 2))) (.cons (.bin .Sub (.bin .Sub (.var 7) (.cst (.int 1))) (.bin .FloorDiv (.var 7) (.cst (.int 2)))) .nil))))) (.seq (.ret (.cst (.bl false)))
    .skip) .skip)
    (.seq (.asg (.nm 7) (.bin .Add (.bin .Add (.call 166 (.cons (.var 10) .nil)) (.call 166 (.cons (.var 11) .nil))) (.cst (.int 1))))
    (.seq (.ite (.cmp .NotEq (.call 40 (.cons (.tup (.cons (.cst (.str [116, 97, 98, 108, 101])) (.cons (.tup (.cons (.tup (.cons (.var 8) .nil)) (.cons (.tup (.cons (.var 9) .nil)) .nil))) .nil))) .nil)) (.tup (.cons (.bin .Add (.bi .max2 (.cons (.sub (.var 10) (.cst (.int 0))) (.cons (.sub (.var 11) (.cst (.int 0))) .nil))) (.cst (.int 2))) (.cons (.bin .FloorDiv (.var 7) (.cst (.int 2))) (.cons (.bin .Sub (.bin .Sub (.var 7) (.cst (.int 1))) (.bin .FloorDiv (.var 7) (.cst (.int 2)))) .nil))))) (.seq (.ret (.cst (.bl false)))
    .skip) .skip)
    .skip))))))))))))))))))))
    (.seq (.ret (.cst (.bl true)))
    .skip))⟩
/-- number 180 -/
def f_law_room : PL.Dd := ⟨"_law_room", ["some"], ["some", "wide", "up", "down"],
  (.seq (.asg (.tp (.cons (.nm 1) (.cons (.nm 2) (.cons (.nm 3) .nil)))) (.call 40 (.cons (.var 0) .nil)))
    (.seq (.ret (.tup (.cons (.var 1) (.cons (.bin .Add (.bin .Add (.var 2) (.var 3)) (.cst (.int 1))) .nil))))
    .skip))⟩
/-- number 181 -/
def f_law_is_base : PL.Dd := ⟨"_law_is_base", ["some", "way"], ["some", "way"],
  (.seq (.ret (.bop .And (.cons (.cmp .NotEq (.var 1) (.tup .nil)) (.cons (.cmp .Eq (.sub (.var 1) (.neg (.cst (.int 1)))) (.cst (.int 0))) (.cons (.cmp .Eq (.sub (.call 26 (.cons (.var 0) (.cons (.slc (.var 1) .no (.some (.neg (.cst (.int 1))))) .nil))) (.cst (.int 0))) (.cst (.str [115, 99, 114, 105, 112, 116]))) .nil)))))
    .skip)⟩
/-- number 182 -/
def f_law_k26 : PL.Dd := ⟨"law", ["script"], ["script", "k", "cell", "some", "way", "wide", "high", "part", "held", "new", "lone"],
  (.seq (.fr (.nm 1) (.rng (.cons (.cst (.int 10)) .nil)) (.seq (.asg (.nm 2) (.bin .Add (.call 7 (.cons (.var 0) (.cons (.bin .Mod (.var 1) (.cst (.int 9))) .nil))) (.bin .Mult (.cst (.int 61)) (.var 1))))
    (.seq (.asg (.nm 3) (.call 12 (.cons (.var 2) (.cons (.cst (.int 4)) .nil))))
    (.seq (.asg (.tp (.cons (.nm 5) (.cons (.nm 6) .nil))) (.call 180 (.cons (.var 3) .nil)))
    (.seq (.ite (.cmp .NotEq (.call 40 (.cons (.tup (.cons (.cst (.str [104, 101, 108, 100])) (.cons (.var 3) .nil))) .nil)) (.bin .Add (.tup (.cons (.bin .Add (.var 5) (.cst (.int 2))) .nil)) (.slc (.call 40 (.cons (.var 3) .nil)) (.some (.cst (.int 1))) .no))) (.seq (.ret (.cst (.bl false)))
    .skip) .skip)
    (.seq (.fr (.nm 4) (.seq (.call 25 (.cons (.var 3) .nil))) (.seq (.asg (.nm 7) (.call 26 (.cons (.var 3) (.cons (.var 4) .nil))))
    (.seq (.asg (.nm 8) (.call 28 (.cons (.var 3) (.cons (.var 4) (.cons (.tup (.cons (.cst (.str [104, 101, 108, 100])) (.cons (.var 7) .nil))) .nil)))))
    (.seq (.ite (.bop .Or (.cons (.nt (.cmp2 .LtE .LtE (.var 5) (.sub (.call 40 (.cons (.var 8) .nil)) (.cst (.int 0))) (.bin .Add (.var 5) (.cst (.int 2))))) (.cons (.cmp .NotEq (.slc (.call 40 (.cons (.var 8) .nil)) (.some (.cst (.int 1))) .no) (.slc (.call 40 (.cons (.var 3) .nil)) (.some (.cst (.int 1))) .no)) .nil))) (.seq (.ret (.cst (.bl false)))
    .skip) .skip)
    (.seq (.ite (.val (.call 181 (.cons (.var 3) (.cons (.var 4) .nil)))) (.seq .cnt
    .skip) .skip)
    (.seq (.asg (.nm 9) (.call 180 (.cons (.call 28 (.cons (.var 3) (.cons (.var 4) (.cons (.tup (.cons (.cst (.str [114, 111, 111, 116])) (.cons (.var 7) .nil))) .nil)))) .nil)))
    (.seq (.ite (.nt (.bop .And (.cons (.cmp2 .LtE .LtE (.var 5) (.sub (.var 9) (.cst (.int 0))) (.bin .Add (.var 5) (.cst (.int 1)))) (.cons (.cmp2 .LtE .LtE (.var 6) (.sub (.var 9) (.cst (.int 1))) (.bin .Add (.var 6) (.cst (.int 1)))) .nil)))) (.seq (.ret (.cst (.bl false)))
    .skip) .skip)
    (.seq (.asg (.nm 10) (.call 180 (.cons (.call 28 (.cons (.var 3) (.cons (.var 4) (.cons (.tup (.cons (.cst (.str [119, 111, 114, 100])) (.cons (.cst (.str [97])) .nil))) .nil)))) .nil)))
    (.seq (.ite (.bop .Or (.cons (.cmp .Gt (.sub (.var 10) (.cst (.int 0))) (.var 5)) (.cons (.cmp .Gt (.sub (.var 10) (.cst (.int 1))) (.var 6)) .nil))) (.seq (.ret (.cst (.bl false)))
    .skip) .skip)
    .skip)))))))))
    .skip))))))
    (.seq (.ret (.cst (.bl true)))
    .skip))⟩
/-- number 197 -/
def f_law_is_needed : PL.Dd := ⟨"_law_is_needed", ["some", "way"], ["some", "way"],
  (.seq (.ite (.val (.call 181 (.cons (.var 0) (.cons (.var 1) .nil)))) (.seq (.ret (.cst (.bl true)))
    .skip) .skip)
    (.seq (.ret (.bop .And (.cons (.cmp .NotEq (.var 1) (.tup .nil)) (.cons (.cmp .Eq (.sub (.sub (.call 26 (.cons (.var 0) (.cons (.var 1) .nil))) (.cst (.int 1))) (.cst (.int 0))) (.cst (.str [99, 104, 97, 105, 110]))) (.cons (.cmp .Eq (.sub (.call 26 (.cons (.var 0) (.cons (.slc (.var 1) .no (.some (.neg (.cst (.int 1))))) .nil))) (.cst (.int 0))) (.cst (.str [99, 104, 97, 105, 110]))) .nil)))))
    .skip))⟩
/-- number 198 -/
def f_law_k33 : PL.Dd := ⟨"law", ["script"], ["script", "k", "cell", "some", "new", "way", "helds", "part", "mine", "yours"],
  (.seq (.fr (.nm 1) (.rng (.cons (.cst (.int 10)) .nil)) (.seq (.asg (.nm 2) (.bin .Add (.call 7 (.cons (.var 0) (.cons (.bin .Mod (.var 1) (.cst (.int 9))) .nil))) (.bin .Mult (.cst (.int 97)) (.var 1))))
    (.seq (.asg (.nm 3) (.call 12 (.cons (.var 2) (.cons (.cst (.int 4)) .nil))))
    (.seq (.asg (.nm 4) (.call 140 (.cons (.var 3) .nil)))
    (.seq (.ite (.bop .Or (.cons (.cmp .NotEq (.call 140 (.cons (.var 4) .nil)) (.var 4)) (.cons (.cmp .NotEq (.call 140 (.cons (.tup (.cons (.cst (.str [104, 101, 108, 100])) (.cons (.var 3) .nil))) .nil)) (.var 4)) (.cons (.cmp .NotEq (.call 140 (.cons (.tup (.cons (.cst (.str [104, 101, 108, 100])) (.cons (.tup (.cons (.cst (.str [104, 101, 108, 100])) (.cons (.var 3) .nil))) .nil))) .nil)) (.var 4)) .nil)))) (.seq (.ret (.cst (.bl false)))
    .skip) .skip)
    (.seq (.fr (.nm 5) (.seq (.call 25 (.cons (.var 3) .nil))) (.seq (.asg (.nm 7) (.call 26 (.cons (.var 3) (.cons (.var 5) .nil))))
    (.seq (.ite (.bop .And (.cons (.nt (.val (.call 181 (.cons (.var 3) (.cons (.var 5) .nil))))) (.cons (.cmp .NotEq (.call 140 (.cons (.call 28 (.cons (.var 3) (.cons (.var 5) (.cons (.tup (.cons (.cst (.str [104, 101, 108, 100])) (.cons (.var 7) .nil))) .nil)))) .nil)) (.var 4)) .nil))) (.seq (.ret (.cst (.bl false)))
    .skip) .skip)
    (.seq (.ite (.bop .And (.cons (.nt (.val (.call 181 (.cons (.var 3) (.cons (.var 5) .nil))))) (.cons (.cmp .NotEq (.call 140 (.cons (.call 28 (.cons (.var 3) (.cons (.var 5) (.cons (.tup (.cons (.cst (.str [104, 101, 108, 100])) (.cons (.tup (.cons (.cst (.str [104, 101, 108, 100])) (.cons (.var 7) .nil))) .nil))) .nil)))) .nil)) (.var 4)) .nil))) (.seq (.ret (.cst (.bl false)))
    .skip) .skip)
    .skip))))
    (.seq (.asg (.nm 6) (.comp [5] (.nm 5) (.seq (.call 25 (.cons (.var 4) .nil))) (.cmp .Eq (.sub (.call 26 (.cons (.var 4) (.cons (.var 5) .nil))) (.cst (.int 0))) (.cst (.str [104, 101, 108, 100]))) (.var 5)))
    (.seq (.ite (.cmp .NotEq (.comp [5] (.nm 5) (.seq (.var 6)) (.nt (.val (.call 197 (.cons (.var 4) (.cons (.var 5) .nil))))) (.var 5)) (.lst .nil)) (.seq (.ret (.cst (.bl false)))
    .skip) .skip)
    (.seq (.par [8, 9] (.cons (.call 180 (.cons (.var 3) .nil)) (.cons (.call 180 (.cons (.var 4) .nil)) .nil)))
    (.seq (.ite (.bop .Or (.cons (.cmp .Gt (.sub (.var 9) (.cst (.int 0))) (.sub (.var 8) (.cst (.int 0)))) (.cons (.cmp .Gt (.sub (.var 9) (.cst (.int 1))) (.sub (.var 8) (.cst (.int 1)))) .nil))) (.seq (.ret (.cst (.bl false)))
    .skip) .skip)
    .skip))))))))))
    (.seq (.ret (.cst (.bl true)))
    .skip))⟩
/-- number 199 -/
def f_law_many_2 : PL.Dd := ⟨"_law_many", ["some"], ["some", "wide", "high"],
  (.seq (.asg (.tp (.cons (.nm 1) (.cons (.nm 2) .nil))) (.call 180 (.cons (.var 0) .nil)))
    (.seq (.ret (.bin .Mult (.var 1) (.var 2)))
    .skip))⟩
/-- number 200 -/
def f_law_k34 : PL.Dd := ⟨"law", ["script"], ["script", "k", "some", "around", "due", "way", "most", "rooms", "right_one", "lower_one", "one"],
  (.seq (.fr (.nm 1) (.rng (.cons (.cst (.int 12)) .nil)) (.seq (.asg (.nm 2) (.call 12 (.cons (.bin .Add (.call 7 (.cons (.var 0) (.cons (.bin .Mod (.var 1) (.cst (.int 9))) .nil))) (.bin .Mult (.cst (.int 101)) (.var 1))) (.cons (.cst (.int 4)) .nil))))
    (.seq (.asg (.nm 3) (.lst (.cons (.call 143 (.cons (.tup (.cons (.cst (.str [114, 111, 111, 116])) (.cons (.var 2) .nil))) .nil)) (.cons (.call 143 (.cons (.tup (.cons (.cst (.str [104, 101, 108, 100])) (.cons (.var 2) .nil))) .nil)) (.cons (.call 143 (.cons (.tup (.cons (.cst (.str [111, 118, 101, 114])) (.cons (.var 2) (.cons (.var 2) .nil)))) .nil)) .nil)))))
    (.seq (.ite (.cmp .NotEq (.var 3) (.bin .Mult (.lst (.cons (.tup (.cons (.cst (.int 0)) .nil)) .nil)) (.cst (.int 3)))) (.seq (.ret (.cst (.bl false)))
    .skip) .skip)
    (.seq (.ite (.cmp .IsNot (.call 143 (.cons (.tup (.cons (.cst (.str [119, 111, 114, 100])) (.cons (.cst (.str [97, 98, 99])) .nil))) .nil)) (.cst .non)) (.seq (.ret (.cst (.bl false)))
    .skip) .skip)
    (.seq (.asg (.nm 4) (.ite (.cmp .Gt (.call 199 (.cons (.var 2) .nil)) (.cst (.int 1))) (.tup (.cons (.cst (.int 1)) .nil)) (.tup (.cons (.cst (.int 0)) .nil))))
    (.seq (.par [8, 9] (.cons (.tup (.cons (.cst (.str [116, 97, 98, 108, 101])) (.cons (.tup (.cons (.tup (.cons (.tup (.cons (.cst (.str [119, 111, 114, 100])) (.cons (.cst (.str [97])) .nil))) (.cons (.var 2) .nil))) .nil)) .nil))) (.cons (.tup (.cons (.cst (.str [116, 97, 98, 108, 101])) (.cons (.tup (.cons (.tup (.cons (.tup (.cons (.cst (.str [119, 111, 114, 100])) (.cons (.cst (.str [97])) .nil))) .nil)) (.cons (.tup (.cons (.var 2) .nil)) .nil))) .nil))) .nil)))
    (.seq (.ite (.bop .Or (.cons (.cmp .NotEq (.call 143 (.cons (.var 8) .nil)) (.var 4)) (.cons (.cmp .NotEq (.call 143 (.cons (.var 9) .nil)) (.var 4)) .nil))) (.seq (.ret (.cst (.bl false)))
    .skip) .skip)
    (.seq (.asg (.nm 5) (.call 143 (.cons (.var 2) .nil)))
    (.seq (.ite (.cmp .Is (.var 5) (.cst .non)) (.seq (.ite (.cmp .Gt (.bi .len (.cons (.call 25 (.cons (.var 2) .nil)) .nil)) (.cst (.int 1))) (.seq (.ret (.cst (.bl false)))
    .skip) .skip)
    (.seq .cnt
    .skip)) .skip)
    (.seq (.asg (.nm 6) (.call 199 (.cons (.call 26 (.cons (.var 2) (.cons (.var 5) .nil))) .nil)))
    (.seq (.asg (.nm 7) (.comp [10] (.nm 10) (.seq (.call 25 (.cons (.var 2) .nil))) (.cmp .NotEq (.var 10) (.tup .nil)) (.tup (.cons (.bin .Sub (.cst (.int 0)) (.call 199 (.cons (.call 26 (.cons (.var 2) (.cons (.var 10) .nil))) .nil))) (.cons (.var 10) .nil)))))
    (.seq (.ite (.cmp .NotEq (.bi .min1 (.cons (.var 7) .nil)) (.tup (.cons (.bin .Sub (.cst (.int 0)) (.var 6)) (.cons (.var 5) .nil)))) (.seq (.ret (.cst (.bl false)))
    .skip) .skip)
    .skip)))))))))))))
    (.seq (.ret (.cst (.bl true)))
    .skip))⟩
/-- number 207 -/
def f_law_k38 : PL.Dd := ⟨"law", ["script"], ["script", "k", "cell", "rows", "n", "lines", "longer", "first", "wide", "high", "some", "turned", "about", "j", "mine", "yours", "left", "top", "own", "rows_own", "line", "row", "part"],
  (.seq (.fr (.nm 1) (.rng (.cons (.cst (.int 8)) .nil)) (.seq (.asg (.nm 2) (.bin .Add (.call 7 (.cons (.var 0) (.cons (.var 1) .nil))) (.bin .Mult (.cst (.int 113)) (.var 1))))
    (.seq (.asg (.tp (.cons (.nm 8) (.cons (.nm 9) .nil))) (.tup (.cons (.bin .Add (.cst (.int 1)) (.call 8 (.cons (.var 2) (.cons (.cst (.int 9049)) (.cons (.cst (.int 3)) .nil))))) (.cons (.bin .Add (.cst (.int 1)) (.call 8 (.cons (.var 2) (.cons (.cst (.int 9043)) (.cons (.cst (.int 3)) .nil))))) .nil))))
    (.seq (.asg (.nm 3) (.bi .tuple (.cons (.comp [4] (.nm 4) (.rng (.cons (.var 9) .nil)) .yes (.bi .tuple (.cons (.comp [13] (.nm 13) (.rng (.cons (.var 8) .nil)) .yes (.call 12 (.cons (.bin .Add (.bin .Add (.bin .Mult (.var 2) (.cst (.int 3))) (.bin .Mult (.cst (.int 31)) (.var 4))) (.bin .Mult (.cst (.int 7)) (.var 13))) (.cons (.cst (.int 3)) .nil)))) .nil))) .nil)))
    (.seq (.par [10, 11, 12] (.cons (.tup (.cons (.cst (.str [116, 97, 98, 108, 101])) (.cons (.var 3) .nil))) (.cons (.tup (.cons (.cst (.str [116, 97, 98, 108, 101])) (.cons (.bi .tuple (.cons (.comp [21] (.nm 21) (.seq (.var 3)) .yes (.rv (.var 21) (.neg (.cst (.int 1))))) .nil)) .nil))) (.cons (.tup (.cons (.cst (.str [116, 97, 98, 108, 101])) (.cons (.rv (.var 3) (.neg (.cst (.int 1)))) .nil))) .nil))))
    (.seq (.ite (.bop .Or (.cons (.cmp .NotEq (.call 40 (.cons (.var 11) .nil)) (.call 40 (.cons (.var 10) .nil))) (.cons (.cmp .NotEq (.call 40 (.cons (.var 12) .nil)) (.call 40 (.cons (.var 10) .nil))) .nil))) (.seq (.ret (.cst (.bl false)))
    .skip) .skip)
    (.seq (.fr (.nm 4) (.rng (.cons (.var 9) .nil)) (.seq (.fr (.nm 13) (.rng (.cons (.var 8) .nil)) (.seq (.asg (.tp (.cons (.nm 16) (.cons (.nm 17) (.cons (.nm 18) (.cons (.nm 19) .nil))))) (.call 61 (.cons (.var 10) (.cons (.tup (.cons (.bin .Add (.bin .Mult (.var 8) (.var 4)) (.var 13)) .nil)) .nil))))
    (.seq (.asg (.nm 14) (.call 61 (.cons (.var 11) (.cons (.tup (.cons (.bin .Sub (.bin .Sub (.bin .Add (.bin .Mult (.var 8) (.var 4)) (.var 8)) (.cst (.int 1))) (.var 13)) .nil)) .nil))))
    (.seq (.asg (.nm 15) (.call 61 (.cons (.var 12) (.cons (.tup (.cons (.bin .Add (.bin .Mult (.var 8) (.bin .Sub (.bin .Sub (.var 9) (.cst (.int 1))) (.var 4))) (.var 13)) .nil)) .nil))))
    (.seq (.ite (.bop .Or (.cons (.cmp .NotEq (.slc (.var 14) (.some (.cst (.int 1))) .no) (.tup (.cons (.var 17) (.cons (.var 18) (.cons (.var 19) .nil))))) (.cons (.cmp .NotEq (.sub (.var 15) (.cst (.int 0))) (.var 16)) (.cons (.cmp .NotEq (.slc (.var 15) (.some (.cst (.int 2))) .no) (.tup (.cons (.var 18) (.cons (.var 19) .nil)))) .nil)))) (.seq (.ret (.cst (.bl false)))
    .skip) .skip)
    .skip)))))
    .skip))
    (.seq (.asg (.nm 5) (.call 51 (.cons (.var 10) .nil)))
    (.seq (.ite (.cmp .NotEq (.comp [20] (.nm 20) (.seq (.var 5)) (.bop .Or (.cons (.cmp .NotEq (.sub (.var 20) (.cst (.int 0))) (.cst (.str [91]))) (.cons (.cmp .NotEq (.sub (.var 20) (.neg (.cst (.int 1)))) (.cst (.str [93]))) .nil))) (.var 20)) (.lst .nil)) (.seq (.ret (.cst (.bl false)))
    .skip) .skip)
    (.seq (.asg (.nm 6) (.call 51 (.cons (.tup (.cons (.cst (.str [116, 97, 98, 108, 101])) (.cons (.bin .Add (.var 3) (.tup (.cons (.sub (.var 3) (.cst (.int 0))) .nil))) .nil))) .nil)))
    (.seq (.asg (.nm 7) (.bin .Add (.bin .Add (.bi .max1 (.cons (.comp [22] (.nm 22) (.seq (.sub (.var 3) (.cst (.int 0)))) .yes (.sub (.call 40 (.cons (.var 22) .nil)) (.cst (.int 1)))) .nil)) (.bi .max1 (.cons (.comp [22] (.nm 22) (.seq (.sub (.var 3) (.cst (.int 0)))) .yes (.sub (.call 40 (.cons (.var 22) .nil)) (.cst (.int 2)))) .nil))) (.cst (.int 1))))
    (.seq (.ite (.bop .Or (.cons (.cmp .NotEq (.slc (.var 6) .no (.some (.bi .len (.cons (.var 5) .nil)))) (.var 5)) (.cons (.cmp .NotEq (.slc (.var 6) (.some (.bin .Add (.bi .len (.cons (.var 5) .nil)) (.cst (.int 1)))) .no) (.slc (.var 5) .no (.some (.var 7)))) .nil))) (.seq (.ret (.cst (.bl false)))
    .skip) .skip)
    (.seq (.ite (.bop .Or (.cons (.cmp .NotEq (.sub (.var 6) (.bi .len (.cons (.var 5) .nil))) (.bin .Add (.bin .Add (.cst (.str [91])) (.bin .Mult (.cst (.str [32])) (.bin .Sub (.sub (.call 180 (.cons (.var 10) .nil)) (.cst (.int 0))) (.cst (.int 2))))) (.cst (.str [93])))) (.cons (.cmp .NotEq (.bi .len (.cons (.var 6) .nil)) (.bin .Add (.bin .Add (.bi .len (.cons (.var 5) .nil)) (.cst (.int 1))) (.var 7))) .nil))) (.seq (.ret (.cst (.bl false)))
    .skip) .skip)
    .skip)))))))))))))
    (.seq (.ret (.cst (.bl true)))
    .skip))⟩

end Fn

/-! SM: sums as trees; how they stand as values. -/
namespace SM
open PL

inductive Kd where
  | word (t : List Nat) | chain (ss : List (List Nat)) | over | root | held | script (u d : Bool) | table (r c : Nat)
  deriving DecidableEq
inductive Sm where
  | nd (k : Kd) (ps : List Sm)
def Sm.kd : Sm → Kd
  | .nd k _ => k
def Sm.ps : Sm → List Sm
  | .nd _ ps => ps
/-- what holds of all parts holds of it -/
theorem Sm.ind {P : Sm → Prop} (h : ∀ k ps, (∀ p ∈ ps, P p) → P (.nd k ps)) : ∀ s, P s := by
  have all : ∀ (n : Nat) (s : Sm), sizeOf s ≤ n → P s := by
    intro n
    induction n with
    | zero => intro s hs; cases s; simp at hs
    | succ n ih =>
      intro s hs
      cases s with
      | nd k ps =>
        refine h k ps fun p hp => ih p ?_
        have := List.sizeOf_lt_of_mem hp
        simp only [Sm.nd.sizeOf_spec] at hs
        omega
  exact fun s => all _ s (Nat.le_refl _)
/-! folds -/
mutual
def Sm.fold {α : Type} (f : Kd → List Sm → List α → α) : Sm → α
  | .nd k ps => f k ps (Sm.folds f ps)
def Sm.folds {α : Type} (f : Kd → List Sm → List α → α) : List Sm → List α
  | [] => []
  | p :: ps => Sm.fold f p :: Sm.folds f ps
end
theorem folds_eq {α : Type} (f : Kd → List Sm → List α → α) : ∀ ps : List Sm, Sm.folds f ps = ps.map (Sm.fold f)
  | [] => by simp [Sm.folds]
  | p :: ps => by simp [Sm.folds, folds_eq f ps]
theorem fold_nd {α : Type} (f : Kd → List Sm → List α → α) (k : Kd) (ps : List Sm) : Sm.fold f (.nd k ps) = f k ps (ps.map (Sm.fold f)) := by
  rw [Sm.fold, folds_eq]

/-- how many stand within one another -/
def maxN : List Nat → Nat
  | [] => 0
  | n :: r => max n (maxN r)
theorem le_maxN : ∀ {l : List Nat} {n : Nat}, n ∈ l → n ≤ maxN l
  | a :: r, n, h => by
    unfold maxN
    rcases List.mem_cons.mp h with e | e
    · omega
    · have := le_maxN e; omega
theorem maxN_le {l : List Nat} {m : Nat} (h : ∀ n ∈ l, n ≤ m) : maxN l ≤ m := by
  induction l with
  | nil => simp [maxN]
  | cons a r ih =>
    unfold maxN
    have h1 := h a (by simp)
    have h2 := ih fun n hn => h n (by simp [hn])
    omega
def dp : Sm → Nat := Sm.fold fun _ _ ds => maxN ds + 1
theorem dp_nd (k : Kd) (ps : List Sm) : dp (.nd k ps) = maxN (ps.map dp) + 1 := fold_nd _ k ps
theorem dp_lt {k : Kd} {ps : List Sm} {p : Sm} (h : p ∈ ps) : dp p < dp (.nd k ps) := by
  rw [dp_nd]
  have := le_maxN (List.mem_map_of_mem (f := dp) h)
  omega
theorem dp_pos (s : Sm) : 1 ≤ dp s := by
  cases s with
  | nd k ps => rw [dp_nd]; omega

/-! texts -/
def cWord : List Nat := [119, 111, 114, 100]
def cChain : List Nat := [99, 104, 97, 105, 110]
def cOver : List Nat := [111, 118, 101, 114]
def cRoot : List Nat := [114, 111, 111, 116]
def cHeld : List Nat := [104, 101, 108, 100]
def cScript : List Nat := [115, 99, 114, 105, 112, 116]
def cTable : List Nat := [116, 97, 98, 108, 101]
def Kd.name : Kd → List Nat
  | .word _ => [119, 111, 114, 100]
  | .chain _ => [99, 104, 97, 105, 110]
  | .over => [111, 118, 101, 114]
  | .root => [114, 111, 111, 116]
  | .held => [104, 101, 108, 100]
  | .script _ _ => [115, 99, 114, 105, 112, 116]
  | .table _ _ => [116, 97, 98, 108, 101]

/-- r rows of c each -/
def chunk {α : Type} : Nat → Nat → List α → List (List α)
  | 0, _, _ => []
  | r + 1, c, xs => xs.take c :: chunk r c (xs.drop c)
theorem chunk_map {α β : Type} (f : α → β) : ∀ (r c : Nat) (xs : List α), chunk r c (xs.map f) = (chunk r c xs).map (List.map f)
  | 0, _, _ => rfl
  | r + 1, c, xs => by
    simp only [chunk, List.map_cons, ← List.map_take, ← List.map_drop, chunk_map f r c]
theorem chunk_length {α : Type} : ∀ (r c : Nat) (xs : List α), (chunk r c xs).length = r
  | 0, _, _ => rfl
  | r + 1, c, xs => by simp only [chunk, List.length_cons, chunk_length r c]
theorem chunk_each {α : Type} : ∀ (r c : Nat) (xs : List α), xs.length = r * c → ∀ row ∈ chunk r c xs, row.length = c
  | 0, _, _, _ => by simp [chunk]
  | r + 1, c, xs, h => fun row hr => by
    have e : (r + 1) * c = r * c + c := Nat.succ_mul r c
    rcases List.mem_cons.mp hr with z | z
    · subst z; rw [List.length_take]; omega
    · exact chunk_each r c (xs.drop c) (by rw [List.length_drop]; omega) row z
theorem chunk_mem {α : Type} : ∀ (r c : Nat) (xs : List α), ∀ row ∈ chunk r c xs, ∀ x ∈ row, x ∈ xs
  | 0, _, _ => by simp [chunk]
  | r + 1, c, xs => fun row hr x hx => by
    rcases List.mem_cons.mp hr with z | z
    · subst z; exact List.mem_of_mem_take hx
    · exact List.mem_of_mem_drop (chunk_mem r c (xs.drop c) row z x hx)
theorem chunk_flatten {α : Type} : ∀ (r c : Nat) (xs : List α), xs.length = r * c → (chunk r c xs).flatten = xs
  | 0, _, xs, h => by
    have : xs = [] := List.eq_nil_of_length_eq_zero (by simpa using h)
    subst this; rfl
  | r + 1, c, xs, h => by
    have e : (r + 1) * c = r * c + c := Nat.succ_mul r c
    simp only [chunk, List.flatten_cons]
    rw [chunk_flatten r c (xs.drop c) (by rw [List.length_drop]; omega), List.take_append_drop]

def pairs (ss : List (List Nat)) (vs : List PV) : List PV := (ss.zip vs).map fun p => .tup [.str p.1, p.2]
def encK (k : Kd) (vs : List PV) : PV :=
  match k with
  | .word t => .tup [.str [119, 111, 114, 100], .str t]
  | .chain ss => .tup [.str [99, 104, 97, 105, 110], vs.headD .non, .tup (pairs ss vs.tail)]
  | .over => .tup (.str [111, 118, 101, 114] :: vs)
  | .root => .tup (.str [114, 111, 111, 116] :: vs)
  | .held => .tup (.str [104, 101, 108, 100] :: vs)
  | .script u d => .tup [.str [115, 99, 114, 105, 112, 116], vs.headD .non, if u then vs.getD 1 .non else .non, if d then vs.getD (if u then 2 else 1) .non else .non]
  | .table r c => .tup [.str [116, 97, 98, 108, 101], .tup ((chunk r c vs).map .tup)]
def enc : Sm → PV := Sm.fold fun k _ vs => encK k vs
theorem enc_nd (k : Kd) (ps : List Sm) : enc (.nd k ps) = encK k (ps.map enc) := fold_nd _ k ps

/-- the shape of a node -/
def Kd.sh : Kd → Nat → Prop
  | .word _, n => n = 0
  | .chain ss, n => n = ss.length + 1
  | .over, n => n = 2
  | .root, n => n = 1
  | .held, n => n = 1
  | .script u d, n => (u || d) = true ∧ n = 1 + u.toNat + d.toNat
  | .table r c, n => 1 ≤ r ∧ 1 ≤ c ∧ n = r * c
/-- every node has its shape, and not too many parts -/
inductive Sh : Sm → Prop where
  | nd {k : Kd} {ps : List Sm} : k.sh ps.length → ps.length ≤ 1000 → (∀ p ∈ ps, Sh p) → Sh (.nd k ps)
theorem Sh.kd {k : Kd} {ps : List Sm} (h : Sh (.nd k ps)) : k.sh ps.length := by cases h; assumption
theorem Sh.len {k : Kd} {ps : List Sm} (h : Sh (.nd k ps)) : ps.length ≤ 1000 := by cases h; assumption
theorem Sh.mem {k : Kd} {ps : List Sm} (h : Sh (.nd k ps)) : ∀ p ∈ ps, Sh p := by cases h; assumption

/-! boxes -/
structure Bx where
  w : Int
  u : Int
  d : Int
  deriving DecidableEq
def Bx.rows (b : Bx) : Int := b.u + b.d + 1
def maxL : List Int → Int
  | [] => 0
  | i :: r => r.foldl max i
/-- each column's width -/
def colsW (c : Nat) (rows : List (List Bx)) : List Int := (List.range c).map fun k => maxL (rows.map fun row => (row.getD k ⟨0, 0, 0⟩).w)
def rowsH (rows : List (List Bx)) : List (Int × Int) := rows.map fun row => (maxL (row.map (·.u)), maxL (row.map (·.d)))
def tabBx (c : Nat) (rows : List (List Bx)) : Bx :=
  let high : Int := ((rowsH rows).map fun p => p.1 + p.2 + 1).sum + (rows.length : Int) - 1
  ⟨(colsW c rows).sum + 2 * ((c : Int) - 1) + 2, high / 2, high - 1 - high / 2⟩
def bxK (k : Kd) (bs : List Bx) : Bx :=
  match k with
  | .word t => ⟨t.length, 0, 0⟩
  | .chain _ => ⟨(bs.map (·.w)).sum + 3 * ((bs.length : Int) - 1), maxL (bs.map (·.u)), maxL (bs.map (·.d))⟩
  | .over => ⟨max (bs.getD 0 ⟨0, 0, 0⟩).w (bs.getD 1 ⟨0, 0, 0⟩).w + 2, (bs.getD 0 ⟨0, 0, 0⟩).rows, (bs.getD 1 ⟨0, 0, 0⟩).rows⟩
  | .root => ⟨(bs.getD 0 ⟨0, 0, 0⟩).w + 1, (bs.getD 0 ⟨0, 0, 0⟩).u + 1, (bs.getD 0 ⟨0, 0, 0⟩).d⟩
  | .held => ⟨(bs.getD 0 ⟨0, 0, 0⟩).w + 2, (bs.getD 0 ⟨0, 0, 0⟩).u, (bs.getD 0 ⟨0, 0, 0⟩).d⟩
  | .script u d =>
    let b := bs.getD 0 ⟨0, 0, 0⟩
    ⟨b.w + maxL ((bs.drop 1).map (·.w)), b.u + (if u then (bs.getD 1 ⟨0, 0, 0⟩).rows else 0), b.d + (if d then (bs.getD (if u then 2 else 1) ⟨0, 0, 0⟩).rows else 0)⟩
  | .table r c => tabBx c (chunk r c bs)
def bx : Sm → Bx := Sm.fold fun k _ bs => bxK k bs
theorem bx_nd (k : Kd) (ps : List Sm) : bx (.nd k ps) = bxK k (ps.map bx) := fold_nd _ k ps
def encB (b : Bx) : PV := .tup [.int b.w, .int b.u, .int b.d]
end SM

/-! SV: running the small language by simp. -/
namespace PL
/-- one call -/
theorem callF_of {T : Tab} {i : Nat} {d : Dd} (h : T.lookup i = some d) (n : Nat) (args : List PV) (st : Sto) : callF T (n + 1) i args st = runD (callF T n) d args st := by
  simp only [callF, h]
theorem fin_same (st : Sto) (v : PV) : fin st v st = .ok v st := by
  unfold fin
  split
  · rw [List.take_length]
  · rfl
theorem oldOk_app (n : Nat) : ∀ st cs : Sto, oldOk n st (st ++ cs) = true
  | [], _ => rfl
  | c :: r, cs => by simp [oldOk, Cell.beq_refl, oldOk_app n r cs]
theorem fin_app (st cs : Sto) (v : PV) (h : v.under st.length = true) : fin st v (st ++ cs) = .ok v st := by
  unfold fin
  rw [h, oldOk_app]
  simp
theorem finX_app (st cs : Sto) (c : Nat) : finX st c (st ++ cs) = .exc c st := by
  unfold finX
  rw [oldOk_app]
  simp
theorem finX_same (st : Sto) (c : Nat) : finX st c st = .exc c st := by
  unfold finX
  split
  · rw [List.take_length]
  · rfl
/-! continuations by name: simp runs what stands first -/
def kTup : Res (List PV) → Res PV
  | .ok vs st => if vs.length ≤ SZ then .ok (.tup vs) st else .stuck
  | .exc c st => .exc c st
  | .stuck => .stuck
def kLst : Res (List PV) → Res PV
  | .ok vs st => if vs.length ≤ SZ then .ok (.lst vs) st else .stuck
  | .exc c st => .exc c st
  | .stuck => .stuck
def kBin2 (op : PySem.Operator) (x : PV) (r : Res PV) : Res PV := r.bind fun y st => .ofO (binV op (deref st x) (deref st y)) st
def kBin (cf : CF) (op : PySem.Operator) (b : PX) (e : Env) (r : Res PV) : Res PV := r.bind fun x st => kBin2 op x (ev cf b e st)
def kCmp2 (op : PySem.CmpOp) (x : PV) (r : Res PV) : Res PV := r.bind fun y st => .ofO ((cmpV op (deref st x) (deref st y)).map .bl) st
def kCmp (cf : CF) (op : PySem.CmpOp) (b : PX) (e : Env) (r : Res PV) : Res PV := r.bind fun x st => kCmp2 op x (ev cf b e st)
def kChn4 (op' : PySem.CmpOp) (y : PV) (r : Res PV) : Res PV := r.bind fun z st => .ofO ((cmpV op' (deref st y) (deref st z)).map .bl) st
def kChn3 (cf : CF) (op' : PySem.CmpOp) (c : PX) (e : Env) (y : PV) (r : Res Bool) : Res PV := r.bind fun k st => if k then kChn4 op' y (ev cf c e st) else .ok (.bl false) st
def kChn2 (cf : CF) (op op' : PySem.CmpOp) (c : PX) (e : Env) (x : PV) (r : Res PV) : Res PV := r.bind fun y st => kChn3 cf op' c e y (.ofO (cmpV op (deref st x) (deref st y)) st)
def kChn (cf : CF) (op op' : PySem.CmpOp) (b c : PX) (e : Env) (r : Res PV) : Res PV := r.bind fun x st => kChn2 cf op op' c e x (ev cf b e st)
def kNt (r : Res PV) : Res PV := r.bind fun x st => match x with
  | .bl b => .ok (.bl (!b)) st
  | _ => .stuck
def kNeg (r : Res PV) : Res PV := r.bind fun x st => match x with
  | .int i => .ok (.int (-i)) st
  | _ => .stuck
def kIf (cf : CF) (a b : PX) (e : Env) (r : Res Bool) : Res PV := r.bind fun k st => if k then ev cf a e st else ev cf b e st
def kAt2 (x : PV) (r : Res PV) : Res PV := r.bind fun y st => .ofO (atV (deref st x) y) st
def kAt (cf : CF) (i : PX) (e : Env) (r : Res PV) : Res PV := r.bind fun x st => kAt2 x (ev cf i e st)
def kSl3 (x : PV) (l : Option Int) (r : Res (Option Int)) : Res PV := r.bind fun h st => .ofO (slV (deref st x) l h) st
def kSl2 (cf : CF) (hi : PO) (e : Env) (x : PV) (r : Res (Option Int)) : Res PV := r.bind fun l st => kSl3 x l (evO cf hi e st)
def kSl (cf : CF) (lo hi : PO) (e : Env) (r : Res PV) : Res PV := r.bind fun x st => kSl2 cf hi e x (evO cf lo e st)
def kNls : Res (List PV) → Res PV
  | .ok vs st => if vs.length ≤ SZ then .ok (.ref st.length) (st ++ [.lst vs]) else .stuck
  | .exc c st => .exc c st
  | .stuck => .stuck
def kNof2 (st : Sto) : Option PV → Res PV
  | some (.lst xs) => .ok (.ref st.length) (st ++ [.lst xs])
  | _ => .stuck
def kNof (r : Res PV) : Res PV := r.bind fun x st => kNof2 st (bList [deref st x])
def kFz (r : Res PV) : Res PV := r.bind fun x st => fzV x st
def kMth2 (m : Mth) (x : PV) (r : Res (List PV)) : Res PV := r.bind fun vs st => mthV m x vs st
def kMth (cf : CF) (m : Mth) (es : PXs) (e : Env) (r : Res PV) : Res PV := r.bind fun x st => if liveL x st then kMth2 m x (evs cf es e st) else .stuck
def kRv2 (x : PV) (r : Res PV) : Res PV := r.bind fun y st2 => .ofO (rvV (deref st2 x) y) st2
def kRv (cf : CF) (b : PX) (e : Env) (r : Res PV) : Res PV := r.bind fun x st1 => kRv2 x (ev cf b e st1)
def kSm2 (m : Sm1) (s : List Nat) (r : Res PV) : Res PV := r.bind fun y st2 => .ofO (smV m s (deref st2 y)) st2
def kSm (cf : CF) (m : Sm1) (b : PX) (e : Env) (r : Res PV) : Res PV := r.bind fun x st1 => match x with
  | .str s => kSm2 m s (ev cf b e st1)
  | _ => .stuck
def kIsi (ts : List Ty) (r : Res PV) : Res PV := r.bind fun x st => .ofO ((isiV (deref st x) ts).map .bl) st
def kCall (cf : CF) (f : Nat) (r : Res (List PV)) : Res PV := r.bind fun vs st => cf f vs st
def kBi (b : Bi) (r : Res (List PV)) : Res PV := r.bind fun vs st => .ofO (biV b (derefs st vs)) st
def kCons2 (x : PV) (r : Res (List PV)) : Res (List PV) := r.bind fun xs st => .ok (x :: xs) st
def kCons (cf : CF) (p : PXs) (e : Env) (r : Res PV) : Res (List PV) := r.bind fun x st => kCons2 x (evs cf p e st)
def kBop (cf : CF) (op : PySem.BoolOp) (p : PXs) (e : Env) (r : Res PV) : Res PV := r.bind fun x st1 => match x with
    | .bl k => match op, k with
      | .And, true => evB cf op p e st1
      | .And, false => .ok (.bl false) st1
      | .Or, true => .ok (.bl true) st1
      | .Or, false => evB cf op p e st1
    | _ => .stuck
def kTru (r : Res PV) : Res Bool := r.bind fun x st => .ofO (truV (deref st x)) st
def kTc2 (op : PySem.CmpOp) (x : PV) (r : Res PV) : Res Bool := r.bind fun y st => .ofO (cmpV op (deref st x) (deref st y)) st
def kTc (cf : CF) (op : PySem.CmpOp) (b : PX) (e : Env) (r : Res PV) : Res Bool := r.bind fun x st => kTc2 op x (ev cf b e st)
def kTn4 (op' : PySem.CmpOp) (y : PV) (r : Res PV) : Res Bool := r.bind fun z st => .ofO (cmpV op' (deref st y) (deref st z)) st
def kTn3 (cf : CF) (op' : PySem.CmpOp) (c : PX) (e : Env) (y : PV) (r : Res Bool) : Res Bool := r.bind fun k st => if k then kTn4 op' y (ev cf c e st) else .ok false st
def kTn2 (cf : CF) (op op' : PySem.CmpOp) (c : PX) (e : Env) (x : PV) (r : Res PV) : Res Bool := r.bind fun y st => kTn3 cf op' c e y (.ofO (cmpV op (deref st x) (deref st y)) st)
def kTn (cf : CF) (op op' : PySem.CmpOp) (b c : PX) (e : Env) (r : Res PV) : Res Bool := r.bind fun x st => kTn2 cf op op' c e x (ev cf b e st)
def kTnt (r : Res Bool) : Res Bool := r.bind fun b st => .ok (!b) st
def kTb (cf : CF) (op : PySem.BoolOp) (p : PTs) (e : Env) (r : Res Bool) : Res Bool := r.bind fun k st1 => match op, k with
      | .And, true => evBT cf op p e st1
      | .And, false => .ok false st1
      | .Or, true => .ok true st1
      | .Or, false => evBT cf op p e st1
def kO (r : Res PV) : Res (Option Int) := r.bind fun x st => .ofO (ivO x) st
def kSeqI (r : Res PV) : Res (List PV) := r.bind fun x st => .ofO (itV x) st
def kRng (r : Res (List PV)) : Res (List PV) := r.bind fun vs st => .ofO (rngV vs) st
def kEnum (r : Res PV) : Res (List PV) := r.bind fun x st => .ofO ((itV x).map (enumL 0)) st
def kZip2 (x : PV) (r : Res PV) : Res (List PV) := r.bind fun y st => .ofO ((itV x).bind fun xs => (itV y).map fun ys => zipL xs ys) st
def kZip (cf : CF) (b : PX) (e : Env) (r : Res PV) : Res (List PV) := r.bind fun x st => kZip2 x (ev cf b e st)
/-- one item of a comprehension -/
def kEl (r : Res PV) : Res (Option PV) := r.bind fun v st => .ok (some v) st
def kCf2 (cf : CF) (el : PX) (e1 : Env) (r : Res Bool) : Res (Option PV) := r.bind fun b st => if b then kEl (ev cf el e1 st) else .ok none st
def kCf (cf : CF) (c : PT) (el : PX) (st : Sto) : Option Env → Res (Option PV)
  | none => .stuck
  | some e1 => kCf2 cf el e1 (evT cf c e1 st)
def compF (cf : CF) (t : Tg) (c : PT) (el : PX) (e : Env) (x : PV) (st : Sto) : Res (Option PV) := kCf cf c el st (asgT t x e)
def kCompE (r : Res (List PV)) : Res PV := r.calm.bind fun vs st => .ok (.lst vs) st
def kComp (cf : CF) (t : Tg) (c : PT) (el : PX) (e : Env) (r : Res (List PV)) : Res PV := r.bind fun items st => if items.length ≤ SZ then kCompE (compL (compF cf t c el e) items st) else .stuck
def kSeq (cf : CF) (b : PS) : Out → Out
  | .next e st => run cf b e st
  | .brk e st => .brk e st
  | .cnt e st => .cnt e st
  | .ret v st => .ret v st
  | .exc c e st => .exc c e st
  | .stuck => .stuck
def kAsg2 (st : Sto) : Option Env → Out
  | some e => .next e st
  | none => .stuck
def kAsg (t : Tg) (e : Env) (r : Res PV) : Out := r.out e fun v st => kAsg2 st (asgT t v e)
def kPar (is : List Nat) (e : Env) (r : Res (List PV)) : Out := r.out e fun vs st => kAsg2 st (setAll is vs e)
def kExp (e : Env) (r : Res PV) : Out := r.out e fun _ st => .next e st
def kRet (e : Env) (r : Res PV) : Out := r.out e fun v st => .ret v st
def kIte (cf : CF) (a b : PS) (e : Env) (r : Res Bool) : Out := r.out e fun k st => if k then run cf a e st else run cf b e st
def kFor2 (cf : CF) (b : PS) (st : Sto) : Option Env → Out
  | none => .stuck
  | some e => run cf b e st
def forF (cf : CF) (t : Tg) (b : PS) (x : PV) (e : Env) (st : Sto) : Out := kFor2 cf b st (asgT t x e)
def kFor (cf : CF) (t : Tg) (b : PS) (e : Env) (r : Res (List PV)) : Out := r.out e fun items st => forL (forF cf t b) items e st
/-- a call's end -/
def kFn (st0 : Sto) : Out → Res PV
  | .ret v st1 => fin st0 v st1
  | .next _ st1 => fin st0 .non st1
  | .exc c _ st1 => finX st0 c st1
  | _ => .stuck
section
variable {cf : CF} {e : Env} {st : Sto}
@[simp] theorem v_cst {v : PV} : ev cf (.cst v) e st = .ok v st := by simp only [ev]
@[simp] theorem v_glb {x : PySem.Str} {v : PV} : ev cf (.glb x v) e st = .ok v st := by simp only [ev]
@[simp] theorem v_tup {es : PXs} : ev cf (.tup es) e st = kTup (evs cf es e st) := by simp only [ev]; cases evs cf es e st <;> rfl
@[simp] theorem v_lst {es : PXs} : ev cf (.lst es) e st = kLst (evs cf es e st) := by simp only [ev]; cases evs cf es e st <;> rfl
@[simp] theorem v_bin {op : PySem.Operator} {a b : PX} : ev cf (.bin op a b) e st = kBin cf op b e (ev cf a e st) := by simp only [ev]; rfl
@[simp] theorem v_cmp {op : PySem.CmpOp} {a b : PX} : ev cf (.cmp op a b) e st = kCmp cf op b e (ev cf a e st) := by simp only [ev]; rfl
@[simp] theorem v_cmp2 {op op' : PySem.CmpOp} {a b c : PX} : ev cf (.cmp2 op op' a b c) e st = kChn cf op op' b c e (ev cf a e st) := by simp only [ev]; rfl
@[simp] theorem v_bop {op : PySem.BoolOp} {es : PXs} : ev cf (.bop op es) e st = evB cf op es e st := by simp only [ev]
@[simp] theorem v_nt {a : PX} : ev cf (.nt a) e st = kNt (ev cf a e st) := by simp only [ev]; rfl
@[simp] theorem v_neg {a : PX} : ev cf (.neg a) e st = kNeg (ev cf a e st) := by simp only [ev]; rfl
@[simp] theorem v_ite {c : PT} {a b : PX} : ev cf (.ite c a b) e st = kIf cf a b e (evT cf c e st) := by simp only [ev]; rfl
@[simp] theorem v_sub {a i : PX} : ev cf (.sub a i) e st = kAt cf i e (ev cf a e st) := by simp only [ev]; rfl
@[simp] theorem v_slc {a : PX} {lo hi : PO} : ev cf (.slc a lo hi) e st = kSl cf lo hi e (ev cf a e st) := by simp only [ev]; rfl
@[simp] theorem v_call {f : Nat} {es : PXs} : ev cf (.call f es) e st = kCall cf f (evs cf es e st) := by simp only [ev]; rfl
@[simp] theorem v_bi {b : Bi} {es : PXs} : ev cf (.bi b es) e st = kBi b (evs cf es e st) := by simp only [ev]; rfl
@[simp] theorem v_comp {own : List Nat} {t : Tg} {s : Src} {c : PT} {el : PX} : ev cf (.comp own t s c el) e st = kComp cf t c el (wipeR e own) (evI cf s e st) := by
  simp only [ev]
  rfl
@[simp] theorem v_nlst {es : PXs} : ev cf (.nlst es) e st = kNls (evs cf es e st) := by simp only [ev]; cases evs cf es e st <;> rfl
@[simp] theorem v_nof {a : PX} : ev cf (.nof a) e st = kNof (ev cf a e st) := by
  simp only [ev]
  cases ev cf a e st with
  | ok x st1 =>
    simp only [Res.bind_ok, kNof]
    cases bList [deref st1 x] with
    | none => rfl
    | some v => cases v <;> rfl
  | exc c st1 => rfl
  | stuck => rfl
@[simp] theorem v_fz {a : PX} : ev cf (.fz a) e st = kFz (ev cf a e st) := by simp only [ev]; rfl
@[simp] theorem v_mth {m : Mth} {a : PX} {es : PXs} : ev cf (.mth m a es) e st = kMth cf m es e (ev cf a e st) := by simp only [ev]; rfl
@[simp] theorem v_rv {a b : PX} : ev cf (.rv a b) e st = kRv cf b e (ev cf a e st) := by simp only [ev]; rfl
@[simp] theorem v_sm {m : Sm1} {a b : PX} : ev cf (.sm m a b) e st = kSm cf m b e (ev cf a e st) := by simp only [ev]; rfl
@[simp] theorem v_isi {a : PX} {ts : List Ty} : ev cf (.isi a ts) e st = kIsi ts (ev cf a e st) := by simp only [ev]; rfl
theorem v_var {i : Nat} {v : PV} (h : e[i]? = some (some v)) : ev cf (.var i) e st = .ok v st := by simp only [ev, h]
@[simp] theorem v_var0 {v : PV} {r : Env} : ev cf (.var 0) (some v :: r) st = .ok v st := v_var rfl
@[simp] theorem v_varS {i : Nat} {o : Option PV} {r : Env} : ev cf (.var (i + 1)) (o :: r) st = ev cf (.var i) r st := by simp only [ev, List.getElem?_cons_succ]
@[simp] theorem vs_nil : evs cf .nil e st = .ok [] st := by simp only [evs]
@[simp] theorem vs_cons {a : PX} {r : PXs} : evs cf (.cons a r) e st = kCons cf r e (ev cf a e st) := by simp only [evs]; rfl
@[simp] theorem vb_one {op : PySem.BoolOp} {a : PX} : evB cf op (.cons a .nil) e st = ev cf a e st := by simp only [evB]
@[simp] theorem vb_cons {op : PySem.BoolOp} {a b : PX} {r : PXs} : evB cf op (.cons a (.cons b r)) e st = kBop cf op (.cons b r) e (ev cf a e st) := by simp only [evB]; rfl
@[simp] theorem vt_yes : evT cf .yes e st = .ok true st := by simp only [evT]
@[simp] theorem vt_val {p : PX} : evT cf (.val p) e st = kTru (ev cf p e st) := by simp only [evT]; rfl
@[simp] theorem vt_cmp {op : PySem.CmpOp} {a b : PX} : evT cf (.cmp op a b) e st = kTc cf op b e (ev cf a e st) := by simp only [evT]; rfl
@[simp] theorem vt_cmp2 {op op' : PySem.CmpOp} {a b c : PX} : evT cf (.cmp2 op op' a b c) e st = kTn cf op op' b c e (ev cf a e st) := by simp only [evT]; rfl
@[simp] theorem vt_bop {op : PySem.BoolOp} {es : PTs} : evT cf (.bop op es) e st = evBT cf op es e st := by simp only [evT]
@[simp] theorem vt_nt {a : PT} : evT cf (.nt a) e st = kTnt (evT cf a e st) := by simp only [evT]; rfl
@[simp] theorem vbt_one {op : PySem.BoolOp} {a : PT} : evBT cf op (.cons a .nil) e st = evT cf a e st := by simp only [evBT]
@[simp] theorem vbt_cons {op : PySem.BoolOp} {a b : PT} {r : PTs} : evBT cf op (.cons a (.cons b r)) e st = kTb cf op (.cons b r) e (evT cf a e st) := by simp only [evBT]; rfl
@[simp] theorem vo_no : evO cf .no e st = .ok none st := by simp only [evO]
@[simp] theorem vo_some {p : PX} : evO cf (.some p) e st = kO (ev cf p e st) := by simp only [evO]; rfl
@[simp] theorem vi_seq {a : PX} : evI cf (.seq a) e st = kSeqI (ev cf a e st) := by simp only [evI]; rfl
@[simp] theorem vi_rng {es : PXs} : evI cf (.rng es) e st = kRng (evs cf es e st) := by simp only [evI]; rfl
@[simp] theorem vi_enum {a : PX} : evI cf (.enum a) e st = kEnum (ev cf a e st) := by simp only [evI]; rfl
@[simp] theorem vi_zip {a b : PX} : evI cf (.zip a b) e st = kZip cf b e (ev cf a e st) := by simp only [evI]; rfl
@[simp] theorem r_skip : run cf .skip e st = .next e st := by simp only [run]
@[simp] theorem r_seq {a b : PS} : run cf (.seq a b) e st = kSeq cf b (run cf a e st) := by simp only [run]; cases run cf a e st <;> rfl
@[simp] theorem r_asg {t : Tg} {x : PX} : run cf (.asg t x) e st = kAsg t e (ev cf x e st) := by
  simp only [run]
  rfl
@[simp] theorem r_par {is : List Nat} {es : PXs} : run cf (.par is es) e st = kPar is e (evs cf es e st) := by
  simp only [run]
  rfl
@[simp] theorem r_exp {x : PX} : run cf (.exp x) e st = kExp e (ev cf x e st) := by simp only [run]; rfl
@[simp] theorem r_ret {x : PX} : run cf (.ret x) e st = kRet e (ev cf x e st) := by simp only [run]; rfl
@[simp] theorem r_ite {c : PT} {a b : PS} : run cf (.ite c a b) e st = kIte cf a b e (evT cf c e st) := by simp only [run]; rfl
@[simp] theorem r_fr {t : Tg} {s : Src} {b : PS} : run cf (.fr t s b) e st = kFor cf t b e (evI cf s e st) := by
  simp only [run]
  rfl
@[simp] theorem r_wh {c : PT} {b : PS} : run cf (.wh c b) e st = whL (fun e1 st1 => evT cf c e1 st1) (fun e1 st1 => run cf b e1 st1) WH e st := by simp only [run]
@[simp] theorem r_brk : run cf .brk e st = .brk e st := by simp only [run]
@[simp] theorem r_cnt : run cf .cnt e st = .cnt e st := by simp only [run]
end
theorem runD_of {cf : CF} {d : Dd} {args : List PV} {st : Sto} (h : args.length = d.ps.length) : runD cf d args st = kFn st (run cf d.body (start d args) st) := by
  unfold runD
  rw [if_pos h]
  cases run cf d.body (start d args) st <;> rfl
section
variable {cf : CF} {e : Env} {st : Sto}
@[simp] theorem k_tup (vs : List PV) : kTup (.ok vs st) = if vs.length ≤ SZ then .ok (.tup vs) st else .stuck := (rfl)
@[simp] theorem k_lst (vs : List PV) : kLst (.ok vs st) = if vs.length ≤ SZ then .ok (.lst vs) st else .stuck := (rfl)
@[simp] theorem k_bin (op : PySem.Operator) (b : PX) (x : PV) : kBin cf op b e (.ok x st) = kBin2 op x (ev cf b e st) := (rfl)
@[simp] theorem k_bin2 (op : PySem.Operator) (x y : PV) : kBin2 op x (.ok y st) = .ofO (binV op (deref st x) (deref st y)) st := (rfl)
@[simp] theorem k_cmp (op : PySem.CmpOp) (b : PX) (x : PV) : kCmp cf op b e (.ok x st) = kCmp2 op x (ev cf b e st) := (rfl)
@[simp] theorem k_cmp2 (op : PySem.CmpOp) (x y : PV) : kCmp2 op x (.ok y st) = .ofO ((cmpV op (deref st x) (deref st y)).map .bl) st := (rfl)
@[simp] theorem k_chn (op op' : PySem.CmpOp) (b c : PX) (x : PV) : kChn cf op op' b c e (.ok x st) = kChn2 cf op op' c e x (ev cf b e st) := (rfl)
@[simp] theorem k_chn2 (op op' : PySem.CmpOp) (c : PX) (x y : PV) : kChn2 cf op op' c e x (.ok y st) = kChn3 cf op' c e y (.ofO (cmpV op (deref st x) (deref st y)) st) := (rfl)
@[simp] theorem k_chn3t (op' : PySem.CmpOp) (c : PX) (y : PV) : kChn3 cf op' c e y (.ok true st) = kChn4 op' y (ev cf c e st) := (rfl)
@[simp] theorem k_chn3f (op' : PySem.CmpOp) (c : PX) (y : PV) : kChn3 cf op' c e y (.ok false st) = .ok (.bl false) st := (rfl)
@[simp] theorem k_chn4 (op' : PySem.CmpOp) (y z : PV) : kChn4 op' y (.ok z st) = .ofO ((cmpV op' (deref st y) (deref st z)).map .bl) st := (rfl)
@[simp] theorem k_nt (b : Bool) : kNt (.ok (.bl b) st) = .ok (.bl (!b)) st := (rfl)
@[simp] theorem k_neg (i : Int) : kNeg (.ok (.int i) st) = .ok (.int (-i)) st := (rfl)
@[simp] theorem k_ift (a b : PX) : kIf cf a b e (.ok true st) = ev cf a e st := (rfl)
@[simp] theorem k_iff (a b : PX) : kIf cf a b e (.ok false st) = ev cf b e st := (rfl)
@[simp] theorem k_at (i : PX) (x : PV) : kAt cf i e (.ok x st) = kAt2 x (ev cf i e st) := (rfl)
@[simp] theorem k_at2 (x y : PV) : kAt2 x (.ok y st) = .ofO (atV (deref st x) y) st := (rfl)
@[simp] theorem k_sl (lo hi : PO) (x : PV) : kSl cf lo hi e (.ok x st) = kSl2 cf hi e x (evO cf lo e st) := (rfl)
@[simp] theorem k_sl2 (hi : PO) (x : PV) (l : Option Int) : kSl2 cf hi e x (.ok l st) = kSl3 x l (evO cf hi e st) := (rfl)
@[simp] theorem k_sl3 (x : PV) (l h : Option Int) : kSl3 x l (.ok h st) = .ofO (slV (deref st x) l h) st := (rfl)
@[simp] theorem k_nls (vs : List PV) : kNls (.ok vs st) = if vs.length ≤ SZ then .ok (.ref st.length) (st ++ [.lst vs]) else .stuck := (rfl)
@[simp] theorem k_nof (x : PV) : kNof (.ok x st) = kNof2 st (bList [deref st x]) := (rfl)
@[simp] theorem k_nof2 (xs : List PV) : kNof2 st (some (.lst xs)) = .ok (.ref st.length) (st ++ [.lst xs]) := (rfl)
@[simp] theorem k_fz (x : PV) : kFz (.ok x st) = fzV x st := (rfl)
@[simp] theorem k_mth (m : Mth) (es : PXs) (x : PV) : kMth cf m es e (.ok x st) = if liveL x st then kMth2 m x (evs cf es e st) else .stuck := (rfl)
@[simp] theorem k_mth2 (m : Mth) (x : PV) (vs : List PV) : kMth2 m x (.ok vs st) = mthV m x vs st := (rfl)
@[simp] theorem k_rv (b : PX) (x : PV) : kRv cf b e (.ok x st) = kRv2 x (ev cf b e st) := (rfl)
@[simp] theorem k_rv2 (x y : PV) : kRv2 x (.ok y st) = .ofO (rvV (deref st x) y) st := (rfl)
@[simp] theorem rv_t (xs : List PV) : rvV (.tup xs) (.int (-1)) = some (.tup xs.reverse) := (rfl)
@[simp] theorem k_sm (m : Sm1) (b : PX) (s : List Nat) : kSm cf m b e (.ok (.str s) st) = kSm2 m s (ev cf b e st) := (rfl)
@[simp] theorem k_sm2 (m : Sm1) (s : List Nat) (y : PV) : kSm2 m s (.ok y st) = .ofO (smV m s (deref st y)) st := (rfl)
@[simp] theorem k_isi (ts : List Ty) (x : PV) : kIsi ts (.ok x st) = .ofO ((isiV (deref st x) ts).map .bl) st := (rfl)
@[simp] theorem d_non : deref st .non = .non := (rfl)
@[simp] theorem d_bl (b : Bool) : deref st (.bl b) = .bl b := (rfl)
@[simp] theorem d_int (i : Int) : deref st (.int i) = .int i := (rfl)
@[simp] theorem d_str (s : List Nat) : deref st (.str s) = .str s := (rfl)
@[simp] theorem d_tup (xs : List PV) : deref st (.tup xs) = .tup xs := (rfl)
@[simp] theorem d_lst (xs : List PV) : deref st (.lst xs) = .lst xs := (rfl)
@[simp] theorem d_scr (ns : List Int) : deref st (.scr ns) = .scr ns := (rfl)
theorem d_ref {l : Nat} {xs : List PV} (h : st[l]? = some (.lst xs)) : deref st (.ref l) = .lst xs := by simp [deref, h]
@[simp] theorem ds_nil : derefs st [] = [] := (rfl)
@[simp] theorem ds_cons (x : PV) (xs : List PV) : derefs st (x :: xs) = deref st x :: derefs st xs := (rfl)
@[simp] theorem k_call (f : Nat) (vs : List PV) : kCall cf f (.ok vs st) = cf f vs st := (rfl)
@[simp] theorem k_bi (b : Bi) (vs : List PV) : kBi b (.ok vs st) = .ofO (biV b (derefs st vs)) st := (rfl)
@[simp] theorem k_cons (p : PXs) (x : PV) : kCons cf p e (.ok x st) = kCons2 x (evs cf p e st) := (rfl)
@[simp] theorem k_cons2 (x : PV) (xs : List PV) : kCons2 x (.ok xs st) = .ok (x :: xs) st := (rfl)
@[simp] theorem k_andt (p : PXs) : kBop cf .And p e (.ok (.bl true) st) = evB cf .And p e st := (rfl)
@[simp] theorem k_andf (p : PXs) : kBop cf .And p e (.ok (.bl false) st) = .ok (.bl false) st := (rfl)
@[simp] theorem k_ort (p : PXs) : kBop cf .Or p e (.ok (.bl true) st) = .ok (.bl true) st := (rfl)
@[simp] theorem k_orf (p : PXs) : kBop cf .Or p e (.ok (.bl false) st) = evB cf .Or p e st := (rfl)
@[simp] theorem k_tru (x : PV) : kTru (.ok x st) = .ofO (truV (deref st x)) st := (rfl)
@[simp] theorem k_tc (op : PySem.CmpOp) (b : PX) (x : PV) : kTc cf op b e (.ok x st) = kTc2 op x (ev cf b e st) := (rfl)
@[simp] theorem k_tc2 (op : PySem.CmpOp) (x y : PV) : kTc2 op x (.ok y st) = .ofO (cmpV op (deref st x) (deref st y)) st := (rfl)
@[simp] theorem k_tn (op op' : PySem.CmpOp) (b c : PX) (x : PV) : kTn cf op op' b c e (.ok x st) = kTn2 cf op op' c e x (ev cf b e st) := (rfl)
@[simp] theorem k_tn2 (op op' : PySem.CmpOp) (c : PX) (x y : PV) : kTn2 cf op op' c e x (.ok y st) = kTn3 cf op' c e y (.ofO (cmpV op (deref st x) (deref st y)) st) := (rfl)
@[simp] theorem k_tn3t (op' : PySem.CmpOp) (c : PX) (y : PV) : kTn3 cf op' c e y (.ok true st) = kTn4 op' y (ev cf c e st) := (rfl)
@[simp] theorem k_tn3f (op' : PySem.CmpOp) (c : PX) (y : PV) : kTn3 cf op' c e y (.ok false st) = .ok false st := (rfl)
@[simp] theorem k_tn4 (op' : PySem.CmpOp) (y z : PV) : kTn4 op' y (.ok z st) = .ofO (cmpV op' (deref st y) (deref st z)) st := (rfl)
@[simp] theorem k_tnt (b : Bool) : kTnt (.ok b st) = .ok (!b) st := (rfl)
@[simp] theorem k_tandt (p : PTs) : kTb cf .And p e (.ok true st) = evBT cf .And p e st := (rfl)
@[simp] theorem k_tandf (p : PTs) : kTb cf .And p e (.ok false st) = .ok false st := (rfl)
@[simp] theorem k_tort (p : PTs) : kTb cf .Or p e (.ok true st) = .ok true st := (rfl)
@[simp] theorem k_torf (p : PTs) : kTb cf .Or p e (.ok false st) = evBT cf .Or p e st := (rfl)
@[simp] theorem k_o (x : PV) : kO (.ok x st) = .ofO (ivO x) st := (rfl)
@[simp] theorem k_seqI (x : PV) : kSeqI (.ok x st) = .ofO (itV x) st := (rfl)
@[simp] theorem k_rng (vs : List PV) : kRng (.ok vs st) = .ofO (rngV vs) st := (rfl)
@[simp] theorem k_enum (x : PV) : kEnum (.ok x st) = .ofO ((itV x).map (enumL 0)) st := (rfl)
@[simp] theorem k_zip (b : PX) (x : PV) : kZip cf b e (.ok x st) = kZip2 x (ev cf b e st) := (rfl)
@[simp] theorem k_zip2 (x y : PV) : kZip2 x (.ok y st) = .ofO ((itV x).bind fun xs => (itV y).map fun ys => zipL xs ys) st := (rfl)
@[simp] theorem compF_eq (t : Tg) (c : PT) (el : PX) (x : PV) : compF cf t c el e x st = kCf cf c el st (asgT t x e) := (rfl)
@[simp] theorem k_cf (c : PT) (el : PX) (e1 : Env) : kCf cf c el st (some e1) = kCf2 cf el e1 (evT cf c e1 st) := (rfl)
@[simp] theorem k_cf2t (el : PX) : kCf2 cf el e (.ok true st) = kEl (ev cf el e st) := (rfl)
@[simp] theorem k_cf2f (el : PX) : kCf2 cf el e (.ok false st) = .ok none st := (rfl)
@[simp] theorem k_el (v : PV) : kEl (.ok v st) = .ok (some v) st := (rfl)
@[simp] theorem k_compE (vs : List PV) : kCompE (.ok vs st) = .ok (.lst vs) st := (rfl)
@[simp] theorem k_comp (t : Tg) (c : PT) (el : PX) (items : List PV) : kComp cf t c el e (.ok items st) = if items.length ≤ SZ then kCompE (compL (compF cf t c el e) items st) else .stuck := (rfl)
@[simp] theorem k_seqn (b : PS) : kSeq cf b (.next e st) = run cf b e st := (rfl)
@[simp] theorem k_seqb (b : PS) : kSeq cf b (.brk e st) = .brk e st := (rfl)
@[simp] theorem k_seqc (b : PS) : kSeq cf b (.cnt e st) = .cnt e st := (rfl)
@[simp] theorem k_seqr (b : PS) (v : PV) : kSeq cf b (.ret v st) = .ret v st := (rfl)
@[simp] theorem k_seqx (b : PS) (c : Nat) : kSeq cf b (.exc c e st) = .exc c e st := (rfl)
@[simp] theorem k_asg (t : Tg) (v : PV) : kAsg t e (.ok v st) = kAsg2 st (asgT t v e) := (rfl)
@[simp] theorem k_asg2 : kAsg2 st (some e) = .next e st := (rfl)
@[simp] theorem k_par (is : List Nat) (vs : List PV) : kPar is e (.ok vs st) = kAsg2 st (setAll is vs e) := (rfl)
@[simp] theorem k_exp (v : PV) : kExp e (.ok v st) = .next e st := (rfl)
@[simp] theorem k_ret (v : PV) : kRet e (.ok v st) = .ret v st := (rfl)
@[simp] theorem k_itet (a b : PS) : kIte cf a b e (.ok true st) = run cf a e st := (rfl)
@[simp] theorem k_itef (a b : PS) : kIte cf a b e (.ok false st) = run cf b e st := (rfl)
@[simp] theorem k_for (t : Tg) (b : PS) (items : List PV) : kFor cf t b e (.ok items st) = forL (forF cf t b) items e st := (rfl)
@[simp] theorem forF_eq (t : Tg) (b : PS) (x : PV) : forF cf t b x e st = kFor2 cf b st (asgT t x e) := (rfl)
@[simp] theorem k_for2 (b : PS) : kFor2 cf b st (some e) = run cf b e st := (rfl)
@[simp] theorem k_fnr (v : PV) : kFn st (.ret v st) = .ok v st := fin_same st v
@[simp] theorem k_fnn : kFn st (.next e st) = .ok .non st := fin_same st .non
theorem k_fnA {cs : Sto} {v : PV} (h : v.under st.length = true) : kFn st (.ret v (st ++ cs)) = .ok v st := fin_app st cs v h
@[simp] theorem k_fnx (c : Nat) : kFn st (.exc c e st) = .exc c st := finX_same st c
end
@[simp] theorem ofO_some {α : Type} (a : α) (st : Sto) : Res.ofO (some a) st = .ok a st := (rfl)
@[simp] theorem ofO_ite {α : Type} (c : Prop) [Decidable c] (a : Option α) (st : Sto) (h : c) : Res.ofO (if c then a else none) st = .ofO a st := by rw [if_pos h]
@[simp] theorem b_add {a b : PV} : binV .Add a b = addV a b := (rfl)
@[simp] theorem b_sub {a b : PV} : binV .Sub a b = subV a b := (rfl)
@[simp] theorem b_mul {a b : PV} : binV .Mult a b = mulV a b := (rfl)
@[simp] theorem b_fdiv {a b : PV} : binV .FloorDiv a b = fdivV a b := (rfl)
@[simp] theorem b_mod {a b : PV} : binV .Mod a b = modV a b := (rfl)
@[simp] theorem add_ii (i j : Int) : addV (.int i) (.int j) = some (.int (i + j)) := (rfl)
@[simp] theorem add_ss (a b : List Nat) : addV (.str a) (.str b) = if a.length + b.length ≤ SZ then some (.str (a ++ b)) else none := (rfl)
@[simp] theorem add_tt (a b : List PV) : addV (.tup a) (.tup b) = if a.length + b.length ≤ SZ then some (.tup (a ++ b)) else none := (rfl)
@[simp] theorem add_ll (a b : List PV) : addV (.lst a) (.lst b) = if a.length + b.length ≤ SZ then some (.lst (a ++ b)) else none := (rfl)
@[simp] theorem sub_ii (i j : Int) : subV (.int i) (.int j) = some (.int (i - j)) := (rfl)
@[simp] theorem mul_ii (i j : Int) : mulV (.int i) (.int j) = if small64 i || small64 j then some (.int (i * j)) else none := (rfl)
@[simp] theorem fdiv_ii (i j : Int) : fdivV (.int i) (.int j) = if 0 < j ∧ j < 1073741824 then some (.int (i / j)) else none := (rfl)
@[simp] theorem mod_ii (i j : Int) : modV (.int i) (.int j) = if 0 < j then some (.int (i % j)) else none := (rfl)
@[simp] theorem c_eq {a b : PV} : cmpV .Eq a b = eqV a b := (rfl)
@[simp] theorem c_ne {a b : PV} : cmpV .NotEq a b = (eqV a b).map (!·) := (rfl)
@[simp] theorem c_lt {a b : PV} : cmpV .Lt a b = ltV a b := (rfl)
@[simp] theorem c_le {a b : PV} : cmpV .LtE a b = leV a b := (rfl)
@[simp] theorem c_gt {a b : PV} : cmpV .Gt a b = ltV b a := (rfl)
@[simp] theorem c_ge {a b : PV} : cmpV .GtE a b = leV b a := (rfl)
@[simp] theorem c_is {a b : PV} : cmpV .Is a b = isV a b := (rfl)
@[simp] theorem c_isnot {a b : PV} : cmpV .IsNot a b = (isV a b).map (!·) := (rfl)
@[simp] theorem c_in {a b : PV} : cmpV .In a b = inV a b := (rfl)
@[simp] theorem c_notin {a b : PV} : cmpV .NotIn a b = (inV a b).map (!·) := (rfl)
@[simp] theorem eq_ii (i j : Int) : eqV (.int i) (.int j) = some (decide (i = j)) := (rfl)
@[simp] theorem eq_ss (a b : List Nat) : eqV (.str a) (.str b) = some (decide (a = b)) := (rfl)
@[simp] theorem lt_ii (i j : Int) : ltV (.int i) (.int j) = some (decide (i < j)) := (rfl)
@[simp] theorem le_ii (i j : Int) : leV (.int i) (.int j) = some (decide (i ≤ j)) := (rfl)
@[simp] theorem is_nn : isV .non .non = some true := (rfl)
@[simp] theorem is_tn (xs : List PV) : isV (.tup xs) .non = some false := (rfl)
@[simp] theorem is_ln (xs : List PV) : isV (.lst xs) .non = some false := (rfl)
@[simp] theorem is_in (i : Int) : isV (.int i) .non = some false := (rfl)
@[simp] theorem is_sn (s : List Nat) : isV (.str s) .non = some false := (rfl)
@[simp] theorem is_bn (b : Bool) : isV (.bl b) .non = some false := (rfl)
@[simp] theorem is_bb (a b : Bool) : isV (.bl a) (.bl b) = some (decide (a = b)) := (rfl)
@[simp] theorem in_cs (c : Nat) (t : List Nat) : inV (.str [c]) (.str t) = some (decide (c ∈ t)) := (rfl)
@[simp] theorem in_stup (s : List Nat) (xs : List PV) : inV (.str s) (.tup xs) = (strsV xs).map fun ts => decide (s ∈ ts) := by
  rcases s with _ | ⟨c, _ | ⟨d, r⟩⟩ <;> rfl
@[simp] theorem in_slst (s : List Nat) (xs : List PV) : inV (.str s) (.lst xs) = (strsV xs).map fun ts => decide (s ∈ ts) := by
  rcases s with _ | ⟨c, _ | ⟨d, r⟩⟩ <;> rfl
@[simp] theorem strs_nil : strsV [] = some [] := (rfl)
@[simp] theorem strs_cons (s : List Nat) (r : List PV) : strsV (.str s :: r) = (strsV r).map (s :: ·) := (rfl)
@[simp] theorem in_ituple (i : Int) (xs : List PV) : inV (.int i) (.tup xs) = (intsW xs).map fun ns => decide (i ∈ ns) := (rfl)
@[simp] theorem in_ilst (i : Int) (xs : List PV) : inV (.int i) (.lst xs) = (intsW xs).map fun ns => decide (i ∈ ns) := (rfl)
@[simp] theorem r_nev {cf : CF} {e : Env} {st : Sto} : run cf .nev e st = .stuck := by simp only [run]
@[simp] theorem tru_bl (b : Bool) : truV (.bl b) = some b := (rfl)
@[simp] theorem tru_non : truV .non = some false := (rfl)
@[simp] theorem tru_lst (xs : List PV) : truV (.lst xs) = some (!xs.isEmpty) := (rfl)
@[simp] theorem tru_tup (xs : List PV) : truV (.tup xs) = some (!xs.isEmpty) := (rfl)
@[simp] theorem tru_str (s : List Nat) : truV (.str s) = some (!s.isEmpty) := (rfl)
@[simp] theorem at_t (xs : List PV) (i : Int) : atV (.tup xs) (.int i) = L2.atI xs i := (rfl)
@[simp] theorem at_l (xs : List PV) (i : Int) : atV (.lst xs) (.int i) = L2.atI xs i := (rfl)
@[simp] theorem at_s (xs : List Nat) (i : Int) : atV (.str xs) (.int i) = (L2.atI xs i).map fun c => .str [c] := (rfl)
@[simp] theorem at_c (xs : List Int) (i : Int) : atV (.scr xs) (.int i) = (L2.atI xs i).map .int := (rfl)
@[simp] theorem atI_0 {α : Type} (x : α) (r : List α) : L2.atI (x :: r) 0 = some x := by simp [L2.atI, L2.ixN]
@[simp] theorem atI_1 {α : Type} (x y : α) (r : List α) : L2.atI (x :: y :: r) 1 = some y := by
  have : (1 : Int) < (r.length : Int) + 1 + 1 := by omega
  simp [L2.atI, L2.ixN, this]
@[simp] theorem atI_2 {α : Type} (x y z : α) (r : List α) : L2.atI (x :: y :: z :: r) 2 = some z := by
  have : (2 : Int) < (r.length : Int) + 1 + 1 + 1 := by omega
  simp [L2.atI, L2.ixN, this]
@[simp] theorem atI_3 {α : Type} (x y z u : α) (r : List α) : L2.atI (x :: y :: z :: u :: r) 3 = some u := by
  have : (3 : Int) < (r.length : Int) + 1 + 1 + 1 + 1 := by omega
  simp [L2.atI, L2.ixN, this]
theorem atI_nat {α : Type} {xs : List α} {i : Nat} {v : α} (h : xs[i]? = some v) : L2.atI xs (i : Int) = some v := L2.atI_nat h
@[simp] theorem sl_t (xs : List PV) (lo hi : Option Int) : slV (.tup xs) lo hi = some (.tup (cutL xs lo hi)) := (rfl)
@[simp] theorem sl_l (xs : List PV) (lo hi : Option Int) : slV (.lst xs) lo hi = some (.lst (cutL xs lo hi)) := (rfl)
@[simp] theorem sl_s (xs : List Nat) (lo hi : Option Int) : slV (.str xs) lo hi = some (.str (cutL xs lo hi)) := (rfl)
@[simp] theorem ivO_int (i : Int) : ivO (.int i) = some (some i) := (rfl)
theorem cut_from {α : Type} (xs : List α) (k : Nat) : cutL xs (some (k : Int)) none = xs.drop k := by
  unfold cutL HT.sIx
  have : ¬ ((k : Int) < 0) := by omega
  simp only [this, if_false, Int.toNat_natCast]
  by_cases h : k ≤ xs.length
  · rw [Nat.min_eq_left h]
    exact List.take_of_length_le (by rw [List.length_drop]; omega)
  · rw [Nat.min_eq_right (by omega), List.drop_length, List.drop_eq_nil_of_le (by omega)]; simp
theorem cut_to {α : Type} (xs : List α) (k : Nat) : cutL xs none (some (k : Int)) = xs.take k := by
  unfold cutL HT.sIx
  have : ¬ ((k : Int) < 0) := by omega
  simp only [this, if_false, Int.toNat_natCast, List.drop_zero, Nat.sub_zero]
  by_cases h : k ≤ xs.length
  · rw [Nat.min_eq_left h]
  · rw [Nat.min_eq_right (by omega), List.take_length, List.take_of_length_le (by omega)]
@[simp] theorem cut_from1 {α : Type} (xs : List α) : cutL xs (some 1) none = xs.drop 1 := cut_from xs 1
@[simp] theorem cut_from2 {α : Type} (xs : List α) : cutL xs (some 2) none = xs.drop 2 := cut_from xs 2
@[simp] theorem it_t (xs : List PV) : itV (.tup xs) = some xs := (rfl)
@[simp] theorem it_l (xs : List PV) : itV (.lst xs) = some xs := (rfl)
@[simp] theorem it_s (s : List Nat) : itV (.str s) = some (s.map fun c => .str [c]) := (rfl)
@[simp] theorem bi_len (as : List PV) : biV .len as = bLen as := (rfl)
@[simp] theorem bi_max1 (as : List PV) : biV .max1 as = bMax1 as := (rfl)
@[simp] theorem bi_min1 (as : List PV) : biV .min1 as = bMin1 as := (rfl)
@[simp] theorem bi_max2 (as : List PV) : biV .max2 as = bMax2 as := (rfl)
@[simp] theorem bi_min2 (as : List PV) : biV .min2 as = bMin2 as := (rfl)
@[simp] theorem bi_sum (as : List PV) : biV .sum as = bSum as := (rfl)
@[simp] theorem bi_tuple (as : List PV) : biV .tuple as = bTuple as := (rfl)
@[simp] theorem bi_list (as : List PV) : biV .list as = bList as := (rfl)
@[simp] theorem bi_all (as : List PV) : biV .all as = bAll as := (rfl)
@[simp] theorem bi_any (as : List PV) : biV .any as = bAny as := (rfl)
@[simp] theorem bi_int (as : List PV) : biV .int as = bInt as := (rfl)
@[simp] theorem len_s (s : List Nat) : bLen [.str s] = some (.int s.length) := (rfl)
@[simp] theorem len_t (s : List PV) : bLen [.tup s] = some (.int s.length) := (rfl)
@[simp] theorem len_l (s : List PV) : bLen [.lst s] = some (.int s.length) := (rfl)
@[simp] theorem len_c (s : List Int) : bLen [.scr s] = some (.int s.length) := (rfl)
@[simp] theorem tuple_l (s : List PV) : bTuple [.lst s] = some (.tup s) := (rfl)
@[simp] theorem tuple_t (s : List PV) : bTuple [.tup s] = some (.tup s) := (rfl)
@[simp] theorem list_l (s : List PV) : bList [.lst s] = some (.lst s) := (rfl)
@[simp] theorem list_t (s : List PV) : bList [.tup s] = some (.lst s) := (rfl)
@[simp] theorem max2_ii (i j : Int) : bMax2 [.int i, .int j] = some (.int (max i j)) := by
  simp only [bMax2]
  by_cases h : j > i
  · rw [if_pos h, Int.max_eq_right (by omega)]
  · rw [if_neg h, Int.max_eq_left (by omega)]
@[simp] theorem min2_ii (i j : Int) : bMin2 [.int i, .int j] = some (.int (min i j)) := by
  simp only [bMin2]
  by_cases h : j < i
  · rw [if_pos h, Int.min_eq_right (by omega)]
  · rw [if_neg h, Int.min_eq_left (by omega)]
theorem intsV_map {α : Type} (f : α → Int) : ∀ l : List α, intsV (l.map fun a => .int (f a)) = some (l.map f)
  | [] => rfl
  | a :: l => by simp [intsV, intsV_map f l]
theorem blsV_map {α : Type} (f : α → Bool) : ∀ l : List α, blsV (l.map fun a => .bl (f a)) = some (l.map f)
  | [] => rfl
  | a :: l => by simp [blsV, blsV_map f l]
@[simp] theorem sum_map {α : Type} (f : α → Int) (l : List α) : bSum [.lst (l.map fun a => .int (f a))] = some (.int (l.map f).sum) := by simp [bSum, intsV_map]
theorem max_map {α : Type} (f : α → Int) (l : List α) (h : l ≠ []) : bMax1 [.lst (l.map fun a => .int (f a))] = some (.int (SM.maxL (l.map f))) := by
  cases l with
  | nil => exact absurd rfl h
  | cons a l =>
    have e := intsV_map f (a :: l)
    simp only [bMax1, e, Option.bind_some]
    rfl
/-! locations -/
@[simp] theorem fz_tup (xs : List PV) (st : Sto) : fzV (.tup xs) st = .ok (.tup xs) st := (rfl)
theorem fz_ref {st : Sto} {l : Nat} {xs : List PV} (h : st[l]? = some (.lst xs)) : fzV (.ref l) st = .ok (.lst xs) (st.set l .dead) := by simp [fzV, h]
@[simp] theorem get_cat (st cs : Sto) : (st ++ cs)[st.length]? = cs[0]? := by rw [List.getElem?_append_right (Nat.le_refl _)]; simp
@[simp] theorem get_cat1 (st cs : Sto) (k : Nat) : (st ++ cs)[st.length + k]? = cs[k]? := by rw [List.getElem?_append_right (Nat.le_add_right _ _)]; simp
@[simp] theorem set_cat (st cs : Sto) (d : Cell) : (st ++ cs).set st.length d = st ++ cs.set 0 d := by rw [List.set_append_right _ _ (Nat.le_refl _)]; simp
@[simp] theorem set_cat1 (st cs : Sto) (k : Nat) (d : Cell) : (st ++ cs).set (st.length + k) d = st ++ cs.set k d := by rw [List.set_append_right _ _ (Nat.le_add_right _ _)]; simp
@[simp] theorem live_cat (st : Sto) (xs : List PV) (cs : Sto) : liveL (.ref st.length) (st ++ .lst xs :: cs) = true := by simp [liveL]
@[simp] theorem deref_cat (st : Sto) (xs : List PV) (cs : Sto) : deref (st ++ .lst xs :: cs) (.ref st.length) = .lst xs := by simp [deref]
@[simp] theorem fz_cat (st : Sto) (xs : List PV) (cs : Sto) : fzV (.ref st.length) (st ++ .lst xs :: cs) = .ok (.lst xs) (st ++ .dead :: cs) := by simp [fzV]
@[simp] theorem app_cat (st : Sto) (xs : List PV) (cs : Sto) (v : PV) : mthV .append (.ref st.length) [v] (st ++ .lst xs :: cs) = if xs.length < SZ then .ok .non (st ++ .lst (xs ++ [v]) :: cs) else .stuck := by simp [mthV]
@[simp] theorem ext_cat (st : Sto) (xs ys : List PV) (cs : Sto) : mthV .extend (.ref st.length) [.lst ys] (st ++ .lst xs :: cs) = if xs.length + ys.length ≤ SZ then .ok .non (st ++ .lst (xs ++ ys) :: cs) else .stuck := by simp [mthV]
@[simp] theorem pop0_cat (st : Sto) (x : PV) (xs : List PV) (cs : Sto) : mthV .pop (.ref st.length) [.int 0] (st ++ .lst (x :: xs) :: cs) = .ok x (st ++ .lst xs :: cs) := by
  have h : L2.ixN (x :: xs).length 0 = some 0 := by simp [L2.ixN]
  simp only [mthV, get_cat, List.getElem?_cons_zero, h, set_cat, List.set_cons_zero, List.eraseIdx_cons_zero]
@[simp] theorem isi_1 (v : PV) (t : Ty) : isiV v [t] = isiB v t := (rfl)
@[simp] theorem isi_2 (v : PV) (t u : Ty) : isiV v [t, u] = (isiB v t).bind fun a => (isiB v u).map fun b => a || b := (rfl)
@[simp] theorem isi_int (i : Int) (t : Ty) : isiB (.int i) t = some (decide (t = .int)) := (rfl)
@[simp] theorem isi_bl (i : Bool) (t : Ty) : isiB (.bl i) t = some (decide (t = .bool) || decide (t = .int)) := (rfl)
@[simp] theorem isi_str (i : List Nat) (t : Ty) : isiB (.str i) t = some (decide (t = .str)) := (rfl)
@[simp] theorem isi_tup (i : List PV) (t : Ty) : isiB (.tup i) t = some (decide (t = .tuple)) := (rfl)
@[simp] theorem isi_non (t : Ty) : isiB .non t = some false := (rfl)
@[simp] theorem isi_lst (i : List PV) (t : Ty) : isiB (.lst i) t = some false := (rfl)
/-! targets -/
@[simp] theorem asg_nm (i : Nat) (v : PV) (e : Env) : asgT (.nm i) v e = some (e.set i (some v)) := by simp only [asgT]
@[simp] theorem asg_tpt (ts : Tgs) (vs : List PV) (e : Env) : asgT (.tp ts) (.tup vs) e = asgTs ts vs e := by simp only [asgT]
@[simp] theorem asg_tpl (ts : Tgs) (vs : List PV) (e : Env) : asgT (.tp ts) (.lst vs) e = asgTs ts vs e := by simp only [asgT]
@[simp] theorem asgs_nil (e : Env) : asgTs .nil [] e = some e := by simp only [asgTs]
@[simp] theorem asgs_cons (t : Tg) (r : Tgs) (v : PV) (vs : List PV) (e : Env) : asgTs (.cons t r) (v :: vs) e = (asgT t v e).bind fun e' => asgTs r vs e' := by simp only [asgTs]
@[simp] theorem setAll_nil (e : Env) : setAll [] [] e = some e := (rfl)
@[simp] theorem setAll_cons (i : Nat) (is : List Nat) (v : PV) (vs : List PV) (e : Env) : setAll (i :: is) (v :: vs) e = setAll is vs (e.set i (some v)) := (rfl)
@[simp] theorem wipeR_nil (e : Env) : wipeR e [] = e := (rfl)
@[simp] theorem wipeR_cons (e : Env) (v : Nat) (vs : List Nat) : wipeR e (v :: vs) = (wipeR e vs).set v none := (rfl)
/-! comprehensions -/
def kCl2 (o : Option PV) (r : Res (List PV)) : Res (List PV) := r.bind fun xs st => .ok (o.toList ++ xs) st
def kCl (f : PV → Sto → Res (Option PV)) (xs : List PV) (r : Res (Option PV)) : Res (List PV) := r.bind fun o st => kCl2 o (compL f xs st)
@[simp] theorem compL_nil (f : PV → Sto → Res (Option PV)) (st : Sto) : compL f [] st = .ok [] st := (rfl)
@[simp] theorem compL_cons (f : PV → Sto → Res (Option PV)) (x : PV) (xs : List PV) (st : Sto) : compL f (x :: xs) st = kCl f xs (f x st) := (rfl)
@[simp] theorem k_cl (f : PV → Sto → Res (Option PV)) (xs : List PV) (o : Option PV) (st : Sto) : kCl f xs (.ok o st) = kCl2 o (compL f xs st) := (rfl)
@[simp] theorem k_cl2 (o : Option PV) (xs : List PV) (st : Sto) : kCl2 o (.ok xs st) = .ok (o.toList ++ xs) st := (rfl)
def kFl (f : PV → Env → Sto → Out) (xs : List PV) : Out → Out
  | .next e st => forL f xs e st
  | .cnt e st => forL f xs e st
  | .brk e st => .next e st
  | .ret v st => .ret v st
  | .exc c e st => .exc c e st
  | .stuck => .stuck
@[simp] theorem forL_nil (f : PV → Env → Sto → Out) (e : Env) (st : Sto) : forL f [] e st = .next e st := (rfl)
@[simp] theorem forL_cons (f : PV → Env → Sto → Out) (x : PV) (xs : List PV) (e : Env) (st : Sto) : forL f (x :: xs) e st = kFl f xs (f x e st) := by
  rw [forL]
  cases f x e st <;> rfl
@[simp] theorem k_fln (f : PV → Env → Sto → Out) (xs : List PV) (e : Env) (st : Sto) : kFl f xs (.next e st) = forL f xs e st := (rfl)
@[simp] theorem k_flc (f : PV → Env → Sto → Out) (xs : List PV) (e : Env) (st : Sto) : kFl f xs (.cnt e st) = forL f xs e st := (rfl)
@[simp] theorem k_flb (f : PV → Env → Sto → Out) (xs : List PV) (e : Env) (st : Sto) : kFl f xs (.brk e st) = .next e st := (rfl)
@[simp] theorem k_flr (f : PV → Env → Sto → Out) (xs : List PV) (v : PV) (st : Sto) : kFl f xs (.ret v st) = .ret v st := (rfl)
theorem comp_map {α : Type} {f : PV → Sto → Res (Option PV)} {st : Sto} (g h : α → PV) : ∀ (items : List α), (∀ a ∈ items, f (g a) st = .ok (some (h a)) st) → compL f (items.map g) st = .ok (items.map h) st
  | [], _ => rfl
  | a :: r, H => by
    rw [List.map_cons, compL, H a (by simp), Res.bind_ok, comp_map g h r fun b hb => H b (by simp [hb])]
    rfl
theorem comp_filter {α : Type} {f : PV → Sto → Res (Option PV)} {st : Sto} (g h : α → PV) (p : α → Bool) : ∀ (items : List α), (∀ a ∈ items, f (g a) st = .ok (if p a then some (h a) else none) st) → compL f (items.map g) st = .ok ((items.filter p).map h) st
  | [], _ => rfl
  | a :: r, H => by
    rw [List.map_cons, compL, H a (by simp), Res.bind_ok, comp_filter g h p r fun b hb => H b (by simp [hb])]
    cases q : p a <;> simp [q, Res.bind_ok]
/-! loops -/
theorem for_fold {σ α : Type} {f : PV → Env → Sto → Out} {st : Sto} (env : σ → Env) (step : σ → α → σ) (g : α → PV) : ∀ (items : List α) (s : σ), (∀ s, ∀ a ∈ items, f (g a) (env s) st = .next (env (step s a)) st) →
    forL f (items.map g) (env s) st = .next (env (items.foldl step s)) st
  | [], s, _ => rfl
  | a :: r, s, H => by
    rw [List.map_cons, forL, H s a (by simp)]
    exact for_fold env step g r (step s a) fun s b hb => H s b (by simp [hb])
theorem for_inv {f : PV → Env → Sto → Out} {st : Sto} (Inv : Env → Prop) : ∀ (items : List PV) (e : Env), Inv e → (∀ x ∈ items, ∀ e, Inv e → ∃ e', f x e st = .next e' st ∧ Inv e') → ∃ e', forL f items e st = .next e' st ∧ Inv e'
  | [], e, h, _ => ⟨e, rfl, h⟩
  | x :: r, e, h, H => by
    obtain ⟨e1, q1, h1⟩ := H x (by simp) e h
    obtain ⟨e2, q2, h2⟩ := for_inv Inv r e1 h1 fun y hy => H y (by simp [hy])
    exact ⟨e2, by rw [forL, q1]; exact q2, h2⟩
theorem rngL_map (lo c : Int) (n : Nat) : rngL lo c n = (List.range n).map fun (i : Nat) => .int (lo + (i : Int) * c) := rfl
@[simp] theorem rng_1 (n : Int) : rngV [.int n] = if small62 n then some (rngL 0 1 n.toNat) else none := (rfl)
@[simp] theorem rng_2 (a b : Int) : rngV [.int a, .int b] = if small62 a && small62 b then some (rngL a 1 (b - a).toNat) else none := (rfl)
theorem SZ_val : SZ = 16777216 := rfl
end PL

/-! BX: kind, parts, boxes. -/
namespace SM
open PL
theorem enc_tup (s : Sm) : ∃ xs, enc s = .tup xs := by
  cases s with
  | nd k ps =>
    rw [enc_nd]
    cases k <;> exact ⟨_, rfl⟩
@[simp] theorem d_enc (st : Sto) (s : Sm) : deref st (enc s) = enc s := by
  obtain ⟨xs, e⟩ := enc_tup s
  rw [e]; rfl
@[simp] theorem d_encB (st : Sto) (b : Bx) : deref st (encB b) = encB b := (rfl)
structure KpT (T : Tab) : Prop where
  kind : T.lookup 20 = some Fn.f_kind
  parts : T.lookup 21 = some Fn.f_parts
structure BoxT (T : Tab) : Prop extends KpT T where
  rows_of : T.lookup 35 = some Fn.f_rows_of
  box_or_none : T.lookup 36 = some Fn.f_box_or_none
  columns : T.lookup 37 = some Fn.f_columns
  heights : T.lookup 38 = some Fn.f_heights
  table_box : T.lookup 39 = some Fn.f_table_box
  box : T.lookup 40 = some Fn.f_box
section
variable {T : Tab}
theorem kind_ok (h : KpT T) (n : Nat) (v : PV) (vs : List PV) (st : Sto) : callF T (n + 1) 20 [.tup (v :: vs)] st = .ok v st := by
  rw [callF_of h.kind]
  simp [runD, Fn.f_kind, start, fin_same]
/-- the first of it, its word -/
theorem enc_cons (s : Sm) : ∃ vs, enc s = .tup (.str s.kd.name :: vs) := by
  cases s with
  | nd k ps =>
    rw [enc_nd]
    cases k <;> exact ⟨_, rfl⟩
theorem kindS (h : KpT T) (n : Nat) (s : Sm) (st : Sto) : callF T (n + 1) 20 [enc s] st = .ok (.str s.kd.name) st := by
  obtain ⟨vs, e⟩ := enc_cons s
  rw [e, kind_ok h]
theorem rows_ok (h : BoxT T) (n : Nat) (b : Bx) (st : Sto) : callF T (n + 1) 35 [encB b] st = .ok (.int b.rows) st := by
  rw [callF_of h.rows_of]
  simp [runD, Fn.f_rows_of, start, fin_same, encB, Bx.rows]
theorem rows_tup (h : BoxT T) (n : Nat) (a b c : Int) (st : Sto) : callF T (n + 1) 35 [.tup [.int a, .int b, .int c]] st = .ok (.int (b + c + 1)) st := rows_ok h n ⟨a, b, c⟩ st
theorem rows_none (h : BoxT T) (n : Nat) (st : Sto) : callF T (n + 1) 35 [.non] st = .ok (.int 0) st := by
  rw [callF_of h.rows_of]
  simp [runD, Fn.f_rows_of, start, fin_same]
theorem len2 {α : Type} {l : List α} (h : l.length = 2) : ∃ a b, l = [a, b] := by
  rcases l with _ | ⟨a, _ | ⟨b, _ | ⟨c, r⟩⟩⟩ <;> simp at h
  exact ⟨a, b, rfl⟩
theorem len1 {α : Type} {l : List α} (h : l.length = 1) : ∃ a, l = [a] := by
  rcases l with _ | ⟨a, _ | ⟨b, r⟩⟩ <;> simp at h
  exact ⟨a, rfl⟩
theorem len3 {α : Type} {l : List α} (h : l.length = 3) : ∃ a b c, l = [a, b, c] := by
  rcases l with _ | ⟨a, _ | ⟨b, _ | ⟨c, _ | ⟨d, r⟩⟩⟩⟩ <;> simp at h
  exact ⟨a, b, c, rfl⟩
theorem lenS {α : Type} {l : List α} {n : Nat} (h : l.length = n + 1) : ∃ a r, l = a :: r ∧ r.length = n := by
  cases l with
  | nil => simp at h
  | cons a r => exact ⟨a, r, rfl, by simpa using h⟩
theorem pairs_length {ss : List (List Nat)} {vs : List PV} (h : vs.length = ss.length) : (pairs ss vs).length = ss.length := by
  unfold pairs
  simp [h]
theorem zip_snd {α β : Type} : ∀ {l : List α} {m : List β}, m.length = l.length → (l.zip m).map (·.2) = m
  | [], [], _ => rfl
  | [], _ :: _, h => by simp at h
  | _ :: _, [], h => by simp at h
  | a :: l, b :: m, h => by simp [zip_snd (l := l) (m := m) (by simpa using h)]
@[simp] theorem is_enc (s : Sm) : isV (enc s) .non = some false := by
  obtain ⟨vs, e⟩ := enc_cons s
  rw [e]; rfl
theorem forT {α : Type} (rows : List (List α)) (g : α → PV) (cf : CF) (a b : Option PV) (y z : Option PV) (st : Sto) : ∀ (acc : List PV) (x : Option PV), acc.length + rows.flatten.length ≤ 16777216 →
    ∃ x', forL (forF cf (.nm 3) (.seq (.asg (.nm 2) (.bin .Add (.var 2) (.var 3))) .skip)) (rows.map fun r => .tup (r.map g)) [a, b, some (.tup acc), x, y, z] st = .next [a, b, some (.tup (acc ++ rows.flatten.map g)), x', y, z] st := by
  induction rows with
  | nil => intro acc x _; exact ⟨x, by simp⟩
  | cons r rs ih =>
    intro acc x hl
    simp only [List.flatten_cons, List.length_append] at hl
    obtain ⟨x', e⟩ := ih (acc ++ r.map g) (some (.tup (r.map g))) (by rw [List.length_append, List.length_map]; omega)
    refine ⟨x', ?_⟩
    have h1 : acc.length + r.length ≤ 16777216 := by omega
    simp [h1, SZ_val]
    simp at e
    rw [e]
theorem parts_ok (h : KpT T) (n : Nat) (s : Sm) (hs : Sh s) (st : Sto) : callF T (n + 2) 21 [enc s] st = .ok (.tup (s.ps.map enc)) st := by
  rw [callF_of h.parts, runD_of rfl]
  cases s with
  | nd k ps =>
    have sh := hs.kd
    have hl := hs.len
    rw [enc_nd]
    simp only [Sm.ps]
    cases k with
    | word t =>
      have : ps = [] := List.eq_nil_of_length_eq_zero sh
      subst this
      simp [Fn.f_parts, start, encK, kind_ok h, SZ_val]
    | over =>
      obtain ⟨a, b, rfl⟩ := len2 sh
      simp [Fn.f_parts, start, encK, kind_ok h, SZ_val]
    | root =>
      obtain ⟨a, rfl⟩ := len1 sh
      simp [Fn.f_parts, start, encK, kind_ok h, SZ_val]
    | held =>
      obtain ⟨a, rfl⟩ := len1 sh
      simp [Fn.f_parts, start, encK, kind_ok h, SZ_val]
    | script u d =>
      obtain ⟨hud, sh⟩ := sh
      cases u <;> cases d <;> simp at hud sh
      · obtain ⟨a, b, rfl⟩ := len2 sh
        simp [Fn.f_parts, start, encK, kind_ok h, SZ_val]
      · obtain ⟨a, b, rfl⟩ := len2 sh
        simp [Fn.f_parts, start, encK, kind_ok h, SZ_val]
      · obtain ⟨a, b, c, rfl⟩ := len3 sh
        simp [Fn.f_parts, start, encK, kind_ok h, SZ_val]
    | chain ss =>
      obtain ⟨a, r, rfl, hr⟩ := lenS sh
      simp only [List.length_cons] at hl
      have hz : (pairs ss (r.map enc)).length ≤ 16777216 := by rw [pairs_length (by simpa using hr)]; omega
      have hz2 : 1 + r.length ≤ 16777216 := by omega
      simp [Fn.f_parts, start, encK, kind_ok h, hz, SZ_val]
      unfold pairs
      rw [comp_map (fun (p : List Nat × PV) => .tup [.str p.1, p.2]) (fun p => p.2) _ (fun p _ => by simp)]
      simp [zip_snd (l := ss) (m := r.map enc) (by simpa using hr), hz2, SZ_val]
    | table r c =>
      obtain ⟨h1, h2, h3⟩ := sh
      have hf : (chunk r c ps).flatten = ps := chunk_flatten r c ps h3
      have hlen : (chunk r c (ps.map enc)).length ≤ 16777216 := by
        rw [chunk_length]
        have : r * 1 ≤ r * c := Nat.mul_le_mul_left r h2
        omega
      obtain ⟨x', e⟩ := forT (chunk r c ps) enc (callF T (n + 1)) (some (.tup [.str [116, 97, 98, 108, 101], .tup ((chunk r c (ps.map enc)).map .tup)])) (some (.str [116, 97, 98, 108, 101])) none none st [] none (by rw [hf]; simp; omega)
      rw [hf] at e
      rw [chunk_map, List.map_map] at e
      simp [Fn.f_parts, start, encK, kind_ok h, SZ_val, chunk_map]
      simp [Function.comp_def] at e ⊢
      rw [e]
      simp
/-- a box is told by box at level n -/
abbrev BoxAt (T : Tab) (n : Nat) (p : Sm) : Prop := ∀ st, callF T n 40 [enc p] st = .ok (encB (bx p)) st
theorem maxL_eq {α : Type} (f : α → Int) (l : List α) (h : l ≠ []) : bMax1 [.lst (l.map fun a => .int (f a))] = some (.int (maxL (l.map f))) := max_map f l h
theorem columns_ok (h : BoxT T) (n : Nat) (c : Nat) (rows : List (List Sm)) (h1 : rows ≠ []) (h2 : ∀ row ∈ rows, row.length = c) (h3 : rows.length ≤ 1000) (h4 : c ≤ 1000) (ih : ∀ row ∈ rows, ∀ p ∈ row, BoxAt T n p) (st : Sto) :
    callF T (n + 1) 37 [.tup (rows.map fun r => .tup (r.map enc))] st = .ok (.lst ((colsW c (rows.map (List.map bx))).map .int)) st := by
  rw [callF_of h.columns, runD_of rfl]
  obtain ⟨r0, rs, rfl⟩ := List.exists_cons_of_ne_nil h1
  have hr0 : r0.length = c := h2 r0 (by simp)
  have s62 : small62 (c : Int) = true := by
    unfold small62
    simp only [Bool.and_eq_true, decide_eq_true_eq]
    omega
  have hlc : c ≤ 16777216 := by omega
  have hlr : (r0 :: rs).length ≤ 16777216 := by omega
  simp [Fn.f_columns, start, s62, SZ_val, rngL_map, hr0, hlc]
  rw [comp_map (fun (i : Nat) => .int (i : Int)) (fun (i : Nat) => .int (maxL ((r0 :: rs).map fun row => ((row.map bx).getD i ⟨0, 0, 0⟩).w))) (List.range c) (fun i hi => ?_)]
  · simp [colsW, Function.comp_def]
  · have hi' : i < c := List.mem_range.mp hi
    have hlr2 : rs.length + 1 ≤ 16777216 := hlr
    simp [SZ_val, hlr2]
    have key : ∀ row ∈ (r0 :: rs), ∃ p ∈ row, row[i]? = some p ∧ (row.map enc)[i]? = some (enc p) ∧ (row.map bx).getD i ⟨0, 0, 0⟩ = bx p := fun row hrow => by
      have hl : i < row.length := by rw [h2 row hrow]; exact hi'
      refine ⟨row[i], List.getElem_mem hl, List.getElem?_eq_getElem hl, by rw [List.getElem?_map, List.getElem?_eq_getElem hl]; rfl, ?_⟩
      rw [List.getD_eq_getElem?_getD, List.getElem?_map, List.getElem?_eq_getElem hl]; rfl
    have q := comp_map (f := compF (callF T n) (.nm 2) .yes (.sub (.call 40 (.cons (.sub (.var 2) (.var 1)) .nil)) (.cst (.int 0))) [some (.tup ((r0 :: rs).map fun r => .tup (r.map enc))), some (.int i), none]) (st := st)
      (fun (row : List Sm) => .tup (row.map enc)) (fun row => .int ((row.map bx).getD i ⟨0, 0, 0⟩).w) (r0 :: rs) (fun row hrow => by
        obtain ⟨p, hp, e1, e2, e3⟩ := key row hrow
        rw [e3]
        simp [atI_nat e2, ih row hrow p hp, encB])
    simp at q
    rw [q]
    have mx := maxL_eq (fun (row : List Sm) => ((row.map bx).getD i ⟨0, 0, 0⟩).w) (r0 :: rs) (by simp)
    simp at mx
    simp [mx]
theorem heights_ok (h : BoxT T) (n : Nat) (rows : List (List Sm)) (h2 : ∀ row ∈ rows, row ≠ [] ∧ row.length ≤ 1000) (h3 : rows.length ≤ 1000) (ih : ∀ row ∈ rows, ∀ p ∈ row, BoxAt T n p) (st : Sto) :
    callF T (n + 1) 38 [.tup (rows.map fun r => .tup (r.map enc))] st = .ok (.lst ((rowsH (rows.map (List.map bx))).map fun p => .tup [.int p.1, .int p.2])) st := by
  rw [callF_of h.heights, runD_of rfl]
  have hlr : rows.length ≤ 16777216 := by omega
  simp [Fn.f_heights, start, SZ_val, hlr]
  rw [comp_map (fun (row : List Sm) => .tup (row.map enc)) (fun row => .tup [.int (maxL (row.map fun p => (bx p).u)), .int (maxL (row.map fun p => (bx p).d))]) rows (fun row hrow => ?_)]
  · simp [rowsH, Function.comp_def]
  · obtain ⟨hne, hl⟩ := h2 row hrow
    have hz : row.length ≤ 16777216 := by omega
    simp [SZ_val, hz]
    rw [comp_map enc (fun p => .int (bx p).u) row (fun p hp => by simp [ih row hrow p hp, encB])]
    have m1 := maxL_eq (fun (p : Sm) => (bx p).u) row hne
    have m2 := maxL_eq (fun (p : Sm) => (bx p).d) row hne
    simp [m1, SZ_val, hz]
    rw [comp_map enc (fun p => .int (bx p).d) row (fun p hp => by simp [ih row hrow p hp, encB])]
    simp [m2, SZ_val]
theorem table_box_ok (h : BoxT T) (n : Nat) (c : Nat) (rows : List (List Sm)) (h1 : rows ≠ []) (h2 : ∀ row ∈ rows, row.length = c) (hc : 1 ≤ c) (h3 : rows.length ≤ 1000) (h4 : c ≤ 1000) (ih : ∀ row ∈ rows, ∀ p ∈ row, BoxAt T n p) (st : Sto) :
    callF T (n + 2) 39 [.tup (rows.map fun r => .tup (r.map enc))] st = .ok (encB (tabBx c (rows.map (List.map bx)))) st := by
  rw [callF_of h.table_box, runD_of rfl]
  have q1 := columns_ok h n c rows h1 h2 h3 h4 ih st
  have q2 := heights_ok h n rows (fun row hr => ⟨fun z => by have := h2 row hr; rw [z] at this; simp at this; omega, by rw [h2 row hr]; exact h4⟩) h3 ih st
  have hlr : (rowsH (rows.map (List.map bx))).length ≤ 16777216 := by simp [rowsH]; omega
  have e2 : (colsW c (rows.map (List.map bx))).length = c := by simp [colsW]
  have sm : small64 2 = true := by decide
  simp [Fn.f_table_box, start, q1, q2, SZ_val, hlr]
  rw [comp_map (fun (p : Int × Int) => .tup [.int p.1, .int p.2]) (fun p => .int (p.1 + p.2 + 1)) _ (fun p _ => by simp)]
  have sw := sum_map (fun (x : Int) => x) (colsW c (rows.map (List.map bx)))
  simp at sw
  simp [sw, e2, sm, SZ_val, encB, tabBx]
theorem bon_ok (h : BoxT T) (n : Nat) (p : Sm) (hb : BoxAt T n p) (st : Sto) : callF T (n + 1) 36 [enc p] st = .ok (encB (bx p)) st := by
  rw [callF_of h.box_or_none, runD_of rfl]
  simp [Fn.f_box_or_none, start, hb]
theorem bon_none (h : BoxT T) (n : Nat) (st : Sto) : callF T (n + 1) 36 [.non] st = .ok .non st := by
  rw [callF_of h.box_or_none, runD_of rfl]
  simp [Fn.f_box_or_none, start]
@[simp] theorem is_encB (b : Bx) : isV (encB b) .non = some false := (rfl)
theorem box_ok (h : BoxT T) (s : Sm) (hs : Sh s) : ∀ n, 3 * dp s ≤ n → BoxAt T n s := by
  induction s using Sm.ind with
  | h k ps ih =>
    intro n hn st
    have sh := hs.kd
    have hl := hs.len
    have hlz : ps.length ≤ 16777216 := by omega
    have hb : ∀ p ∈ ps, ∀ m, n ≤ m + 3 → BoxAt T m p := fun p hp m hm => ih p hp (hs.mem p hp) m (by have := dp_lt (k := k) hp; omega)
    have h3 : 3 ≤ n := by have := dp_pos (.nd k ps); omega
    obtain ⟨m, rfl⟩ : ∃ m, n = m + 3 := ⟨n - 3, by omega⟩
    have hp := parts_ok h.toKpT m (.nd k ps) hs st
    rw [callF_of h.box, runD_of rfl]
    rw [bx_nd]
    have b2 : ∀ p ∈ ps, ∀ st, callF T (m + 2) 40 [enc p] st = .ok (encB (bx p)) st := fun p hp => hb p hp (m + 2) (by omega)
    cases k with
    | word t =>
      rw [enc_nd]
      simp [Fn.f_box, start, encK, kind_ok h.toKpT, SZ_val, bxK, encB]
    | over =>
      obtain ⟨a, b, rfl⟩ := len2 sh
      rw [enc_nd] at hp ⊢
      simp [encK] at hp
      simp [Fn.f_box, start, encK, kind_ok h.toKpT, SZ_val, bxK, hp, b2, Sm.ps, rows_tup h, encB, Bx.rows]
    | root =>
      obtain ⟨a, rfl⟩ := len1 sh
      rw [enc_nd] at hp ⊢
      simp [encK] at hp
      simp [Fn.f_box, start, encK, kind_ok h.toKpT, SZ_val, bxK, hp, b2, Sm.ps, encB]
    | held =>
      obtain ⟨a, rfl⟩ := len1 sh
      rw [enc_nd] at hp ⊢
      simp [encK] at hp
      simp [Fn.f_box, start, encK, kind_ok h.toKpT, SZ_val, bxK, hp, b2, Sm.ps, encB]
    | script u d =>
      obtain ⟨hud, sh⟩ := sh
      have b1 : ∀ p ∈ ps, ∀ st, callF T (m + 2) 36 [enc p] st = .ok (encB (bx p)) st := fun p hp st => bon_ok h (m + 1) p (hb p hp (m + 1) (by omega)) st
      cases u <;> cases d <;> simp at hud sh
      · obtain ⟨a, b, rfl⟩ := len2 sh
        rw [enc_nd]
        simp [Fn.f_box, start, encK, kind_ok h.toKpT, SZ_val, bxK, b1, bon_none h, Sm.ps]
        simp [encB, bMax1, intsV, maxI, rows_tup h, rows_none h, Bx.rows, maxL, SZ_val]
      · obtain ⟨a, b, rfl⟩ := len2 sh
        rw [enc_nd]
        simp [Fn.f_box, start, encK, kind_ok h.toKpT, SZ_val, bxK, b1, bon_none h, Sm.ps]
        simp [encB, bMax1, intsV, maxI, rows_tup h, rows_none h, Bx.rows, maxL, SZ_val]
      · obtain ⟨a, b, c, rfl⟩ := len3 sh
        rw [enc_nd]
        simp [Fn.f_box, start, encK, kind_ok h.toKpT, SZ_val, bxK, b1, bon_none h, Sm.ps]
        simp [encB, bMax1, intsV, maxI, rows_tup h, rows_none h, Bx.rows, maxL, SZ_val]
    | chain ss =>
      have hne : ps ≠ [] := fun z => by rw [z] at sh; simp [Kd.sh] at sh
      have sm : small64 3 = true := by decide
      have m1 := maxL_eq (fun (p : Sm) => (bx p).u) ps hne
      have m2 := maxL_eq (fun (p : Sm) => (bx p).d) ps hne
      rw [enc_nd] at hp ⊢
      simp [encK] at hp
      simp [Fn.f_box, start, encK, kind_ok h.toKpT, SZ_val, bxK, hp, Sm.ps, hlz]
      rw [comp_map enc (fun p => encB (bx p)) ps (fun p hp => by simp [b2 p hp])]
      simp [SZ_val, hlz]
      rw [comp_map (fun p => encB (bx p)) (fun p => .int (bx p).w) ps (fun p hp => by simp [encB])]
      simp [SZ_val, hlz, sm]
      rw [comp_map (fun p => encB (bx p)) (fun p => .int (bx p).u) ps (fun p hp => by simp [encB])]
      simp [SZ_val, hlz, m1]
      rw [comp_map (fun p => encB (bx p)) (fun p => .int (bx p).d) ps (fun p hp => by simp [encB])]
      simp [SZ_val, m2, encB, Function.comp_def]
    | table r c =>
      obtain ⟨h1, h2, h3'⟩ := sh
      have hr : r ≤ 1000 := by
        have : r * 1 ≤ r * c := Nat.mul_le_mul_left r h2
        omega
      have hc : c ≤ 1000 := by
        have : 1 * c ≤ r * c := Nat.mul_le_mul_right c h1
        omega
      have q := table_box_ok h m c (chunk r c ps) (fun z => by have := chunk_length r c ps; rw [z] at this; simp at this; omega) (chunk_each r c ps h3') h2 (by rw [chunk_length]; exact hr) hc
        (fun row hrow p hp => hb p (chunk_mem r c ps row hrow p hp) m (by omega)) st
      rw [enc_nd]
      simp [Fn.f_box, start, encK, kind_ok h.toKpT, SZ_val, bxK, chunk_map, Function.comp_def, q]
end
end SM

/-! DR: the drawn sums. -/
namespace SM
open PL
/-! sums as the document tells them -/
def isLt (c : Nat) : Bool := (decide (97 ≤ c) && decide (c ≤ 122)) || (decide (48 ≤ c) && decide (c ≤ 57))
def signs : List (List Nat) := [[43], [45], [42], [61], [60]]
def Sm.isChain : Sm → Bool
  | .nd (.chain _) _ => true
  | _ => false
def Sm.isBase : Sm → Bool
  | .nd (.word _) _ => true
  | .nd .held _ => true
  | .nd (.table _ _) _ => true
  | _ => false
def Kd.gd (k : Kd) (ps : List Sm) : Prop :=
  match k with
  | .word t => ps = [] ∧ 1 ≤ t.length ∧ t.length ≤ 6 ∧ ∀ c ∈ t, isLt c = true
  | .chain ss => ps.length = ss.length + 1 ∧ 1 ≤ ss.length ∧ ss.length ≤ 4 ∧ (∀ s ∈ ss, s ∈ signs) ∧ ∀ p ∈ ps, p.isChain = false
  | .over => ps.length = 2
  | .root => ps.length = 1
  | .held => ps.length = 1
  | .script u d => (u || d) = true ∧ ps.length = 1 + u.toNat + d.toNat ∧ ∀ p, ps.head? = some p → p.isBase = true
  | .table r c => (1 ≤ r ∧ r ≤ 3) ∧ (1 ≤ c ∧ c ≤ 3) ∧ ps.length = r * c
inductive Gd : Sm → Prop where
  | nd {k : Kd} {ps : List Sm} : k.gd ps → (∀ p ∈ ps, Gd p) → Gd (.nd k ps)
theorem Gd.kd {k : Kd} {ps : List Sm} (h : Gd (.nd k ps)) : k.gd ps := by cases h; assumption
theorem Gd.mem {k : Kd} {ps : List Sm} (h : Gd (.nd k ps)) : ∀ p ∈ ps, Gd p := by cases h; assumption
theorem Gd.sh {s : Sm} (h : Gd s) : Sh s := by
  induction s using Sm.ind with
  | h k ps ih =>
    have g := h.kd
    refine .nd ?_ ?_ fun p hp => ih p hp (h.mem p hp)
    · cases k with
      | word t => simp [Kd.sh, g.1]
      | chain ss => exact g.1
      | over => exact g
      | root => exact g
      | held => exact g
      | script u d => exact ⟨g.1, g.2.1⟩
      | table r c => exact ⟨g.1.1, g.2.1.1, g.2.2⟩
    · cases k with
      | word t => simp [g.1]
      | chain ss => have := g.1; have := g.2.2.1; omega
      | over => rw [show ps.length = 2 from g]; omega
      | root => rw [show ps.length = 1 from g]; omega
      | held => rw [show ps.length = 1 from g]; omega
      | script u d =>
        have := g.2.1
        cases u <;> cases d <;> simp at this <;> omega
      | table r c =>
        have h1 : r * c ≤ 3 * 3 := Nat.mul_le_mul g.1.2 g.2.1.2
        have := g.2.2
        omega

structure DrawT (T : Tab) : Prop where
  cell : T.lookup 7 = some Fn.f_law_cell
  mix : T.lookup 8 = some Fn.f_law_mix
  atom : T.lookup 9 = some Fn.f_law_atom
  base : T.lookup 10 = some Fn.f_law_base
  item : T.lookup 11 = some Fn.f_law_item
  draw : T.lookup 12 = some Fn.f_law_draw
def cellI (ns : List Int) (k : Nat) : Int := ns.getD k 0
def mixI (c p m : Int) : Int := (c * 48271 % p) * (c * 48271 % p + 7) % p % m
theorem mixI_nonneg {c p m : Int} (h : 0 < m) : 0 ≤ mixI c p m := Int.emod_nonneg _ (by omega)
theorem mixI_lt {c p m : Int} (h : 0 < m) : mixI c p m < m := Int.emod_lt_of_pos _ h
section
variable {T : Tab}
theorem cell_ok (h : DrawT T) (n : Nat) (ns : List Int) (k : Nat) (st : Sto) : callF T (n + 1) 7 [.scr ns, .int k] st = .ok (.int (cellI ns k)) st := by
  rw [callF_of h.cell, runD_of rfl]
  unfold cellI
  by_cases hk : k < ns.length
  · have e : ns[k]? = some ns[k] := List.getElem?_eq_getElem hk
    simp [Fn.f_law_cell, start, hk, atI_nat e]
  · simp [Fn.f_law_cell, start, hk]
theorem mix_ok (h : DrawT T) (n : Nat) (c p m : Int) (hp : 0 < p) (hp2 : p < 2 ^ 30) (hm : 0 < m) (st : Sto) : callF T (n + 1) 8 [.int c, .int p, .int m] st = .ok (.int (mixI c p m)) st := by
  rw [callF_of h.mix, runD_of rfl]
  have h1 := Int.emod_nonneg (c * 48271) (show p ≠ 0 by omega)
  have h2 := Int.emod_lt_of_pos (c * 48271) hp
  have s1 : small64 48271 = true := by decide
  have s2 : small64 (c * 48271 % p) = true := by
    unfold small64
    simp only [Bool.and_eq_true, decide_eq_true_eq]
    omega
  simp [Fn.f_law_mix, start, s1, s2, hp, hm, mixI]
theorem atom_ok (h : DrawT T) (cell : Int) : ∃ t : List Nat, (Kd.word t).gd [] ∧ ∀ n st, callF T (n + 2) 9 [.int cell] st = .ok (enc (.nd (.word t) [])) st := by
  have h0 := mixI_nonneg (c := cell) (p := 9973) (m := 6) (by decide)
  have h1 := mixI_lt (c := cell) (p := 9973) (m := 6) (by decide)
  have key : ∃ t : List Nat, (Kd.word t).gd [] ∧ L2.atI [PV.str [97], .str [98], .str [120, 49], .str [108, 111, 110, 103], .str [55], .str [97, 98, 99, 100, 101, 102]] (mixI cell 9973 6) = some (.str t) := by
    have : mixI cell 9973 6 = 0 ∨ mixI cell 9973 6 = 1 ∨ mixI cell 9973 6 = 2 ∨ mixI cell 9973 6 = 3 ∨ mixI cell 9973 6 = 4 ∨ mixI cell 9973 6 = 5 := by omega
    rcases this with e | e | e | e | e | e <;> rw [e] <;> refine ⟨_, ?_, rfl⟩ <;> simp [Kd.gd, isLt]
  obtain ⟨t, g, e⟩ := key
  refine ⟨t, g, fun n st => ?_⟩
  rw [callF_of h.atom, runD_of rfl]
  simp [Fn.f_law_atom, start, SZ_val, mix_ok h, e, enc_nd, encK]
/-- draw at a depth -/
def DrawAt (T : Tab) (left : Nat) : Prop := ∃ f : Int → Sm, ∀ cell, Gd (f cell) ∧ dp (f cell) ≤ left ∧ ∀ n st, 3 * left + 2 ≤ n → callF T n 12 [.int cell, .int left] st = .ok (enc (f cell)) st
def ItemAt (T : Tab) (left : Nat) : Prop := ∃ f : Int → Sm, ∀ cell, Gd (f cell) ∧ dp (f cell) ≤ left ∧ (f cell).isChain = false ∧ ∀ n st, 3 * left + 1 ≤ n → callF T n 11 [.int cell, .int left] st = .ok (enc (f cell)) st
def BaseAt (T : Tab) (left : Nat) : Prop := ∃ f : Int → Sm, ∀ cell, Gd (f cell) ∧ dp (f cell) ≤ left ∧ (f cell).isBase = true ∧ ∀ n st, 3 * left ≤ n → callF T n 10 [.int cell, .int left] st = .ok (enc (f cell)) st
theorem choice {α : Type} {P : Int → α → Prop} (h : ∀ c, ∃ a, P c a) : ∃ f : Int → α, ∀ c, P c (f c) := ⟨fun c => Classical.choose (h c), fun c => Classical.choose_spec (h c)⟩
theorem chunk_of {α : Type} : ∀ (rows : List (List α)) (c : Nat), (∀ row ∈ rows, row.length = c) → chunk rows.length c rows.flatten = rows
  | [], _, _ => rfl
  | row :: rows, c, h => by
    have h1 : row.length = c := h row (by simp)
    simp only [List.length_cons, chunk, List.flatten_cons]
    rw [List.take_left' h1, List.drop_left' h1, chunk_of rows c fun r hr => h r (by simp [hr])]
theorem flat_len {α : Type} : ∀ (rows : List (List α)) (c : Nat), (∀ row ∈ rows, row.length = c) → rows.flatten.length = rows.length * c
  | [], _, _ => by simp
  | row :: rows, c, h => by
    rw [List.flatten_cons, List.length_append, flat_len rows c fun r hr => h r (by simp [hr]), h row (by simp), List.length_cons, Nat.succ_mul, Nat.add_comm]
theorem dp_le {k : Kd} {ps : List Sm} {m : Nat} (h : ∀ p ∈ ps, dp p ≤ m) : dp (.nd k ps) ≤ m + 1 := by
  rw [dp_nd]
  have := maxN_le (l := ps.map dp) (m := m) fun n hn => by
    obtain ⟨p, hp, rfl⟩ := List.mem_map.mp hn
    exact h p hp
  omega
theorem small62_of {i : Int} (h1 : 0 ≤ i) (h2 : i < 1000000) : small62 i = true := by
  unfold small62
  simp only [Bool.and_eq_true, decide_eq_true_eq]
  omega
/-- the rows of a drawn table -/
theorem rowsLoop {cf : CF} {f : Int → Sm} {cell l : Int} {C : Nat} (hC : C ≤ 3) {w : Option PV} {st : Sto} (e : ∀ c, cf 12 [.int c, .int (min l 2)] st = .ok (enc (f c)) st) : ∀ (ks : List Nat) (acc : List (List Sm)) (x y : Option PV), acc.length + ks.length ≤ 1000 →
    ∃ x' y', forL (forF cf (.nm 5) (.seq (.asg (.nm 6) (.comp [7] (.nm 7) (.rng (.cons (.var 4) .nil)) .yes (.bin .Add (.bin .Add (.bin .Add (.bin .Mult (.var 0) (.cst (.int 3))) (.bin .Mult (.cst (.int 7)) (.var 5))) (.bin .Mult (.cst (.int 5)) (.var 7))) (.cst (.int 2)))))
            (.seq (.asg (.nm 3) (.bin .Add (.var 3) (.tup (.cons (.bi .tuple (.cons (.comp [8] (.nm 8) (.seq (.var 6)) .yes (.call 12 (.cons (.var 8) (.cons (.bi .min2 (.cons (.bin .Sub (.var 1) (.cst (.int 1))) (.cons (.cst (.int 2)) .nil))) .nil)))) .nil)) .nil)))) .skip)))
      (ks.map fun (k : Nat) => .int (k : Int)) [some (.int cell), some (.int (l + 1)), w, some (.tup (acc.map fun r => .tup (r.map enc))), some (.int (C : Int)), x, y, none, none] st =
      .next [some (.int cell), some (.int (l + 1)), w, some (.tup ((acc ++ ks.map fun (k : Nat) => (List.range C).map fun (j : Nat) => f (cell * 3 + 7 * (k : Int) + 5 * (j : Int) + 2)).map fun r => .tup (r.map enc))), some (.int (C : Int)), x', y', none, none] st
  | [], acc, x, y, _ => ⟨x, y, by simp⟩
  | k :: ks, acc, x, y, hl => by
    have s3 : small64 3 = true := by decide
    have s5 : small64 5 = true := by decide
    have s7 : small64 7 = true := by decide
    have sC : small62 (C : Int) = true := small62_of (by omega) (by omega)
    have hz : C ≤ 16777216 := by omega
    simp only [List.length_cons] at hl
    have hz2 : acc.length + 1 ≤ 16777216 := by omega
    obtain ⟨x', y', q⟩ := rowsLoop hC e ks (acc ++ [(List.range C).map fun (j : Nat) => f (cell * 3 + 7 * (k : Int) + 5 * (j : Int) + 2)]) (some (.int (k : Int))) (some (.lst ((List.range C).map fun (j : Nat) => .int (cell * 3 + 7 * (k : Int) + 5 * (j : Int) + 2)))) (by simp; omega)
    refine ⟨x', y', ?_⟩
    simp [SZ_val, sC, rngL_map, hz]
    rw [comp_map (fun (j : Nat) => .int (j : Int)) (fun (j : Nat) => .int (cell * 3 + 7 * (k : Int) + 5 * (j : Int) + 2)) (List.range C) (fun j _ => by simp [s3, s5, s7])]
    simp [SZ_val, hz]
    rw [comp_map (fun (j : Nat) => .int (cell * 3 + 7 * (k : Int) + 5 * (j : Int) + 2)) (fun (j : Nat) => enc (f (cell * 3 + 7 * (k : Int) + 5 * (j : Int) + 2))) (List.range C) (fun j _ => by simp [e])]
    simp [SZ_val, hz2]
    simp [Function.comp_def] at q ⊢
    rw [q]
theorem base_of (h : DrawT T) (l : Nat) (ih : ∀ l', 1 ≤ l' → l' ≤ l → DrawAt T l') : BaseAt T (l + 1) := by
  unfold BaseAt
  refine choice (P := fun cell s => Gd s ∧ dp s ≤ l + 1 ∧ s.isBase = true ∧ ∀ n st, 3 * (l + 1) ≤ n → callF T n 10 [.int cell, .int ((l + 1 : Nat) : Int)] st = .ok (enc s) st) fun cell => ?_
  have w0 := mixI_nonneg (c := cell) (p := 9967) (m := 4) (by decide)
  have w1 := mixI_lt (c := cell) (p := 9967) (m := 4) (by decide)
  by_cases hA : l = 0 ∨ mixI cell 9967 4 < 2
  · obtain ⟨t, g, e⟩ := atom_ok h cell
    refine ⟨.nd (.word t) [], .nd g (by simp), by rw [dp_nd]; simp [maxN], rfl, fun n st hn => ?_⟩
    obtain ⟨n, rfl⟩ : ∃ m, n = m + 3 := ⟨n - 3, by omega⟩
    rw [callF_of h.base, runD_of rfl]
    rcases hA with hA | hA
    · subst hA
      simp [Fn.f_law_base, start, mix_ok h, e]
    · by_cases hl : l = 0
      · subst hl
        simp [Fn.f_law_base, start, mix_ok h, e]
      · have hl1 : ¬ ((l : Int) + 1 = 1) := by omega
        simp [Fn.f_law_base, start, mix_ok h, e, hA, hl1]
  · have hl : l ≠ 0 := fun z => hA (.inl z)
    have hl1 : ¬ ((l : Int) + 1 = 1) := by omega
    have hw : ¬ mixI cell 9967 4 < 2 := fun z => hA (.inr z)
    by_cases hB : mixI cell 9967 4 = 2
    · obtain ⟨f, hf⟩ := ih l (by omega) (Nat.le_refl l)
      obtain ⟨g, d, e⟩ := hf (cell * 3 + 1)
      refine ⟨.nd .held [f (cell * 3 + 1)], .nd rfl (by simp [g]), dp_le (by simp [d]), rfl, fun n st hn => ?_⟩
      obtain ⟨n, rfl⟩ : ∃ m, n = m + 1 := ⟨n - 1, by omega⟩
      have e' := e n st (by omega)
      have s3 : small64 3 = true := by decide
      rw [callF_of h.base, runD_of rfl]
      obtain ⟨n, rfl⟩ : ∃ m, n = m + 1 := ⟨n - 1, by omega⟩
      simp [Fn.f_law_base, start, mix_ok h, hl1, hB, SZ_val, s3, e', enc_nd, encK]
    · have hC : mixI cell 9967 4 = 3 := by omega
      have hm : ((min l 2 : Nat) : Int) = min (l : Int) 2 := by omega
      obtain ⟨f, hf⟩ := ih (min l 2) (by omega) (by omega)
      have c0 := mixI_nonneg (c := cell) (p := 9949) (m := 3) (by decide)
      have c1 := mixI_lt (c := cell) (p := 9949) (m := 3) (by decide)
      have r0 := mixI_nonneg (c := cell) (p := 9941) (m := 3) (by decide)
      have r1 := mixI_lt (c := cell) (p := 9941) (m := 3) (by decide)
      generalize hcn : (1 + mixI cell 9949 3).toNat = C
      generalize hrn : (1 + mixI cell 9941 3).toNat = R
      have eC : 1 + mixI cell 9949 3 = (C : Int) := by omega
      have eR : 1 + mixI cell 9941 3 = (R : Int) := by omega
      have hC3 : 1 ≤ C ∧ C ≤ 3 := by omega
      have hR3 : 1 ≤ R ∧ R ≤ 3 := by omega
      have sR : small62 (R : Int) = true := small62_of (by omega) (by omega)
      generalize hrows : ((List.range R).map fun (k : Nat) => (List.range C).map fun (j : Nat) => f (cell * 3 + 7 * (k : Int) + 5 * (j : Int) + 2)) = rows
      have hrl : rows.length = R := by rw [← hrows]; simp
      have hrow : ∀ r ∈ rows, r.length = C := fun r hr => by
        rw [← hrows] at hr
        obtain ⟨k, _, rfl⟩ := List.mem_map.mp hr
        simp
      have hmem : ∀ p ∈ rows.flatten, ∃ c, p = f c := fun p hp => by
        rw [← hrows] at hp
        obtain ⟨r, hr, hp⟩ := List.mem_flatten.mp hp
        obtain ⟨k, _, rfl⟩ := List.mem_map.mp hr
        obtain ⟨j, _, rfl⟩ := List.mem_map.mp hp
        exact ⟨_, rfl⟩
      refine ⟨.nd (.table R C) rows.flatten, .nd ⟨hR3, hC3, ?_⟩ fun p hp => ?_, dp_le fun p hp => ?_, rfl, fun n st hn => ?_⟩
      · rw [flat_len _ C hrow, hrl]
      · obtain ⟨c, rfl⟩ := hmem p hp
        exact (hf c).1
      · obtain ⟨c, rfl⟩ := hmem p hp
        have := (hf c).2.1
        omega
      · obtain ⟨n, rfl⟩ : ∃ m, n = m + 1 := ⟨n - 1, by omega⟩
        have e' : ∀ c, callF T n 12 [.int c, .int (min (l : Int) 2)] st = .ok (enc (f c)) st := fun c => by
          rw [← hm]
          exact (hf c).2.2 n st (by omega)
        obtain ⟨x', y', q⟩ := rowsLoop (cell := cell) (l := (l : Int)) (C := C) (w := some (.int (mixI cell 9967 4))) hC3.2 e' (List.range R) [] none none (by simp; omega)
        rw [callF_of h.base, runD_of rfl]
        obtain ⟨n, rfl⟩ : ∃ m, n = m + 1 := ⟨n - 1, by omega⟩
        rw [List.nil_append, hrows] at q
        simp at q
        have hch : chunk R C (rows.map (List.map enc)).flatten = rows.map (List.map enc) := by
          rw [← List.map_flatten, chunk_map, ← hrl, chunk_of rows C hrow]
        simp [Fn.f_law_base, start, mix_ok h, hl1, hC, SZ_val, eC, eR, sR, rngL_map]
        rw [hC] at q
        rw [q]
        simp [SZ_val, enc_nd, encK, hch, Function.comp_def]
theorem base_item {s : Sm} (h : s.isBase = true) : s.isChain = false := by
  cases s with
  | nd k ps => cases k <;> simp_all [Sm.isBase, Sm.isChain]
theorem item_of (h : DrawT T) (l : Nat) (hb : BaseAt T (l + 1)) (hb' : 1 ≤ l → BaseAt T l) (hd : 1 ≤ l → DrawAt T l) : ItemAt T (l + 1) := by
  unfold ItemAt
  refine choice (P := fun cell s => Gd s ∧ dp s ≤ l + 1 ∧ s.isChain = false ∧ ∀ n st, 3 * (l + 1) + 1 ≤ n → callF T n 11 [.int cell, .int ((l + 1 : Nat) : Int)] st = .ok (enc s) st) fun cell => ?_
  have w0 := mixI_nonneg (c := cell) (p := 9931) (m := 8) (by decide)
  have w1 := mixI_lt (c := cell) (p := 9931) (m := 8) (by decide)
  obtain ⟨fb, hfb⟩ := hb
  have s3 : small64 3 = true := by decide
  by_cases hA : l = 0 ∨ mixI cell 9931 8 < 2
  · obtain ⟨g, d, b, e⟩ := hfb cell
    refine ⟨fb cell, g, d, base_item b, fun n st hn => ?_⟩
    obtain ⟨n, rfl⟩ : ∃ m, n = m + 1 := ⟨n - 1, by omega⟩
    have e' := e n st (by omega)
    obtain ⟨n, rfl⟩ : ∃ m, n = m + 1 := ⟨n - 1, by omega⟩
    rw [callF_of h.item, runD_of rfl]
    by_cases hl : l = 0
    · subst hl
      simp at e'
      simp [Fn.f_law_item, start, mix_ok h, e']
    · have hl1 : ¬ ((l : Int) + 1 = 1) := by omega
      have hw : mixI cell 9931 8 < 2 := by rcases hA with z | z; exact absurd z hl; exact z
      simp at e'
      simp [Fn.f_law_item, start, mix_ok h, e', hw, hl1]
  · have hl : 1 ≤ l := by
      rcases Nat.eq_zero_or_pos l with z | z
      · exact absurd (.inl z) hA
      · exact z
    have hl1 : ¬ ((l : Int) + 1 = 1) := by omega
    have hw : ¬ mixI cell 9931 8 < 2 := fun z => hA (.inr z)
    obtain ⟨fd, hfd⟩ := hd hl
    obtain ⟨fc, hfc⟩ := hb' hl
    by_cases h2 : mixI cell 9931 8 = 2
    · obtain ⟨g1, d1, e1⟩ := hfd (cell * 3 + 1)
      obtain ⟨g2, d2, e2⟩ := hfd (cell * 3 + 2)
      refine ⟨.nd .over [fd (cell * 3 + 1), fd (cell * 3 + 2)], .nd rfl (by simp [g1, g2]), dp_le (by simp [d1, d2]), rfl, fun n st hn => ?_⟩
      obtain ⟨n, rfl⟩ : ∃ m, n = m + 1 := ⟨n - 1, by omega⟩
      have e1' := e1 n st (by omega)
      have e2' := e2 n st (by omega)
      obtain ⟨n, rfl⟩ : ∃ m, n = m + 1 := ⟨n - 1, by omega⟩
      rw [callF_of h.item, runD_of rfl]
      simp [Fn.f_law_item, start, mix_ok h, e1', e2', hw, hl1, h2, s3, SZ_val, enc_nd, encK]
    by_cases h3 : mixI cell 9931 8 = 3
    · obtain ⟨g1, d1, e1⟩ := hfd (cell * 3 + 1)
      refine ⟨.nd .root [fd (cell * 3 + 1)], .nd rfl (by simp [g1]), dp_le (by simp [d1]), rfl, fun n st hn => ?_⟩
      obtain ⟨n, rfl⟩ : ∃ m, n = m + 1 := ⟨n - 1, by omega⟩
      have e1' := e1 n st (by omega)
      obtain ⟨n, rfl⟩ : ∃ m, n = m + 1 := ⟨n - 1, by omega⟩
      rw [callF_of h.item, runD_of rfl]
      simp [Fn.f_law_item, start, mix_ok h, e1', hw, hl1, h3, s3, SZ_val, enc_nd, encK]
    by_cases h6 : mixI cell 9931 8 < 6
    · obtain ⟨g1, d1, e1⟩ := hfd (cell * 3 + 4)
      obtain ⟨g2, d2, e2⟩ := hfd (cell * 3 + 5)
      obtain ⟨g0, d0, b0, e0⟩ := hfc (cell + 1)
      have m0 := mixI_nonneg (c := cell) (p := 9929) (m := 3) (by decide)
      have m1 := mixI_lt (c := cell) (p := 9929) (m := 3) (by decide)
      by_cases hs0 : mixI cell 9929 3 = 0
      · refine ⟨.nd (.script false true) [fc (cell + 1), fd (cell * 3 + 5)], .nd ⟨rfl, rfl, by simp [b0]⟩ (by simp [g0, g2]), dp_le (by simp [d0, d2]), rfl, fun n st hn => ?_⟩
        obtain ⟨n, rfl⟩ : ∃ m, n = m + 1 := ⟨n - 1, by omega⟩
        have e0' := e0 n st (by omega)
        have e1' := e1 n st (by omega)
        have e2' := e2 n st (by omega)
        obtain ⟨n, rfl⟩ : ∃ m, n = m + 1 := ⟨n - 1, by omega⟩
        rw [callF_of h.item, runD_of rfl]
        simp [Fn.f_law_item, start, mix_ok h, e0', e1', e2', hw, hl1, h2, h3, h6, hs0, s3, SZ_val, enc_nd, encK]
      by_cases hs1 : mixI cell 9929 3 = 1
      · refine ⟨.nd (.script true false) [fc (cell + 1), fd (cell * 3 + 4)], .nd ⟨rfl, rfl, by simp [b0]⟩ (by simp [g0, g1]), dp_le (by simp [d0, d1]), rfl, fun n st hn => ?_⟩
        obtain ⟨n, rfl⟩ : ∃ m, n = m + 1 := ⟨n - 1, by omega⟩
        have e0' := e0 n st (by omega)
        have e1' := e1 n st (by omega)
        have e2' := e2 n st (by omega)
        obtain ⟨n, rfl⟩ : ∃ m, n = m + 1 := ⟨n - 1, by omega⟩
        rw [callF_of h.item, runD_of rfl]
        simp [Fn.f_law_item, start, mix_ok h, e0', e1', e2', hw, hl1, h2, h3, h6, hs0, hs1, s3, SZ_val, enc_nd, encK]
      · refine ⟨.nd (.script true true) [fc (cell + 1), fd (cell * 3 + 4), fd (cell * 3 + 5)], .nd ⟨rfl, rfl, by simp [b0]⟩ (by simp [g0, g1, g2]), dp_le (by simp [d0, d1, d2]), rfl, fun n st hn => ?_⟩
        obtain ⟨n, rfl⟩ : ∃ m, n = m + 1 := ⟨n - 1, by omega⟩
        have e0' := e0 n st (by omega)
        have e1' := e1 n st (by omega)
        have e2' := e2 n st (by omega)
        obtain ⟨n, rfl⟩ : ∃ m, n = m + 1 := ⟨n - 1, by omega⟩
        rw [callF_of h.item, runD_of rfl]
        simp [Fn.f_law_item, start, mix_ok h, e0', e1', e2', hw, hl1, h2, h3, h6, hs0, hs1, s3, SZ_val, enc_nd, encK]
    · obtain ⟨g, d, b, e⟩ := hfb (cell + 1)
      refine ⟨fb (cell + 1), g, d, base_item b, fun n st hn => ?_⟩
      obtain ⟨n, rfl⟩ : ∃ m, n = m + 1 := ⟨n - 1, by omega⟩
      have e' := e n st (by omega)
      obtain ⟨n, rfl⟩ : ∃ m, n = m + 1 := ⟨n - 1, by omega⟩
      rw [callF_of h.item, runD_of rfl]
      simp at e'
      simp [Fn.f_law_item, start, mix_ok h, e', hw, hl1, h2, h3, h6]
/-- the drawn sign -/
def sgI (i : Int) : Nat := [43, 45, 42, 61, 60].getD i.toNat 60
theorem sgI_at {i : Int} (h0 : 0 ≤ i) (h1 : i < 5) : L2.atI [43, 45, 42, 61, 60] i = some (sgI i) ∧ [sgI i] ∈ signs := by
  have : i = 0 ∨ i = 1 ∨ i = 2 ∨ i = 3 ∨ i = 4 := by omega
  rcases this with e | e | e | e | e <;> subst e <;> exact ⟨rfl, by simp [sgI, signs]⟩
/-- the signs and items of a drawn chain -/
theorem chainLoop (h : DrawT T) {n : Nat} {f : Int → Sm} {cell l : Int} {st : Sto} (e : ∀ c, callF T (n + 1) 11 [.int c, .int l] st = .ok (enc (f c)) st) : ∀ (ks : List Nat) (acc : List (List Nat × Sm)) (x y : Option PV), acc.length + ks.length ≤ 1000 →
    ∃ x' y', forL (forF (callF T (n + 1)) (.nm 3) (.seq (.asg (.nm 4) (.sub (.cst (.str [43, 45, 42, 61, 60])) (.call 8 (.cons (.bin .Add (.var 0) (.var 3)) (.cons (.cst (.int 9901)) (.cons (.cst (.int 5)) .nil))))))
    (.seq (.asg (.nm 2) (.bin .Add (.var 2) (.tup (.cons (.tup (.cons (.var 4) (.cons (.call 11 (.cons (.bin .Add (.bin .Add (.bin .Mult (.var 0) (.cst (.int 2))) (.bin .Mult (.cst (.int 11)) (.var 3))) (.cst (.int 3))) (.cons (.bin .Sub (.var 1) (.cst (.int 1))) .nil))) .nil))) .nil))))
    .skip)))
      (ks.map fun (k : Nat) => .int (k : Int)) [some (.int cell), some (.int (l + 1)), some (.tup (acc.map fun p => .tup [.str p.1, enc p.2])), x, y] st =
      .next [some (.int cell), some (.int (l + 1)), some (.tup ((acc ++ ks.map fun (k : Nat) => ([sgI (mixI (cell + (k : Int)) 9901 5)], f (cell * 2 + 11 * (k : Int) + 3))).map fun p => .tup [.str p.1, enc p.2])), x', y'] st
  | [], acc, x, y, _ => ⟨x, y, by simp⟩
  | k :: ks, acc, x, y, hl => by
    have s2 : small64 2 = true := by decide
    have s11 : small64 11 = true := by decide
    simp only [List.length_cons] at hl
    have hz2 : acc.length + 1 ≤ 16777216 := by omega
    have es := (sgI_at (mixI_nonneg (c := cell + (k : Int)) (p := 9901) (m := 5) (by decide)) (mixI_lt (c := cell + (k : Int)) (p := 9901) (m := 5) (by decide))).1
    obtain ⟨x', y', q⟩ := chainLoop h e ks (acc ++ [([sgI (mixI (cell + (k : Int)) 9901 5)], f (cell * 2 + 11 * (k : Int) + 3))]) (some (.int (k : Int))) (some (.str [sgI (mixI (cell + (k : Int)) 9901 5)])) (by simp; omega)
    refine ⟨x', y', ?_⟩
    simp [SZ_val, mix_ok h, es, s2, s11, e, hz2]
    simp at q
    exact q
theorem pairs_of (l : List (List Nat × Sm)) : pairs (l.map (·.1)) ((l.map (·.2)).map enc) = l.map fun p => .tup [.str p.1, enc p.2] := by
  induction l with
  | nil => rfl
  | cons a l ih =>
    simp only [pairs, List.map_cons, List.zip_cons_cons] at ih ⊢
    rw [ih]
theorem draw_of (h : DrawT T) (l : Nat) (hi : ItemAt T (l + 1)) (hi' : 1 ≤ l → ItemAt T l) : DrawAt T (l + 1) := by
  unfold DrawAt
  refine choice (P := fun cell s => Gd s ∧ dp s ≤ l + 1 ∧ ∀ n st, 3 * (l + 1) + 2 ≤ n → callF T n 12 [.int cell, .int ((l + 1 : Nat) : Int)] st = .ok (enc s) st) fun cell => ?_
  obtain ⟨fi, hfi⟩ := hi
  by_cases hA : 1 ≤ l ∧ mixI cell 9923 3 = 0
  · obtain ⟨hl, hz⟩ := hA
    have hl1 : (1 : Int) < (l : Int) + 1 := by omega
    obtain ⟨f, hf⟩ := hi' hl
    have r0 := mixI_nonneg (c := cell) (p := 9907) (m := 3) (by decide)
    have r1 := mixI_lt (c := cell) (p := 9907) (m := 3) (by decide)
    have s2 : small64 2 = true := by decide
    generalize hrn : (1 + mixI cell 9907 3).toNat = R
    have eR : 1 + mixI cell 9907 3 = (R : Int) := by omega
    have hR3 : 1 ≤ R ∧ R ≤ 3 := by omega
    have sR : small62 (R : Int) = true := small62_of (by omega) (by omega)
    generalize hall : ((List.range R).map fun (k : Nat) => ([sgI (mixI (cell + (k : Int)) 9901 5)], f (cell * 2 + 11 * (k : Int) + 3))) = all
    have hlen : all.length = R := by rw [← hall]; simp
    have hmem : ∀ p ∈ all, p.1 ∈ signs ∧ ∃ c, p.2 = f c := fun p hp => by
      rw [← hall] at hp
      obtain ⟨k, _, rfl⟩ := List.mem_map.mp hp
      exact ⟨(sgI_at (mixI_nonneg (by decide)) (mixI_lt (by decide))).2, _, rfl⟩
    refine ⟨.nd (.chain (all.map (·.1))) (f (cell * 2 + 1) :: all.map (·.2)), .nd ⟨by simp, by simp [hlen, hR3], by simp [hlen]; omega, ?_, ?_⟩ ?_, dp_le ?_, fun n st hn => ?_⟩
    · intro s hs
      obtain ⟨p, hp, rfl⟩ := List.mem_map.mp hs
      exact (hmem p hp).1
    · intro s hs
      rcases List.mem_cons.mp hs with z | z
      · subst z; exact (hf _).2.2.1
      · obtain ⟨p, hp, rfl⟩ := List.mem_map.mp z
        obtain ⟨c, e⟩ := (hmem p hp).2
        rw [e]; exact (hf _).2.2.1
    · intro s hs
      rcases List.mem_cons.mp hs with z | z
      · subst z; exact (hf _).1
      · obtain ⟨p, hp, rfl⟩ := List.mem_map.mp z
        obtain ⟨c, e⟩ := (hmem p hp).2
        rw [e]; exact (hf _).1
    · intro s hs
      rcases List.mem_cons.mp hs with z | z
      · subst z; exact (hf _).2.1
      · obtain ⟨p, hp, rfl⟩ := List.mem_map.mp z
        obtain ⟨c, e⟩ := (hmem p hp).2
        rw [e]; exact (hf _).2.1
    · obtain ⟨n, rfl⟩ : ∃ m, n = m + 2 := ⟨n - 2, by omega⟩
      have e' : ∀ c, callF T (n + 1) 11 [.int c, .int (l : Int)] st = .ok (enc (f c)) st := fun c => (hf c).2.2.2 (n + 1) st (by omega)
      obtain ⟨x', y', q⟩ := chainLoop h (cell := cell) e' (List.range R) [] none none (by simp; omega)
      rw [List.nil_append, hall] at q
      simp at q
      rw [callF_of h.draw, runD_of rfl]
      simp [Fn.f_law_draw, start, mix_ok h, hl1, hz, SZ_val, eR, sR, rngL_map]
      rw [q]
      have hpr := pairs_of all
      simp at hpr
      simp [SZ_val, enc_nd, encK, e', s2, hpr]
  · obtain ⟨g, d, _, e⟩ := hfi cell
    refine ⟨fi cell, g, d, fun n st hn => ?_⟩
    obtain ⟨n, rfl⟩ : ∃ m, n = m + 1 := ⟨n - 1, by omega⟩
    have e' := e n st (by omega)
    obtain ⟨n, rfl⟩ : ∃ m, n = m + 1 := ⟨n - 1, by omega⟩
    simp at e'
    rw [callF_of h.draw, runD_of rfl]
    by_cases hl : l = 0
    · subst hl
      simp at e'
      simp [Fn.f_law_draw, start, mix_ok h, e']
    · have hl1 : (1 : Int) < (l : Int) + 1 := by omega
      have hz : ¬ mixI cell 9923 3 = 0 := fun z => hA ⟨by omega, z⟩
      simp [Fn.f_law_draw, start, mix_ok h, e', hl1, hz]
theorem draws (h : DrawT T) : ∀ l, BaseAt T (l + 1) ∧ ItemAt T (l + 1) ∧ DrawAt T (l + 1) := by
  intro l
  induction l using Nat.strongRecOn with
  | _ l ih =>
    have D : ∀ l', 1 ≤ l' → l' ≤ l → DrawAt T l' := fun l' h1 h2 => by
      obtain ⟨k, rfl⟩ : ∃ k, l' = k + 1 := ⟨l' - 1, by omega⟩
      exact (ih k (by omega)).2.2
    have b := base_of h l D
    have i := item_of h l b (fun hl => by
      obtain ⟨k, rfl⟩ : ∃ k, l = k + 1 := ⟨l - 1, by omega⟩
      exact (ih k (by omega)).1) (fun hl => D l hl (Nat.le_refl l))
    exact ⟨b, i, draw_of h l i fun hl => by
      obtain ⟨k, rfl⟩ : ∃ k, l = k + 1 := ⟨l - 1, by omega⟩
      exact (ih k (by omega)).2.1⟩
end
end SM

/-! EQ: equality of data. -/
namespace PL
open PySem
mutual
/-- plain data: no truth value stands in it, its texts are texts -/
def PV.fine : PV → Bool
  | .non => true
  | .int _ => true
  | .str s => s.all fun c => decide (c < 1114112)
  | .tup xs => PV.fines xs
  | .lst xs => PV.fines xs
  | _ => false
def PV.fines : List PV → Bool
  | [] => true
  | x :: r => PV.fine x && PV.fines r
end
mutual
def PV.deep : PV → Nat
  | .tup xs => PV.deeps xs + 1
  | .lst xs => PV.deeps xs + 1
  | _ => 0
def PV.deeps : List PV → Nat
  | [] => 0
  | x :: r => max (PV.deep x) (PV.deeps r)
end
mutual
theorem fine_data : ∀ v : PV, v.fine = true → v.isData = true ∧ v.toD.canLay0 = true ∧ v.toD.depth = v.deep
  | .non, _ => by simp [PV.isData, PV.toD, PyData.canLay0, PyData.depth, PV.deep]
  | .int _, _ => by simp [PV.isData, PV.toD, PyData.canLay0, PyData.depth, PV.deep]
  | .str s, h => by
    simp only [PV.fine] at h
    refine ⟨by simp [PV.isData], ?_, by simp [PV.toD, PyData.depth, PV.deep]⟩
    simp only [PV.toD, PyData.canLay0, PyData.strOk]
    rw [List.all_toArray]
    exact h
  | .tup xs, h => by
    simp only [PV.fine] at h
    obtain ⟨a, b, c⟩ := fines_data xs h
    simp [PV.isData, PV.toD, PyData.canLay0, PyData.depth, PV.deep, a, b, c]
  | .lst xs, h => by
    simp only [PV.fine] at h
    obtain ⟨a, b, c⟩ := fines_data xs h
    simp [PV.isData, PV.toD, PyData.canLay0, PyData.depth, PV.deep, a, b, c]
  | .bl _, h => by simp [PV.fine] at h
  | .scr _, h => by simp [PV.fine] at h
  | .ref _, h => by simp [PV.fine] at h
theorem fines_data : ∀ vs : List PV, PV.fines vs = true → PV.areData vs = true ∧ PyData.canLayAll0 (PV.toDs vs) = true ∧ PyData.depthAll (PV.toDs vs) = PV.deeps vs
  | [], _ => by simp [PV.areData, PV.toDs, PyData.canLayAll0, PyData.depthAll, PV.deeps]
  | x :: r, h => by
    simp only [PV.fines, Bool.and_eq_true] at h
    obtain ⟨a, b, c⟩ := fine_data x h.1
    obtain ⟨a', b', c'⟩ := fines_data r h.2
    simp [PV.areData, PV.toDs, PyData.canLayAll0, PyData.depthAll, PV.deeps, a, b, c, a', b', c']
end
theorem fine_ok {v : PV} (h : v.fine = true) (hd : v.deep ≤ 64) : v.okD = true := by
  obtain ⟨a, b, c⟩ := fine_data v h
  simp [PV.okD, SeqAt.shaped, a, b, c, hd]
mutual
theorem eqv_fine : ∀ a b : PV, a.fine = true → b.fine = true → (PyData.eqv a.toD b.toD = true ↔ a = b)
  | .non, b, _, h => by cases b <;> simp_all [PV.toD, PyData.eqv, PV.fine]
  | .int i, b, _, h => by cases b <;> simp_all [PV.toD, PyData.eqv, PV.fine]
  | .str s, b, _, h => by cases b <;> simp_all [PV.toD, PyData.eqv, PV.fine]
  | .tup xs, b, g, h => by
    cases b with
    | tup ys =>
      simp only [PV.fine] at g h
      simp only [PV.toD, PyData.eqv, eqvs_fine xs ys g h, PV.tup.injEq]
    | _ => simp_all [PV.toD, PyData.eqv, PV.fine]
  | .lst xs, b, g, h => by
    cases b with
    | lst ys =>
      simp only [PV.fine] at g h
      simp only [PV.toD, PyData.eqv, eqvs_fine xs ys g h, PV.lst.injEq]
    | _ => simp_all [PV.toD, PyData.eqv, PV.fine]
  | .bl _, _, h, _ => by simp [PV.fine] at h
  | .scr _, _, h, _ => by simp [PV.fine] at h
  | .ref _, _, h, _ => by simp [PV.fine] at h
theorem eqvs_fine : ∀ a b : List PV, PV.fines a = true → PV.fines b = true → (PyData.eqvAll (PV.toDs a) (PV.toDs b) = true ↔ a = b)
  | [], [], _, _ => by simp [PV.toDs, PyData.eqvAll]
  | [], _ :: _, _, _ => by simp [PV.toDs, PyData.eqvAll]
  | _ :: _, [], _, _ => by simp [PV.toDs, PyData.eqvAll]
  | x :: r, y :: s, g, h => by
    simp only [PV.fines, Bool.and_eq_true] at g h
    simp only [PV.toDs, PyData.eqvAll, Bool.and_eq_true, eqv_fine x y g.1 h.1, eqvs_fine r s g.2 h.2, List.cons.injEq]
end
/-- equality of plain data is equality -/
theorem eqV_iff {a b : PV} (ha : a.fine = true) (hb : b.fine = true) (da : a.deep ≤ 64) (db : b.deep ≤ 64) : ∃ k, eqV a b = some k ∧ (k = true ↔ a = b) := by
  have gen : (if a.okD && b.okD then some (PyData.eqv a.toD b.toD) else none) = some (PyData.eqv a.toD b.toD) := by
    rw [fine_ok ha da, fine_ok hb db]; rfl
  unfold eqV
  split
  · exact ⟨_, rfl, by simp⟩
  · exact ⟨_, rfl, by simp⟩
  · exact ⟨_, gen, eqv_fine _ _ ha hb⟩
open Classical in
theorem eqV_fine {a b : PV} (ha : a.fine = true) (hb : b.fine = true) (da : a.deep ≤ 64) (db : b.deep ≤ 64) : eqV a b = some (decide (a = b)) := by
  obtain ⟨k, e, h⟩ := eqV_iff ha hb da db
  rw [e]
  cases k <;> simp_all
theorem eqV_self {a : PV} (ha : a.fine = true) (da : a.deep ≤ 64) : eqV a a = some true := by
  obtain ⟨k, e, h⟩ := eqV_iff ha ha da da
  rw [e, h.mpr rfl]
@[simp] theorem eq_3 (a b c a' b' c' : Int) : eqV (.tup [.int a, .int b, .int c]) (.tup [.int a', .int b', .int c']) = some (decide (a = a' ∧ b = b' ∧ c = c')) := by
  obtain ⟨k, e, h⟩ := eqV_iff (a := .tup [.int a, .int b, .int c]) (b := .tup [.int a', .int b', .int c']) rfl rfl (by simp [PV.deep, PV.deeps]) (by simp [PV.deep, PV.deeps])
  rw [e]
  simp at h
  cases k <;> simp_all
end PL

/-! K21: boxes put around. -/
namespace SM
open PL
section
variable {T : Tab}
theorem cell_int (h : DrawT T) (n : Nat) (ns : List Int) (k : Int) (hk : 0 ≤ k) (st : Sto) : callF T (n + 1) 7 [.scr ns, .int k] st = .ok (.int (cellI ns k.toNat)) st := by
  have := cell_ok h n ns k.toNat st
  rwa [Int.toNat_of_nonneg hk] at this
theorem draw_at (h : DrawT T) (l : Nat) (hl : 1 ≤ l) (cell : Int) : ∃ s, Gd s ∧ dp s ≤ l ∧ ∀ n st, 3 * l + 2 ≤ n → callF T n 12 [.int cell, .int (l : Int)] st = .ok (enc s) st := by
  obtain ⟨k, rfl⟩ : ∃ k, l = k + 1 := ⟨l - 1, by omega⟩
  obtain ⟨f, hf⟩ := (draws h k).2.2
  exact ⟨f cell, hf cell⟩
/-- a loop over a range whose body always goes on -/
theorem range_inv {f : PV → Env → Sto → Out} {st : Sto} (Inv : Env → Prop) (n : Nat) (e : Env) (he : Inv e) (H : ∀ k : Nat, k < n → ∀ e, Inv e → ∃ e', f (.int (k : Int)) e st = .next e' st ∧ Inv e') :
    ∃ e', forL f (rngL 0 1 n) e st = .next e' st ∧ Inv e' := by
  refine for_inv Inv _ e he fun x hx e he => ?_
  rw [rngL_map] at hx
  obtain ⟨k, hk, rfl⟩ := List.mem_map.mp hx
  rw [show (0 : Int) + (k : Int) * 1 = (k : Int) by omega]
  exact H k (List.mem_range.mp hk) e he
theorem foldl_max_ge : ∀ (l : List Int) (a : Int), a ≤ l.foldl max a
  | [], a => Int.le_refl a
  | b :: l, a => by
    have := foldl_max_ge l (max a b)
    simp only [List.foldl_cons]
    omega
theorem maxL_nonneg : ∀ {l : List Int}, (∀ i ∈ l, 0 ≤ i) → 0 ≤ maxL l
  | [], _ => Int.le_refl 0
  | a :: l, h => by
    have h1 := h a (by simp)
    have := foldl_max_ge l a
    show 0 ≤ l.foldl max a
    omega
theorem sum_nonneg : ∀ {l : List Int}, (∀ i ∈ l, 0 ≤ i) → 0 ≤ l.sum
  | [], _ => by simp
  | a :: l, h => by
    have h1 := h a (by simp)
    have := sum_nonneg (l := l) fun i hi => h i (by simp [hi])
    rw [List.sum_cons]
    omega
theorem sum_ge : ∀ {l : List Int}, (∀ i ∈ l, 1 ≤ i) → (l.length : Int) ≤ l.sum
  | [], _ => by simp
  | a :: l, h => by
    have h1 := h a (by simp)
    have := sum_ge (l := l) fun i hi => h i (by simp [hi])
    rw [List.sum_cons, List.length_cons]
    omega
theorem getD_all {α : Type} {P : α → Prop} {l : List α} {d : α} (h : ∀ x ∈ l, P x) (hd : P d) (i : Nat) : P (l.getD i d) := by
  rw [List.getD_eq_getElem?_getD]
  cases e : l[i]? with
  | none => exact hd
  | some x => exact h x (List.mem_of_getElem? e)
/-- no box is less than nothing -/
theorem bx_nonneg {s : Sm} (h : Sh s) : 0 ≤ (bx s).w ∧ 0 ≤ (bx s).u ∧ 0 ≤ (bx s).d := by
  induction s using Sm.ind with
  | h k ps ih =>
    have H : ∀ b ∈ ps.map bx, 0 ≤ b.w ∧ 0 ≤ b.u ∧ 0 ≤ b.d := fun b hb => by
      obtain ⟨p, hp, rfl⟩ := List.mem_map.mp hb
      exact ih p hp (h.mem p hp)
    have G : ∀ i : Nat, 0 ≤ ((ps.map bx).getD i ⟨0, 0, 0⟩).w ∧ 0 ≤ ((ps.map bx).getD i ⟨0, 0, 0⟩).u ∧ 0 ≤ ((ps.map bx).getD i ⟨0, 0, 0⟩).d := fun i => getD_all (P := fun b : Bx => 0 ≤ b.w ∧ 0 ≤ b.u ∧ 0 ≤ b.d) H ⟨Int.le_refl 0, Int.le_refl 0, Int.le_refl 0⟩ i
    have hl : (ps.map bx).length = ps.length := List.length_map _
    have hk := h.kd
    rw [bx_nd]
    revert H G hl
    generalize ps.map bx = bs
    intro H G hl
    have mU : 0 ≤ maxL (bs.map (·.u)) := maxL_nonneg fun i hi => by
      obtain ⟨b, hb, rfl⟩ := List.mem_map.mp hi
      exact (H b hb).2.1
    have mD : 0 ≤ maxL (bs.map (·.d)) := maxL_nonneg fun i hi => by
      obtain ⟨b, hb, rfl⟩ := List.mem_map.mp hi
      exact (H b hb).2.2
    have mW : 0 ≤ maxL ((bs.drop 1).map (·.w)) := maxL_nonneg fun i hi => by
      obtain ⟨b, hb, rfl⟩ := List.mem_map.mp hi
      exact (H b (List.mem_of_mem_drop hb)).1
    have sW : 0 ≤ (bs.map (·.w)).sum := sum_nonneg fun i hi => by
      obtain ⟨b, hb, rfl⟩ := List.mem_map.mp hi
      exact (H b hb).1
    have g0 := G 0
    have g1 := G 1
    have g2 := G 2
    cases k with
    | word t => simp [bxK]
    | chain ss =>
      have : ps.length = ss.length + 1 := hk
      simp only [bxK]
      omega
    | over => simp only [bxK, Bx.rows]; omega
    | root => simp only [bxK]; omega
    | held => simp only [bxK]; omega
    | script u d => cases u <;> cases d <;> simp only [bxK, Bx.rows, if_true, if_false, Bool.false_eq_true] <;> omega
    | table r c =>
      obtain ⟨hr, hc, _⟩ := hk
      simp only [bxK, tabBx]
      have a1 : 0 ≤ (colsW c (chunk r c bs)).sum := sum_nonneg fun i hi => by
        unfold colsW at hi
        obtain ⟨k, _, rfl⟩ := List.mem_map.mp hi
        refine maxL_nonneg fun j hj => ?_
        obtain ⟨row, hrow, rfl⟩ := List.mem_map.mp hj
        exact (getD_all (P := fun b : Bx => 0 ≤ b.w ∧ 0 ≤ b.u ∧ 0 ≤ b.d) (fun b hb => H b (chunk_mem r c bs row hrow b hb)) ⟨Int.le_refl 0, Int.le_refl 0, Int.le_refl 0⟩ k).1
      have a2 := sum_ge (l := (rowsH (chunk r c bs)).map fun p => p.1 + p.2 + 1) fun i hi => by
        obtain ⟨p, hp, rfl⟩ := List.mem_map.mp hi
        obtain ⟨row, hrow, rfl⟩ := List.mem_map.mp hp
        have x1 : 0 ≤ maxL (row.map (·.u)) := maxL_nonneg fun i hi => by
          obtain ⟨b, hb, rfl⟩ := List.mem_map.mp hi
          exact (H b (chunk_mem r c bs row hrow b hb)).2.1
        have x2 : 0 ≤ maxL (row.map (·.d)) := maxL_nonneg fun i hi => by
          obtain ⟨b, hb, rfl⟩ := List.mem_map.mp hi
          exact (H b (chunk_mem r c bs row hrow b hb)).2.2
        simp only
        omega
      have a3 : ((rowsH (chunk r c bs)).map fun p => p.1 + p.2 + 1).length = r := by simp [rowsH, chunk_length]
      rw [a3] at a2
      have a4 := chunk_length r c bs
      rw [a4]
      omega
theorem high_ok (hh : T.lookup 166 = some Fn.f_law_high_2) (n : Nat) (a b c : Int) (st : Sto) : callF T (n + 1) 166 [.tup [.int a, .int b, .int c]] st = .ok (.int (b + c + 1)) st := by
  rw [callF_of hh, runD_of rfl]
  simp [Fn.f_law_high_2, start]
theorem law21 (hb : BoxT T) (hd : DrawT T) (hh : T.lookup 166 = some Fn.f_law_high_2) (hl : T.lookup 167 = some Fn.f_law_k21) : LawTrue T 61 167 := by
  intro ns hns
  refine ⟨[], ?_⟩
  rw [callF_of hl, runD_of rfl]
  have s12 : small62 12 = true := by decide
  have s37 : small64 37 = true := by decide
  obtain ⟨e', q, hq⟩ := range_inv (f := forF (callF T 60) (.nm 1) (match Fn.f_law_k21.body with | .seq (.fr _ _ b) _ => b | _ => .skip)) (st := []) (fun e => ∃ o1 o2 o3 o4 o5 o6 o7 o8 o9 o10 o11, e = [some (.scr ns), o1, o2, o3, o4, o5, o6, o7, o8, o9, o10, o11]) 12 [some (.scr ns), none, none, none, none, none, none, none, none, none, none, none] ⟨_, _, _, _, _, _, _, _, _, _, _, rfl⟩ (by
    rintro k hk e ⟨o1, o2, o3, o4, o5, o6, o7, o8, o9, o10, o11, rfl⟩
    have k9 : (0 : Int) ≤ (k : Int) % 9 := Int.emod_nonneg _ (by decide)
    generalize hcell : cellI ns ((k : Int) % 9).toNat + 37 * (k : Int) = cell
    obtain ⟨one, g1, d1, e1⟩ := draw_at hd 3 (by decide) cell
    obtain ⟨two, g2, d2, e2⟩ := draw_at hd 3 (by decide) (cell + 5)
    have box : ∀ s, Sh s → dp s ≤ 20 → callF T 60 40 [enc s] [] = .ok (encB (bx s)) [] := fun s h1 h2 => box_ok hb s h1 60 (by omega) []
    have q1 := box one g1.sh (by omega)
    have q2 := box two g2.sh (by omega)
    have sh1 := g1.sh
    have sh2 := g2.sh
    have e1' := e1 60 [] (by omega)
    have e2' := e2 60 [] (by omega)
    have shh1 : Sh (.nd .held [one]) := .nd rfl (by simp) (by simp [sh1])
    have shh2 : Sh (.nd .held [two]) := .nd rfl (by simp) (by simp [sh2])
    have shw : Sh (.nd (.word [97]) []) := .nd rfl (by simp) (by simp)
    have ddw : dp (.nd (.word [97]) []) ≤ 4 := by rw [dp_nd]; simp [maxN]
    have dd1 : dp (.nd .held [one]) ≤ 4 := dp_le (by simp [d1])
    have dd2 : dp (.nd .held [two]) ≤ 4 := dp_le (by simp [d2])
    have b_root := box (.nd .root [one]) (.nd rfl (by simp) (by simp [sh1])) (Nat.le_trans (dp_le (m := 3) (by simp [d1])) (by omega))
    have b_held := box (.nd .held [one]) shh1 (by omega)
    have b_over := box (.nd .over [one, two]) (.nd rfl (by simp) (by simp [sh1, sh2])) (Nat.le_trans (dp_le (m := 3) (by simp [d1, d2])) (by omega))
    have b_sc1 := box (.nd (.script true false) [.nd .held [one], two]) (.nd ⟨rfl, rfl⟩ (by simp) (by simp [sh2, shh1])) (Nat.le_trans (dp_le (m := 4) (by simp [dd1]; omega)) (by omega))
    have b_sc2 := box (.nd (.script false true) [.nd .held [one], two]) (.nd ⟨rfl, rfl⟩ (by simp) (by simp [sh2, shh1])) (Nat.le_trans (dp_le (m := 4) (by simp [dd1]; omega)) (by omega))
    have b_sc3 := box (.nd (.script true true) [.nd .held [one], one, two]) (.nd ⟨rfl, rfl⟩ (by simp) (by simp [sh1, sh2, shh1])) (Nat.le_trans (dp_le (m := 4) (by simp [dd1]; omega)) (by omega))
    have b_ch : ∀ sg : List Nat, _ := fun sg => box (.nd (.chain [sg, sg]) [.nd .held [one], .nd .held [two], .nd (.word [97]) []]) (.nd rfl (by simp) (by simp [shh1, shh2, shw])) (Nat.le_trans (dp_le (m := 4) (by simp [dd1, dd2, ddw])) (by omega))
    have b_t1 := box (.nd (.table 1 2) [one, two]) (.nd ⟨by omega, by omega, rfl⟩ (by simp) (by simp [sh1, sh2])) (Nat.le_trans (dp_le (m := 3) (by simp [d1, d2])) (by omega))
    have b_t2 := box (.nd (.table 2 1) [one, two]) (.nd ⟨by omega, by omega, rfl⟩ (by simp) (by simp [sh1, sh2])) (Nat.le_trans (dp_le (m := 3) (by simp [d1, d2])) (by omega))
    clear box
    generalize hb1 : bx one = B1 at *
    generalize hb2 : bx two = B2 at *
    obtain ⟨w1, u1, v1⟩ := B1
    obtain ⟨w2, u2, v2⟩ := B2
    simp [enc_nd, encK, bx_nd, bxK, encB, hb1, hb2, maxL, Bx.rows, pairs, chunk, tabBx, colsW, rowsH] at q1 q2 b_root b_held b_over b_sc1 b_sc2 b_sc3 b_ch b_t1 b_t2
    have es := (sgI_at (mixI_nonneg (c := cell) (p := 9277) (m := 5) (by decide)) (mixI_lt (c := cell) (p := 9277) (m := 5) (by decide))).1
    have e1'' : callF T 60 12 [.int cell, .int 3] [] = .ok (enc one) [] := e1'
    have e2'' : callF T 60 12 [.int (cell + 5), .int 3] [] = .ok (enc two) [] := e2'
    have n1 := bx_nonneg sh1
    have n2 := bx_nonneg sh2
    rw [hb1] at n1
    rw [hb2] at n2
    simp only at n1 n2
    have m1 : max u1 (max u2 0) = max u1 u2 := by omega
    have m2 : max v1 (max v2 0) = max v1 v2 := by omega
    have m3 : w1 + 2 + (w2 + 2 + 1) + 6 = w1 + w2 + 11 := by omega
    have m4 : w1 + w2 + 2 + 2 = w1 + w2 + 4 := by omega
    have m5 : u1 + v1 + 1 + (u2 + v2 + 1) + 2 - 1 = u1 + v1 + 1 + (u2 + v2 + 1) + 1 := by omega
    rw [m1, m2, m3] at b_ch
    rw [m5] at b_t2
    simp [List.range_succ, m4] at b_t1
    simp [Fn.f_law_k21, cell_int hd 59 ns _ k9, s37, hcell, e1'', e2'', q1, q2, SZ_val, b_root, b_held, b_over, b_sc1, b_sc2, b_sc3, b_ch, b_t1, b_t2, high_ok hh, mix_ok hd, es]
    )
  simp [Fn.f_law_k21, start, s12]
  simp [Fn.f_law_k21] at q
  rw [q]
  simp
end
end SM

/-! LB: the law's own parts and boxes, its look at sameness. -/
namespace SM
open PL
structure LpT (T : Tab) : Prop where
  lparts : T.lookup 13 = some Fn.f_law_parts
structure LbT (T : Tab) : Prop extends LpT T where
  lrows : T.lookup 41 = some Fn.f_law_rows
  lbox : T.lookup 42 = some Fn.f_law_box
/-! no locations -/
theorem unders_of {n : Nat} : ∀ {l : List PV}, (∀ v ∈ l, v.under n = true) → PV.unders n l = true
  | [], _ => by simp [PV.unders]
  | v :: r, h => by simp [PV.unders, h v (by simp), unders_of (l := r) fun x hx => h x (by simp [hx])]
@[simp] theorem under_enc (n : Nat) (s : Sm) : (enc s).under n = true := by
  induction s using Sm.ind with
  | h k ps ih =>
    rw [enc_nd]
    have H : ∀ v ∈ ps.map enc, v.under n = true := fun v hv => by
      obtain ⟨p, hp, rfl⟩ := List.mem_map.mp hv
      exact ih p hp
    revert H
    generalize ps.map enc = vs
    intro H
    have G : ∀ i, (vs.getD i .non).under n = true := fun i => getD_all (P := fun v => PV.under n v = true) H rfl i
    have G0 : (vs.headD .non).under n = true := by
      cases vs with
      | nil => rfl
      | cons a r => exact H a (by simp)
    have U : PV.unders n vs = true := unders_of H
    cases k with
    | word t => simp [encK, PV.under, PV.unders]
    | chain ss =>
      have : PV.unders n (pairs ss vs.tail) = true := unders_of fun v hv => by
        unfold pairs at hv
        obtain ⟨p, hp, rfl⟩ := List.mem_map.mp hv
        have : p.2 ∈ vs.tail := (List.of_mem_zip hp).2
        simp [PV.under, PV.unders, H p.2 (List.mem_of_mem_tail this)]
      simp only [encK, PV.under, PV.unders, this, G0, Bool.and_self]
    | over => simp [encK, PV.under, PV.unders, U]
    | root => simp [encK, PV.under, PV.unders, U]
    | held => simp [encK, PV.under, PV.unders, U]
    | script u d =>
      have G1 := G 1
      have G2 := G (if u = true then 2 else 1)
      cases u <;> cases d <;> simp only [encK, PV.under, PV.unders, G0, G1, G2, Bool.and_self, if_true, if_false, Bool.false_eq_true]
      · simpa using G2
    | table r c =>
      have : PV.unders n ((chunk r c vs).map .tup) = true := unders_of fun v hv => by
        obtain ⟨row, hrow, rfl⟩ := List.mem_map.mp hv
        simp only [PV.under]
        exact unders_of fun x hx => H x (chunk_mem r c vs row hrow x hx)
      simp [encK, PV.under, PV.unders, this]
theorem under_encs (n : Nat) (l : List Sm) : PV.unders n (l.map enc) = true := unders_of fun v hv => by
  obtain ⟨p, _, rfl⟩ := List.mem_map.mp hv
  exact under_enc n p
section
variable {T : Tab}
theorem extL {cf : CF} (rows : List (List Sm)) (a y z : Option PV) (st : Sto) : ∀ (acc : List PV), acc.length + rows.flatten.length ≤ 16777216 →
    ∀ x, ∃ x', forL (forF cf (.nm 2) (.seq (.exp (.mth .extend (.var 1) (.cons (.bi .list (.cons (.var 2) .nil)) .nil))) .skip)) (rows.map fun r => .tup (r.map enc)) [a, some (.ref st.length), x, y, z] (st ++ [.lst acc]) = .next [a, some (.ref st.length), x', y, z] (st ++ [.lst (acc ++ rows.flatten.map enc)]) := by
  induction rows with
  | nil => intro acc _ x; exact ⟨x, by simp⟩
  | cons r rs ih =>
    intro acc hl x
    simp only [List.flatten_cons, List.length_append] at hl
    obtain ⟨x', e⟩ := ih (acc ++ r.map enc) (by rw [List.length_append, List.length_map]; omega) (some (.tup (r.map enc)))
    refine ⟨x', ?_⟩
    have h1 : acc.length + r.length ≤ 16777216 := by omega
    simp [h1, SZ_val]
    simp at e
    rw [e]
theorem lparts_ok (h : LpT T) (n : Nat) (s : Sm) (hs : Sh s) (st : Sto) : callF T (n + 1) 13 [enc s] st = .ok (.lst (s.ps.map enc)) st := by
  rw [callF_of h.lparts, runD_of rfl]
  cases s with
  | nd k ps =>
    have sh := hs.kd
    have hl := hs.len
    rw [enc_nd]
    simp only [Sm.ps]
    cases k with
    | word t =>
      have : ps = [] := List.eq_nil_of_length_eq_zero sh
      subst this
      simp [Fn.f_law_parts, start, encK, SZ_val]
    | over =>
      obtain ⟨a, b, rfl⟩ := len2 sh
      simp [Fn.f_law_parts, start, encK, SZ_val]
    | root =>
      obtain ⟨a, rfl⟩ := len1 sh
      simp [Fn.f_law_parts, start, encK, SZ_val]
    | held =>
      obtain ⟨a, rfl⟩ := len1 sh
      simp [Fn.f_law_parts, start, encK, SZ_val]
    | script u d =>
      obtain ⟨hud, sh⟩ := sh
      cases u <;> cases d <;> simp at hud sh
      · obtain ⟨a, b, rfl⟩ := len2 sh
        simp [Fn.f_law_parts, start, encK, SZ_val]
      · obtain ⟨a, b, rfl⟩ := len2 sh
        simp [Fn.f_law_parts, start, encK, SZ_val]
      · obtain ⟨a, b, c, rfl⟩ := len3 sh
        simp [Fn.f_law_parts, start, encK, SZ_val]
    | chain ss =>
      obtain ⟨a, r, rfl, hr⟩ := lenS sh
      simp only [List.length_cons] at hl
      have hz : (pairs ss (r.map enc)).length ≤ 16777216 := by rw [pairs_length (by simpa using hr)]; omega
      have hz2 : 1 + r.length ≤ 16777216 := by omega
      simp [Fn.f_law_parts, start, encK, hz, SZ_val]
      unfold pairs
      rw [comp_map (fun (p : List Nat × PV) => .tup [.str p.1, p.2]) (fun p => p.2) _ (fun p _ => by simp)]
      simp [zip_snd (l := ss) (m := r.map enc) (by simpa using hr), hz2, SZ_val]
    | table r c =>
      obtain ⟨h1, h2, h3⟩ := sh
      have hf : (chunk r c ps).flatten = ps := chunk_flatten r c ps h3
      obtain ⟨x', e⟩ := extL (cf := callF T n) (chunk r c ps) (some (.tup [.str [116, 97, 98, 108, 101], .tup ((chunk r c (ps.map enc)).map .tup)])) none none st [] (by rw [hf]; simp; omega) none
      rw [hf] at e
      rw [chunk_map, List.map_map] at e
      simp [Fn.f_law_parts, start, encK, SZ_val, chunk_map]
      simp [Function.comp_def] at e ⊢
      rw [e]
      simp
      exact k_fnA (by simp [PV.under, under_encs])
theorem lrows_ok (h : LbT T) (n : Nat) (a b c : Int) (st : Sto) : callF T (n + 1) 41 [.tup [.int a, .int b, .int c]] st = .ok (.int (b + c + 1)) st := by
  rw [callF_of h.lrows, runD_of rfl]
  simp [Fn.f_law_rows, start]
theorem lrows_none (h : LbT T) (n : Nat) (st : Sto) : callF T (n + 1) 41 [.non] st = .ok (.int 0) st := by
  rw [callF_of h.lrows, runD_of rfl]
  simp [Fn.f_law_rows, start]
abbrev LBoxAt (T : Tab) (n : Nat) (p : Sm) : Prop := ∀ st, callF T n 42 [enc p] st = .ok (encB (bx p)) st
theorem loopW {cf : CF} {rows : List (List Sm)} {c : Nat} {W H : Option PV} {st : Sto} (h1 : rows ≠ []) (h2 : ∀ row ∈ rows, row.length = c) (h3 : rows.length ≤ 1000) (ih : ∀ row ∈ rows, ∀ p ∈ row, cf 42 [enc p] st = .ok (encB (bx p)) st) :
    ∀ (ks : List Nat), (∀ k ∈ ks, k < c) → ∀ (w : Int) (x : Option PV), ∃ x',
    forL (forF cf (.nm 6) (.seq (.asg (.nm 5) (.bin .Add (.bin .Add (.var 5) (.bi .max1 (.cons (.comp [7] (.nm 7) (.seq (.sub (.var 0) (.cst (.int 1)))) .yes (.sub (.call 42 (.cons (.sub (.var 7) (.var 6)) .nil)) (.cst (.int 0)))) .nil))) (.cst (.int 2)))) .skip))
      (ks.map fun (k : Nat) => .int (k : Int)) [some (.tup [.str [116, 97, 98, 108, 101], .tup (rows.map fun r => .tup (r.map enc))]), W, none, none, none, some (.int w), x, none, none, none, H, none, none] st =
    .next [some (.tup [.str [116, 97, 98, 108, 101], .tup (rows.map fun r => .tup (r.map enc))]), W, none, none, none, some (.int (w + (ks.map fun k => maxL (rows.map fun row => ((row.map bx).getD k ⟨0, 0, 0⟩).w) + 2).sum)), x', none, none, none, H, none, none] st
  | [], _, w, x => ⟨x, by simp⟩
  | k :: ks, hk, w, x => by
    obtain ⟨x', e⟩ := loopW (W := W) (H := H) h1 h2 h3 ih ks (fun j hj => hk j (by simp [hj])) (w + maxL (rows.map fun row => ((row.map bx).getD k ⟨0, 0, 0⟩).w) + 2) (some (.int (k : Int)))
    refine ⟨x', ?_⟩
    have hlr : rows.length ≤ 16777216 := by omega
    have key : ∀ row ∈ rows, ∃ p ∈ row, row[k]? = some p ∧ (row.map enc)[k]? = some (enc p) ∧ (row.map bx).getD k ⟨0, 0, 0⟩ = bx p := fun row hrow => by
      have hl : k < row.length := by rw [h2 row hrow]; exact hk k (by simp)
      refine ⟨row[k], List.getElem_mem hl, List.getElem?_eq_getElem hl, by rw [List.getElem?_map, List.getElem?_eq_getElem hl]; rfl, ?_⟩
      rw [List.getD_eq_getElem?_getD, List.getElem?_map, List.getElem?_eq_getElem hl]; rfl
    have mx := maxL_eq (fun (row : List Sm) => ((row.map bx).getD k ⟨0, 0, 0⟩).w) rows h1
    simp [SZ_val, hlr]
    rw [comp_map (fun (row : List Sm) => .tup (row.map enc)) (fun row => .int ((row.map bx).getD k ⟨0, 0, 0⟩).w) rows (fun row hrow => by
      obtain ⟨p, hp, e1, e2, e3⟩ := key row hrow
      rw [e3]
      simp [atI_nat e2, ih row hrow p hp, encB])]
    simp at mx e
    simp [mx]
    rw [e]
    simp [Int.add_assoc]
theorem loopH {cf : CF} {S W wide : Option PV} {k : Option PV} {st : Sto} : ∀ (rows : List (List Sm)), (∀ row ∈ rows, row ≠ [] ∧ row.length ≤ 1000) → (∀ row ∈ rows, ∀ p ∈ row, cf 42 [enc p] st = .ok (encB (bx p)) st) → ∀ (hi : Int) (x y : Option PV), ∃ x' y',
    forL (forF cf (.nm 7) (.seq (.asg (.nm 2) (.comp [11] (.nm 11) (.seq (.var 7)) .yes (.call 42 (.cons (.var 11) .nil))))
    (.seq (.asg (.nm 10) (.bin .Add (.bin .Add (.bin .Add (.var 10) (.bi .max1 (.cons (.comp [12] (.nm 12) (.seq (.var 2)) .yes (.sub (.var 12) (.cst (.int 1)))) .nil))) (.bi .max1 (.cons (.comp [12] (.nm 12) (.seq (.var 2)) .yes (.sub (.var 12) (.cst (.int 2)))) .nil))) (.cst (.int 1))))
    .skip)))
      (rows.map fun r => .tup (r.map enc)) [S, W, x, none, none, wide, k, y, none, none, some (.int hi), none, none] st =
    .next [S, W, x', none, none, wide, k, y', none, none, some (.int (hi + ((rowsH (rows.map (List.map bx))).map fun p => p.1 + p.2 + 1).sum)), none, none] st
  | [], _, _, hi, x, y => ⟨x, y, by simp [rowsH]⟩
  | row :: rows, h2, ih, hi, x, y => by
    obtain ⟨hne, hl⟩ := h2 row (by simp)
    have hz : row.length ≤ 16777216 := by omega
    have m1 := maxL_eq (fun (p : Sm) => (bx p).u) row hne
    have m2 := maxL_eq (fun (p : Sm) => (bx p).d) row hne
    obtain ⟨x', y', e⟩ := loopH (S := S) (W := W) (wide := wide) (k := k) rows (fun r hr => h2 r (by simp [hr])) (fun r hr => ih r (by simp [hr])) (hi + maxL (row.map fun p => (bx p).u) + maxL (row.map fun p => (bx p).d) + 1) (some (.lst (row.map fun p => encB (bx p)))) (some (.tup (row.map enc)))
    refine ⟨x', y', ?_⟩
    simp [SZ_val, hz]
    rw [comp_map enc (fun p => encB (bx p)) row (fun p hp => by simp [ih row (by simp) p hp])]
    simp [SZ_val, hz]
    rw [comp_map (fun p => encB (bx p)) (fun p => .int (bx p).u) row (fun p hp => by simp [encB])]
    simp [SZ_val, hz, m1]
    rw [comp_map (fun p => encB (bx p)) (fun p => .int (bx p).d) row (fun p hp => by simp [encB])]
    simp [SZ_val, m2]
    rw [e]
    simp [rowsH, Function.comp_def, Int.add_assoc]
theorem sum_add2 {α : Type} (f : α → Int) : ∀ l : List α, (l.map fun k => f k + 2).sum = (l.map f).sum + 2 * (l.length : Int)
  | [] => by simp
  | a :: l => by
    simp only [List.map_cons, List.sum_cons, sum_add2 f l, List.length_cons]
    omega
theorem sum_add3 {α : Type} (f : α → Int) : ∀ l : List α, (l.map fun k => f k + 3).sum = (l.map f).sum + 3 * (l.length : Int)
  | [] => by simp
  | a :: l => by
    simp only [List.map_cons, List.sum_cons, sum_add3 f l, List.length_cons]
    omega
theorem lbox_ok (h : LbT T) (s : Sm) (hs : Sh s) : ∀ n, 2 * dp s ≤ n → LBoxAt T n s := by
  induction s using Sm.ind with
  | h k ps ih =>
    intro n hn st
    have sh := hs.kd
    have hl := hs.len
    have hlz : ps.length ≤ 16777216 := by omega
    have hb : ∀ p ∈ ps, ∀ m, n ≤ m + 2 → LBoxAt T m p := fun p hp m hm => ih p hp (hs.mem p hp) m (by have := dp_lt (k := k) hp; omega)
    have h3 : 2 ≤ n := by have := dp_pos (.nd k ps); omega
    obtain ⟨m, rfl⟩ : ∃ m, n = m + 2 := ⟨n - 2, by omega⟩
    have hp := lparts_ok h.toLpT m (.nd k ps) hs st
    rw [callF_of h.lbox, runD_of rfl]
    rw [bx_nd]
    have b2 : ∀ p ∈ ps, ∀ st, callF T (m + 1) 42 [enc p] st = .ok (encB (bx p)) st := fun p hp => hb p hp (m + 1) (by omega)
    cases k with
    | word t =>
      rw [enc_nd]
      simp [Fn.f_law_box, start, encK, SZ_val, bxK, encB]
    | over =>
      obtain ⟨a, b, rfl⟩ := len2 sh
      rw [enc_nd] at hp ⊢
      simp [encK] at hp
      simp [Fn.f_law_box, start, encK, SZ_val, bxK, hp, b2, Sm.ps, lrows_ok h, encB, Bx.rows]
    | root =>
      obtain ⟨a, rfl⟩ := len1 sh
      rw [enc_nd] at hp ⊢
      simp [encK] at hp
      simp [Fn.f_law_box, start, encK, SZ_val, bxK, hp, b2, Sm.ps, encB]
      omega
    | held =>
      obtain ⟨a, rfl⟩ := len1 sh
      rw [enc_nd] at hp ⊢
      simp [encK] at hp
      simp [Fn.f_law_box, start, encK, SZ_val, bxK, hp, b2, Sm.ps, encB]
    | script u d =>
      obtain ⟨hud, sh⟩ := sh
      cases u <;> cases d <;> simp at hud sh
      · obtain ⟨a, b, rfl⟩ := len2 sh
        rw [enc_nd]
        simp [Fn.f_law_box, start, encK, SZ_val, bxK, b2, Sm.ps]
        simp [encB, bMax1, intsV, maxI, lrows_ok h, lrows_none h, Bx.rows, maxL, SZ_val]
      · obtain ⟨a, b, rfl⟩ := len2 sh
        rw [enc_nd]
        simp [Fn.f_law_box, start, encK, SZ_val, bxK, b2, Sm.ps]
        simp [encB, bMax1, intsV, maxI, lrows_ok h, lrows_none h, Bx.rows, maxL, SZ_val]
      · obtain ⟨a, b, c, rfl⟩ := len3 sh
        rw [enc_nd]
        simp [Fn.f_law_box, start, encK, SZ_val, bxK, b2, Sm.ps]
        simp [encB, bMax1, intsV, maxI, lrows_ok h, lrows_none h, Bx.rows, maxL, SZ_val]
    | chain ss =>
      have hne : ps ≠ [] := fun z => by rw [z] at sh; simp [Kd.sh] at sh
      have m1 := maxL_eq (fun (p : Sm) => (bx p).u) ps hne
      have m2 := maxL_eq (fun (p : Sm) => (bx p).d) ps hne
      rw [enc_nd] at hp ⊢
      simp [encK] at hp
      simp [Fn.f_law_box, start, encK, SZ_val, bxK, hp, Sm.ps, hlz]
      rw [comp_map enc (fun p => encB (bx p)) ps (fun p hp => by simp [b2 p hp])]
      simp [SZ_val, hlz]
      rw [comp_map (fun p => encB (bx p)) (fun p => .int ((bx p).w + 3)) ps (fun p hp => by simp [encB])]
      simp [SZ_val, hlz]
      rw [comp_map (fun p => encB (bx p)) (fun p => .int (bx p).u) ps (fun p hp => by simp [encB])]
      simp [SZ_val, hlz, m1]
      rw [comp_map (fun p => encB (bx p)) (fun p => .int (bx p).d) ps (fun p hp => by simp [encB])]
      have e3 := sum_add3 (fun p => (bx p).w) ps
      simp [SZ_val, m2, encB, Function.comp_def, e3]
      omega
    | table r c =>
      obtain ⟨h1, h2, h3'⟩ := sh
      have hr : r ≤ 1000 := by
        have : r * 1 ≤ r * c := Nat.mul_le_mul_left r h2
        omega
      have hc : c ≤ 1000 := by
        have : 1 * c ≤ r * c := Nat.mul_le_mul_right c h1
        omega
      have hne : chunk r c ps ≠ [] := fun z => by have := chunk_length r c ps; rw [z] at this; simp at this; omega
      have hrl := chunk_length r c ps
      have heach := chunk_each r c ps h3'
      have hbx : ∀ row ∈ chunk r c ps, ∀ p ∈ row, callF T (m + 1) 42 [enc p] st = .ok (encB (bx p)) st := fun row hrow p hp => b2 p (chunk_mem r c ps row hrow p hp) st
      rw [enc_nd]
      have hbk : bxK (.table r c) (ps.map bx) = tabBx c ((chunk r c ps).map (List.map bx)) := by simp only [bxK, chunk_map]
      rw [hbk]
      have henc : encK (.table r c) (ps.map enc) = .tup [.str [116, 97, 98, 108, 101], .tup ((chunk r c ps).map fun r => .tup (r.map enc))] := by simp [encK, chunk_map, Function.comp_def]
      rw [henc]
      revert hne hrl heach hbx
      generalize chunk r c ps = rows
      intro hne hrl heach hbx
      obtain ⟨r0, rs, rfl⟩ := List.exists_cons_of_ne_nil hne
      have hr0 : r0.length = c := heach r0 (by simp)
      have s62 : small62 (c : Int) = true := small62_of (by omega) (by omega)
      obtain ⟨x1, e1⟩ := loopW (W := some (.str [116, 97, 98, 108, 101])) (H := some (.int ((r : Int) - 1))) hne heach (by omega) hbx (List.range c) (fun k hk => List.mem_range.mp hk) 0 none
      obtain ⟨x2, y2, e2⟩ := loopH (cf := callF T (m + 1)) (S := some (.tup [.str [116, 97, 98, 108, 101], .tup ((r0 :: rs).map fun r => .tup (r.map enc))])) (W := some (.str [116, 97, 98, 108, 101])) (wide := some (.int (0 + ((List.range c).map fun k => maxL ((r0 :: rs).map fun row => ((row.map bx).getD k ⟨0, 0, 0⟩).w) + 2).sum))) (k := x1) (st := st) (r0 :: rs)
        (fun row hr => ⟨fun z => by have := heach row hr; rw [z] at this; simp at this; omega, by rw [heach row hr]; exact hc⟩) hbx ((r : Int) - 1) none none
      simp at e1 e2
      have hrl' : (rs.length : Int) + 1 = (r : Int) := by simp at hrl; omega
      simp [Fn.f_law_box, start, SZ_val, hr0, s62, rngL_map, hrl']
      rw [e1]
      simp
      rw [e2]
      have ew := sum_add2 (fun (k : Nat) => maxL ((r0 :: rs).map fun row => ((row.map bx).getD k ⟨0, 0, 0⟩).w)) (List.range c)
      simp at ew
      simp [SZ_val, encB, tabBx, colsW, rowsH, Function.comp_def, ew, hrl']
      omega
end
end SM

/-! K03: boxes. -/
namespace PL
mutual
/-- tuples of ints, texts, none -/
def PV.tfine : PV → Bool
  | .non => true
  | .int _ => true
  | .str _ => true
  | .tup xs => decide (xs.length ≤ 16777216) && PV.tfines xs
  | _ => false
def PV.tfines : List PV → Bool
  | [] => true
  | x :: r => PV.tfine x && PV.tfines r
end
theorem tfines_mem : ∀ {l : List PV}, PV.tfines l = true → ∀ v ∈ l, v.tfine = true
  | [], _, v, hv => by simp at hv
  | x :: r, h, v, hv => by
    simp only [PV.tfines, Bool.and_eq_true] at h
    rcases List.mem_cons.mp hv with z | z
    · rw [z]; exact h.1
    · exact tfines_mem h.2 v z
theorem deeps_mem : ∀ {l : List PV} {v : PV}, v ∈ l → v.deep ≤ PV.deeps l
  | [], v, hv => by simp at hv
  | x :: r, v, hv => by
    simp only [PV.deeps]
    rcases List.mem_cons.mp hv with z | z
    · rw [z]; omega
    · have := deeps_mem z; omega
theorem zipL_self (l : List PV) : zipL l l = l.map fun v => .tup [v, v] := by
  induction l with
  | nil => rfl
  | cons a r ih => simp [zipL, ih]
theorem all_true (l : List PV) : bAll [.lst (l.map fun _ => .bl true)] = some (.bl true) := by
  have e : blsV (l.map fun _ => PV.bl true) = some (l.map fun _ => true) := blsV_map (fun _ => true) l
  simp only [bAll, e]
  simp
end PL
namespace SM
open PL
section
variable {T : Tab}
theorem same_ok (h : T.lookup 29 = some Fn.f_law_same) : ∀ (n : Nat) (v : PV), v.tfine = true → v.deep ≤ n → ∀ st, callF T (n + 1) 29 [v, v] st = .ok (.bl true) st := by
  intro n
  induction n with
  | zero =>
    intro v hv hd st
    rw [callF_of h, runD_of rfl]
    cases v with
    | non => simp [Fn.f_law_same, start]
    | int i => simp [Fn.f_law_same, start]
    | str s => simp [Fn.f_law_same, start]
    | tup xs => simp [PV.deep] at hd
    | _ => simp [PV.tfine] at hv
  | succ n ih =>
    intro v hv hd st
    rw [callF_of h, runD_of rfl]
    cases v with
    | non => simp [Fn.f_law_same, start]
    | int i => simp [Fn.f_law_same, start]
    | str s => simp [Fn.f_law_same, start]
    | tup xs =>
      simp only [PV.deep] at hd
      simp only [PV.tfine, Bool.and_eq_true, decide_eq_true_eq] at hv
      have hz := hv.1
      simp [Fn.f_law_same, start, zipL_self, SZ_val, hz]
      rw [comp_map (fun v => .tup [v, v]) (fun _ => .bl true) xs (fun v hvx => ?_)]
      · have q := all_true xs
        simp [q]
      · have hvd := deeps_mem hvx
        simp [ih v (tfines_mem hv.2 v hvx) (by omega)]
    | _ => simp [PV.tfine] at hv
theorem same_3 (h : T.lookup 29 = some Fn.f_law_same) (n : Nat) (a b c : Int) (st : Sto) : callF T (n + 2) 29 [.tup [.int a, .int b, .int c], .tup [.int a, .int b, .int c]] st = .ok (.bl true) st := by
  have hi : ∀ i : Int, callF T (n + 1) 29 [.int i, .int i] st = .ok (.bl true) st := fun i => by
    rw [callF_of h, runD_of rfl]
    simp [Fn.f_law_same, start]
  rw [callF_of h, runD_of rfl]
  have q := all_true [.non, .non, .non]
  simp at q
  simp [Fn.f_law_same, start, zipL, SZ_val, hi, q]
theorem law03 (hb : BoxT T) (hd : DrawT T) (hl : LbT T) (hs : T.lookup 29 = some Fn.f_law_same) (hh : T.lookup 43 = some Fn.f_law_k03) : LawTrue T 61 43 := by
  intro ns hns
  refine ⟨[], ?_⟩
  rw [callF_of hh, runD_of rfl]
  have s16 : small62 16 = true := by decide
  have s31 : small64 31 = true := by decide
  obtain ⟨e', q, o1, o2, o3, rfl⟩ := range_inv (f := forF (callF T 60) (.nm 1) (match Fn.f_law_k03.body with | .seq (.fr _ _ b) _ => b | _ => .skip)) (st := []) (fun e => ∃ o1 o2 o3, e = [some (.scr ns), o1, o2, o3]) 16 [some (.scr ns), none, none, none] ⟨_, _, _, rfl⟩ (by
    rintro k hk e ⟨o1, o2, o3, rfl⟩
    have k9 : (0 : Int) ≤ (k : Int) % 9 := Int.emod_nonneg _ (by decide)
    generalize hcell : cellI ns ((k : Int) % 9).toNat + 31 * (k : Int) = cell
    obtain ⟨s, g1, d1, e1⟩ := draw_at hd 5 (by decide) cell
    have e1' : callF T 60 12 [.int cell, .int 5] [] = .ok (enc s) [] := e1 60 [] (by omega)
    have q1 := box_ok hb s g1.sh 60 (by omega) []
    have q2 := lbox_ok hl s g1.sh 60 (by omega) []
    have q3 := same_3 hs 58 (bx s).w (bx s).u (bx s).d []
    simp [encB] at q1 q2
    simp [Fn.f_law_k03, cell_int hd 59 ns _ k9, s31, hcell, e1', q1, q2, q3])
  have box : ∀ s, Sh s → dp s ≤ 20 → callF T 60 40 [enc s] [] = .ok (encB (bx s)) [] := fun s h1 h2 => box_ok hb s h1 60 (by omega) []
  have wsh : ∀ t, Sh (.nd (.word t) []) := fun t => .nd rfl (by simp) (by simp)
  have wdp : ∀ t, dp (.nd (.word t) []) = 1 := fun t => by rw [dp_nd]; rfl
  have b1 := box (.nd .over [.nd (.word [97, 98, 99]) [], .nd (.word [97]) []]) (.nd rfl (by simp) (by simp [wsh])) (by rw [dp_nd]; simp [wdp, maxN])
  have b2 := box (.nd .root [.nd (.word [97]) []]) (.nd rfl (by simp) (by simp [wsh])) (by rw [dp_nd]; simp [wdp, maxN])
  have b3 := box (.nd (.script true true) [.nd (.word [97]) [], .nd (.word [97]) [], .nd (.word [97]) []]) (.nd ⟨rfl, rfl⟩ (by simp) (by simp [wsh])) (by rw [dp_nd]; simp [wdp, maxN])
  have b4 := box (.nd (.table 2 2) [.nd (.word [97]) [], .nd (.word [97]) [], .nd (.word [97]) [], .nd (.word [97]) []]) (.nd ⟨by omega, by omega, rfl⟩ (by simp) (by simp [wsh])) (by rw [dp_nd]; simp [wdp, maxN])
  have osh : Sh (.nd .over [.nd (.word [97]) [], .nd (.word [97]) []]) := .nd rfl (by simp) (by simp [wsh])
  have odp : dp (.nd .over [.nd (.word [97]) [], .nd (.word [97]) []]) = 2 := by rw [dp_nd]; simp [wdp, maxN]
  have b5 := box (.nd (.chain [[43]]) [.nd (.word [97]) [], .nd .over [.nd (.word [97]) [], .nd (.word [97]) []]]) (.nd rfl (by simp) (by simp [wsh, osh])) (by rw [dp_nd]; simp [wdp, odp, maxN])
  clear box
  simp [enc_nd, encK, bx_nd, bxK, encB, maxL, Bx.rows, pairs, chunk, tabBx, colsW, rowsH, List.range_succ] at b1 b2 b3 b4 b5
  have x1 : max (3 : Int) 1 = 3 := rfl
  have x2 : max (0 : Int) 1 = 1 := rfl
  rw [x1] at b1
  rw [x2] at b5
  simp [Fn.f_law_k03, start, s16]
  simp [Fn.f_law_k03] at q
  rw [q]
  simp [SZ_val, b1, b2, b3, b4, b5]
end
end SM

/-! WY: ways, parts at ways, parts put. -/
namespace SM
open PL
def wysL : Nat → List (List (List Nat)) → List (List Nat)
  | _, [] => []
  | k, r :: rs => r.map (k :: ·) ++ wysL (k + 1) rs
def wys : Sm → List (List Nat) := Sm.fold fun _ _ rs => [] :: wysL 0 rs
theorem wys_nd (k : Kd) (ps : List Sm) : wys (.nd k ps) = [] :: wysL 0 (ps.map wys) := fold_nd _ k ps
def encW (w : List Nat) : PV := .tup (w.map fun (k : Nat) => .int (k : Int))
def partAt : Sm → List Nat → Option Sm
  | s, [] => some s
  | s, k :: w => match s.ps[k]? with
    | some p => partAt p w
    | none => none
def putAt : Sm → List Nat → Sm → Sm
  | _, [], new => new
  | s, k :: w, new => match s.ps[k]? with
    | some p => .nd s.kd (s.ps.set k (putAt p w new))
    | none => s
def mayBe (k : Kd) (i : Nat) (new : Sm) : Bool := match k with
  | .chain _ => !new.isChain
  | .script _ _ => decide (0 < i) || new.isBase
  | _ => true
/-- it may be put there -/
def mayPut : Sm → List Nat → Sm → Prop
  | _, [], _ => True
  | s, k :: w, new => match s.ps[k]? with
    | some p => mayPut p w new ∧ mayBe s.kd k (putAt p w new) = true
    | none => False
structure WwT (T : Tab) : Prop extends KpT T where
  ways : T.lookup 25 = some Fn.f_ways
  part_at : T.lookup 26 = some Fn.f_part_at
structure WyT (T : Tab) : Prop extends WwT T where
  with_parts : T.lookup 22 = some Fn.f_with_parts
  may_be : T.lookup 27 = some Fn.f_may_be
  put_at : T.lookup 28 = some Fn.f_put_at
theorem le_sum_of : ∀ {l : List Nat} {n : Nat}, n ∈ l → n ≤ l.sum
  | a :: r, n, h => by
    rw [List.sum_cons]
    rcases List.mem_cons.mp h with z | z
    · omega
    · have := le_sum_of z; omega
theorem under_ints (n : Nat) (w : List Nat) : PV.unders n (w.map fun (k : Nat) => PV.int (k : Int)) = true := by
  induction w with
  | nil => simp [PV.unders]
  | cons a r ih => simp [PV.unders, PV.under, ih]
@[simp] theorem under_encW (n : Nat) (w : List Nat) : (encW w).under n = true := by simp only [encW, PV.under, under_ints]
theorem under_encWs (n : Nat) (l : List (List Nat)) : PV.unders n (l.map encW) = true := by
  induction l with
  | nil => simp [PV.unders]
  | cons a r ih => simp [PV.unders, ih]
@[simp] theorem d_encW (st : Sto) (w : List Nat) : deref st (encW w) = encW w := (rfl)
theorem wysL_len : ∀ (k : Nat) (rs : List (List (List Nat))), (wysL k rs).length = (rs.map List.length).sum
  | _, [] => rfl
  | k, r :: rs => by simp [wysL, wysL_len (k + 1) rs]
theorem wys_dp {s : Sm} : ∀ w ∈ wys s, w.length < dp s := by
  induction s using Sm.ind with
  | h k ps ih =>
    intro w hw
    rw [wys_nd] at hw
    rcases List.mem_cons.mp hw with z | z
    · subst z; exact dp_pos (.nd k ps)
    · have key : ∀ (j : Nat) (l : List Sm), (∀ p ∈ l, p ∈ ps) → ∀ w ∈ wysL j (l.map wys), w.length < dp (.nd k ps) := by
        intro j l
        induction l generalizing j with
        | nil => intro _ w hw; simp [wysL] at hw
        | cons p l ihl =>
          intro hl w hw
          simp only [List.map_cons, wysL, List.mem_append, List.mem_map] at hw
          rcases hw with ⟨v, hv, rfl⟩ | hw
          · have h1 := ih p (hl p (by simp)) v hv
            have h2 := dp_lt (k := k) (hl p (by simp))
            simp only [List.length_cons]
            omega
          · exact ihl (j + 1) (fun q hq => hl q (by simp [hq])) w hw
      exact key 0 ps (fun _ h => h) w z
section
variable {T : Tab}
theorem waysL {cf : CF} {S : Option PV} {st : Sto} : ∀ (ps : List Sm) (k : Nat) (acc : List PV) (x y : Option PV), (∀ p ∈ ps, dp p ≤ 1000) → (∀ p ∈ ps, ∀ st, cf 25 [enc p] st = .ok (.tup ((wys p).map encW)) st) → acc.length + (wysL k (ps.map wys)).length ≤ 16777216 →
    ∃ x' y', forL (forF cf (.tp (.cons (.nm 2) (.cons (.nm 3) .nil))) (.seq (.exp (.mth .extend (.var 1) (.cons (.comp [4] (.nm 4) (.seq (.call 25 (.cons (.var 3) .nil))) .yes (.bin .Add (.tup (.cons (.var 2) .nil)) (.var 4))) .nil))) .skip)) (enumL k (ps.map enc)) [S, some (.ref st.length), x, y, none] (st ++ [.lst acc]) =
      .next [S, some (.ref st.length), x', y', none] (st ++ [.lst (acc ++ (wysL k (ps.map wys)).map encW)])
  | [], k, acc, x, y, _, _, _ => ⟨x, y, by simp [enumL, wysL]⟩
  | p :: ps, k, acc, x, y, hd, h, hl => by
    simp only [List.map_cons, wysL, List.length_append, List.length_map] at hl
    obtain ⟨x', y', e⟩ := waysL (cf := cf) (S := S) (st := st) ps (k + 1) (acc ++ ((wys p).map (k :: ·)).map encW) (some (.int (k : Int))) (some (enc p)) (fun q hq => hd q (by simp [hq])) (fun q hq => h q (by simp [hq])) (by simp; omega)
    refine ⟨x', y', ?_⟩
    have hz : (wys p).length ≤ 16777216 := by omega
    have hz2 : acc.length + (wys p).length ≤ 16777216 := by omega
    simp [enumL, h p (by simp), SZ_val, hz]
    rw [comp_map encW (fun w => encW (k :: w)) (wys p) (fun w hw => by
      have h1 := wys_dp w hw
      have h2 := hd p (by simp)
      have h3 : 1 + w.length ≤ 16777216 := by omega
      simp [encW, SZ_val, h3])]
    simp [SZ_val, hz2]
    simp [wysL] at e ⊢
    exact e
theorem ways_ok (h : WwT T) (s : Sm) (hs : Sh s) (hd : dp s ≤ 1000) (hz : (wys s).length ≤ 16777216) : ∀ n, 2 * dp s + 1 ≤ n → ∀ st, callF T n 25 [enc s] st = .ok (.tup ((wys s).map encW)) st := by
  induction s using Sm.ind with
  | h k ps ih =>
    intro n hn st
    obtain ⟨m, rfl⟩ : ∃ m, n = m + 3 := ⟨n - 3, by have := dp_pos (.nd k ps); omega⟩
    rw [callF_of h.ways, runD_of rfl]
    rw [wys_nd] at hz ⊢
    simp only [List.length_cons] at hz
    have hb : ∀ p ∈ ps, ∀ st, callF T (m + 2) 25 [enc p] st = .ok (.tup ((wys p).map encW)) st := fun p hp => by
      have h1 := dp_lt (k := k) hp
      refine ih p hp (hs.mem p hp) (by omega) ?_ (m + 2) (by omega)
      have h2 : (wys p).length ≤ ((ps.map wys).map List.length).sum := le_sum_of (by simp; exact ⟨p, hp, rfl⟩)
      rw [wysL_len] at hz
      omega
    obtain ⟨x', y', e⟩ := waysL (cf := callF T (m + 2)) (S := some (enc (.nd k ps))) (st := st) ps 0 [encW []] none none (fun p hp => by have := dp_lt (k := k) hp; omega) hb (by simp; omega)
    have hp := parts_ok h.toKpT m (.nd k ps) hs (st ++ [.lst [.tup []]])
    simp [Sm.ps] at hp
    have e0 : encW [] = .tup [] := rfl
    rw [e0] at e
    simp at e
    simp [Fn.f_ways, start, SZ_val, hp, e0]
    rw [e]
    simp
    refine k_fnA ?_
    simp only [PV.under, PV.unders, Bool.true_and]
    exact under_encWs _ _
theorem partL (h : WwT T) (m : Nat) {W : Option PV} : ∀ (w : List Nat) (s p : Sm) (x : Option PV) (st : Sto), Sh s → partAt s w = some p →
    ∃ x', forL (forF (callF T (m + 2)) (.nm 2) (.seq (.ite (.nt (.cmp2 .LtE .Lt (.cst (.int 0)) (.var 2) (.bi .len (.cons (.call 21 (.cons (.var 0) .nil)) .nil)))) (.seq .nev
    .skip) .skip)
    (.seq (.asg (.nm 0) (.sub (.call 21 (.cons (.var 0) .nil)) (.var 2)))
    .skip))) (w.map fun (k : Nat) => .int (k : Int)) [some (enc s), W, x] st = .next [some (enc p), W, x'] st
  | [], s, p, x, st, _, e => by simp [partAt] at e; subst e; exact ⟨x, by simp⟩
  | k :: w, s, p, x, st, hs, e => by
    simp only [partAt] at e
    split at e
    · rename_i q hq
      have hm : q ∈ s.ps := List.mem_of_getElem? hq
      have hsq : Sh q := by
        cases s with
        | nd kd ps => exact hs.mem q hm
      obtain ⟨x', e'⟩ := partL h m w q p (some (.int (k : Int))) st hsq e
      refine ⟨x', ?_⟩
      have hl : k < s.ps.length := (List.getElem?_eq_some_iff.mp hq).1
      have hp := parts_ok h.toKpT m s hs st
      have ha : (s.ps.map enc)[k]? = some (enc q) := by rw [List.getElem?_map, hq]; rfl
      simp [hp, hl, atI_nat ha]
      exact e'
    · cases e
theorem part_at_ok (h : WwT T) (n : Nat) {s p : Sm} {w : List Nat} (hs : Sh s) (e : partAt s w = some p) (st : Sto) : callF T (n + 3) 26 [enc s, encW w] st = .ok (enc p) st := by
  rw [callF_of h.part_at, runD_of rfl]
  obtain ⟨x', q⟩ := partL h n (W := some (encW w)) w s p none st hs e
  have hi : itV (encW w) = some (w.map fun (k : Nat) => .int (k : Int)) := rfl
  simp [Fn.f_part_at, start, hi]
  rw [q]
  simp
theorem isChain_name (s : Sm) : (s.kd.name = [99, 104, 97, 105, 110]) ↔ s.isChain = true := by
  cases s with
  | nd k ps => cases k <;> simp [Sm.kd, Kd.name, Sm.isChain]
theorem isBase_name (s : Sm) : (s.kd.name = [119, 111, 114, 100] ∨ s.kd.name = [104, 101, 108, 100] ∨ s.kd.name = [116, 97, 98, 108, 101]) ↔ s.isBase = true := by
  cases s with
  | nd k ps => cases k <;> simp [Sm.kd, Kd.name, Sm.isBase]
theorem may_ok (h : WyT T) (n : Nat) (s new : Sm) (i : Nat) (st : Sto) : callF T (n + 2) 27 [enc s, .int (i : Int), enc new] st = .ok (.bl (mayBe s.kd i new)) st := by
  rw [callF_of h.may_be, runD_of rfl]
  have hk : ∀ st, callF T (n + 1) 20 [enc s] st = .ok (.str s.kd.name) st := kindS h.toKpT n s
  have hn : ∀ st, callF T (n + 1) 20 [enc new] st = .ok (.str new.kd.name) st := kindS h.toKpT n new
  have hc := isChain_name new
  have hb := isBase_name new
  cases s with
  | nd k ps =>
    simp only [Sm.kd] at hk ⊢
    cases k with
    | chain ss =>
      simp only [Kd.name] at hk
      by_cases z : new.isChain = true
      · simp [Fn.f_may_be, start, hk, hn, hc.mpr z, mayBe, z]
      · have z2 : ¬ new.kd.name = [99, 104, 97, 105, 110] := fun y => z (hc.mp y)
        simp [Fn.f_may_be, start, hk, hn, z2, mayBe, z]
    | script u d =>
      simp only [Kd.name] at hk
      by_cases hi : 0 < i
      · have hi2 : (0 : Int) < (i : Int) := by omega
        simp [Fn.f_may_be, start, hk, hn, mayBe, hi, hi2]
      · have hi2 : ¬ ((0 : Int) < (i : Int)) := by omega
        have hi0 : i = 0 := by omega
        subst hi0
        by_cases z : new.isBase = true
        · simp [Fn.f_may_be, start, hk, hn, mayBe, z, hb]
        · simp [Fn.f_may_be, start, hk, hn, mayBe, z, hb]
    | _ => simp only [Kd.name] at hk; simp [Fn.f_may_be, start, hk, hn, mayBe]
theorem zipP : ∀ (ss : List (List Nat)) (xs ys : List PV), xs.length = ss.length → ys.length = ss.length → zipL (pairs ss xs) ys = (ss.zip (xs.zip ys)).map fun p => .tup [.tup [.str p.1, p.2.1], p.2.2]
  | [], xs, ys, _, _ => by simp [pairs, zipL]
  | s :: ss, x :: xs, y :: ys, h1, h2 => by
    have := zipP ss xs ys (by simpa using h1) (by simpa using h2)
    simp only [pairs, List.zip_cons_cons, List.map_cons, zipL] at this ⊢
    rw [this]
  | _ :: _, [], _, h, _ => by simp at h
  | _ :: _, _ :: _, [], _, h => by simp at h
theorem pairs_zip : ∀ (ss : List (List Nat)) (xs ys : List PV), xs.length = ss.length → ys.length = ss.length → (ss.zip (xs.zip ys)).map (fun p => PV.tup [.str p.1, p.2.2]) = pairs ss ys
  | [], xs, ys, _, _ => by simp [pairs]
  | s :: ss, x :: xs, y :: ys, h1, h2 => by
    have := pairs_zip ss xs ys (by simpa using h1) (by simpa using h2)
    simp only [pairs, List.zip_cons_cons, List.map_cons] at this ⊢
    rw [this]
  | _ :: _, [], _, h, _ => by simp at h
  | _ :: _, _ :: _, [], _, h => by simp at h
theorem chunk_cut {α : Type} (c : Nat) : ∀ (r : Nat) (xs : List α), (List.range r).map (fun (j : Nat) => (xs.drop (j * c)).take c) = chunk r c xs
  | 0, _ => rfl
  | r + 1, xs => by
    rw [List.range_succ_eq_map, List.map_cons, List.map_map]
    simp only [chunk, Nat.zero_mul, List.drop_zero]
    rw [← chunk_cut c r (xs.drop c)]
    congr 1
    refine List.map_congr_left fun j _ => ?_
    simp only [Function.comp, List.drop_drop]
    rw [show (j + 1) * c = c + j * c by rw [Nat.succ_mul]; omega]
theorem cut_mid {α : Type} (xs : List α) (a b : Nat) : cutL xs (some (a : Int)) (some (b : Int)) = (xs.drop a).take (b - a) := by
  unfold cutL
  rw [HT.sIx_nat, HT.sIx_nat]
  by_cases h : a ≤ xs.length
  · rw [Nat.min_eq_left h]
    by_cases h2 : b ≤ xs.length
    · rw [Nat.min_eq_left h2]
    · rw [Nat.min_eq_right (by omega), List.take_of_length_le (by rw [List.length_drop]; exact Nat.le_refl _), List.take_of_length_le (by rw [List.length_drop]; omega)]
  · rw [show min a xs.length = xs.length by omega, List.drop_length, List.drop_eq_nil_of_le (by omega)]
    simp
theorem fitsL {i : Int} (h1 : 0 ≤ i) (h2 : i ≤ 2000000) : PySem.Builtin.Range.rangeFitsLong i = true := by
  unfold PySem.Builtin.Range.rangeFitsLong
  simp only [Bool.and_eq_true, decide_eq_true_eq]
  omega
theorem rng3_ok (r c : Nat) (h1 : 1 ≤ r) (h2 : 1 ≤ c) (h3 : r ≤ 1000) (h4 : c ≤ 1000) : rngV [.int 0, .int ((r : Int) * (c : Int)), .int (c : Int)] = some (rngL 0 (c : Int) r) := by
  have hs : PySem.Builtin.Range.rangeSize 0 ((r : Int) * (c : Int)) (c : Int) = (r : Int) := by
    unfold PySem.Builtin.Range.rangeSize
    have hpos : (0 : Int) < (r : Int) * (c : Int) := Int.mul_pos (by omega) (by omega)
    rw [if_pos (by omega), if_pos hpos]
    have : ((r : Int) * (c : Int) - 0 - 1) / (c : Int) = (r : Int) - 1 := by
      have e : (r : Int) * (c : Int) - 0 - 1 = ((c : Int) - 1) + (c : Int) * ((r : Int) - 1) := by
        rw [Int.mul_sub, Int.mul_comm (c : Int) (r : Int)]; omega
      rw [e, Int.add_mul_ediv_left _ _ (by omega), Int.ediv_eq_zero_of_lt (by omega) (by omega)]
      omega
    rw [this]
    omega
  simp only [rngV, hs]
  have hp : (r : Int) * (c : Int) ≤ 1000000 := by
    have : r * c ≤ 1000 * 1000 := Nat.mul_le_mul h3 h4
    rw [← Int.natCast_mul]
    omega
  have hp0 : (0 : Int) ≤ (r : Int) * (c : Int) := Int.mul_nonneg (by omega) (by omega)
  rw [if_pos]
  · rw [Int.toNat_natCast]
  · unfold PySem.Builtin.Range.small
    rw [hs, fitsL (Int.le_refl 0) (by omega), fitsL hp0 (by omega), fitsL (i := (c : Int)) (by omega) (by omega), fitsL (i := (r : Int)) (by omega) (by omega), if_pos (by omega), fitsL (i := (r : Int) * (c : Int) + ((c : Int) - 1)) (by omega) (by omega)]
    have n1 : decide ((c : Int) ≠ 0) = true := decide_eq_true (by omega)
    have n2 : decide ((c : Int).natAbs < 1073741824) = true := decide_eq_true (by omega)
    have n3 : decide ((0 : Int) ≤ (r : Int)) = true := decide_eq_true (by omega)
    rw [n1, n2, n3]
    simp only [Bool.and_self, Bool.or_true]
theorem with_ok (h : WyT T) (n : Nat) (k : Kd) (ps qs : List Sm) (hs : Sh (.nd k ps)) (hl : qs.length = ps.length) (st : Sto) : callF T (n + 2) 22 [enc (.nd k ps), .tup (qs.map enc)] st = .ok (enc (.nd k qs)) st := by
  rw [callF_of h.with_parts, runD_of rfl]
  have sh := hs.kd
  have hlen := hs.len
  rw [enc_nd, enc_nd]
  cases k with
  | word t =>
    have : ps = [] := List.eq_nil_of_length_eq_zero sh
    subst this
    have : qs = [] := List.eq_nil_of_length_eq_zero (by simpa using hl)
    subst this
    simp [Fn.f_with_parts, start, encK, kind_ok h.toKpT, SZ_val]
  | over =>
    obtain ⟨a, b, rfl⟩ := len2 sh
    obtain ⟨c, d, rfl⟩ := len2 (show qs.length = 2 by simpa using hl)
    simp [Fn.f_with_parts, start, encK, kind_ok h.toKpT, SZ_val]
    exact k_fnA (by simp [PV.under, PV.unders])
  | root =>
    obtain ⟨a, rfl⟩ := len1 sh
    obtain ⟨c, rfl⟩ := len1 (show qs.length = 1 by simpa using hl)
    simp [Fn.f_with_parts, start, encK, kind_ok h.toKpT, SZ_val]
    exact k_fnA (by simp [PV.under, PV.unders])
  | held =>
    obtain ⟨a, rfl⟩ := len1 sh
    obtain ⟨c, rfl⟩ := len1 (show qs.length = 1 by simpa using hl)
    simp [Fn.f_with_parts, start, encK, kind_ok h.toKpT, SZ_val]
    exact k_fnA (by simp [PV.under, PV.unders])
  | script u d =>
    obtain ⟨hud, sh⟩ := sh
    cases u <;> cases d <;> simp at hud sh
    · obtain ⟨a, b, rfl⟩ := len2 sh
      obtain ⟨c, d, rfl⟩ := len2 (show qs.length = 2 by simpa using hl)
      simp [Fn.f_with_parts, start, encK, kind_ok h.toKpT, SZ_val]
      exact k_fnA (by simp [PV.under, PV.unders])
    · obtain ⟨a, b, rfl⟩ := len2 sh
      obtain ⟨c, d, rfl⟩ := len2 (show qs.length = 2 by simpa using hl)
      simp [Fn.f_with_parts, start, encK, kind_ok h.toKpT, SZ_val]
      exact k_fnA (by simp [PV.under, PV.unders])
    · obtain ⟨a, b, c, rfl⟩ := len3 sh
      obtain ⟨d, e, f, rfl⟩ := len3 (show qs.length = 3 by simpa using hl)
      simp [Fn.f_with_parts, start, encK, kind_ok h.toKpT, SZ_val]
      exact k_fnA (by simp [PV.under, PV.unders])
  | chain ss =>
    obtain ⟨a, r, rfl, hr⟩ := lenS sh
    obtain ⟨b, q, rfl, hq⟩ := lenS (show qs.length = ss.length + 1 by rw [hl]; exact sh)
    simp only [List.length_cons] at hlen
    have hz := zipP ss (r.map enc) (q.map enc) (by simpa using hr) (by simpa using hq)
    have hn : (ss.zip ((r.map enc).zip (q.map enc))).length ≤ 16777216 := by simp; omega
    have hn2 := hn
    simp at hn2
    simp [Fn.f_with_parts, start, encK, kind_ok h.toKpT, SZ_val, hz, hn2]
    rw [comp_map (fun (p : List Nat × PV × PV) => .tup [.tup [.str p.1, p.2.1], p.2.2]) (fun p => .tup [.str p.1, p.2.2]) _ (fun p _ => by simp [SZ_val])]
    simp [SZ_val, pairs_zip ss (r.map enc) (q.map enc) (by simpa using hr) (by simpa using hq)]
  | table r c =>
    obtain ⟨h1, h2, h3⟩ := sh
    have hc : c ≤ 1000 := by
      have : 1 * c ≤ r * c := Nat.mul_le_mul_right c h1
      omega
    have hr : r ≤ 1000 := by
      have : r * 1 ≤ r * c := Nat.mul_le_mul_left r h2
      omega
    have hq : qs.length = r * c := by rw [hl, h3]
    obtain ⟨r', rfl⟩ : ∃ j, r = j + 1 := ⟨r - 1, by omega⟩
    have hfirst : ((ps.map enc).take c).length = c := by
      rw [List.length_take, List.length_map]
      have : 1 * c ≤ (r' + 1) * c := Nat.mul_le_mul_right c h1
      omega
    have hfirst2 : min c ps.length = c := by simpa using hfirst
    have hrng := rng3_ok (r' + 1) c h1 h2 hr hc
    have hcut : ∀ j : Nat, cutL (qs.map enc) (some ((j * c : Nat) : Int)) (some ((j * c : Nat) + c : Int)) = ((qs.map enc).drop (j * c)).take c := fun j => by
      have := cut_mid (qs.map enc) (j * c) (j * c + c)
      rw [Nat.add_sub_cancel_left, Int.natCast_add] at this
      exact this
    have hq2 : (qs.length : Int) = ((r' + 1 : Nat) : Int) * (c : Int) := by rw [hq, Int.natCast_mul]
    have hrl : ((List.range (r' + 1)).map fun (j : Nat) => PV.int (0 + (j : Int) * (c : Int))).length ≤ 16777216 := by simp; omega
    simp [Fn.f_with_parts, start, encK, kind_ok h.toKpT, SZ_val, chunk, hfirst2]
    rw [hq2, hrng]
    have hr15 : r' ≤ 16777215 := by omega
    simp [SZ_val, rngL_map, hr15]
    rw [comp_map (fun (j : Nat) => .int ((j : Int) * (c : Int))) (fun (j : Nat) => .tup (((qs.map enc).drop (j * c)).take c)) (List.range (r' + 1)) (fun j _ => by
      have := hcut j
      rw [Int.natCast_mul] at this
      simp [this])]
    have hch : (List.range (r' + 1)).map (fun (j : Nat) => PV.tup (((qs.map enc).drop (j * c)).take c)) = (chunk (r' + 1) c (qs.map enc)).map .tup := by
      rw [← chunk_cut, List.map_map]
      rfl
    rw [hch]
    simp [SZ_val, chunk]
theorem fines_ints (w : List Nat) : PV.fines (w.map fun (k : Nat) => PV.int (k : Int)) = true := by
  induction w with
  | nil => simp [PV.fines]
  | cons a r ih => simp [PV.fines, PV.fine, ih]
theorem deeps_ints (w : List Nat) : PV.deeps (w.map fun (k : Nat) => PV.int (k : Int)) = 0 := by
  induction w with
  | nil => simp [PV.deeps]
  | cons a r ih => simp [PV.deeps, PV.deep, ih]
theorem fine_encW (w : List Nat) : (encW w).fine = true := by simp only [encW, PV.fine, fines_ints]
theorem deep_encW (w : List Nat) : (encW w).deep ≤ 64 := by simp only [encW, PV.deep, deeps_ints]; omega
theorem set_cutP {α : Type} (xs : List α) (k : Nat) (v : α) (h : k < xs.length) : xs.take k ++ v :: xs.drop (k + 1) = xs.set k v := by
  rw [List.set_eq_take_append_cons_drop, if_pos h]
theorem put_at_ok (h : WyT T) : ∀ (w : List Nat) (s new p : Sm) (n : Nat), Sh s → w.length + 4 ≤ n → partAt s w = some p → mayPut s w new → ∀ st, callF T n 28 [enc s, encW w, enc new] st = .ok (enc (putAt s w new)) st
  | [], s, new, p, n, hs, hn, e, _, st => by
    obtain ⟨m, rfl⟩ : ∃ m, n = m + 4 := ⟨n - 4, by omega⟩
    have hp := part_at_ok h.toWwT m hs e st
    rw [callF_of h.put_at, runD_of rfl]
    have e0 : encW [] = .tup [] := rfl
    rw [e0] at hp ⊢
    have q := eqV_self (a := .tup []) rfl (by simp [PV.deep, PV.deeps])
    simp [Fn.f_put_at, start, hp, SZ_val, q, putAt]
  | k :: w, s, new, p, n, hs, hn, e, hm, st => by
    simp only [List.length_cons] at hn
    obtain ⟨m, rfl⟩ : ∃ m, n = m + 4 := ⟨n - 4, by omega⟩
    have hp := part_at_ok h.toWwT m hs e st
    simp only [partAt] at e
    simp only [mayPut] at hm
    cases hq : s.ps[k]? with
    | none => rw [hq] at e; cases e
    | some q =>
      rw [hq] at e hm
      simp only at e hm
      have hmem : q ∈ s.ps := List.mem_of_getElem? hq
      have hsq : Sh q := by
        cases s with
        | nd kd ps => exact hs.mem q hmem
      have hl : k < s.ps.length := (List.getElem?_eq_some_iff.mp hq).1
      have hle : s.ps.length ≤ 1000 := by
        cases s with
        | nd kd ps => exact hs.len
      have ih := put_at_ok h w q new p (m + 3) hsq (by omega) e hm.1 st
      have hpr := parts_ok h.toKpT (m + 1) s hs st
      have ha : (s.ps.map enc)[k]? = some (enc q) := by rw [List.getElem?_map, hq]; rfl
      have hmay := may_ok h (m + 1) s (putAt q w new) k st
      rw [hm.2] at hmay
      have hset : (s.ps.map enc).take k ++ enc (putAt q w new) :: (s.ps.map enc).drop (k + 1) = (s.ps.set k (putAt q w new)).map enc := by
        rw [set_cutP _ _ _ (by simpa using hl), List.map_set]
      have hw : callF T (m + 3) 22 [enc s, .tup ((s.ps.set k (putAt q w new)).map enc)] st = .ok (enc (.nd s.kd (s.ps.set k (putAt q w new)))) st := by
        cases s with
        | nd kd ps => exact with_ok h (m + 1) kd ps _ hs (by simp [Sm.ps]) st
      have hputv : putAt s (k :: w) new = .nd s.kd (s.ps.set k (putAt q w new)) := by simp only [putAt, hq]
      rw [hputv]
      rw [callF_of h.put_at, runD_of rfl]
      have hne : eqV (encW (k :: w)) (.tup []) = some false := by
        obtain ⟨b, e1, e2⟩ := eqV_iff (a := encW (k :: w)) (b := encW []) (fine_encW _) (fine_encW _) (deep_encW _) (deep_encW _)
        rw [show PV.tup [] = encW [] from rfl, e1]
        cases b with
        | false => rfl
        | true =>
          have := e2.mp rfl
          simp [encW] at this
      have hat : L2.atI ((k :: w).map fun (k : Nat) => PV.int (k : Int)) 0 = some (.int (k : Int)) := by simp
      have c1 := cut_to (s.ps.map enc) k
      have c2 := cut_from (s.ps.map enc) (k + 1)
      have e0 : encW (k :: w) = .tup (.int (k : Int) :: w.map fun (k : Nat) => PV.int (k : Int)) := rfl
      rw [e0] at hp hne ⊢
      have ew : encW w = .tup (w.map fun (k : Nat) => PV.int (k : Int)) := rfl
      rw [ew] at ih
      simp at c1 c2
      have z1 : min k s.ps.length ≤ 16777215 := by omega
      have z2 : min k s.ps.length + 1 + (s.ps.length - (k + 1)) ≤ 16777216 := by omega
      simp [Fn.f_put_at, start, hp, SZ_val, hne, hpr, atI_nat ha, ih, hmay, c1, c2, z1, z2]
      rw [hset, hw]
      simp
end
end SM

/-! GR: boxes grow with their parts. -/
namespace SM
open PL
structure Grow (a e : Int) (b b' : Bx) : Prop where
  w1 : b.w ≤ b'.w
  w2 : b'.w ≤ b.w + a
  u : b.u ≤ b'.u
  d : b.d ≤ b'.d
  s : b'.u + b'.d ≤ b.u + b.d + e
theorem Grow.refl {a e : Int} (ha : 0 ≤ a) (he : 0 ≤ e) (b : Bx) : Grow a e b b := ⟨by omega, by omega, by omega, by omega, by omega⟩
theorem maxL_mem {l : List Int} (h : l ≠ []) : maxL l ∈ l := by
  cases l with
  | nil => exact absurd rfl h
  | cons i r => exact foldl_max_mem r i
theorem maxL_ge {l : List Int} {y : Int} (h : y ∈ l) : y ≤ maxL l := by
  cases l with
  | nil => simp at h
  | cons i r => exact foldl_max_le r i y h
theorem maxL_le {l : List Int} {m : Int} (h : l ≠ []) (hy : ∀ y ∈ l, y ≤ m) : maxL l ≤ m := hy _ (maxL_mem h)
/-- one of them grows -/
theorem maxL_set {l : List Int} {i : Nat} {x y δ : Int} (hi : l[i]? = some x) (h1 : x ≤ y) (h2 : y ≤ x + δ) : maxL l ≤ maxL (l.set i y) ∧ maxL (l.set i y) ≤ maxL l + δ := by
  have hl : i < l.length := (List.getElem?_eq_some_iff.mp hi).1
  have hne : l ≠ [] := fun z => by rw [z] at hl; simp at hl
  have hne2 : l.set i y ≠ [] := fun z => by have := congrArg List.length z; simp at this; exact hne this
  have hd : 0 ≤ δ := by omega
  constructor
  · refine maxL_le hne fun z hz => ?_
    obtain ⟨j, hj, rfl⟩ := List.mem_iff_getElem.mp hz
    by_cases q : i = j
    · subst q
      have : l[i] = x := by rw [List.getElem?_eq_getElem hj] at hi; simpa using hi
      rw [this]
      exact Int.le_trans h1 (maxL_ge (List.mem_set hl y))
    · refine maxL_ge ?_
      rw [List.mem_iff_getElem]
      exact ⟨j, by simpa using hj, by rw [List.getElem_set_ne q]⟩
  · refine maxL_le hne2 fun z hz => ?_
    rcases List.mem_or_eq_of_mem_set hz with q | q
    · have := maxL_ge q; omega
    · subst q
      have := maxL_ge (List.mem_of_getElem? hi)
      omega
theorem sum_set {l : List Int} {i : Nat} {x y δ : Int} (hi : l[i]? = some x) (h1 : x ≤ y) (h2 : y ≤ x + δ) : l.sum ≤ (l.set i y).sum ∧ (l.set i y).sum ≤ l.sum + δ := by
  induction l generalizing i with
  | nil => simp at hi
  | cons a r ih =>
    cases i with
    | zero => simp at hi; subst hi; simp; omega
    | succ i =>
      have := ih (i := i) (by simpa using hi)
      simp only [List.set_cons_succ, List.sum_cons]
      omega
/-- what is reckoned of each -/
theorem map_set_at {α : Type} (f : α → Int) {l : List α} {i : Nat} {b b' : α} (hi : l[i]? = some b) : (l.map f)[i]? = some (f b) ∧ (l.set i b').map f = (l.map f).set i (f b') := by
  refine ⟨by rw [List.getElem?_map, hi]; rfl, ?_⟩
  rw [List.map_set]
theorem chunk_set {α : Type} (c : Nat) (hc : 0 < c) (v : α) : ∀ (r : Nat) (xs : List α) (i : Nat), i < r * c → chunk r c (xs.set i v) = (chunk r c xs).set (i / c) (((chunk r c xs).getD (i / c) []).set (i % c) v)
  | 0, xs, i, h => by simp at h
  | r + 1, xs, i, h => by
    simp only [chunk]
    by_cases hi : i < c
    · rw [Nat.div_eq_of_lt hi, Nat.mod_eq_of_lt hi, List.take_set, List.drop_set, if_pos hi]
      simp
    · have h2 : i - c < r * c := by rw [Nat.succ_mul] at h; omega
      have ih := chunk_set c hc v r (xs.drop c) (i - c) h2
      have e1 : i / c = (i - c) / c + 1 := by
        have : i = (i - c) + c := by omega
        rw [this, Nat.add_div_right _ hc]; simp
      have e2 : i % c = (i - c) % c := by
        have : i = (i - c) + c := by omega
        rw [this, Nat.add_mod_right]; simp
      rw [List.take_set, List.drop_set, if_neg hi, ih, e1, e2]
      have : (xs.take c).set i v = xs.take c := List.set_eq_of_length_le (by rw [List.length_take]; omega)
      rw [this]
      simp
theorem getD_set_ne {α : Type} (l : List α) {i j : Nat} (v d : α) (h : i ≠ j) : (l.set i v).getD j d = l.getD j d := by
  rw [List.getD_eq_getElem?_getD, List.getElem?_set_ne h, ← List.getD_eq_getElem?_getD]
theorem getD_set_eq {α : Type} (l : List α) {i : Nat} (v d : α) (h : i < l.length) : (l.set i v).getD i d = v := by
  rw [List.getD_eq_getElem?_getD, List.getElem?_set_self h]; rfl
theorem getD_of {α : Type} {l : List α} {i : Nat} {v d : α} (h : l[i]? = some v) : l.getD i d = v := by
  rw [List.getD_eq_getElem?_getD, h]; rfl
theorem tab_grow {a e : Int} {c : Nat} {rows : List (List Bx)} {row : List Bx} {I J : Nat} {b b' : Bx} (hrow : rows[I]? = some row) (hb : row[J]? = some b) (hJ : J < c) (hlen : ∀ r ∈ rows, r.length = c) (g : Grow a e b b') :
    Grow a e (tabBx c rows) (tabBx c (rows.set I (row.set J b'))) := by
  have hI : I < rows.length := (List.getElem?_eq_some_iff.mp hrow).1
  -- the widths
  have hf : (rows.map fun r => (r.getD J ⟨0, 0, 0⟩).w)[I]? = some b.w := by rw [List.getElem?_map, hrow]; simp [hb]
  have hcol : colsW c (rows.set I (row.set J b')) = (colsW c rows).set J (maxL ((rows.map fun r => (r.getD J ⟨0, 0, 0⟩).w).set I b'.w)) := by
    unfold colsW
    refine List.ext_getElem (by simp) fun k h1 h2 => ?_
    simp only [List.length_map, List.length_range] at h1
    rw [List.getElem_set]
    by_cases hk : J = k
    · subst hk
      rw [if_pos rfl, List.getElem_map, List.getElem_range, List.map_set, getD_set_eq _ _ _ (by rw [hlen row (List.mem_of_getElem? hrow)]; exact hJ)]
    · rw [if_neg hk, List.getElem_map, List.getElem_map, List.getElem_range, List.map_set, getD_set_ne _ _ _ hk]
      congr 1
      refine List.ext_getElem (by simp) fun j q1 q2 => ?_
      rw [List.getElem_set]
      split
      · rename_i z
        subst z
        rw [List.getElem_map]
        have : rows[I] = row := by rw [List.getElem?_eq_getElem hI] at hrow; simpa using hrow
        rw [this]
      · rfl
  have hmc := maxL_set hf g.w1 g.w2
  have hcJ : (colsW c rows)[J]? = some (maxL (rows.map fun r => (r.getD J ⟨0, 0, 0⟩).w)) := by
    unfold colsW
    rw [List.getElem?_map, List.getElem?_range hJ]; rfl
  have hsum := sum_set hcJ hmc.1 hmc.2
  -- the heights
  have hu := map_set_at (fun b : Bx => b.u) (b' := b') hb
  have hd := map_set_at (fun b : Bx => b.d) (b' := b') hb
  have mu := maxL_set (δ := b'.u - b.u) hu.1 g.u (by omega)
  have md := maxL_set (δ := b'.d - b.d) hd.1 g.d (by omega)
  have hh : ((rowsH (rows.set I (row.set J b'))).map fun p => p.1 + p.2 + 1) = ((rowsH rows).map fun p => p.1 + p.2 + 1).set I (maxL ((row.map (·.u)).set J b'.u) + maxL ((row.map (·.d)).set J b'.d) + 1) := by
    unfold rowsH
    rw [List.map_set, List.map_set, hu.2, hd.2]
  have hhI : ((rowsH rows).map fun p => p.1 + p.2 + 1)[I]? = some (maxL (row.map (·.u)) + maxL (row.map (·.d)) + 1) := by
    unfold rowsH
    rw [List.getElem?_map, List.getElem?_map, hrow]; rfl
  have gs := g.s
  have hsh := sum_set (δ := e) hhI (y := maxL ((row.map (·.u)).set J b'.u) + maxL ((row.map (·.d)).set J b'.d) + 1) (by omega) (by omega)
  unfold tabBx
  rw [hcol, hh]
  simp only [List.length_set]
  exact ⟨by simp only; omega, by simp only; omega, by simp only; omega, by simp only; omega, by simp only; omega⟩
theorem chunk_get {α : Type} (c : Nat) (hc : 0 < c) : ∀ (r : Nat) (xs : List α) (i : Nat), i < r * c → ((chunk r c xs).getD (i / c) [])[i % c]? = xs[i]?
  | 0, xs, i, h => by simp at h
  | r + 1, xs, i, h => by
    simp only [chunk]
    by_cases hi : i < c
    · rw [Nat.div_eq_of_lt hi, Nat.mod_eq_of_lt hi]
      simp [List.getElem?_take_of_lt hi]
    · have h2 : i - c < r * c := by rw [Nat.succ_mul] at h; omega
      have ih := chunk_get c hc r (xs.drop c) (i - c) h2
      have e1 : i / c = (i - c) / c + 1 := by
        have : i = (i - c) + c := by omega
        rw [this, Nat.add_div_right _ hc]; simp
      have e2 : i % c = (i - c) % c := by
        have : i = (i - c) + c := by omega
        rw [this, Nat.add_mod_right]; simp
      rw [e1, e2, List.getD_cons_succ, ih, List.getElem?_drop, show c + (i - c) = i by omega]
theorem Grow.rows {a e : Int} {b b' : Bx} (g : Grow a e b b') : b.rows ≤ b'.rows ∧ b'.rows ≤ b.rows + e := by
  have := g.u; have := g.d; have := g.s
  unfold Bx.rows; omega
theorem nd_grow {a e : Int} (ha : 0 ≤ a) (he : 0 ≤ e) {k : Kd} {bs : List Bx} {i : Nat} {b b' : Bx} (hk : k.sh bs.length) (hb : bs[i]? = some b) (g : Grow a e b b') : Grow a e (bxK k bs) (bxK k (bs.set i b')) := by
  have hi : i < bs.length := (List.getElem?_eq_some_iff.mp hb).1
  have gr := g.rows
  obtain ⟨g1, g2, g3, g4, g5⟩ := g
  cases k with
  | word t => rw [show bs.length = 0 from hk] at hi; omega
  | chain ss =>
    have hw := map_set_at (fun b : Bx => b.w) (b' := b') hb
    have hu := map_set_at (fun b : Bx => b.u) (b' := b') hb
    have hd := map_set_at (fun b : Bx => b.d) (b' := b') hb
    have sw := sum_set hw.1 g1 g2
    have mu := maxL_set (δ := b'.u - b.u) hu.1 g3 (by omega)
    have md := maxL_set (δ := b'.d - b.d) hd.1 g4 (by omega)
    simp only [bxK]
    rw [hw.2, hu.2, hd.2]
    simp only [List.length_set]
    exact ⟨by simp only; omega, by simp only; omega, by simp only; omega, by simp only; omega, by simp only; omega⟩
  | over =>
    obtain ⟨x, y, rfl⟩ := len2 hk
    match i, hi with
    | 0, _ => simp at hb; subst hb; simp only [bxK, List.set_cons_zero, List.getD_cons_zero, List.getD_cons_succ]; exact ⟨by simp only; omega, by simp only; omega, by simp only; omega, by simp only; omega, by simp only; omega⟩
    | 1, _ => simp at hb; subst hb; simp only [bxK, List.set_cons_zero, List.set_cons_succ, List.getD_cons_zero, List.getD_cons_succ]; exact ⟨by simp only; omega, by simp only; omega, by simp only; omega, by simp only; omega, by simp only; omega⟩
  | root =>
    obtain ⟨x, rfl⟩ := len1 hk
    match i, hi with
    | 0, _ => simp at hb; subst hb; simp only [bxK, List.set_cons_zero, List.getD_cons_zero, List.getD_cons_succ]; exact ⟨by simp only; omega, by simp only; omega, by simp only; omega, by simp only; omega, by simp only; omega⟩
  | held =>
    obtain ⟨x, rfl⟩ := len1 hk
    match i, hi with
    | 0, _ => simp at hb; subst hb; simp only [bxK, List.set_cons_zero, List.getD_cons_zero, List.getD_cons_succ]; exact ⟨by simp only; omega, by simp only; omega, by simp only; omega, by simp only; omega, by simp only; omega⟩
  | script u d =>
    obtain ⟨hud, hk⟩ := hk
    cases u <;> cases d <;> simp at hud hk
    · obtain ⟨x, y, rfl⟩ := len2 hk
      match i, hi with
      | 0, _ => simp at hb; subst hb; simp [bxK, maxL]; exact ⟨by simp only; omega, by simp only; omega, by simp only; omega, by simp only; omega, by simp only; omega⟩
      | 1, _ => simp at hb; subst hb; simp [bxK, maxL]; exact ⟨by simp only; omega, by simp only; omega, by simp only; omega, by simp only; omega, by simp only; omega⟩
    · obtain ⟨x, y, rfl⟩ := len2 hk
      match i, hi with
      | 0, _ => simp at hb; subst hb; simp [bxK, maxL]; exact ⟨by simp only; omega, by simp only; omega, by simp only; omega, by simp only; omega, by simp only; omega⟩
      | 1, _ => simp at hb; subst hb; simp [bxK, maxL]; exact ⟨by simp only; omega, by simp only; omega, by simp only; omega, by simp only; omega, by simp only; omega⟩
    · obtain ⟨x, y, z, rfl⟩ := len3 hk
      match i, hi with
      | 0, _ => simp at hb; subst hb; simp [bxK, maxL]; exact ⟨by simp only; omega, by simp only; omega, by simp only; omega, by simp only; omega, by simp only; omega⟩
      | 1, _ => simp at hb; subst hb; simp [bxK, maxL]; exact ⟨by simp only; omega, by simp only; omega, by simp only; omega, by simp only; omega, by simp only; omega⟩
      | 2, _ => simp at hb; subst hb; simp [bxK, maxL]; exact ⟨by simp only; omega, by simp only; omega, by simp only; omega, by simp only; omega, by simp only; omega⟩
  | table r c =>
    obtain ⟨hr, hc, hl⟩ := hk
    have hic : i < r * c := by omega
    have hIr : i / c < r := Nat.div_lt_of_lt_mul (by rw [Nat.mul_comm]; exact hic)
    have hcl := chunk_length r c bs
    have hrow : (chunk r c bs)[i / c]? = some ((chunk r c bs).getD (i / c) []) := by
      rw [List.getD_eq_getElem?_getD, List.getElem?_eq_getElem (by omega)]; rfl
    have hbb : ((chunk r c bs).getD (i / c) [])[i % c]? = some b := by rw [chunk_get c (by omega) r bs i hic, hb]
    simp only [bxK]
    rw [chunk_set c (by omega) b' r bs i hic]
    exact tab_grow hrow hbb (Nat.mod_lt _ (by omega)) (chunk_each r c bs hl) ⟨g1, g2, g3, g4, g5⟩
theorem Sh.part {s p : Sm} (h : Sh s) {k : Nat} (e : s.ps[k]? = some p) : Sh p := by
  cases s with
  | nd kd ps => exact h.mem p (List.mem_of_getElem? e)
theorem Gd.part {s p : Sm} (h : Gd s) {k : Nat} (e : s.ps[k]? = some p) : Gd p := by
  cases s with
  | nd kd ps => exact h.mem p (List.mem_of_getElem? e)
theorem put_sh : ∀ (w : List Nat) {s new : Sm}, Sh s → Sh new → Sh (putAt s w new)
  | [], s, new, _, h => h
  | k :: w, s, new, hs, h => by
    simp only [putAt]
    cases e : s.ps[k]? with
    | none => exact hs
    | some p =>
      have hp := put_sh w (hs.part e) h
      cases s with
      | nd kd ps =>
        refine .nd (by simp only [Sm.ps, Sm.kd, List.length_set]; exact hs.kd) (by simp only [Sm.ps, List.length_set]; exact hs.len) fun q hq => ?_
        rcases List.mem_or_eq_of_mem_set hq with z | z
        · exact hs.mem q z
        · rw [z]; exact hp
theorem put_dp : ∀ (w : List Nat) {s new : Sm} {m : Nat}, dp s ≤ m → w.length + dp new ≤ m → dp (putAt s w new) ≤ m
  | [], s, new, m, _, h => by simpa [putAt] using h
  | k :: w, s, new, m, hs, h => by
    simp only [putAt]
    simp only [List.length_cons] at h
    cases e : s.ps[k]? with
    | none => exact hs
    | some p =>
      cases s with
      | nd kd ps =>
        have hm : p ∈ ps := List.mem_of_getElem? e
        have hlt := dp_lt (k := kd) hm
        have hp := put_dp w (s := p) (new := new) (m := m - 1) (by omega) (by omega)
        have hd := dp_pos new
        obtain ⟨m', rfl⟩ : ∃ m', m = m' + 1 := ⟨m - 1, by omega⟩
        refine dp_le fun q hq => ?_
        rcases List.mem_or_eq_of_mem_set hq with z | z
        · have := dp_lt (k := kd) (show q ∈ ps from z); omega
        · rw [z]; simpa using hp
theorem put_self : ∀ (w : List Nat) {s p : Sm}, partAt s w = some p → putAt s w p = s
  | [], s, p, e => by simp [partAt] at e; simp [putAt, e]
  | k :: w, s, p, e => by
    simp only [partAt] at e
    simp only [putAt]
    cases q : s.ps[k]? with
    | none => rfl
    | some t =>
      rw [q] at e
      simp only at e ⊢
      rw [put_self w e]
      cases s with
      | nd kd ps =>
        simp only [Sm.ps, Sm.kd] at q ⊢
        have hl := (List.getElem?_eq_some_iff.mp q)
        obtain ⟨hl, hx⟩ := hl
        rw [← hx, List.set_getElem_self]
theorem put_grow {a e : Int} (ha : 0 ≤ a) (he : 0 ≤ e) : ∀ (w : List Nat) {s p n1 n2 : Sm}, Sh s → partAt s w = some p → Grow a e (bx n1) (bx n2) → Grow a e (bx (putAt s w n1)) (bx (putAt s w n2))
  | [], s, p, n1, n2, _, _, g => g
  | k :: w, s, p, n1, n2, hs, h, g => by
    simp only [partAt] at h
    simp only [putAt]
    cases q : s.ps[k]? with
    | none => rw [q] at h; cases h
    | some t =>
      rw [q] at h
      simp only at h ⊢
      have ih := put_grow ha he w (hs.part q) h g
      cases s with
      | nd kd ps =>
        simp only [Sm.ps, Sm.kd] at q ⊢
        have hl : k < ps.length := (List.getElem?_eq_some_iff.mp q).1
        rw [bx_nd, bx_nd, List.map_set, List.map_set]
        have hsh : kd.sh ((ps.map bx).set k (bx (putAt t w n1))).length := by simp only [List.length_set, List.length_map]; exact hs.kd
        have := nd_grow ha he (i := k) (b := bx (putAt t w n1)) (b' := bx (putAt t w n2)) hsh (List.getElem?_set_self (by simpa using hl)) ih
        rwa [List.set_set] at this
/-! ways of good sums -/
theorem gd_len {k : Kd} {ps : List Sm} (h : k.gd ps) : ps.length ≤ 9 := by
  cases k with
  | word t => simp [h.1]
  | chain ss => have := h.1; have := h.2.2.1; omega
  | over => rw [show ps.length = 2 from h]; omega
  | root => rw [show ps.length = 1 from h]; omega
  | held => rw [show ps.length = 1 from h]; omega
  | script u d =>
    have := h.2.1
    cases u <;> cases d <;> simp at this <;> omega
  | table r c =>
    have h1 : r * c ≤ 3 * 3 := Nat.mul_le_mul h.1.2 h.2.1.2
    have := h.2.2
    omega
theorem sum_leN : ∀ {l : List Nat} {m : Nat}, (∀ n ∈ l, n ≤ m) → l.sum ≤ l.length * m
  | [], m, _ => by simp
  | a :: r, m, h => by
    have h1 := h a (by simp)
    have h2 := sum_leN (l := r) (m := m) fun n hn => h n (by simp [hn])
    rw [List.sum_cons, List.length_cons, Nat.succ_mul]
    omega
theorem wys_len {s : Sm} (h : Gd s) : (wys s).length ≤ 10 ^ dp s := by
  induction s using Sm.ind with
  | h k ps ih =>
    rw [wys_nd, List.length_cons, wysL_len, dp_nd]
    have h1 : ((ps.map wys).map List.length).sum ≤ ((ps.map wys).map List.length).length * 10 ^ maxN (ps.map dp) := sum_leN fun n hn => by
      obtain ⟨l, hl, rfl⟩ := List.mem_map.mp hn
      obtain ⟨p, hp, rfl⟩ := List.mem_map.mp hl
      exact Nat.le_trans (ih p hp (h.mem p hp)) (Nat.pow_le_pow_right (by omega) (le_maxN (List.mem_map_of_mem hp)))
    simp only [List.length_map] at h1
    have h2 := gd_len h.kd
    have h3 : ps.length * 10 ^ maxN (ps.map dp) ≤ 9 * 10 ^ maxN (ps.map dp) := Nat.mul_le_mul_right _ h2
    have h4 : 1 ≤ 10 ^ maxN (ps.map dp) := Nat.one_le_pow _ _ (by omega)
    rw [Nat.pow_succ]
    simp only [List.map_map] at *
    omega
theorem wysL_mem : ∀ {rs : List (List (List Nat))} {j : Nat} {w : List Nat}, w ∈ wysL j rs → ∃ (i : Nat) (r : List (List Nat)) (v : List Nat), rs[i]? = some r ∧ v ∈ r ∧ w = (j + i) :: v
  | [], j, w, h => by simp [wysL] at h
  | r :: rs, j, w, h => by
    simp only [wysL, List.mem_append, List.mem_map] at h
    rcases h with ⟨v, hv, rfl⟩ | h
    · exact ⟨0, r, v, rfl, hv, rfl⟩
    · obtain ⟨i, r', v, h1, h2, h3⟩ := wysL_mem h
      exact ⟨i + 1, r', v, by simpa using h1, h2, by rw [h3]; congr 1; omega⟩
theorem wys_mem : ∀ {w : List Nat} {s : Sm}, w ∈ wys s → w = [] ∨ ∃ (k : Nat) (p : Sm) (v : List Nat), s.ps[k]? = some p ∧ v ∈ wys p ∧ w = k :: v
  | w, .nd kd ps, h => by
    rw [wys_nd] at h
    rcases List.mem_cons.mp h with z | z
    · exact .inl z
    · obtain ⟨i, r, v, h1, h2, h3⟩ := wysL_mem z
      rw [List.getElem?_map] at h1
      cases q : ps[i]? with
      | none => rw [q] at h1; cases h1
      | some p =>
        rw [q] at h1
        simp at h1
        subst h1
        exact .inr ⟨i, p, v, q, h2, by rw [h3]; congr 1; omega⟩
theorem wys_part : ∀ {w : List Nat} {s : Sm}, w ∈ wys s → Gd s → ∃ p, partAt s w = some p ∧ Gd p ∧ w.length + dp p ≤ dp s
  | [], s, h, g => ⟨s, rfl, g, by simp⟩
  | k :: w, s, h, g => by
    rcases wys_mem h with z | ⟨k', q, v, h1, h2, h3⟩
    · cases z
    · cases h3
      obtain ⟨p, a, b, c⟩ := wys_part h2 (g.part h1)
      refine ⟨p, by simp only [partAt, h1]; exact a, b, ?_⟩
      cases s with
      | nd kd ps =>
        have := dp_lt (k := kd) (show q ∈ ps from List.mem_of_getElem? h1)
        simp only [List.length_cons]
        omega
/-! where it may be put -/
def Sm.isScript : Sm → Bool
  | .nd (.script _ _) _ => true
  | _ => false
def isB : Sm → List Nat → Bool
  | _, [] => false
  | s, [k] => decide (k = 0) && s.isScript
  | s, k :: w => match s.ps[k]? with
    | some p => isB p w
    | none => false
theorem put_kd {s new : Sm} {k : Nat} {w : List Nat} : (putAt s (k :: w) new).kd = s.kd := by
  simp only [putAt]
  cases s.ps[k]? <;> rfl
theorem isChain_kd {s t : Sm} (h : s.kd = t.kd) : s.isChain = t.isChain := by
  cases s with
  | nd a ps => cases t with
    | nd b qs => cases h; cases a <;> rfl
theorem isBase_kd {s t : Sm} (h : s.kd = t.kd) : s.isBase = t.isBase := by
  cases s with
  | nd a ps => cases t with
    | nd b qs => cases h; cases a <;> rfl
theorem gd_mayBe {s q : Sm} (g : Gd s) {k : Nat} (e : s.ps[k]? = some q) : mayBe s.kd k q = true := by
  cases s with
  | nd kd ps =>
    have hk := g.kd
    simp only [Sm.ps] at e
    have hm := List.mem_of_getElem? e
    cases kd with
    | chain ss => simp [mayBe, Sm.kd, hk.2.2.2.2 q hm]
    | script u d =>
      cases k with
      | succ k => simp [mayBe, Sm.kd]
      | zero =>
        have : q.isBase = true := hk.2.2 q (by rw [List.head?_eq_getElem?]; exact e)
        simp [mayBe, Sm.kd, this]
    | _ => rfl
theorem mayBe_kd {s t : Sm} (h : s.kd = t.kd) (k : Kd) (i : Nat) : mayBe k i s = mayBe k i t := by
  cases k <;> simp [mayBe, isChain_kd h, isBase_kd h]
theorem may_put : ∀ (w : List Nat) {s p new : Sm}, Gd s → partAt s w = some p → new.isChain = false → (new.isBase = true ∨ isB s w = false) → mayPut s w new
  | [], s, p, new, _, _, _, _ => by simp [mayPut]
  | k :: w, s, p, new, g, e, hc, hb => by
    simp only [partAt] at e
    simp only [mayPut]
    cases q : s.ps[k]? with
    | none => rw [q] at e; cases e
    | some t =>
      rw [q] at e
      simp only at e ⊢
      cases w with
      | nil =>
        refine ⟨by simp [mayPut], ?_⟩
        simp only [putAt]
        simp only [isB] at hb
        cases s with
        | nd kd ps =>
          cases kd with
          | chain ss => simp [mayBe, Sm.kd, hc]
          | script u d =>
            rcases hb with z | z
            · simp [mayBe, Sm.kd, z]
            · simp [Sm.isScript] at z
              have : 0 < k := by omega
              simp [mayBe, Sm.kd, this]
          | _ => rfl
      | cons j w =>
        refine ⟨may_put (j :: w) (g.part q) e hc ?_, ?_⟩
        · rcases hb with z | z
          · exact .inl z
          · right; simp only [isB, q] at z; exact z
        · rw [mayBe_kd (put_kd (s := t) (new := new) (k := j) (w := w)) s.kd k]
          exact gd_mayBe g q
theorem isB_snoc : ∀ (v : List Nat) {s q p : Sm} (k : Nat), partAt s v = some q → isB s (v ++ [k]) = (decide (k = 0) && q.isScript)
  | [], s, q, p, k, e => by simp [partAt] at e; subst e; simp [isB]
  | j :: v, s, q, p, k, e => by
    simp only [partAt] at e
    cases h : s.ps[j]? with
    | none => rw [h] at e; cases e
    | some t =>
      rw [h] at e
      simp only at e
      have ih := isB_snoc v (p := p) k e
      cases v with
      | nil => simp only [List.nil_append, List.cons_append] at ih ⊢; rw [isB, h]; exact ih; simp
      | cons a v => simp only [List.cons_append] at ih ⊢; rw [isB, h]; exact ih; simp
theorem part_snoc : ∀ (v : List Nat) {s p : Sm} {k : Nat}, partAt s (v ++ [k]) = some p → ∃ q, partAt s v = some q
  | [], s, p, k, e => ⟨s, rfl⟩
  | j :: v, s, p, k, e => by
    simp only [List.cons_append, partAt] at e ⊢
    cases h : s.ps[j]? with
    | none => rw [h] at e; cases e
    | some t =>
      rw [h] at e
      simp only at e ⊢
      exact part_snoc v e
/-- no good sum is less than one sign wide -/
theorem bx_pos {s : Sm} (h : Gd s) : 1 ≤ (bx s).w := by
  induction s using Sm.ind with
  | h k ps ih =>
    have hk := h.kd
    have hn := bx_nonneg h.sh
    have hbs : ∀ p ∈ ps, 1 ≤ (bx p).w ∧ 0 ≤ (bx p).w := fun p hp => ⟨ih p hp (h.mem p hp), (bx_nonneg (h.mem p hp).sh).1⟩
    rw [bx_nd] at hn ⊢
    cases k with
    | word t => simp [bxK]; have := hk.2.1; omega
    | chain ss =>
      obtain ⟨a, r, rfl, hr⟩ := lenS hk.1
      have h1 := hk.2.1
      have h2 := hbs a (by simp)
      have h3 : 0 ≤ ((r.map bx).map (·.w)).sum := sum_nonneg fun i hi => by
        obtain ⟨b, hb, rfl⟩ := List.mem_map.mp hi
        obtain ⟨p, hp, rfl⟩ := List.mem_map.mp hb
        exact (hbs p (by simp [hp])).2
      simp only [bxK, List.map_cons, List.sum_cons, List.length_cons, List.length_map]
      omega
    | over =>
      obtain ⟨x, y, rfl⟩ := len2 hk
      have := hbs x (by simp); have := hbs y (by simp)
      simp [bxK]; omega
    | root =>
      obtain ⟨x, rfl⟩ := len1 hk
      have := hbs x (by simp)
      simp [bxK]; omega
    | held =>
      obtain ⟨x, rfl⟩ := len1 hk
      have := hbs x (by simp)
      simp [bxK]; omega
    | script u d =>
      obtain ⟨hud, hk, _⟩ := hk
      cases u <;> cases d <;> simp at hud hk
      · obtain ⟨x, y, rfl⟩ := len2 hk
        have := hbs x (by simp); have := hbs y (by simp)
        simp [bxK, maxL]; omega
      · obtain ⟨x, y, rfl⟩ := len2 hk
        have := hbs x (by simp); have := hbs y (by simp)
        simp [bxK, maxL]; omega
      · obtain ⟨x, y, z, rfl⟩ := len3 hk
        have := hbs x (by simp); have := hbs y (by simp); have := hbs z (by simp)
        simp [bxK, maxL]; omega
    | table r c =>
      obtain ⟨hr, hc, hl⟩ := hk
      simp only [bxK, tabBx]
      have a1 : 0 ≤ (colsW c (chunk r c (ps.map bx))).sum := sum_nonneg fun i hi => by
        unfold colsW at hi
        obtain ⟨k, _, rfl⟩ := List.mem_map.mp hi
        refine maxL_nonneg fun j hj => ?_
        obtain ⟨row, hrow, rfl⟩ := List.mem_map.mp hj
        refine getD_all (P := fun b : Bx => 0 ≤ b.w) (fun b hb => ?_) (Int.le_refl 0) k
        have := chunk_mem r c _ row hrow b hb
        obtain ⟨p, hp, rfl⟩ := List.mem_map.mp this
        exact (hbs p hp).2
      omega
end SM

/-! K26: rooms grow. -/
namespace SM
open PL
section
variable {T : Tab}
/-- a loop whose body goes on, one way or the other -/
theorem for_inv2 {f : PV → Env → Sto → Out} {st : Sto} (Inv : Env → Prop) : ∀ (items : List PV) (e : Env), Inv e → (∀ x ∈ items, ∀ e, Inv e → ∃ e', (f x e st = .next e' st ∨ f x e st = .cnt e' st) ∧ Inv e') → ∃ e', forL f items e st = .next e' st ∧ Inv e'
  | [], e, h, _ => ⟨e, rfl, h⟩
  | x :: r, e, h, H => by
    obtain ⟨e1, q1, h1⟩ := H x (by simp) e h
    obtain ⟨e2, q2, h2⟩ := for_inv2 Inv r e1 h1 fun y hy => H y (by simp [hy])
    refine ⟨e2, ?_, h2⟩
    rcases q1 with q1 | q1
    · rw [forL, q1]; exact q2
    · rw [forL, q1]; exact q2
theorem atI_last {α : Type} (xs : List α) (x : α) : L2.atI (xs ++ [x]) (-1) = some x := by
  unfold L2.atI L2.ixN
  have h1 : ¬ ((0 : Int) ≤ -1) := by omega
  have h2 : -(((xs ++ [x]).length : Nat) : Int) ≤ -1 := by simp; omega
  rw [if_neg h1, if_pos h2]
  have h3 : (-1 + (((xs ++ [x]).length : Nat) : Int)).toNat = xs.length := by simp; omega
  rw [h3]
  simp
theorem cut_last {α : Type} (xs : List α) (x : α) : cutL (xs ++ [x]) none (some (-1)) = xs := by
  unfold cutL HT.sIx
  have h3 : (-1 + (((xs ++ [x]).length : Nat) : Int)).toNat = xs.length := by simp; omega
  simp only [List.drop_zero, Nat.sub_zero]
  rw [if_pos (by omega), h3]
  simp
theorem room_ok (hb : BoxT T) (hr : T.lookup 180 = some Fn.f_law_room) (n : Nat) (s : Sm) (hs : Sh s) (hn : 3 * dp s ≤ n) (st : Sto) : callF T (n + 1) 180 [enc s] st = .ok (.tup [.int (bx s).w, .int (bx s).rows]) st := by
  rw [callF_of hr, runD_of rfl]
  have q := box_ok hb s hs n hn st
  simp [encB] at q
  simp [Fn.f_law_room, start, q, SZ_val, Bx.rows]
theorem encW_ne (k : Nat) (w : List Nat) : eqV (encW (k :: w)) (.tup []) = some false := by
  obtain ⟨b, e1, e2⟩ := eqV_iff (a := encW (k :: w)) (b := encW []) (fine_encW _) (fine_encW _) (deep_encW _) (deep_encW _)
  have : b = false := by
    cases b with
    | false => rfl
    | true => have := e2.mp rfl; simp [encW] at this
  rw [this] at e1
  exact e1
theorem eqV_nil : eqV (.tup []) (.tup []) = some true := eqV_self (a := .tup []) rfl (by simp [PV.deep, PV.deeps])
theorem isScript_name (s : Sm) : (s.kd.name = [115, 99, 114, 105, 112, 116]) ↔ s.isScript = true := by
  cases s with
  | nd k ps => cases k <;> simp [Sm.kd, Kd.name, Sm.isScript]
theorem is_base_ok (h : WwT T) (hr : T.lookup 181 = some Fn.f_law_is_base) (n : Nat) {s p : Sm} {w : List Nat} (hs : Sh s) (e : partAt s w = some p) (st : Sto) : callF T (n + 4) 181 [enc s, encW w] st = .ok (.bl (isB s w)) st := by
  rw [callF_of hr, runD_of rfl]
  rcases List.eq_nil_or_concat w with rfl | ⟨v, k, rfl⟩
  · simp [Fn.f_law_is_base, start, encW, eqV_nil, isB]
  · simp only [List.concat_eq_append] at e ⊢
    obtain ⟨q, hq⟩ := part_snoc v e
    have h1 := part_at_ok h n hs hq st
    have h2 := isB_snoc v (p := p) k hq
    obtain ⟨vs, hv⟩ := enc_cons q
    have hn := isScript_name q
    have hne : eqV (encW (v ++ [k])) (.tup []) = some false := by
      cases v with
      | nil => exact encW_ne k []
      | cons a v => exact encW_ne a (v ++ [k])
    have hat : L2.atI ((v ++ [k]).map fun (k : Nat) => PV.int (k : Int)) (-1) = some (.int (k : Int)) := by
      rw [List.map_append]; exact atI_last _ _
    have hcut : cutL ((v ++ [k]).map fun (k : Nat) => PV.int (k : Int)) none (some (-1)) = v.map fun (k : Nat) => PV.int (k : Int) := by
      rw [List.map_append]; exact cut_last _ _
    have e1 : ∀ w, encW w = .tup (w.map fun (k : Nat) => .int (k : Int)) := fun _ => rfl
    rw [h2]
    rw [hv] at h1
    rw [e1] at h1 hne ⊢
    simp only [Fn.f_law_is_base, start]
    by_cases hk : k = 0
    · subst hk
      by_cases hsc : q.isScript = true
      · simp at hne
        simp [hne, atI_last, cut_last, h1, hsc, hn.mpr hsc]
      · have z2 : ¬ q.kd.name = [115, 99, 114, 105, 112, 116] := fun y => hsc (hn.mp y)
        simp at hne
        simp [hne, atI_last, cut_last, h1, hsc, z2]
    · simp at hne
      simp [hne, atI_last, cut_last, hk]
@[simp] theorem eq_2 (a b a' b' : Int) : eqV (.tup [.int a, .int b]) (.tup [.int a', .int b']) = some (decide (a = a' ∧ b = b')) := by
  rw [eqV_fine (by simp [PV.fine, PV.fines]) (by simp [PV.fine, PV.fines]) (by simp [PV.deep, PV.deeps]) (by simp [PV.deep, PV.deeps])]
  simp
theorem law26 (hb : BoxT T) (hd : DrawT T) (hw : WyT T) (h0 : T.lookup 180 = some Fn.f_law_room) (h1 : T.lookup 181 = some Fn.f_law_is_base) (hl : T.lookup 182 = some Fn.f_law_k26) : LawTrue T 61 182 := by
  intro ns hns
  refine ⟨[], ?_⟩
  rw [callF_of hl, runD_of rfl]
  have s10 : small62 10 = true := by decide
  have s61 : small64 61 = true := by decide
  obtain ⟨e', q, hq⟩ := range_inv (f := forF (callF T 60) (.nm 1) (match Fn.f_law_k26.body with | .seq (.fr _ _ b) _ => b | _ => .skip)) (st := []) (fun e => ∃ o1 o2 o3 o4 o5 o6 o7 o8 o9 o10, e = [some (.scr ns), o1, o2, o3, o4, o5, o6, o7, o8, o9, o10]) 10 [some (.scr ns), none, none, none, none, none, none, none, none, none, none] ⟨_, _, _, _, _, _, _, _, _, _, rfl⟩ (by
    rintro k hk e ⟨o1, o2, o3, o4, o5, o6, o7, o8, o9, o10, rfl⟩
    have k9 : (0 : Int) ≤ (k : Int) % 9 := Int.emod_nonneg _ (by decide)
    generalize hcell : cellI ns ((k : Int) % 9).toNat + 61 * (k : Int) = cell
    obtain ⟨s, g, d1, e1⟩ := draw_at hd 4 (by decide) cell
    have e1' : callF T 60 12 [.int cell, .int 4] [] = .ok (enc s) [] := e1 60 [] (by omega)
    have rm : ∀ t, Sh t → dp t ≤ 10 → callF T 60 180 [enc t] [] = .ok (.tup [.int (bx t).w, .int (bx t).rows]) [] := fun t a b => room_ok hb h0 59 t a (by omega) []
    have bo : ∀ t, Sh t → dp t ≤ 10 → callF T 60 40 [enc t] [] = .ok (.tup [.int (bx t).w, .int (bx t).u, .int (bx t).d]) [] := fun t a b => box_ok hb t a 60 (by omega) []
    have hz : (wys s).length ≤ 16777216 := Nat.le_trans (wys_len g) (Nat.le_trans (Nat.pow_le_pow_right (by omega) d1) (by decide))
    have wy := ways_ok hw.toWwT s g.sh (by omega) hz 60 (by omega) []
    have b_s := bo s g.sh (by omega)
    have r_s := rm s g.sh (by omega)
    have b_h := bo (.nd .held [s]) (.nd rfl (by simp) (by simp [g.sh])) (Nat.le_trans (dp_le (m := 4) (by simp [d1])) (by omega))
    simp [enc_nd, encK, bx_nd, bxK] at b_h
    obtain ⟨e2, q2, hq2⟩ := for_inv2 (f := forF (callF T 60) (.nm 4) (match Fn.f_law_k26.body with | .seq (.fr _ _ (.seq _ (.seq _ (.seq _ (.seq _ (.seq (.fr _ _ b) _)))))) _ => b | _ => .skip)) (st := []) (fun e => ∃ o4 o7 o8 o9 o10, e = [some (.scr ns), some (.int (k : Int)), some (.int cell), some (enc s), o4, some (.int (bx s).w), some (.int (bx s).rows), o7, o8, o9, o10]) ((wys s).map encW) [some (.scr ns), some (.int (k : Int)), some (.int cell), some (enc s), o4, some (.int (bx s).w), some (.int (bx s).rows), o7, o8, o9, o10] ⟨_, _, _, _, _, rfl⟩ (by
      rintro x hx e ⟨o4, o7, o8, o9, o10, rfl⟩
      obtain ⟨w, hwm, rfl⟩ := List.mem_map.mp hx
      obtain ⟨p, hp, gp, hpd⟩ := wys_part hwm g
      have hps := put_self w hp
      have shp := gp.sh
      have np := bx_nonneg shp
      have wp := bx_pos gp
      have hpart := part_at_ok hw.toWwT 57 g.sh hp []
      have sh_h : Sh (.nd .held [p]) := .nd rfl (by simp) (by simp [shp])
      have sh_r : Sh (.nd .root [p]) := .nd rfl (by simp) (by simp [shp])
      have sh_w : Sh (.nd (.word [97]) []) := .nd rfl (by simp) (by simp)
      have dh : dp (.nd .held [p]) ≤ dp p + 1 := dp_le (by simp)
      have dr : dp (.nd .root [p]) ≤ dp p + 1 := dp_le (by simp)
      have dw : dp (.nd (.word [97]) []) = 1 := by rw [dp_nd]; simp [maxN]
      have put_h := put_at_ok hw w s (.nd .held [p]) p 60 g.sh (by omega) hp (may_put w g hp rfl (.inl rfl)) []
      have bo_h := bo (putAt s w (.nd .held [p])) (put_sh w g.sh sh_h) (put_dp w (by omega) (by omega))
      have g_h := put_grow (a := 2) (e := 0) (by omega) (by omega) w g.sh hp (n1 := p) (n2 := .nd .held [p]) ⟨by simp [bx_nd, bxK]; omega, by simp [bx_nd, bxK], by simp [bx_nd, bxK], by simp [bx_nd, bxK], by simp [bx_nd, bxK]⟩
      rw [hps] at g_h
      have isb := is_base_ok hw.toWwT h1 56 g.sh hp []
      obtain ⟨x1, x2, x3, x4, x5⟩ := g_h
      have y1 : (bx (putAt s w (.nd .held [p]))).u = (bx s).u := by omega
      have y2 : (bx (putAt s w (.nd .held [p]))).d = (bx s).d := by omega
      have z1 : (bx s).w ≤ (bx (putAt s w (.nd .held [p]))).w := x1
      have z2 : (bx (putAt s w (.nd .held [p]))).w ≤ (bx s).w + 2 := x2
      simp [enc_nd, encK] at put_h
      cases hB : isB s w with
      | true =>
        rw [hB] at isb
        simp [Fn.f_law_k26, hpart, SZ_val, put_h, bo_h, b_s, y1, y2, z1, z2, isb]
      | false =>
        rw [hB] at isb
        have put_r := put_at_ok hw w s (.nd .root [p]) p 60 g.sh (by omega) hp (may_put w g hp rfl (.inr hB)) []
        have put_w := put_at_ok hw w s (.nd (.word [97]) []) p 60 g.sh (by omega) hp (may_put w g hp rfl (.inr hB)) []
        have rm_r := rm (putAt s w (.nd .root [p])) (put_sh w g.sh sh_r) (put_dp w (by omega) (by omega))
        have rm_w := rm (putAt s w (.nd (.word [97]) [])) (put_sh w g.sh sh_w) (put_dp w (by omega) (by omega))
        have g_r := put_grow (a := 1) (e := 1) (by omega) (by omega) w g.sh hp (n1 := p) (n2 := .nd .root [p]) ⟨by simp [bx_nd, bxK]; omega, by simp [bx_nd, bxK], by simp [bx_nd, bxK]; omega, by simp [bx_nd, bxK], by simp [bx_nd, bxK]; omega⟩
        have g_w := put_grow (a := (bx p).w) (e := (bx p).u + (bx p).d) (by omega) (by omega) w g.sh hp (n1 := .nd (.word [97]) []) (n2 := p) ⟨by simp [bx_nd, bxK]; omega, by simp [bx_nd, bxK]; omega, by simp [bx_nd, bxK]; omega, by simp [bx_nd, bxK]; omega, by simp [bx_nd, bxK]⟩
        rw [hps] at g_r g_w
        have r1 := g_r.w1
        have r2 := g_r.w2
        have r3 := g_r.rows
        have w1 := g_w.w1
        have w2 := g_w.rows
        have u1 : ¬ (bx s).w < (bx (putAt s w (.nd (.word [97]) []))).w := by omega
        have u2 : ¬ (bx s).rows < (bx (putAt s w (.nd (.word [97]) []))).rows := by omega
        simp [enc_nd, encK] at put_r put_w
        simp [Fn.f_law_k26, hpart, SZ_val, put_h, bo_h, b_s, y1, y2, z1, z2, isb, put_r, rm_r, r1, r2, r3.1, r3.2, put_w, rm_w, u1, u2]
      )
    simp [Fn.f_law_k26] at q2
    simp [Fn.f_law_k26, cell_int hd 59 ns _ k9, s61, hcell, e1', r_s, b_s, b_h, SZ_val, wy]
    rw [q2]
    obtain ⟨p4, p7, p8, p9, p10, rfl⟩ := hq2
    simp
    )
  simp [Fn.f_law_k26, start, s10]
  simp [Fn.f_law_k26] at q
  rw [q]
  simp
end
end SM

/-! FR: freed sums, in plain. -/
namespace SM
open PL
/-! sums as data -/
theorem fines_iff {vs : List PV} : PV.fines vs = true ↔ ∀ v ∈ vs, v.fine = true := by
  induction vs with
  | nil => simp [PV.fines]
  | cons a r ih => simp [PV.fines, ih]
theorem deeps_le {vs : List PV} {m : Nat} : PV.deeps vs ≤ m ↔ ∀ v ∈ vs, v.deep ≤ m := by
  induction vs with
  | nil => simp [PV.deeps]
  | cons a r ih => simp only [PV.deeps, List.mem_cons, forall_eq_or_imp, ← ih]; omega
theorem name_fine (k : Kd) : (PV.str k.name).fine = true := by cases k <;> simp [PV.fine, Kd.name]
theorem signs_fine {c : List Nat} (h : c ∈ signs) : (PV.str c).fine = true := by
  simp [signs] at h
  rcases h with rfl | rfl | rfl | rfl | rfl <;> simp [PV.fine]
theorem pairs_mem {ss : List (List Nat)} {vs : List PV} {v : PV} (h : v ∈ pairs ss vs) : ∃ c x, c ∈ ss ∧ x ∈ vs ∧ v = .tup [.str c, x] := by
  unfold pairs at h
  obtain ⟨p, hp, rfl⟩ := List.mem_map.mp h
  exact ⟨p.1, p.2, (List.of_mem_zip hp).1, (List.of_mem_zip hp).2, rfl⟩
theorem enc_data {s : Sm} (h : Gd s) : (enc s).fine = true ∧ (enc s).deep ≤ 3 * dp s := by
  induction s using Sm.ind with
  | h k ps ih =>
    have hk := h.kd
    have H : ∀ v ∈ ps.map enc, v.fine = true ∧ v.deep ≤ 3 * (dp (.nd k ps) - 1) := fun v hv => by
      obtain ⟨p, hp, rfl⟩ := List.mem_map.mp hv
      have i1 := ih p hp (h.mem p hp)
      have := dp_lt (k := k) hp
      exact ⟨i1.1, by omega⟩
    have hd := dp_pos (.nd k ps)
    have hlen : (ps.map enc).length = ps.length := List.length_map _
    rw [enc_nd]
    generalize dp (.nd k ps) = m at H hd
    revert H hlen
    generalize ps.map enc = vs
    intro hlen H
    obtain ⟨m, rfl⟩ : ∃ j, m = j + 1 := ⟨m - 1, by omega⟩
    have H : ∀ v ∈ vs, v.fine = true ∧ v.deep ≤ 3 * m := fun v hv => by have := H v hv; simpa using this
    cases k with
    | word t =>
      have : t.all (fun c => decide (c < 1114112)) = true := by
        rw [List.all_eq_true]
        intro c hc
        have := hk.2.2.2 c hc
        simp [isLt] at this
        simp; omega
      simp [encK, PV.fine, PV.fines, PV.deep, PV.deeps, this]
      omega
    | chain ss =>
      obtain ⟨v, r, rfl, hr⟩ := lenS (hlen.trans hk.1)
      have f1 : PV.fines (pairs ss r) = true := fines_iff.mpr fun x hx => by
        obtain ⟨c, y, hc, hy, rfl⟩ := pairs_mem hx
        have := signs_fine (hk.2.2.2.1 c hc)
        have := (H y (by simp [hy])).1
        simp_all [PV.fine, PV.fines]
      have f2 : PV.deeps (pairs ss r) ≤ 3 * m + 1 := deeps_le.mpr fun x hx => by
        obtain ⟨c, y, hc, hy, rfl⟩ := pairs_mem hx
        have := (H y (by simp [hy])).2
        simp [PV.deep, PV.deeps]; omega
      have := H v (by simp)
      simp [encK, PV.fine, PV.fines, PV.deep, PV.deeps, f1, this.1]
      omega
    | table r c =>
      have f1 : PV.fines ((chunk r c vs).map .tup) = true := fines_iff.mpr fun x hx => by
        obtain ⟨row, hrow, rfl⟩ := List.mem_map.mp hx
        simp only [PV.fine]
        exact fines_iff.mpr fun y hy => (H y (chunk_mem r c vs row hrow y hy)).1
      have f2 : PV.deeps ((chunk r c vs).map .tup) ≤ 3 * m + 1 := deeps_le.mpr fun x hx => by
        obtain ⟨row, hrow, rfl⟩ := List.mem_map.mp hx
        simp only [PV.deep]
        have : PV.deeps row ≤ 3 * m := deeps_le.mpr fun y hy => (H y (chunk_mem r c vs row hrow y hy)).2
        omega
      simp [encK, PV.fine, PV.fines, PV.deep, PV.deeps, f1]
      omega
    | over =>
      have f1 := fines_iff.mpr fun v hv => (H v hv).1
      have f2 := deeps_le.mpr fun v hv => (H v hv).2
      simp [encK, PV.fine, PV.fines, PV.deep, PV.deeps, f1]; omega
    | root =>
      have f1 := fines_iff.mpr fun v hv => (H v hv).1
      have f2 := deeps_le.mpr fun v hv => (H v hv).2
      simp [encK, PV.fine, PV.fines, PV.deep, PV.deeps, f1]; omega
    | held =>
      have f1 := fines_iff.mpr fun v hv => (H v hv).1
      have f2 := deeps_le.mpr fun v hv => (H v hv).2
      simp [encK, PV.fine, PV.fines, PV.deep, PV.deeps, f1]; omega
    | script u d =>
      have n1 : PV.non.fine = true ∧ PV.non.deep ≤ 3 * m := by simp [PV.fine, PV.deep]
      have g0 : (vs.headD .non).fine = true ∧ (vs.headD .non).deep ≤ 3 * m := by
        cases vs with
        | nil => exact n1
        | cons a r => exact H a (by simp)
      have G : ∀ i : Nat, (vs.getD i .non).fine = true ∧ (vs.getD i .non).deep ≤ 3 * m := fun i => getD_all (P := fun v : PV => v.fine = true ∧ v.deep ≤ 3 * m) H n1 i
      have g1 := G 1
      have g2 := G 2
      cases u <;> cases d <;> simp only [encK, PV.fine, PV.fines, PV.deep, PV.deeps, if_true, if_false, Bool.false_eq_true, g0.1, g1.1, g2.1] <;> refine ⟨by simp, by omega⟩
theorem enc_self {a : Sm} (ga : Gd a) (da : dp a ≤ 20) : eqV (enc a) (enc a) = some true := eqV_self (enc_data ga).1 (by have := (enc_data ga).2; omega)
/-! where parts stand -/
def Kd.isCh : Kd → Bool
  | .chain _ => true
  | _ => false
def Kd.isSc : Kd → Bool
  | .script _ _ => true
  | _ => false
def Kd.isHd : Kd → Bool
  | .held => true
  | _ => false
abbrev Cx := Option (Kd × Nat)
/-- a held around such a part goes there -/
def goes (c : Cx) (p : Sm) : Bool :=
  match c with
  | none => true
  | some (k, i) => !(k.isSc && decide (i = 0)) && !(k.isCh && p.isChain)
def mapI {α β : Type} (f : Nat → α → β) : Nat → List α → List β
  | _, [] => []
  | i, a :: r => f i a :: mapI f (i + 1) r
theorem mapI_len {α β : Type} (f : Nat → α → β) : ∀ (i : Nat) (l : List α), (mapI f i l).length = l.length
  | _, [] => rfl
  | i, a :: r => by simp [mapI, mapI_len f (i + 1) r]
theorem mapI_map {α β γ : Type} (f : Nat → β → γ) (g : α → β) : ∀ (i : Nat) (l : List α), mapI f i (l.map g) = mapI (fun i a => f i (g a)) i l
  | _, [] => rfl
  | i, a :: r => by simp [mapI, mapI_map f g (i + 1) r]
theorem map_mapI {α β γ : Type} (f : Nat → α → β) (g : β → γ) : ∀ (i : Nat) (l : List α), (mapI f i l).map g = mapI (fun i a => g (f i a)) i l
  | _, [] => rfl
  | i, a :: r => by simp [mapI, map_mapI f g (i + 1) r]
theorem mapI_get {α β : Type} (f : Nat → α → β) : ∀ (j : Nat) (l : List α) (i : Nat), (mapI f j l)[i]? = (l[i]?).map (f (j + i))
  | _, [], i => by simp [mapI]
  | j, a :: r, 0 => by simp [mapI]
  | j, a :: r, i + 1 => by
    simp only [mapI, List.getElem?_cons_succ, mapI_get f (j + 1) r i]
    rw [show j + 1 + i = j + (i + 1) by omega]
theorem mapI_congr {α β : Type} {f g : Nat → α → β} : ∀ {j : Nat} {l : List α}, (∀ i a, l[i]? = some a → f (j + i) a = g (j + i) a) → mapI f j l = mapI g j l
  | _, [], _ => rfl
  | j, a :: r, h => by
    have h0 := h 0 a rfl
    simp only [Nat.add_zero] at h0
    simp only [mapI, h0]
    congr 1
    refine mapI_congr fun i b hb => ?_
    have := h (i + 1) b (by simpa using hb)
    rwa [show j + (i + 1) = j + 1 + i by omega] at this
theorem mapI_mapI {α β γ : Type} (f : Nat → β → γ) (g : Nat → α → β) : ∀ (i : Nat) (l : List α), mapI f i (mapI g i l) = mapI (fun i a => f i (g i a)) i l
  | _, [] => rfl
  | i, a :: r => by simp [mapI, mapI_mapI f g (i + 1) r]
theorem mapI_set {α β : Type} (f : Nat → α → β) : ∀ (j : Nat) (l : List α) (i : Nat) (a : α), mapI f j (l.set i a) = (mapI f j l).set i (f (j + i) a)
  | _, [], i, a => by simp [mapI]
  | j, b :: r, 0, a => by simp [mapI]
  | j, b :: r, i + 1, a => by
    simp only [List.set_cons_succ, mapI, mapI_set f (j + 1) r i a]
    rw [show j + 1 + i = j + (i + 1) by omega]
theorem mapI_mem {α β : Type} {f : Nat → α → β} {j : Nat} {l : List α} {b : β} (h : b ∈ mapI f j l) : ∃ i a, l[i]? = some a ∧ b = f (j + i) a := by
  obtain ⟨i, hi⟩ := List.mem_iff_getElem?.mp h
  rw [mapI_get] at hi
  cases e : l[i]? with
  | none => rw [e] at hi; cases hi
  | some a => rw [e] at hi; simp at hi; exact ⟨i, a, e, hi.symm⟩
/-- freed there -/
def frC : Sm → Cx → Sm := Sm.fold fun k ps rs c =>
  match k, ps, rs with
  | .held, [p], [r] => if goes c p then r c else .nd .held [r (some (.held, 0))]
  | k, _, rs => .nd k (mapI (fun i r => r (some (k, i))) 0 rs)
theorem frC_held (p : Sm) (c : Cx) : frC (.nd .held [p]) c = if goes c p then frC p c else .nd .held [frC p (some (.held, 0))] := by
  unfold frC
  rw [fold_nd]
  rfl
theorem frC_nd {k : Kd} (hk : k.isHd = false) (ps : List Sm) (c : Cx) : frC (.nd k ps) c = .nd k (mapI (fun i p => frC p (some (k, i))) 0 ps) := by
  unfold frC
  rw [fold_nd]
  cases k <;> simp [Kd.isHd] at hk <;> simp only [mapI_map]
def frP : Sm → Sm
  | .nd k ps => .nd k (mapI (fun i p => frC p (some (k, i))) 0 ps)
/-- without its helds that go -/
def opn : Sm → Cx → Sm := Sm.fold fun k ps rs c =>
  match k, ps, rs with
  | .held, [p], [r] => if goes c p then r c else .nd .held [p]
  | k, ps, _ => .nd k ps
theorem opn_held (p : Sm) (c : Cx) : opn (.nd .held [p]) c = if goes c p then opn p c else .nd .held [p] := by
  unfold opn
  rw [fold_nd]
  rfl
theorem opn_nd {k : Kd} (hk : k.isHd = false) (ps : List Sm) (c : Cx) : opn (.nd k ps) c = .nd k ps := by
  unfold opn
  rw [fold_nd]
  cases k <;> simp [Kd.isHd] at hk <;> rfl
/-- two kinds of sums -/
theorem held_or {s : Sm} (h : Sh s) : (∃ p, s = .nd .held [p]) ∨ s.kd.isHd = false := by
  cases s with
  | nd k ps =>
    cases k with
    | held =>
      obtain ⟨p, rfl⟩ := len1 h.kd
      exact .inl ⟨p, rfl⟩
    | _ => exact .inr rfl
theorem frC_opn {s : Sm} (h : Sh s) (c : Cx) : frC s c = frP (opn s c) := by
  induction s using Sm.ind generalizing c with
  | h k ps ih =>
    rcases held_or h with ⟨p, e⟩ | e
    · cases e
      rw [frC_held, opn_held]
      by_cases g : goes c p = true
      · rw [if_pos g, if_pos g]; exact ih p (by simp) (h.mem p (by simp)) c
      · rw [if_neg g, if_neg g]; rfl
    · simp only [Sm.kd] at e
      rw [frC_nd e, opn_nd e]; rfl
theorem opn_sh {s : Sm} (h : Sh s) (c : Cx) : Sh (opn s c) ∧ dp (opn s c) ≤ dp s := by
  induction s using Sm.ind generalizing c with
  | h k ps ih =>
    rcases held_or h with ⟨p, e⟩ | e
    · cases e
      rw [opn_held]
      by_cases g : goes c p = true
      · rw [if_pos g]
        have i1 := ih p (by simp) (h.mem p (by simp)) c
        have := dp_lt (k := .held) (show p ∈ [p] by simp)
        exact ⟨i1.1, by omega⟩
      · rw [if_neg g]; exact ⟨h, Nat.le_refl _⟩
    · simp only [Sm.kd] at e
      rw [opn_nd e]; exact ⟨h, Nat.le_refl _⟩
theorem frC_sh {s : Sm} (h : Sh s) (c : Cx) : Sh (frC s c) ∧ dp (frC s c) ≤ dp s := by
  induction s using Sm.ind generalizing c with
  | h k ps ih =>
    have gen : Sh (.nd k (mapI (fun i p => frC p (some (k, i))) 0 ps)) ∧ dp (.nd k (mapI (fun i p => frC p (some (k, i))) 0 ps)) ≤ dp (.nd k ps) := by
      refine ⟨.nd (by rw [mapI_len]; exact h.kd) (by rw [mapI_len]; exact h.len) fun q hq => ?_, ?_⟩
      · obtain ⟨i, a, h1, rfl⟩ := mapI_mem hq
        exact (ih a (List.mem_of_getElem? h1) (h.mem a (List.mem_of_getElem? h1)) _).1
      · rw [dp_nd k ps]
        refine dp_le fun q hq => ?_
        obtain ⟨i, a, h1, rfl⟩ := mapI_mem hq
        have hm := List.mem_of_getElem? h1
        exact Nat.le_trans (ih a hm (h.mem a hm) _).2 (le_maxN (List.mem_map_of_mem hm))
    rcases held_or h with ⟨p, e⟩ | e
    · cases e
      rw [frC_held]
      by_cases g : goes c p = true
      · rw [if_pos g]
        have i1 := ih p (by simp) (h.mem p (by simp)) c
        have := dp_lt (k := .held) (show p ∈ [p] by simp)
        exact ⟨i1.1, by omega⟩
      · rw [if_neg g]; exact gen
    · simp only [Sm.kd] at e
      rw [frC_nd e]; exact gen
theorem frC_kd {s : Sm} (h : s.kd.isHd = false) (c : Cx) : (frC s c).kd = s.kd := by
  cases s with
  | nd k ps => rw [frC_nd (k := k) h]; rfl
theorem chain_not_held {s : Sm} (h : s.isChain = true) : s.kd.isHd = false := by
  cases s with
  | nd k ps => cases k <;> simp [Sm.isChain] at h ; rfl
theorem frC_chain {s : Sm} (h : s.isChain = true) (c : Cx) : (frC s c).isChain = true := by
  rw [isChain_kd (frC_kd (chain_not_held h) c)]; exact h
/-- what is no chain, in a chain, stays none -/
theorem frC_nochain {s : Sm} (hs : Sh s) (h : s.isChain = false) {k : Kd} (hk : k.isCh = true) (i : Nat) : (frC s (some (k, i))).isChain = false := by
  induction s using Sm.ind with
  | h kd ps ih =>
    rcases held_or hs with ⟨p, e⟩ | e
    · cases e
      rw [frC_held]
      by_cases g : goes (some (k, i)) p = true
      · rw [if_pos g]
        refine ih p (by simp) (hs.mem p (by simp)) ?_
        simp [goes, hk] at g
        exact g.2
      · rw [if_neg g]; rfl
    · rw [isChain_kd (frC_kd e _)]; exact h
/-- a base stays one -/
theorem frC_base {s : Sm} (hs : Sh s) (h : s.isBase = true) {k : Kd} (hk : k.isSc = true) : (frC s (some (k, 0))).isBase = true := by
  rcases held_or hs with ⟨p, rfl⟩ | e
  · rw [frC_held, if_neg (by simp [goes, hk])]; rfl
  · rw [isBase_kd (frC_kd e _)]; exact h
theorem frC_gd {s : Sm} (h : Gd s) (c : Cx) : Gd (frC s c) := by
  induction s using Sm.ind generalizing c with
  | h k ps ih =>
    have hk := h.kd
    have gen : Gd (.nd k (mapI (fun i p => frC p (some (k, i))) 0 ps)) := by
      refine .nd ?_ fun q hq => ?_
      · cases k with
        | word t => have : ps = [] := hk.1; subst this; exact ⟨rfl, hk.2⟩
        | chain ss =>
          refine ⟨by rw [mapI_len]; exact hk.1, hk.2.1, hk.2.2.1, hk.2.2.2.1, fun q hq => ?_⟩
          obtain ⟨i, a, h1, rfl⟩ := mapI_mem hq
          have hm := List.mem_of_getElem? h1
          exact frC_nochain (h.mem a hm).sh (hk.2.2.2.2 a hm) rfl _
        | over => show (mapI _ 0 ps).length = 2; rw [mapI_len]; exact hk
        | root => show (mapI _ 0 ps).length = 1; rw [mapI_len]; exact hk
        | held => show (mapI _ 0 ps).length = 1; rw [mapI_len]; exact hk
        | script u d =>
          refine ⟨hk.1, by rw [mapI_len]; exact hk.2.1, fun q hq => ?_⟩
          cases ps with
          | nil => simp [mapI] at hq
          | cons a r =>
            simp [mapI] at hq
            subst hq
            exact frC_base (h.mem a (by simp)).sh (hk.2.2 a rfl) rfl
        | table r c => exact ⟨hk.1, hk.2.1, by rw [mapI_len]; exact hk.2.2⟩
      · obtain ⟨i, a, h1, rfl⟩ := mapI_mem hq
        have hm := List.mem_of_getElem? h1
        exact ih a hm (h.mem a hm) _
    rcases held_or h.sh with ⟨p, e⟩ | e
    · cases e
      rw [frC_held]
      by_cases g : goes c p = true
      · rw [if_pos g]; exact ih p (by simp) (h.mem p (by simp)) c
      · rw [if_neg g]; exact gen
    · simp only [Sm.kd] at e
      rw [frC_nd e]; exact gen
theorem goes_kd {p q : Sm} (h : p.isChain = q.isChain) (c : Cx) : goes c p = goes c q := by
  cases c with
  | none => rfl
  | some c => simp [goes, h]
/-- freed again it stays -/
theorem frC_idem {s : Sm} (h : Sh s) (c : Cx) : frC (frC s c) c = frC s c := by
  induction s using Sm.ind generalizing c with
  | h k ps ih =>
    rcases held_or h with ⟨p, e⟩ | e
    · cases e
      have hp := h.mem p (by simp)
      rw [frC_held]
      by_cases g : goes c p = true
      · rw [if_pos g]; exact ih p (by simp) hp c
      · rw [if_neg g, frC_held]
        have g2 : ¬ goes c (frC p (some (.held, 0))) = true := fun z => by
          cases c with
          | none => exact g rfl
          | some c =>
            obtain ⟨k, i⟩ := c
            simp only [goes, Bool.and_eq_true, Bool.not_eq_true', Bool.and_eq_false_iff] at g z
            by_cases q : p.isChain = true
            · rw [frC_chain q] at z; rw [q] at g; exact g z
            · exact g ⟨z.1, .inr (by simpa using q)⟩
        rw [if_neg g2, ih p (by simp) hp]
    · simp only [Sm.kd] at e
      rw [frC_nd e, frC_nd e, mapI_mapI]
      congr 1
      refine mapI_congr fun i a ha => ?_
      have hm := List.mem_of_getElem? ha
      exact ih a hm (h.mem a hm) _
theorem frC_held2 (p : Sm) (c : Cx) : frC (.nd .held [.nd .held [p]]) c = frC (.nd .held [p]) c := by
  have e : frC (.nd .held [p]) (some (.held, 0)) = frC p (some (.held, 0)) := by rw [frC_held, if_pos (by simp [goes, Kd.isSc, Kd.isCh])]
  cases c with
  | none => rw [frC_held]; rfl
  | some c =>
    obtain ⟨k, i⟩ := c
    rw [frC_held]
    by_cases h : (k.isSc && decide (i = 0)) = true
    · rw [if_neg (by simp [goes, h]), e, frC_held, if_neg (by simp [goes, h])]
    · rw [if_pos (by simp only [goes, Sm.isChain, Bool.and_false, Bool.not_false, Bool.and_true, Bool.not_eq_true']; simpa only [Bool.not_eq_true] using h)]
/-- a held more, where it is no base, changes nothing of what is freed -/
theorem frC_put : ∀ (w : List Nat) {s p : Sm} (c : Cx), Gd s → partAt s w = some p → isB s w = false → (w = [] → goes c p = true) → frC (putAt s w (.nd .held [p])) c = frC s c
  | [], s, p, c, g, e, _, hc => by
    simp [partAt] at e
    subst e
    simp only [putAt]
    rw [frC_held, if_pos (hc rfl)]
  | j :: w, s, p, c, g, e, hb, _ => by
    simp only [partAt] at e
    simp only [putAt]
    cases q : s.ps[j]? with
    | none => rfl
    | some t =>
      rw [q] at e
      simp only at e ⊢
      have gt := g.part q
      have hmem : t ∈ s.ps := List.mem_of_getElem? q
      have hb2 : isB t w = false := by
        cases w with
        | nil => rfl
        | cons a w => simp only [isB, q] at hb; exact hb
      have ih := fun c' h' => frC_put w (s := t) (p := p) c' gt e hb2 h'
      rcases held_or g.sh with ⟨x, rfl⟩ | hh
      · simp only [Sm.ps, Sm.kd] at q ⊢
        cases j with
        | succ j => simp at q
        | zero =>
          simp at q
          subst q
          simp only [List.set_cons_zero]
          cases w with
          | nil => simp [partAt] at e; subst e; simp only [putAt]; exact frC_held2 x c
          | cons a w =>
            have hkd : (putAt x (a :: w) (.nd .held [p])).isChain = x.isChain := isChain_kd put_kd
            rw [frC_held, frC_held, goes_kd hkd, ih c (by simp), ih (some (.held, 0)) (by simp)]
      · cases s with
        | nd k ps =>
          simp only [Sm.ps, Sm.kd] at q hh ⊢
          rw [frC_nd hh, frC_nd hh, mapI_set]
          have hgoes : w = [] → goes (some (k, j)) p = true := fun hw => by
            subst hw
            simp [partAt] at e
            subst e
            simp only [isB] at hb
            have hk := g.kd
            cases k with
            | chain ss =>
              have := hk.2.2.2.2 t (List.mem_of_getElem? q)
              simp [goes, Kd.isSc, Kd.isCh, this]
            | script u d =>
              simp [Sm.isScript] at hb
              simp [goes, Kd.isSc, Kd.isCh, hb]
            | _ => simp [goes, Kd.isSc, Kd.isCh]
          rw [Nat.zero_add, ih (some (k, j)) hgoes]
          congr 1
          apply List.ext_getElem?
          intro i
          rw [List.getElem?_set]
          split
          · rename_i z
            subst z
            rw [mapI_get, q, mapI_len]
            have hl : j < ps.length := (List.getElem?_eq_some_iff.mp q).1
            simp [hl]
          · rfl
theorem isB_put : ∀ (w : List Nat) {s p : Sm} (new : Sm), partAt s w = some p → isB (putAt s w new) w = isB s w
  | [], _, _, _, _ => rfl
  | k :: w, s, p, new, e => by
    simp only [partAt] at e
    cases q : s.ps[k]? with
    | none => rw [q] at e; cases e
    | some t =>
      rw [q] at e
      simp only at e
      have ih := isB_put w new e
      have hl : k < s.ps.length := (List.getElem?_eq_some_iff.mp q).1
      cases w with
      | nil =>
        simp only [putAt, q, isB]
        cases s with
        | nd k' ps => cases k' <;> rfl
      | cons a w =>
        have h2 : (putAt s (k :: a :: w) new).ps[k]? = some (putAt t (a :: w) new) := by
          rw [putAt, q]
          exact List.getElem?_set_self hl
        rw [isB, isB, h2, q]
        · exact ih
        · simp
        · simp
theorem part_put : ∀ (w : List Nat) {s p : Sm} (new : Sm), partAt s w = some p → partAt (putAt s w new) w = some new
  | [], _, _, _, _ => rfl
  | k :: w, s, p, new, e => by
    simp only [partAt] at e
    cases q : s.ps[k]? with
    | none => rw [q] at e; cases e
    | some t =>
      rw [q] at e
      simp only at e
      have ih := part_put w new e
      have hl : k < s.ps.length := (List.getElem?_eq_some_iff.mp q).1
      have h2 : (putAt s (k :: w) new).ps[k]? = some (putAt t w new) := by
        rw [putAt, q]
        exact List.getElem?_set_self hl
      rw [partAt, h2]
      exact ih
theorem put_put : ∀ (w : List Nat) {s p : Sm} (n1 n2 : Sm), partAt s w = some p → putAt (putAt s w n1) w n2 = putAt s w n2
  | [], _, _, _, _, _ => rfl
  | k :: w, s, p, n1, n2, e => by
    simp only [partAt] at e
    cases q : s.ps[k]? with
    | none => rw [q] at e; cases e
    | some t =>
      rw [q] at e
      simp only at e
      have ih := put_put w n1 n2 e
      have hl : k < s.ps.length := (List.getElem?_eq_some_iff.mp q).1
      have h2 : (putAt s (k :: w) n1).ps[k]? = some (putAt t w n1) := by
        rw [putAt, q]
        exact List.getElem?_set_self hl
      rw [putAt, h2]
      simp only
      rw [ih, put_kd]
      rw [putAt, putAt, q]
      simp only [Sm.ps]
      rw [List.set_set]
/-- a good sum put where it may be makes a good sum -/
theorem put_gd : ∀ (w : List Nat) {s p new : Sm}, Gd s → Gd new → partAt s w = some p → mayPut s w new → Gd (putAt s w new)
  | [], _, _, _, _, h, _, _ => h
  | k :: w, s, p, new, g, gn, e, hm => by
    simp only [partAt] at e
    simp only [mayPut] at hm
    simp only [putAt]
    cases q : s.ps[k]? with
    | none => rw [q] at e; cases e
    | some t =>
      rw [q] at e hm
      simp only at e hm ⊢
      have ih := put_gd w (g.part q) gn e hm.1
      cases s with
      | nd kd ps =>
        simp only [Sm.ps, Sm.kd] at q hm ⊢
        have hk := g.kd
        refine .nd ?_ fun x hx => ?_
        · cases kd with
          | word t => have : ps = [] := hk.1; subst this; simp at q
          | chain ss =>
            refine ⟨by rw [List.length_set]; exact hk.1, hk.2.1, hk.2.2.1, hk.2.2.2.1, fun x hx => ?_⟩
            rcases List.mem_or_eq_of_mem_set hx with z | z
            · exact hk.2.2.2.2 x z
            · rw [z]; have := hm.2; simpa [mayBe] using this
          | over => show (ps.set k _).length = 2; rw [List.length_set]; exact hk
          | root => show (ps.set k _).length = 1; rw [List.length_set]; exact hk
          | held => show (ps.set k _).length = 1; rw [List.length_set]; exact hk
          | script u d =>
            refine ⟨hk.1, by rw [List.length_set]; exact hk.2.1, fun x hx => ?_⟩
            rw [List.head?_eq_getElem?, List.getElem?_set] at hx
            by_cases hk0 : k = 0
            · subst hk0
              have hl : 0 < ps.length := (List.getElem?_eq_some_iff.mp q).1
              rw [if_pos rfl, if_pos hl] at hx
              simp at hx
              have := hm.2
              simp [mayBe] at this
              rw [← hx]; exact this
            · rw [if_neg hk0, ← List.head?_eq_getElem?] at hx
              exact hk.2.2 x hx
          | table r c => exact ⟨hk.1, hk.2.1, by rw [List.length_set]; exact hk.2.2⟩
        · rcases List.mem_or_eq_of_mem_set hx with z | z
          · exact g.mem x z
          · rw [z]; exact ih
/-- a held that is left is needed -/
theorem frC_left {s : Sm} (h : Sh s) {c : Cx} {q : Sm} (e : frC s c = .nd .held [q]) : goes c q = false := by
  induction s using Sm.ind with
  | h k ps ih =>
    rcases held_or h with ⟨p, z⟩ | z
    · cases z
      rw [frC_held] at e
      by_cases g : goes c p = true
      · rw [if_pos g] at e; exact ih p (by simp) (h.mem p (by simp)) e
      · rw [if_neg g] at e
        have e2 : frC p (some (.held, 0)) = q := by injection e with _ e; simpa using e
        cases c with
        | none => exact absurd rfl g
        | some c =>
          obtain ⟨k, i⟩ := c
          by_cases hp : p.isChain = true
          · rw [goes_kd (q := p) (by rw [← e2, frC_chain hp, hp])]; simpa using g
          · simp only [Bool.not_eq_true] at hp
            simp [goes, hp] at g
            simp only [goes]
            simp [g]
    · simp only [Sm.kd] at z
      rw [frC_nd z] at e
      injection e with e1 _
      rw [e1] at z
      cases z
theorem frC_ps {s : Sm} (h : Sh s) (c : Cx) {i : Nat} {x : Sm} (e : (frC s c).ps[i]? = some x) : ∃ a, Sh a ∧ x = frC a (some ((frC s c).kd, i)) := by
  rw [frC_opn h] at e ⊢
  have hs := (opn_sh h c).1
  revert e hs
  generalize opn s c = t
  intro e hs
  cases t with
  | nd k ps =>
    simp only [frP, Sm.ps] at e
    rw [mapI_get] at e
    cases q : ps[i]? with
    | none => rw [q] at e; cases e
    | some a =>
      rw [q] at e
      simp at e
      exact ⟨a, hs.mem a (List.mem_of_getElem? q), by rw [← e]; rfl⟩
theorem frC_needed : ∀ (v : List Nat) {s r q : Sm} {c : Cx} {i : Nat}, Sh s → partAt (frC s c) v = some r → partAt (frC s c) (v ++ [i]) = some (.nd .held [q]) → goes (some (r.kd, i)) q = false
  | [], s, r, q, c, i, hs, h1, h2 => by
    simp [partAt] at h1
    subst h1
    simp only [List.nil_append, partAt] at h2
    cases e : (frC s c).ps[i]? with
    | none => rw [e] at h2; cases h2
    | some x =>
      rw [e] at h2
      simp at h2
      obtain ⟨a, ha, hx⟩ := frC_ps hs c e
      rw [h2] at hx
      exact frC_left ha hx.symm
  | j :: v, s, r, q, c, i, hs, h1, h2 => by
    simp only [List.cons_append, partAt] at h1 h2
    cases e : (frC s c).ps[j]? with
    | none => rw [e] at h1; cases h1
    | some x =>
      rw [e] at h1 h2
      simp only at h1 h2
      obtain ⟨a, ha, hx⟩ := frC_ps hs c e
      subst hx
      exact frC_needed v ha h1 h2
/-! boxes -/
structure Le (b b' : Bx) : Prop where
  w : b.w ≤ b'.w
  u : b.u ≤ b'.u
  d : b.d ≤ b'.d
theorem Le.trans {a b c : Bx} (h : Le a b) (g : Le b c) : Le a c := ⟨Int.le_trans h.w g.w, Int.le_trans h.u g.u, Int.le_trans h.d g.d⟩
theorem Le.refl (b : Bx) : Le b b := ⟨Int.le_refl _, Int.le_refl _, Int.le_refl _⟩
theorem nd_le {k : Kd} {bs : List Bx} {i : Nat} {b b' : Bx} (hk : k.sh bs.length) (hb : bs[i]? = some b) (g : Le b b') : Le (bxK k bs) (bxK k (bs.set i b')) := by
  have := g.w; have := g.u; have := g.d
  have r := nd_grow (a := b'.w - b.w) (e := b'.u + b'.d - (b.u + b.d)) (by omega) (by omega) hk hb ⟨by omega, by omega, by omega, by omega, by omega⟩
  exact ⟨r.w1, r.u, r.d⟩
theorem bxK_le {k : Kd} : ∀ (l l' pre : List Bx), l.length = l'.length → k.sh (pre ++ l).length → (∀ (i : Nat) (b b' : Bx), l[i]? = some b → l'[i]? = some b' → Le b b') → Le (bxK k (pre ++ l)) (bxK k (pre ++ l'))
  | [], [], pre, _, _, _ => Le.refl _
  | b :: l, b' :: l', pre, hl, hk, H => by
    have h1 := nd_le (i := pre.length) (b := b) (b' := b') hk (by simp) (H 0 b b' rfl rfl)
    have h2 : (pre ++ b :: l).set pre.length b' = (pre ++ [b']) ++ l := by simp
    rw [h2] at h1
    have h3 := bxK_le l l' (pre ++ [b']) (by simpa using hl) (by simpa using hk) fun i x x' hx hx' => H (i + 1) x x' (by simpa using hx) (by simpa using hx')
    simp only [List.append_assoc, List.singleton_append] at h1 h3
    exact h1.trans h3
  | [], _ :: _, _, h, _, _ => by simp at h
  | _ :: _, [], _, h, _, _ => by simp at h
theorem frC_le {s : Sm} (h : Sh s) (c : Cx) : Le (bx (frC s c)) (bx s) := by
  induction s using Sm.ind generalizing c with
  | h k ps ih =>
    have gen : Le (bx (.nd k (mapI (fun i p => frC p (some (k, i))) 0 ps))) (bx (.nd k ps)) := by
      rw [bx_nd, bx_nd]
      refine bxK_le _ _ [] (by simp [mapI_len]) (by simp [mapI_len]; exact h.kd) fun i b b' hb hb' => ?_
      rw [List.getElem?_map] at hb hb'
      rw [mapI_get] at hb
      cases q : ps[i]? with
      | none => rw [q] at hb'; cases hb'
      | some p =>
        rw [q] at hb hb'
        simp at hb hb'
        subst hb
        subst hb'
        have hm := List.mem_of_getElem? q
        exact ih p hm (h.mem p hm) _
    rcases held_or h with ⟨p, e⟩ | e
    · cases e
      rw [frC_held]
      by_cases g : goes c p = true
      · rw [if_pos g]
        refine (ih p (by simp) (h.mem p (by simp)) c).trans ?_
        rw [bx_nd]
        exact ⟨by simp [bxK]; omega, by simp [bxK], by simp [bxK]⟩
      · rw [if_neg g]; exact gen
    · simp only [Sm.kd] at e
      rw [frC_nd e]; exact gen
end SM

/-! K33: freed of more. -/
namespace SM
open PL
theorem wh_stop {c : Env → Sto → Res Bool} {f : Env → Sto → Out} {n : Nat} {e : Env} {st : Sto} (h : c e st = .ok false st) : whL c f (n + 1) e st = .next e st := by
  rw [whL, h]; rfl
theorem wh_go {c : Env → Sto → Res Bool} {f : Env → Sto → Out} {n : Nat} {e e1 : Env} {st : Sto} (h : c e st = .ok true st) (g : f e st = .next e1 st) : whL c f (n + 1) e st = whL c f n e1 st := by
  rw [whL, h]
  simp only [Res.out, if_true, g]
theorem wh_ret {c : Env → Sto → Res Bool} {f : Env → Sto → Out} {n : Nat} {e : Env} {st : Sto} {v : PV} (h : c e st = .ok true st) (g : f e st = .ret v st) : whL c f (n + 1) e st = .ret v st := by
  rw [whL, h]
  simp only [Res.out, if_true, g]
section
variable {T : Tab}
structure FrT (T : Tab) : Prop extends WyT T where
  opened : T.lookup 139 = some Fn.f_opened
  freed : T.lookup 140 = some Fn.f_freed
  freed_parts : T.lookup 141 = some Fn.f_freed_parts
def opC : PT := match Fn.f_opened.body with | .seq (.wh c _) _ => c | _ => .yes
def opB : PS := match Fn.f_opened.body with | .seq (.wh _ b) _ => b | _ => .skip
theorem isHd_name (s : Sm) : (s.kd.name = [104, 101, 108, 100]) ↔ s.kd.isHd = true := by
  cases s with
  | nd k ps => cases k <;> simp [Sm.kd, Kd.name, Kd.isHd]
theorem isSc_name (s : Sm) : (s.kd.name = [115, 99, 114, 105, 112, 116]) ↔ s.kd.isSc = true := by
  cases s with
  | nd k ps => cases k <;> simp [Sm.kd, Kd.name, Kd.isSc]
theorem isCh_name (s : Sm) : (s.kd.name = [99, 104, 97, 105, 110]) ↔ s.kd.isCh = true := by
  cases s with
  | nd k ps => cases k <;> simp [Sm.kd, Kd.name, Kd.isCh]
theorem opened_wh (h : FrT T) (m : Nat) (s : Sm) (i : Nat) (st : Sto) (p : Sm) (hp : Sh p) : ∀ n, dp p ≤ n → 
    (whL (fun e1 st1 => evT (callF T (m + 1)) opC e1 st1) (fun e1 st1 => run (callF T (m + 1)) opB e1 st1) n [some (enc s), some (.int (i : Int)), some (enc p)] st = .next [some (enc s), some (.int (i : Int)), some (enc (opn p (some (s.kd, i))))] st ∨
    whL (fun e1 st1 => evT (callF T (m + 1)) opC e1 st1) (fun e1 st1 => run (callF T (m + 1)) opB e1 st1) n [some (enc s), some (.int (i : Int)), some (enc p)] st = .ret (enc (opn p (some (s.kd, i)))) st) := by
  induction p using Sm.ind with
  | h k ps ih =>
    intro n hn
    obtain ⟨n, rfl⟩ : ∃ j, n = j + 1 := ⟨n - 1, by have := dp_pos (.nd k ps); omega⟩
    have ks := kindS h.toKpT m s st
    have hsc := isSc_name s
    have hch := isCh_name s
    rcases held_or hp with ⟨q, e⟩ | e
    · cases e
      have kp := kindS h.toKpT m (.nd .held [q]) st
      have kq := kindS h.toKpT m q st
      have hq := isChain_name q
      have he : enc (.nd .held [q]) = .tup [.str [104, 101, 108, 100], enc q] := by rw [enc_nd]; rfl
      have hlt := dp_lt (k := .held) (show q ∈ [q] by simp)
      simp only [Sm.kd, Kd.name] at kp
      rw [opn_held]
      by_cases g1 : s.kd.isSc = true ∧ i = 0
      · left
        rw [if_neg (by simp [goes, g1])]
        refine wh_stop ?_
        rw [he] at kp ⊢
        simp [opC, Fn.f_opened, kp, ks, hsc.mpr g1.1, g1.2]
      · have hcond : evT (callF T (m + 1)) opC [some (enc s), some (.int (i : Int)), some (enc (.nd .held [q]))] st = .ok true st := by
          rw [he] at kp ⊢
          by_cases g2 : s.kd.isSc = true
          · have : i ≠ 0 := fun z => g1 ⟨g2, z⟩
            simp [opC, Fn.f_opened, kp, ks, hsc.mpr g2, this]
          · have z2 : ¬ s.kd.name = [115, 99, 114, 105, 112, 116] := fun y => g2 (hsc.mp y)
            simp [opC, Fn.f_opened, kp, ks, z2]
        by_cases g2 : s.kd.isCh = true ∧ q.isChain = true
        · right
          rw [if_neg (by simp [goes, g2])]
          refine wh_ret hcond ?_
          rw [he]
          simp [opB, Fn.f_opened, ks, kq, hch.mpr g2.1, hq.mpr g2.2]
        · have hg : goes (some (s.kd, i)) q = true := by
            simp only [goes, Bool.and_eq_true, Bool.not_eq_true', Bool.and_eq_false_iff, decide_eq_false_iff_not]
            refine ⟨?_, ?_⟩
            · by_cases z : s.kd.isSc = true
              · exact .inr fun y => g1 ⟨z, y⟩
              · exact .inl (by simpa using z)
            · by_cases z : s.kd.isCh = true
              · exact .inr (by simpa using fun y => g2 ⟨z, y⟩)
              · exact .inl (by simpa using z)
          rw [if_pos hg]
          have hbody : run (callF T (m + 1)) opB [some (enc s), some (.int (i : Int)), some (enc (.nd .held [q]))] st = .next [some (enc s), some (.int (i : Int)), some (enc q)] st := by
            rw [he]
            by_cases g3 : q.isChain = true
            · have z2 : ¬ s.kd.name = [99, 104, 97, 105, 110] := fun y => g2 ⟨hch.mp y, g3⟩
              simp [opB, Fn.f_opened, ks, kq, hq.mpr g3, z2]
            · have z2 : ¬ q.kd.name = [99, 104, 97, 105, 110] := fun y => g3 (hq.mp y)
              simp [opB, Fn.f_opened, ks, kq, z2]
          rw [wh_go hcond hbody]
          exact ih q (by simp) (hp.mem q (by simp)) n (by omega)
    · left
      have kp := kindS h.toKpT m (.nd k ps) st
      have hh := isHd_name (.nd k ps)
      simp only [Sm.kd] at e
      rw [opn_nd e]
      refine wh_stop ?_
      have z2 : ¬ (Sm.nd k ps).kd.name = [104, 101, 108, 100] := fun y => by have := hh.mp y; simp only [Sm.kd] at this; rw [this] at e; cases e
      simp [opC, Fn.f_opened, kp, z2]
theorem opened_ok (h : FrT T) (m : Nat) (s : Sm) (i : Nat) (p : Sm) (hp : Sh p) (hd : dp p ≤ 1000) (st : Sto) : callF T (m + 2) 139 [enc s, .int (i : Int), enc p] st = .ok (enc (opn p (some (s.kd, i)))) st := by
  rw [callF_of h.opened, runD_of rfl]
  have q := opened_wh h m s i st p hp WH (by unfold WH; omega)
  simp [opC, opB, Fn.f_opened] at q
  simp [Fn.f_opened, start]
  rcases q with q | q
  · rw [q]; simp
  · rw [q]; simp
theorem enumL_mapI : ∀ (k : Nat) (l : List Sm), enumL k (l.map enc) = (mapI (fun i p => (i, p)) k l).map fun (x : Nat × Sm) => .tup [.int (x.1 : Int), enc x.2]
  | _, [] => rfl
  | k, a :: r => by simp [enumL, mapI, enumL_mapI (k + 1) r]
theorem freed_parts_ok (h : FrT T) : ∀ (m : Nat) (s : Sm), Sh s → dp s ≤ m → m ≤ 1000 → ∀ n st, 2 * m + 2 ≤ n → callF T n 141 [enc s] st = .ok (enc (frP s)) st
  | 0, s, _, hd, _ => by have := dp_pos s; omega
  | m + 1, .nd k ps, hs, hd, hm => fun n st hn => by
    obtain ⟨n, rfl⟩ : ∃ j, n = j + 4 := ⟨n - 4, by omega⟩
    rw [callF_of h.freed_parts, runD_of rfl]
    have hp := parts_ok h.toKpT (n + 1) (.nd k ps) hs st
    simp only [Sm.ps] at hp
    have hlen := hs.len
    have hl2 : ps.length ≤ 16777216 := by omega
    simp [Fn.f_freed_parts, start, hp, enumL_mapI, SZ_val]
    rw [comp_map (fun (x : Nat × Sm) => .tup [.int (x.1 : Int), enc x.2]) (fun (x : Nat × Sm) => enc (frC x.2 (some (k, x.1)))) (mapI (fun i p => (i, p)) 0 ps) (fun x hx => by
      obtain ⟨i, a, ha, rfl⟩ := mapI_mem hx
      have hm' := List.mem_of_getElem? ha
      have hsa := hs.mem a hm'
      have hda := dp_lt (k := k) hm'
      have ho := opened_ok h (n + 1) (.nd k ps) (0 + i) a hsa (by omega) st
      have hsh := opn_sh hsa (some (k, 0 + i))
      have hf := freed_parts_ok h m (opn a (some (k, 0 + i))) hsh.1 (by omega) (by omega) (n + 3) st (by omega)
      rw [← frC_opn hsa] at hf
      simp only [Sm.kd] at ho
      simp at ho hf
      simp [ho, hf])]
    have hw := with_ok h.toWyT (n + 1) k ps (mapI (fun i p => frC p (some (k, i))) 0 ps) hs (mapI_len _ _ _) st
    rw [map_mapI] at hw
    rw [map_mapI]
    simp [SZ_val, mapI_len, hl2, hw, frP]
theorem freed_wh (h : FrT T) (m : Nat) (st : Sto) (p : Sm) (hp : Sh p) : ∀ n, dp p ≤ n → 
    whL (fun e1 st1 => evT (callF T (m + 1)) (match Fn.f_freed.body with | .seq (.wh c _) _ => c | _ => .yes) e1 st1) (fun e1 st1 => run (callF T (m + 1)) (match Fn.f_freed.body with | .seq (.wh _ b) _ => b | _ => .skip) e1 st1) n [some (enc p)] st = .next [some (enc (opn p none))] st := by
  induction p using Sm.ind with
  | h k ps ih =>
    intro n hn
    obtain ⟨n, rfl⟩ : ∃ j, n = j + 1 := ⟨n - 1, by have := dp_pos (.nd k ps); omega⟩
    rcases held_or hp with ⟨q, e⟩ | e
    · cases e
      have kp := kindS h.toKpT m (.nd .held [q]) st
      have he : enc (.nd .held [q]) = .tup [.str [104, 101, 108, 100], enc q] := by rw [enc_nd]; rfl
      have hlt := dp_lt (k := .held) (show q ∈ [q] by simp)
      simp only [Sm.kd, Kd.name] at kp
      rw [opn_held, if_pos (show goes none q = true from rfl)]
      rw [wh_go (e1 := [some (enc q)]) (by rw [he] at kp ⊢; simp [Fn.f_freed, kp]) (by rw [he] at kp ⊢; simp [Fn.f_freed, kp])]
      exact ih q (by simp) (hp.mem q (by simp)) n (by omega)
    · have kp := kindS h.toKpT m (.nd k ps) st
      have hh := isHd_name (.nd k ps)
      simp only [Sm.kd] at e
      rw [opn_nd e]
      refine wh_stop ?_
      have z2 : ¬ (Sm.nd k ps).kd.name = [104, 101, 108, 100] := fun y => by have := hh.mp y; simp only [Sm.kd] at this; rw [this] at e; cases e
      simp [Fn.f_freed, kp, z2]
theorem freed_ok (h : FrT T) (s : Sm) (hs : Sh s) (hd : dp s ≤ 1000) (n : Nat) (hn : 2 * dp s + 3 ≤ n) (st : Sto) : callF T n 140 [enc s] st = .ok (enc (frC s none)) st := by
  obtain ⟨n, rfl⟩ : ∃ j, n = j + 2 := ⟨n - 2, by omega⟩
  rw [callF_of h.freed, runD_of rfl]
  have q := freed_wh h n st s hs WH (by unfold WH; omega)
  have ho := opn_sh hs none
  have hf := freed_parts_ok h (dp s) (opn s none) ho.1 ho.2 hd (n + 1) st (by omega)
  rw [← frC_opn hs] at hf
  simp [Fn.f_freed] at q
  simp [Fn.f_freed, start]
  rw [q]
  simp [hf]
theorem needed_ok (h : WwT T) (h1 : T.lookup 181 = some Fn.f_law_is_base) (hr : T.lookup 197 = some Fn.f_law_is_needed) (n : Nat) {s q r : Sm} {v : List Nat} {i : Nat} (hs : Sh s) (e : partAt s (v ++ [i]) = some (.nd .held [q])) (er : partAt s v = some r) (hg : goes (some (r.kd, i)) q = false) (st : Sto) : callF T (n + 5) 197 [enc s, encW (v ++ [i])] st = .ok (.bl true) st := by
  rw [callF_of hr, runD_of rfl]
  have hb := is_base_ok h h1 n hs e st
  have hp := part_at_ok h (n + 1) hs e st
  have hpr := part_at_ok h (n + 1) hs er st
  have hB := isB_snoc v (p := q) i er
  obtain ⟨vs, hv⟩ := enc_cons r
  obtain ⟨vq, hvq⟩ := enc_cons q
  have he : enc (.nd .held [q]) = .tup [.str [104, 101, 108, 100], enc q] := by rw [enc_nd]; rfl
  rw [he, hvq] at hp
  rw [hv] at hpr
  rw [hB] at hb
  have hne : eqV (encW (v ++ [i])) (.tup []) = some false := by
    cases v with
    | nil => exact encW_ne i []
    | cons a v => exact encW_ne a (v ++ [i])
  have e1 : ∀ w, encW w = .tup (w.map fun (k : Nat) => .int (k : Int)) := fun _ => rfl
  have hsc : r.isScript = r.kd.isSc := by
    cases r with
    | nd k ps => cases k <;> rfl
  rw [hsc] at hb
  simp only [goes] at hg
  cases hz : (decide (i = 0) && r.kd.isSc) with
  | true =>
    rw [hz] at hb
    simp [Fn.f_law_is_needed, start, hb]
  | false =>
    rw [hz] at hb
    rw [Bool.and_comm] at hz
    rw [hz] at hg
    simp at hg
    have c1 := (isCh_name r).mpr hg.1
    have c2 := (isChain_name q).mpr hg.2
    rw [c2] at hp
    rw [c1] at hpr
    rw [e1] at hp hne hb
    rw [e1] at hpr
    rw [e1]
    simp at hp hpr hne hb
    simp [Fn.f_law_is_needed, start, hb, hne, hp, cut_last, hpr]
theorem law33 (hb : BoxT T) (hd : DrawT T) (hf : FrT T) (h0 : T.lookup 180 = some Fn.f_law_room) (h1 : T.lookup 181 = some Fn.f_law_is_base) (h2 : T.lookup 197 = some Fn.f_law_is_needed) (hl : T.lookup 198 = some Fn.f_law_k33) : LawTrue T 61 198 := by
  intro ns hns
  refine ⟨[], ?_⟩
  rw [callF_of hl, runD_of rfl]
  have hw := hf.toWyT
  have s10 : small62 10 = true := by decide
  have s97 : small64 97 = true := by decide
  obtain ⟨e', q, hq⟩ := range_inv (f := forF (callF T 60) (.nm 1) (match Fn.f_law_k33.body with | .seq (.fr _ _ b) _ => b | _ => .skip)) (st := []) (fun e => ∃ o1 o2 o3 o4 o5 o6 o7 o8 o9, e = [some (.scr ns), o1, o2, o3, o4, o5, o6, o7, o8, o9]) 10 [some (.scr ns), none, none, none, none, none, none, none, none, none] ⟨_, _, _, _, _, _, _, _, _, rfl⟩ (by
    rintro k hk e ⟨o1, o2, o3, o4, o5, o6, o7, o8, o9, rfl⟩
    have k9 : (0 : Int) ≤ (k : Int) % 9 := Int.emod_nonneg _ (by decide)
    generalize hcell : cellI ns ((k : Int) % 9).toNat + 97 * (k : Int) = cell
    obtain ⟨s, g, d1, e1⟩ := draw_at hd 4 (by decide) cell
    have e1' : callF T 60 12 [.int cell, .int 4] [] = .ok (enc s) [] := e1 60 [] (by omega)
    have rm : ∀ t, Sh t → dp t ≤ 10 → callF T 60 180 [enc t] [] = .ok (.tup [.int (bx t).w, .int (bx t).rows]) [] := fun t a b => room_ok hb h0 59 t a (by omega) []
    have fr : ∀ t, Sh t → dp t ≤ 10 → callF T 60 140 [enc t] [] = .ok (enc (frC t none)) [] := fun t a b => freed_ok hf t a (by omega) 60 (by omega) []
    have ng : Gd (frC s none) := frC_gd g none
    have nsh := frC_sh g.sh none
    have wyl : ∀ t, Gd t → dp t ≤ 4 → callF T 60 25 [enc t] [] = .ok (.tup ((wys t).map encW)) [] := fun t gt dt => ways_ok hw.toWwT t gt.sh (by omega) (Nat.le_trans (wys_len gt) (Nat.le_trans (Nat.pow_le_pow_right (by omega) dt) (by decide))) 60 (by omega) []
    have wy := wyl s g d1
    have wyn := wyl (frC s none) ng (by omega)
    have wl : ∀ t, Gd t → dp t ≤ 4 → (wys t).length ≤ 16777216 := fun t gt dt => Nat.le_trans (wys_len gt) (Nat.le_trans (Nat.pow_le_pow_right (by omega) dt) (by decide))
    have wn := wl (frC s none) ng (by omega)
    have f_s := fr s g.sh (by omega)
    have f_n := fr (frC s none) nsh.1 (by omega)
    rw [frC_idem g.sh] at f_n
    have sh_h : ∀ p, Sh p → Sh (.nd .held [p]) := fun p hp => .nd rfl (by simp) (by simp [hp])
    have dh : ∀ p, dp (.nd .held [p]) ≤ dp p + 1 := fun p => dp_le (by simp)
    have hg : ∀ p, frC (.nd .held [p]) none = frC p none := fun p => by rw [frC_held]; rfl
    have f_h := fr (.nd .held [s]) (sh_h s g.sh) (by have := dh s; omega)
    have f_hh := fr (.nd .held [.nd .held [s]]) (sh_h _ (sh_h s g.sh)) (by have := dh s; have := dh (.nd .held [s]); omega)
    rw [hg] at f_h
    rw [hg, hg] at f_hh
    simp [enc_nd, encK] at f_h f_hh
    have eqn := enc_self ng (by omega)
    have r_s := rm s g.sh (by omega)
    have r_n := rm (frC s none) nsh.1 (by omega)
    have le := frC_le g.sh none
    have l1 : ¬ (bx s).w < (bx (frC s none)).w := by have := le.w; omega
    have l2 : ¬ (bx s).rows < (bx (frC s none)).rows := by have := le.u; have := le.d; unfold Bx.rows; omega
    obtain ⟨e2, q2, hq2⟩ := for_inv (f := forF (callF T 60) (.nm 5) (match Fn.f_law_k33.body with | .seq (.fr _ _ (.seq _ (.seq _ (.seq _ (.seq _ (.seq (.fr _ _ b) _)))))) _ => b | _ => .skip)) (st := []) (fun e => ∃ o5 o7, e = [some (.scr ns), some (.int (k : Int)), some (.int cell), some (enc s), some (enc (frC s none)), o5, o6, o7, o8, o9]) ((wys s).map encW) [some (.scr ns), some (.int (k : Int)), some (.int cell), some (enc s), some (enc (frC s none)), o5, o6, o7, o8, o9] ⟨_, _, rfl⟩ (by
      rintro x hx e ⟨o5, o7, rfl⟩
      obtain ⟨w, hwm, rfl⟩ := List.mem_map.mp hx
      obtain ⟨p, hp, gp, hpd⟩ := wys_part hwm g
      have shp := gp.sh
      have hpart := part_at_ok hw.toWwT 57 g.sh hp []
      have isb := is_base_ok hw.toWwT h1 56 g.sh hp []
      cases hB : isB s w with
      | true =>
        rw [hB] at isb
        simp [Fn.f_law_k33, hpart, SZ_val, isb]
      | false =>
        rw [hB] at isb
        have gh : Gd (.nd .held [p]) := .nd rfl (by simp [gp])
        have may1 := may_put w g hp (new := .nd .held [p]) rfl (.inl rfl)
        have may2 := may_put w g hp (new := .nd .held [.nd .held [p]]) rfl (.inl rfl)
        have put1 := put_at_ok hw w s (.nd .held [p]) p 60 g.sh (by omega) hp may1 []
        have put2 := put_at_ok hw w s (.nd .held [.nd .held [p]]) p 60 g.sh (by omega) hp may2 []
        have dp1 := dh p
        have dp2 := dh (.nd .held [p])
        have f1 := fr (putAt s w (.nd .held [p])) (put_sh w g.sh (sh_h p shp)) (put_dp w (by omega) (by omega))
        have f2 := fr (putAt s w (.nd .held [.nd .held [p]])) (put_sh w g.sh (sh_h _ (sh_h p shp))) (put_dp w (by omega) (by omega))
        have x1 := frC_put w none g hp hB (fun _ => rfl)
        have g1 := put_gd w g gh hp may1
        have x2 := frC_put w (s := putAt s w (.nd .held [p])) (p := .nd .held [p]) none g1 (part_put w _ hp) (by rw [isB_put w _ hp]; exact hB) (fun _ => rfl)
        rw [put_put w _ _ hp, x1] at x2
        rw [x1] at f1
        rw [x2] at f2
        simp [enc_nd, encK] at put1 put2
        simp [Fn.f_law_k33, hpart, SZ_val, isb, put1, put2, f1, f2, eqn]
      )
    obtain ⟨p5, p7, rfl⟩ := hq2
    simp [Fn.f_law_k33] at q2
    have c1 : ∀ S : Env → PV → Sto → Res (Option PV), True := fun _ => trivial
    simp [Fn.f_law_k33, cell_int hd 59 ns _ k9, s97, hcell, e1', f_s, f_n, f_h, f_hh, eqn, SZ_val, wy]
    rw [q2]
    simp [wyn, SZ_val, wn]
    rw [comp_filter encW encW (fun w => match partAt (frC s none) w with | some p => p.kd.isHd | none => false) (wys (frC s none)) (fun w hwm => by
      obtain ⟨p, hp, gp, hpd⟩ := wys_part hwm ng
      have hpart := part_at_ok hw.toWwT 57 nsh.1 hp []
      obtain ⟨vs, hv⟩ := enc_cons p
      have hh := isHd_name p
      rw [hv] at hpart
      rw [hp]
      by_cases z : p.kd.isHd = true
      · simp [hpart, hh.mpr z, z]
      · have z2 : ¬ p.kd.name = [104, 101, 108, 100] := fun y => z (hh.mp y)
        simp [hpart, z2, z])]
    have hfl : ((wys (frC s none)).filter (fun w => match partAt (frC s none) w with | some p => p.kd.isHd | none => false)).length ≤ 16777216 := Nat.le_trans (List.length_filter_le _ _) wn
    simp [SZ_val, hfl]
    rw [comp_filter encW encW (fun _ => false) _ (fun w hwm => by
      obtain ⟨hwm, hpH⟩ := List.mem_filter.mp hwm
      obtain ⟨p, hp, gp, hpd⟩ := wys_part hwm ng
      rw [hp] at hpH
      simp only at hpH
      rcases held_or gp.sh with ⟨y, rfl⟩ | z
      · rcases List.eq_nil_or_concat w with rfl | ⟨v, i, rfl⟩
        · simp [partAt] at hp
          have := frC_left g.sh hp
          cases this
        · simp only [List.concat_eq_append] at hp ⊢
          obtain ⟨r, hr⟩ := part_snoc v hp
          have hn := needed_ok hw.toWwT h1 h2 55 nsh.1 hp hr (frC_needed v g.sh hr hp) []
          simp [hn]
      · rw [z] at hpH; cases hpH)]
    have eq0 : eqV (.lst []) (.lst []) = some true := eqV_self (a := .lst []) rfl (by simp [PV.deep, PV.deeps])
    have hff : (wys (frC s none)).filter (fun _ => false) = [] := by simp [List.filter_eq_nil_iff]
    simp [SZ_val, hff, eq0, r_s, r_n, l1, l2]
    )
  simp [Fn.f_law_k33, start, s10]
  simp [Fn.f_law_k33] at q
  rw [q]
  simp
end
end SM

/-! LG: rooms of parts; the longest part. -/
namespace SM
open PL
/-- how great a box can be -/
theorem sum_leI : ∀ {l : List Int} {m : Int}, (∀ i ∈ l, i ≤ m) → l.sum ≤ l.length * m
  | [], m, _ => by simp
  | a :: r, m, h => by
    have h1 := h a (by simp)
    have h2 := sum_leI (l := r) (m := m) fun n hn => h n (by simp [hn])
    rw [List.sum_cons, List.length_cons]
    have : (((r.length + 1 : Nat)) : Int) * m = (r.length : Int) * m + m := by rw [Int.natCast_add, Int.add_mul]; omega
    rw [this]
    omega
theorem maxL_le0 {l : List Int} {m : Int} (h0 : 0 ≤ m) (hy : ∀ y ∈ l, y ≤ m) : maxL l ≤ m := by
  cases l with
  | nil => exact h0
  | cons a r => exact maxL_le (by simp) hy
theorem mulB {n : Nat} {B : Int} (h : 0 ≤ B) {c : Nat} (hn : n ≤ c) : (n : Int) * B ≤ (c : Int) * B := Int.mul_le_mul_of_nonneg_right (by omega) h
theorem bx_bound {s : Sm} (h : Gd s) : (bx s).w ≤ 40 ^ dp s ∧ (bx s).u ≤ 40 ^ dp s ∧ (bx s).d ≤ 40 ^ dp s := by
  induction s using Sm.ind with
  | h k ps ih =>
    have hk := h.kd
    obtain ⟨m, hm⟩ : ∃ m, dp (.nd k ps) = m + 1 := ⟨dp (.nd k ps) - 1, by have := dp_pos (.nd k ps); omega⟩
    rw [hm]
    have B1 : (1 : Int) ≤ 40 ^ m := Int.pow_pos (by omega)
    have hP : (40 : Int) ^ (m + 1) = 40 ^ m * 40 := Int.pow_succ _ _
    rw [hP]
    have H : ∀ b ∈ ps.map bx, b.w ≤ 40 ^ m ∧ b.u ≤ 40 ^ m ∧ b.d ≤ 40 ^ m := fun b hb => by
      obtain ⟨p, hp, rfl⟩ := List.mem_map.mp hb
      have h1 := ih p hp (h.mem p hp)
      have h2 := dp_lt (k := k) hp
      have h3 : (40 : Int) ^ dp p ≤ 40 ^ m := by
        have : (40 : Nat) ^ dp p ≤ 40 ^ m := Nat.pow_le_pow_right (by omega) (by omega)
        exact_mod_cast this
      omega
    have hl : (ps.map bx).length = ps.length := List.length_map _
    rw [bx_nd]
    revert H hl
    generalize ps.map bx = bs
    generalize (40 : Int) ^ m = B at B1
    intro H hl
    have G : ∀ i : Nat, (bs.getD i ⟨0, 0, 0⟩).w ≤ B ∧ (bs.getD i ⟨0, 0, 0⟩).u ≤ B ∧ (bs.getD i ⟨0, 0, 0⟩).d ≤ B := fun i => getD_all (P := fun b : Bx => b.w ≤ B ∧ b.u ≤ B ∧ b.d ≤ B) H ⟨by simp only; omega, by simp only; omega, by simp only; omega⟩ i
    have mU : maxL (bs.map (·.u)) ≤ B := maxL_le0 (by omega) fun i hi => by
      obtain ⟨b, hb, rfl⟩ := List.mem_map.mp hi
      exact (H b hb).2.1
    have mD : maxL (bs.map (·.d)) ≤ B := maxL_le0 (by omega) fun i hi => by
      obtain ⟨b, hb, rfl⟩ := List.mem_map.mp hi
      exact (H b hb).2.2
    have mW : maxL ((bs.drop 1).map (·.w)) ≤ B := maxL_le0 (by omega) fun i hi => by
      obtain ⟨b, hb, rfl⟩ := List.mem_map.mp hi
      exact (H b (List.mem_of_mem_drop hb)).1
    have sW : (bs.map (·.w)).sum ≤ (bs.map (·.w)).length * B := sum_leI fun i hi => by
      obtain ⟨b, hb, rfl⟩ := List.mem_map.mp hi
      exact (H b hb).1
    rw [List.length_map] at sW
    have g0 := G 0
    have g1 := G 1
    have g2 := G 2
    cases k with
    | word t => simp only [bxK]; have := hk.2.2.1; omega
    | chain ss =>
      have h1 := hk.1
      have h2 := hk.2.2.1
      have := mulB (n := bs.length) (B := B) (by omega) (c := 5) (by omega)
      simp only [bxK]
      omega
    | over => simp only [bxK, Bx.rows]; omega
    | root => simp only [bxK]; omega
    | held => simp only [bxK]; omega
    | script u d => cases u <;> cases d <;> simp only [bxK, Bx.rows, if_true, if_false, Bool.false_eq_true] <;> omega
    | table r c =>
      obtain ⟨hr, hc, _⟩ := hk
      simp only [bxK, tabBx]
      have a1 : (colsW c (chunk r c bs)).sum ≤ (colsW c (chunk r c bs)).length * B := sum_leI fun i hi => by
        unfold colsW at hi
        obtain ⟨k, _, rfl⟩ := List.mem_map.mp hi
        refine maxL_le0 (by omega) fun j hj => ?_
        obtain ⟨row, hrow, rfl⟩ := List.mem_map.mp hj
        exact (getD_all (P := fun b : Bx => b.w ≤ B) (fun b hb => (H b (chunk_mem r c bs row hrow b hb)).1) (by simp only; omega) k)
      have a3 : (colsW c (chunk r c bs)).length = c := by simp [colsW]
      rw [a3] at a1
      have a2 := sum_leI (l := (rowsH (chunk r c bs)).map fun p => p.1 + p.2 + 1) (m := 2 * B + 1) fun i hi => by
        obtain ⟨p, hp, rfl⟩ := List.mem_map.mp hi
        obtain ⟨row, hrow, rfl⟩ := List.mem_map.mp hp
        have x1 : maxL (row.map (·.u)) ≤ B := maxL_le0 (by omega) fun i hi => by
          obtain ⟨b, hb, rfl⟩ := List.mem_map.mp hi
          exact (H b (chunk_mem r c bs row hrow b hb)).2.1
        have x2 : maxL (row.map (·.d)) ≤ B := maxL_le0 (by omega) fun i hi => by
          obtain ⟨b, hb, rfl⟩ := List.mem_map.mp hi
          exact (H b (chunk_mem r c bs row hrow b hb)).2.2
        simp only
        omega
      have a4 : ((rowsH (chunk r c bs)).map fun p => p.1 + p.2 + 1).length = r := by simp [rowsH, chunk_length]
      rw [a4] at a2
      have a5 := chunk_length r c bs
      rw [a5]
      have b1 := mulB (n := c) (B := B) (by omega) (c := 3) (by omega)
      have b2 := mulB (n := r) (B := 2 * B + 1) (by omega) (c := 3) (by omega)
      omega
/-- no part has more room than the whole -/
theorem sum_mem : ∀ {l : List Int} {x : Int}, (∀ i ∈ l, 0 ≤ i) → x ∈ l → x ≤ l.sum
  | a :: r, x, h, hx => by
    rw [List.sum_cons]
    have h1 := sum_nonneg (l := r) fun i hi => h i (by simp [hi])
    have h0 := h a (by simp)
    rcases List.mem_cons.mp hx with z | z
    · omega
    · have := sum_mem (l := r) (fun i hi => h i (by simp [hi])) z; omega
theorem part_le {k : Kd} {bs : List Bx} (hk : k.sh bs.length) (H : ∀ b ∈ bs, 0 ≤ b.w ∧ 0 ≤ b.u ∧ 0 ≤ b.d) {b : Bx} (hb : b ∈ bs) : b.w ≤ (bxK k bs).w ∧ b.rows ≤ (bxK k bs).rows := by
  have hbn := H b hb
  cases k with
  | word t => have : bs = [] := List.eq_nil_of_length_eq_zero hk; subst this; simp at hb
  | chain ss =>
    have h1 : b.w ≤ (bs.map (·.w)).sum := sum_mem (fun i hi => by obtain ⟨b, hb, rfl⟩ := List.mem_map.mp hi; exact (H b hb).1) (List.mem_map_of_mem (f := fun b : Bx => b.w) hb)
    have h2 : b.u ≤ maxL (bs.map (·.u)) := maxL_ge (List.mem_map_of_mem (f := fun b : Bx => b.u) hb)
    have h3 : b.d ≤ maxL (bs.map (·.d)) := maxL_ge (List.mem_map_of_mem (f := fun b : Bx => b.d) hb)
    have : bs.length = ss.length + 1 := hk
    simp only [bxK, Bx.rows]
    omega
  | over =>
    obtain ⟨x, y, rfl⟩ := len2 hk
    have := H x (by simp); have := H y (by simp)
    simp at hb
    rcases hb with rfl | rfl <;> simp [bxK, Bx.rows] <;> omega
  | root =>
    obtain ⟨x, rfl⟩ := len1 hk
    simp at hb; subst hb
    simp [bxK, Bx.rows]; omega
  | held =>
    obtain ⟨x, rfl⟩ := len1 hk
    simp at hb; subst hb
    simp [bxK, Bx.rows]; omega
  | script u d =>
    obtain ⟨hud, hk⟩ := hk
    cases u <;> cases d <;> simp at hud hk
    · obtain ⟨x, y, rfl⟩ := len2 hk
      have := H x (by simp); have := H y (by simp)
      simp at hb
      rcases hb with rfl | rfl <;> simp [bxK, Bx.rows, maxL] <;> omega
    · obtain ⟨x, y, rfl⟩ := len2 hk
      have := H x (by simp); have := H y (by simp)
      simp at hb
      rcases hb with rfl | rfl <;> simp [bxK, Bx.rows, maxL] <;> omega
    · obtain ⟨x, y, z, rfl⟩ := len3 hk
      have := H x (by simp); have := H y (by simp); have := H z (by simp)
      simp at hb
      rcases hb with rfl | rfl | rfl <;> simp [bxK, Bx.rows, maxL] <;> omega
  | table r c =>
    obtain ⟨hr, hc, hl⟩ := hk
    obtain ⟨i, hi, hbi⟩ := List.mem_iff_getElem.mp hb
    have hic : i < r * c := by omega
    have hget := chunk_get c (by omega) r bs i hic
    have hbi2 : bs[i]? = some b := by rw [List.getElem?_eq_getElem hi, hbi]
    rw [hbi2] at hget
    have hIr : i / c < r := Nat.div_lt_of_lt_mul (by rw [Nat.mul_comm]; exact hic)
    have hcl := chunk_length r c bs
    have hrow : (chunk r c bs).getD (i / c) [] ∈ chunk r c bs := by
      rw [List.getD_eq_getElem?_getD, List.getElem?_eq_getElem (by omega)]
      exact List.getElem_mem _
    revert hrow hget
    generalize (chunk r c bs).getD (i / c) [] = row
    intro hget hrow
    have hbr : b ∈ row := List.mem_of_getElem? hget
    have hJ : i % c < c := Nat.mod_lt _ (by omega)
    have cn : ∀ x ∈ colsW c (chunk r c bs), 0 ≤ x := fun x hx => by
      unfold colsW at hx
      obtain ⟨k, _, rfl⟩ := List.mem_map.mp hx
      refine maxL_nonneg fun j hj => ?_
      obtain ⟨row, hrow, rfl⟩ := List.mem_map.mp hj
      exact getD_all (P := fun b : Bx => 0 ≤ b.w) (fun b hb => (H b (chunk_mem r c bs row hrow b hb)).1) (Int.le_refl 0) k
    have h1 : b.w ≤ (colsW c (chunk r c bs)).sum := by
      have hm : maxL ((chunk r c bs).map fun row => (row.getD (i % c) ⟨0, 0, 0⟩).w) ∈ colsW c (chunk r c bs) := by
        unfold colsW
        exact List.mem_map.mpr ⟨i % c, List.mem_range.mpr hJ, rfl⟩
      have h2 := sum_mem cn hm
      have h3 : b.w ≤ maxL ((chunk r c bs).map fun row => (row.getD (i % c) ⟨0, 0, 0⟩).w) := maxL_ge (List.mem_map.mpr ⟨row, hrow, by rw [List.getD_eq_getElem?_getD, hget]; rfl⟩)
      omega
    have rn : ∀ x ∈ (rowsH (chunk r c bs)).map (fun p => p.1 + p.2 + 1), 0 ≤ x := fun x hx => by
      obtain ⟨p, hp, rfl⟩ := List.mem_map.mp hx
      obtain ⟨row, hrow, rfl⟩ := List.mem_map.mp hp
      have x1 : 0 ≤ maxL (row.map (·.u)) := maxL_nonneg fun i hi => by
        obtain ⟨b, hb, rfl⟩ := List.mem_map.mp hi
        exact (H b (chunk_mem r c bs row hrow b hb)).2.1
      have x2 : 0 ≤ maxL (row.map (·.d)) := maxL_nonneg fun i hi => by
        obtain ⟨b, hb, rfl⟩ := List.mem_map.mp hi
        exact (H b (chunk_mem r c bs row hrow b hb)).2.2
      simp only
      omega
    have h2 : b.rows ≤ ((rowsH (chunk r c bs)).map fun p => p.1 + p.2 + 1).sum := by
      have hm : maxL (row.map (·.u)) + maxL (row.map (·.d)) + 1 ∈ (rowsH (chunk r c bs)).map (fun p => p.1 + p.2 + 1) := by
        unfold rowsH
        rw [List.map_map]
        exact List.mem_map.mpr ⟨row, hrow, rfl⟩
      have h3 := sum_mem rn hm
      have h4 : b.u ≤ maxL (row.map (·.u)) := maxL_ge (List.mem_map_of_mem (f := fun b : Bx => b.u) hbr)
      have h5 : b.d ≤ maxL (row.map (·.d)) := maxL_ge (List.mem_map_of_mem (f := fun b : Bx => b.d) hbr)
      unfold Bx.rows
      omega
    simp only [bxK, tabBx, Bx.rows] at h2 ⊢
    rw [hcl]
    omega
theorem part_room : ∀ (w : List Nat) {s p : Sm}, Sh s → partAt s w = some p → (bx p).w ≤ (bx s).w ∧ (bx p).rows ≤ (bx s).rows
  | [], s, p, _, e => by simp [partAt] at e; subst e; exact ⟨Int.le_refl _, Int.le_refl _⟩
  | k :: w, .nd kd ps, p, h, e => by
    simp only [partAt, Sm.ps] at e
    cases q : ps[k]? with
    | none => rw [q] at e; cases e
    | some t =>
      rw [q] at e
      simp only at e
      have hm := List.mem_of_getElem? q
      have ih := part_room w (h.mem t hm) e
      have := part_le (k := kd) (bs := ps.map bx) (by rw [List.length_map]; exact h.kd) (fun b hb => by
        obtain ⟨p, hp, rfl⟩ := List.mem_map.mp hb
        exact bx_nonneg (h.mem p hp)) (List.mem_map_of_mem hm)
      rw [bx_nd]
      exact ⟨Int.le_trans ih.1 this.1, Int.le_trans ih.2 this.2⟩
/-- its room -/
def area (s : Sm) : Int := (bx s).w * (bx s).rows
def ar (s : Sm) (w : List Nat) : Int := match partAt s w with
  | some p => area p
  | none => 0
theorem area_le {s p : Sm} {w : List Nat} (h : Gd s) (e : partAt s w = some p) (hp : Gd p) : area p ≤ area s := by
  have h1 := part_room w h.sh e
  have n1 := bx_nonneg hp.sh
  have n2 := bx_nonneg h.sh
  unfold area
  refine Int.mul_le_mul h1.1 h1.2 ?_ n2.1
  unfold Bx.rows; omega
theorem area_pos {s : Sm} (h : Gd s) : 1 ≤ area s := by
  have h1 := bx_pos h
  have n1 := bx_nonneg h.sh
  unfold area
  have h2 : 1 ≤ (bx s).rows := by unfold Bx.rows; omega
  have := Int.mul_le_mul h1 h2 (by omega) (by omega : (0 : Int) ≤ (bx s).w)
  omega
/-! order of ways -/
def wLt : List Nat → List Nat → Bool
  | [], [] => false
  | [], _ :: _ => true
  | _ :: _, [] => false
  | a :: r, b :: s => decide (a < b) || (decide (a = b) && wLt r s)
theorem wLt_asym : ∀ {v w : List Nat}, wLt v w = true → wLt w v = false
  | [], [], h => by simp [wLt] at h
  | [], _ :: _, _ => rfl
  | _ :: _, [], h => by simp [wLt] at h
  | a :: r, b :: s, h => by
    simp only [wLt, Bool.or_eq_true, Bool.and_eq_true, decide_eq_true_eq] at h
    simp only [wLt, Bool.or_eq_false_iff, decide_eq_false_iff_not, Bool.and_eq_false_iff]
    rcases h with z | ⟨z, y⟩
    · exact ⟨by omega, .inl (by omega)⟩
    · exact ⟨by omega, .inr (wLt_asym y)⟩
theorem wys_sorted (s : Sm) : (wys s).Pairwise fun v w => wLt v w = true := by
  induction s using Sm.ind with
  | h k ps ih =>
    rw [wys_nd]
    have key : ∀ (l : List Sm) (j : Nat), (∀ p ∈ l, (wys p).Pairwise fun v w => wLt v w = true) → (wysL j (l.map wys)).Pairwise (fun v w => wLt v w = true) ∧ ∀ w ∈ wysL j (l.map wys), ∃ i v, j ≤ i ∧ w = i :: v := by
      intro l
      induction l with
      | nil => intro j _; simp [wysL]
      | cons p l ihl =>
        intro j hp
        obtain ⟨h1, h2⟩ := ihl (j + 1) fun q hq => hp q (by simp [hq])
        simp only [List.map_cons, wysL]
        refine ⟨List.pairwise_append.mpr ⟨?_, h1, ?_⟩, ?_⟩
        · rw [List.pairwise_map]
          exact (hp p (by simp)).imp fun {v w} h => by simp [wLt, h]
        · intro v hv w hw
          obtain ⟨x, _, rfl⟩ := List.mem_map.mp hv
          obtain ⟨i, y, hi, rfl⟩ := h2 w hw
          have : j < i := by omega
          simp [wLt, this]
        · intro w hw
          rcases List.mem_append.mp hw with z | z
          · obtain ⟨x, _, rfl⟩ := List.mem_map.mp z
            exact ⟨j, x, Nat.le_refl _, rfl⟩
          · obtain ⟨i, v, hi, rfl⟩ := h2 w z
            exact ⟨i, v, by omega, rfl⟩
    obtain ⟨h1, h2⟩ := key ps 0 ih
    refine List.pairwise_cons.mpr ⟨fun w hw => ?_, h1⟩
    obtain ⟨i, v, _, rfl⟩ := h2 w hw
    rfl
/-! the longest -/
def stp (s : Sm) (b : Option (Int × List Nat)) (w : List Nat) : Option (Int × List Nat) :=
  match b with
  | none => some (ar s w, w)
  | some (a, v) => if a < ar s w then some (ar s w, w) else some (a, v)
def encBst : Option (Int × List Nat) → PV
  | none => .non
  | some (a, w) => .tup [.int a, encW w]
def lg (s : Sm) : Option (Int × List Nat) := (wys s).tail.foldl (stp s) none
/-- none is greater: the first stays -/
theorem stp_stay (s : Sm) : ∀ (l : List (List Nat)) (a : Int) (v : List Nat), (∀ w ∈ l, ar s w ≤ a) → l.foldl (stp s) (some (a, v)) = some (a, v)
  | [], a, v, _ => rfl
  | w :: l, a, v, h => by
    have h1 := h w (by simp)
    rw [List.foldl_cons, stp, if_neg (by omega)]
    exact stp_stay s l a v fun x hx => h x (by simp [hx])
end SM

/-! K34: the longest part around. -/
namespace SM
open PL
section
variable {T : Tab}
theorem bx_small {s : Sm} (h : Gd s) (hd : dp s ≤ 6) : small64 (bx s).w = true ∧ small64 (bx s).rows = true := by
  have h1 := bx_bound h
  have h2 := bx_nonneg h.sh
  have h3 : (40 : Int) ^ dp s ≤ 40 ^ 6 := by
    have : (40 : Nat) ^ dp s ≤ 40 ^ 6 := Nat.pow_le_pow_right (by omega) hd
    exact_mod_cast this
  have h4 : (40 : Int) ^ 6 = 4096000000 := by decide
  unfold small64 Bx.rows
  simp only [Bool.and_eq_true, decide_eq_true_eq]
  omega
structure LgT (T : Tab) : Prop extends WwT T where
  box : BoxT T
  longest : T.lookup 143 = some Fn.f_longest
def lgB : PS := match Fn.f_longest.body with | .seq _ (.seq (.fr _ _ b) _) => b | _ => .skip
theorem longL (h : LgT T) (m : Nat) {s : Sm} (hs : Gd s) (hd : dp s ≤ 6) (hm : 20 ≤ m) (st : Sto) : ∀ (l : List (List Nat)) (b : Option (Int × List Nat)) (x y : Option PV), (∀ w ∈ l, w ∈ wys s) →
    ∃ x' y', forL (forF (callF T m) (.nm 2) lgB) (l.map encW) [some (enc s), some (encBst b), x, y] st = .next [some (enc s), some (encBst (l.foldl (stp s) b)), x', y'] st
  | [], b, x, y, _ => ⟨x, y, by simp⟩
  | w :: l, b, x, y, H => by
    obtain ⟨p, hp, gp, hpd⟩ := wys_part (H w (by simp)) hs
    obtain ⟨x', y', ih⟩ := longL h m hs hd hm st l (stp s b w) (some (encW w)) (some (encB (bx p))) fun v hv => H v (by simp [hv])
    refine ⟨x', y', ?_⟩
    obtain ⟨m, rfl⟩ : ∃ j, m = j + 3 := ⟨m - 3, by omega⟩
    have hpart := part_at_ok h.toWwT m hs.sh hp st
    have hbox := box_ok h.box p gp.sh (m + 3) (by omega) st
    have hrows := rows_ok h.box (m + 2) (bx p) st
    have hsm := bx_small gp (by omega)
    have har : ar s w = (bx p).w * (bx p).rows := by simp only [ar, hp, area]
    rw [List.map_cons, List.foldl_cons]
    simp only [encB] at hbox hrows
    simp only [lgB, Fn.f_longest] at ih ⊢
    cases b with
    | none =>
      simp only [stp, har, encBst] at ih
      simp [hpart, hbox, hrows, encBst, hsm.1, SZ_val]
      simp [encB] at ih
      simpa [stp, har, encBst] using ih
    | some av =>
      obtain ⟨a, v⟩ := av
      by_cases hlt : a < (bx p).w * (bx p).rows
      · simp only [stp, har, if_pos hlt, encBst] at ih
        simp [hpart, hbox, hrows, encBst, hsm.1, SZ_val, hlt]
        simp [encB] at ih
        simpa [stp, har, encBst, hlt] using ih
      · simp only [stp, har, if_neg hlt, encBst] at ih
        simp [hpart, hbox, hrows, encBst, hsm.1, SZ_val, hlt]
        simp [encB] at ih
        simpa [stp, har, encBst, hlt] using ih
def lgV (b : Option (Int × List Nat)) : PV := match b with
  | none => .non
  | some (_, w) => encW w
theorem longest_ok (h : LgT T) {s : Sm} (hs : Gd s) (hd : dp s ≤ 6) (n : Nat) (hn : 30 ≤ n) (st : Sto) : callF T n 143 [enc s] st = .ok (lgV (lg s)) st := by
  obtain ⟨n, rfl⟩ : ∃ j, n = j + 1 := ⟨n - 1, by omega⟩
  rw [callF_of h.longest, runD_of rfl]
  have hz : (wys s).length ≤ 16777216 := Nat.le_trans (wys_len hs) (Nat.le_trans (Nat.pow_le_pow_right (by omega) hd) (by decide))
  have wy := ways_ok h.toWwT s hs.sh (by omega) hz n (by omega) st
  obtain ⟨x', y', q⟩ := longL h n hs hd (by omega) st (wys s).tail none none none fun w hw => List.mem_of_mem_tail hw
  simp [lgB, Fn.f_longest, encBst] at q
  simp [Fn.f_longest, start, wy]
  rw [q]
  unfold lg
  cases e : (wys s).tail.foldl (stp s) none with
  | none => simp [encBst, lgV]
  | some av => simp [encBst, lgV]
end
/-! least of tuples -/
theorem lex00 : PyProof.Rows.lexLt PyProof.Rows.itemOrd [Sum.inl 0] [Sum.inl 0] = false := (PySem.W.lex_one _ _).trans (by simp [PyProof.Rows.itemLt])
open PySem in
theorem toks_ints : ∀ (w v : List Nat), PyProof.Rows.lexLt PyProof.Rows.itemOrd (W.keyToksAll (PV.toDs (w.map fun (k : Nat) => .int (k : Int)))) (W.keyToksAll (PV.toDs (v.map fun (k : Nat) => .int (k : Int)))) = wLt w v
  | [], [] => by simp only [List.map_nil, PV.toDs, W.keyToksAll, wLt]; exact lex00
  | [], b :: s => by
    simp only [List.map_nil, List.map_cons, PV.toDs, W.keyToksAll, PV.toD]
    rw [W.lex_atom (by simp), W.lex_one]
    simp [PyProof.Rows.itemLt, wLt]
  | a :: r, [] => by
    simp only [List.map_nil, List.map_cons, PV.toDs, W.keyToksAll, PV.toD]
    rw [W.lex_atom (by simp), W.lex_one]
    simp [PyProof.Rows.itemLt, wLt]
  | a :: r, b :: s => by
    have ih := toks_ints r s
    simp only [List.map_cons, PV.toDs, PV.toD] at ih ⊢
    by_cases h : a = b
    · subst h
      rw [W.dataLt_all_yes (by simp [W.alike]) (by simp [PyData.eqv]), ih]
      simp [wLt]
    · have h2 : ¬ ((a : Int) = (b : Int)) := by omega
      rw [W.dataLt_all_no (by simp [W.alike]) (by simp [PyData.eqv, h2]), W.dataLt_int]
      simp [wLt, h]
theorem wLt_irrefl (w : List Nat) : wLt w w = false := by
  cases e : wLt w w with
  | false => rfl
  | true => have := wLt_asym e; rw [e] at this; cases this
def keyV (a : Int) (w : List Nat) : PV := .tup [.int a, encW w]
open PySem in
theorem alike_ints : ∀ (w v : List Nat), W.alikeAll (PV.toDs (w.map fun (k : Nat) => .int (k : Int))) (PV.toDs (v.map fun (k : Nat) => .int (k : Int))) = true
  | [], _ => by simp [PV.toDs, W.alikeAll]
  | _ :: _, [] => by simp [PV.toDs, W.alikeAll]
  | a :: r, b :: s => by simp [PV.toDs, PV.toD, W.alikeAll, W.alike, alike_ints r s]
open PySem in
theorem alike_key (a b : Int) (w v : List Nat) : W.alike (keyV a w).toD (keyV b v).toD = true := by
  simp [keyV, encW, PV.toD, PV.toDs, W.alike, W.alikeAll, alike_ints]
open PySem in
theorem lt_key (a b : Int) (w v : List Nat) : W.dataLt (keyV a w).toD (keyV b v).toD = (decide (a < b) || (decide (a = b) && wLt w v)) := by
  simp only [keyV, encW, PV.toD, PV.toDs, W.dataLt_tuple]
  by_cases h : a = b
  · subst h
    rw [W.dataLt_all_yes (by simp [W.alike]) (by simp [PyData.eqv])]
    have hal : W.alike (.tuple (PV.toDs (w.map fun (k : Nat) => .int (k : Int)))) (.tuple (PV.toDs (v.map fun (k : Nat) => .int (k : Int)))) = true := by simp [W.alike, alike_ints]
    cases e : PyData.eqv (.tuple (PV.toDs (w.map fun (k : Nat) => .int (k : Int)))) (.tuple (PV.toDs (v.map fun (k : Nat) => .int (k : Int)))) with
    | true =>
      rw [W.dataLt_all_yes hal e]
      have h1 : encW w = encW v := (eqv_fine (encW w) (encW v) (fine_encW w) (fine_encW v)).mp (by simpa only [encW, PV.toD] using e)
      have h2 : w = v := by
        simp only [encW, PV.tup.injEq] at h1
        have : Function.Injective (fun (k : Nat) => PV.int (k : Int)) := fun x y hxy => by simp only [PV.int.injEq] at hxy; omega
        exact List.map_inj_right (fun x y hxy => this hxy) |>.mp h1
      subst h2
      simp [W.keyToksAll, wLt_irrefl]
      exact lex00
    | false =>
      rw [W.dataLt_all_no hal e, W.dataLt_tuple, toks_ints]
      simp
  · rw [W.dataLt_all_no (by simp [W.alike]) (by simp [PyData.eqv, h]), W.dataLt_int]
    simp [h]
theorem fold_same (s : Sm) : ∀ (l : List (List Nat)) (v : List Nat), (∀ x ∈ l, wLt v x = true) → l.Pairwise (fun v w => wLt v w = true) →
    ∃ v', v' ∈ v :: l ∧ l.foldl (stp s) (some (ar s v, v)) = some (ar s v', v') ∧ (l.map fun w => keyV (0 - ar s w) w).foldl (fun a y => if PySem.W.dataLt y.toD a.toD then y else a) (keyV (0 - ar s v) v) = keyV (0 - ar s v') v'
  | [], v, _, _ => ⟨v, by simp, rfl, rfl⟩
  | x :: l, v, h, hp => by
    obtain ⟨hp1, hp2⟩ := List.pairwise_cons.mp hp
    have hvx := h x (by simp)
    simp only [List.map_cons, List.foldl_cons, stp, lt_key]
    by_cases hlt : ar s v < ar s x
    · obtain ⟨v', h1, h2, h3⟩ := fold_same s l x hp1 hp2
      refine ⟨v', List.mem_cons_of_mem _ h1, ?_, ?_⟩
      · rw [if_pos hlt]; exact h2
      · rw [if_pos (by simp only [Bool.or_eq_true, decide_eq_true_eq]; left; omega)]; exact h3
    · obtain ⟨v', h1, h2, h3⟩ := fold_same s l v (fun y hy => h y (by simp [hy])) hp2
      refine ⟨v', ?_, ?_, ?_⟩
      · rcases List.mem_cons.mp h1 with z | z
        · exact List.mem_cons.mpr (.inl z)
        · exact List.mem_cons_of_mem _ (List.mem_cons_of_mem _ z)
      · rw [if_neg hlt]; exact h2
      · rw [if_neg (by
          simp only [Bool.or_eq_true, Bool.and_eq_true, decide_eq_true_eq, wLt_asym hvx]
          intro z
          rcases z with z | ⟨_, z⟩
          · omega
          · cases z)]
        exact h3
theorem ordOk_keys (s : Sm) (l : List (List Nat)) : ordOk (l.map fun w => keyV (0 - ar s w) w) = true := by
  have hd : ∀ (l : List (List Nat)), PV.areData (l.map fun w => keyV (0 - ar s w) w) = true := fun l => areData_iff.mpr fun x hx => by
    obtain ⟨w, _, rfl⟩ := List.mem_map.mp hx
    have : ∀ w : List Nat, PV.areData (w.map fun (k : Nat) => .int (k : Int)) = true := fun w => areData_iff.mpr fun x hx => by
      obtain ⟨k, _, rfl⟩ := List.mem_map.mp hx
      simp [PV.isData]
    simp [keyV, encW, PV.isData, PV.areData, this]
  have hdep0 : ∀ w : List Nat, PySem.PyData.depthAll (PV.toDs (w.map fun (k : Nat) => .int (k : Int))) = 0 := fun w => by
    induction w with
    | nil => simp [PV.toDs, PySem.PyData.depthAll]
    | cons a r ih => simp [PV.toDs, PV.toD, PySem.PyData.depthAll, PySem.PyData.depth, ih]
  have hdep : ∀ (l : List (List Nat)), PySem.PyData.depthAll (PV.toDs (l.map fun w => keyV (0 - ar s w) w)) ≤ 2 := fun l => by
    induction l with
    | nil => simp [PV.toDs, PySem.PyData.depthAll]
    | cons a r ih => simp [keyV, encW, PV.toDs, PV.toD, PySem.PyData.depthAll, PySem.PyData.depth, hdep0] at ih ⊢; omega
  simp only [ordOk, Bool.and_eq_true, decide_eq_true_eq, List.all_eq_true]
  refine ⟨⟨⟨hd l, Nat.le_trans (hdep l) (by omega)⟩, ?_⟩, ?_⟩
  · intro x hx y hy
    rw [toDs_map, List.map_map] at hx hy
    obtain ⟨w, _, rfl⟩ := List.mem_map.mp hx
    obtain ⟨v, _, rfl⟩ := List.mem_map.mp hy
    exact alike_key _ _ _ _
  · intro x hx
    obtain ⟨w, _, rfl⟩ := List.mem_map.mp hx
    rfl
theorem wys_head (s : Sm) : wys s = [] :: (wys s).tail := by
  cases s with
  | nd k ps => rw [wys_nd]; rfl
theorem wys_tail_ne {s : Sm} : ∀ w ∈ (wys s).tail, w ≠ [] := by
  intro w hw e
  have h := wys_sorted s
  rw [wys_head] at h
  have := (List.pairwise_cons.mp h).1 w hw
  subst e
  simp [wLt] at this
/-- the least is the longest -/
theorem min_lg (s : Sm) : match lg s with
    | none => (wys s).tail = []
    | some (a, w) => w ∈ (wys s).tail ∧ a = ar s w ∧ bMin1 [.lst ((wys s).tail.map fun w => keyV (0 - ar s w) w)] = some (keyV (0 - a) w) := by
  have hs := wys_sorted s
  rw [wys_head] at hs
  have hp := (List.pairwise_cons.mp hs).2
  unfold lg
  revert hp
  generalize (wys s).tail = l
  intro hp
  cases l with
  | nil => simp
  | cons v l =>
    obtain ⟨hp1, hp2⟩ := List.pairwise_cons.mp hp
    obtain ⟨v', h1, h2, h3⟩ := fold_same s l v hp1 hp2
    simp only [List.foldl_cons, stp]
    rw [h2]
    refine ⟨h1, rfl, ?_⟩
    have ho := ordOk_keys s (v :: l)
    simp only [List.map_cons] at ho ⊢
    have hi : intsV (keyV (0 - ar s v) v :: l.map fun w => keyV (0 - ar s w) w) = none := rfl
    simp only [bMin1, hi, minV, ho, if_true]
    rw [h3]
/-! around -/
theorem ar_cons (k : Kd) (ps : List Sm) (i : Nat) (v : List Nat) : ar (.nd k ps) (i :: v) = match ps[i]? with
    | some p => ar p v
    | none => 0 := by
  simp only [ar, partAt, Sm.ps]
  cases ps[i]? <;> rfl
theorem ar_nil (s : Sm) : ar s [] = area s := rfl
theorem ar_le {s : Sm} (h : Gd s) {v : List Nat} (hv : v ∈ wys s) : ar s v ≤ area s := by
  obtain ⟨p, hp, gp, _⟩ := wys_part hv h
  simp only [ar, hp]
  exact area_le h hp gp
theorem lg_first {k : Kd} {s : Sm} {r : List Sm} (h : Gd s) (hr : ∀ p ∈ r, Gd p ∧ area p ≤ area s) : lg (.nd k (s :: r)) = some (area s, [0]) := by
  unfold lg
  rw [wys_nd, List.tail_cons, List.map_cons, wysL, wys_head, List.map_cons, List.cons_append, List.foldl_cons]
  have h0 : stp (.nd k (s :: r)) none [0] = some (area s, [0]) := by simp [stp, ar_cons, ar_nil]
  rw [h0]
  refine stp_stay _ _ _ _ fun w hw => ?_
  rcases List.mem_append.mp hw with z | z
  · obtain ⟨v, hv, rfl⟩ := List.mem_map.mp z
    simp only [ar_cons, List.getElem?_cons_zero]
    exact ar_le h (List.mem_of_mem_tail hv)
  · obtain ⟨i, q, v, h1, h2, rfl⟩ := wysL_mem z
    rw [List.getElem?_map] at h1
    cases e : r[i]? with
    | none => rw [e] at h1; cases h1
    | some p =>
      rw [e] at h1
      simp at h1
      subst h1
      rw [ar_cons, Nat.add_comm 1 i, List.getElem?_cons_succ, e]
      have := hr p (List.mem_of_getElem? e)
      exact Int.le_trans (ar_le this.1 h2) this.2
theorem lg_second {k : Kd} {s a : Sm} (h : Gd s) (ha : a = .nd (.word [97]) []) : lg (.nd k [a, s]) = if 1 < area s then some (area s, [1]) else some (1, [0]) := by
  subst ha
  unfold lg
  rw [wys_nd, List.tail_cons]
  have hw : wys (.nd (.word [97]) []) = [[]] := by rw [wys_nd]; rfl
  have ha1 : area (.nd (.word [97]) []) = 1 := by simp [area, bx_nd, bxK, Bx.rows]
  simp only [List.map_cons, List.map_nil, wysL, hw, List.append_nil, List.singleton_append, List.foldl_cons]
  have h0 : stp (.nd k [.nd (.word [97]) [], s]) none [0] = some (1, [0]) := by simp [stp, ar_cons, ar_nil, ha1]
  rw [h0]
  have hle : ∀ w ∈ (wys s).map ((0 + 1) :: ·), ar (.nd k [.nd (.word [97]) [], s]) w ≤ area s := fun w hw => by
    obtain ⟨v, hv, rfl⟩ := List.mem_map.mp hw
    rw [ar_cons]
    exact ar_le h hv
  by_cases hlt : 1 < area s
  · rw [if_pos hlt, wys_head, List.map_cons, List.foldl_cons]
    have h1 : stp (.nd k [.nd (.word [97]) [], s]) (some (1, [0])) [0 + 1] = some (area s, [1]) := by
      simp [stp, ar_cons, ar_nil, hlt]
    rw [h1]
    refine stp_stay _ _ _ _ fun w hw => hle w ?_
    rw [wys_head]
    simp only [List.map_cons]
    exact List.mem_cons_of_mem _ (by simpa using hw)
  · rw [if_neg hlt]
    exact stp_stay _ _ _ _ fun w hw => by have := hle w hw; omega
section
variable {T : Tab}
theorem many_ok (hb : BoxT T) (hr : T.lookup 180 = some Fn.f_law_room) (hm : T.lookup 199 = some Fn.f_law_many_2) (n : Nat) (s : Sm) (hs : Gd s) (hd : dp s ≤ 6) (hn : 20 ≤ n) (st : Sto) : callF T n 199 [enc s] st = .ok (.int (area s)) st := by
  obtain ⟨n, rfl⟩ : ∃ j, n = j + 2 := ⟨n - 2, by omega⟩
  rw [callF_of hm, runD_of rfl]
  have q := room_ok hb hr n s hs.sh (by omega) st
  have hsm := bx_small hs hd
  simp [Fn.f_law_many_2, start, q, hsm.1, area]
theorem eq_W (v w : List Nat) : eqV (encW v) (encW w) = some (decide (v = w)) := by
  obtain ⟨b, e1, e2⟩ := eqV_iff (a := encW v) (b := encW w) (fine_encW _) (fine_encW _) (deep_encW _) (deep_encW _)
  rw [e1]
  congr 1
  have inj : encW v = encW w ↔ v = w := by
    refine ⟨fun h => ?_, fun h => by rw [h]⟩
    simp only [encW, PV.tup.injEq] at h
    exact List.map_inj_right (fun x y hxy => by simp only [PV.int.injEq] at hxy; omega) |>.mp h
  rw [inj] at e2
  cases b with
  | true => exact (decide_eq_true (e2.mp rfl)).symm
  | false => exact (decide_eq_false fun h => by have := e2.mpr h; cases this).symm
theorem law34 (hd : DrawT T) (hg : LgT T) (h0 : T.lookup 180 = some Fn.f_law_room) (h1 : T.lookup 199 = some Fn.f_law_many_2) (hl : T.lookup 200 = some Fn.f_law_k34) : LawTrue T 61 200 := by
  intro ns hns
  refine ⟨[], ?_⟩
  rw [callF_of hl, runD_of rfl]
  have hw := hg.toWwT
  have hb := hg.box
  have s12 : small62 12 = true := by decide
  have s101 : small64 101 = true := by decide
  have e0 : encW [0] = .tup [.int 0] := rfl
  have e1 : encW [1] = .tup [.int 1] := rfl
  obtain ⟨e', q, hq⟩ := for_inv2 (f := forF (callF T 60) (.nm 1) (match Fn.f_law_k34.body with | .seq (.fr _ _ b) _ => b | _ => .skip)) (st := []) (fun e => ∃ o1 o2 o3 o4 o5 o6 o7 o8 o9, e = [some (.scr ns), o1, o2, o3, o4, o5, o6, o7, o8, o9, none]) (rngL 0 1 12) [some (.scr ns), none, none, none, none, none, none, none, none, none, none] ⟨_, _, _, _, _, _, _, _, _, rfl⟩ (by
    rintro x hx e ⟨o1, o2, o3, o4, o5, o6, o7, o8, o9, rfl⟩
    rw [rngL_map] at hx
    obtain ⟨k, hk, rfl⟩ := List.mem_map.mp hx
    rw [show (0 : Int) + (k : Int) * 1 = (k : Int) by omega]
    have k9 : (0 : Int) ≤ (k : Int) % 9 := Int.emod_nonneg _ (by decide)
    generalize hcell : cellI ns ((k : Int) % 9).toNat + 101 * (k : Int) = cell
    obtain ⟨s, g, d1, e1'⟩ := draw_at hd 4 (by decide) cell
    have e1'' : callF T 60 12 [.int cell, .int 4] [] = .ok (enc s) [] := e1' 60 [] (by omega)
    have lo : ∀ t, Gd t → dp t ≤ 6 → callF T 60 143 [enc t] [] = .ok (lgV (lg t)) [] := fun t a b => longest_ok hg a b 60 (by omega) []
    have ga : Gd (.nd (.word [97]) []) := .nd ⟨rfl, by simp, by simp, by simp [isLt]⟩ (by simp)
    have gabc : Gd (.nd (.word [97, 98, 99]) []) := .nd ⟨rfl, by simp, by simp, by simp [isLt]⟩ (by simp)
    have da : ∀ t, dp (.nd (.word t) []) = 1 := fun t => by rw [dp_nd]; simp [maxN]
    have l_r := lo (.nd .root [s]) (.nd rfl (by simp [g])) (Nat.le_trans (dp_le (m := 4) (by simp [d1])) (by omega))
    have l_h := lo (.nd .held [s]) (.nd rfl (by simp [g])) (Nat.le_trans (dp_le (m := 4) (by simp [d1])) (by omega))
    have l_o := lo (.nd .over [s, s]) (.nd rfl (by simp [g])) (Nat.le_trans (dp_le (m := 4) (by simp [d1])) (by omega))
    have l_w := lo (.nd (.word [97, 98, 99]) []) gabc (by rw [da]; omega)
    have l_1 := lo (.nd (.table 1 2) [.nd (.word [97]) [], s]) (.nd ⟨by omega, by omega, rfl⟩ (by simp [g, ga])) (Nat.le_trans (dp_le (m := 4) (by simp [d1, da])) (by omega))
    have l_2 := lo (.nd (.table 2 1) [.nd (.word [97]) [], s]) (.nd ⟨by omega, by omega, rfl⟩ (by simp [g, ga])) (Nat.le_trans (dp_le (m := 4) (by simp [d1, da])) (by omega))
    have l_s := lo s g (by omega)
    rw [lg_first g (by simp)] at l_r l_h
    rw [lg_first g (by simp [g])] at l_o
    have hlw : lg (.nd (.word [97, 98, 99]) []) = none := by unfold lg; rw [wys_nd]; rfl
    rw [hlw] at l_w
    rw [lg_second g rfl] at l_1 l_2
    have due : lgV (if 1 < area s then some (area s, [1]) else some (1, [0])) = if 1 < area s then .tup [.int 1] else .tup [.int 0] := by split <;> rfl
    rw [due] at l_1 l_2
    simp [enc_nd, encK, lgV, e0, chunk] at l_r l_h l_o l_w l_1 l_2
    have mn := many_ok hb h0 h1 60 s g (by omega) (by omega) []
    have hz : (wys s).length ≤ 16777216 := Nat.le_trans (wys_len g) (Nat.le_trans (Nat.pow_le_pow_right (by omega) d1) (by decide))
    have wy := ways_ok hw s g.sh (by omega) hz 60 (by omega) []
    have eqar : eqV (.lst [.tup [.int 0], .tup [.int 0], .tup [.int 0]]) (.lst [.tup [.int 0], .tup [.int 0], .tup [.int 0]]) = some true := eqV_self rfl (by simp [PV.deep, PV.deeps])
    have mul3 : mulV (.lst [.tup [.int 0]]) (.int 3) = some (.lst [.tup [.int 0], .tup [.int 0], .tup [.int 0]]) := by
      simp only [mulV]
      rw [if_pos (by unfold SZ; simp)]
      rfl
    have eq11 : eqV (.tup [.int 1]) (.tup [.int 1]) = some true := by have := eq_W [1] [1]; simpa [e1] using this
    have eq00 : eqV (.tup [.int 0]) (.tup [.int 0]) = some true := by have := eq_W [0] [0]; simpa [e0] using this
    have eqdue : eqV (if 1 < area s then .tup [.int 1] else .tup [.int 0]) (if 1 < area s then .tup [.int 1] else .tup [.int 0]) = some true := by split <;> assumption
    have ml := min_lg s
    cases hlg : lg s with
    | none =>
      rw [hlg] at ml l_s
      simp only at ml
      have hlen : (wys s).length = 1 := by rw [wys_head, ml]; rfl
      simp [lgV] at l_s
      by_cases hlt : 1 < area s
      · simp [hlt] at l_1 l_2
        simp [Fn.f_law_k34, cell_int hd 59 ns _ k9, s101, hcell, e1'', l_r, l_h, l_o, SZ_val, mul3, eqar, l_w, mn, hlt, l_1, l_2, eq11, l_s, wy, hlen]
      · simp [hlt] at l_1 l_2
        simp [Fn.f_law_k34, cell_int hd 59 ns _ k9, s101, hcell, e1'', l_r, l_h, l_o, SZ_val, mul3, eqar, l_w, mn, hlt, l_1, l_2, eq00, l_s, wy, hlen]
    | some av =>
      obtain ⟨a, w⟩ := av
      rw [hlg] at ml l_s
      simp only at ml
      obtain ⟨m1, m2, m3⟩ := ml
      simp only [lgV] at l_s
      obtain ⟨p, hp, gp, hpd⟩ := wys_part (List.mem_of_mem_tail m1) g
      have hpart := part_at_ok hw 57 g.sh hp []
      have mp := many_ok hb h0 h1 60 p gp (by omega) (by omega) []
      have hap : area p = a := by rw [m2]; simp only [ar, hp]
      rw [hap] at mp
      have isn : isV (encW w) .non = some false := rfl
      have hcomp : ∀ (E : Env), True := fun _ => trivial
      have hfil : (wys s).filter (fun w => decide (w ≠ [])) = (wys s).tail := by
        rw [wys_head]
        simp
        exact wys_tail_ne
      have htl : (wys s).tail.length ≤ 16777216 := by simp; omega
      have eqk : eqV (keyV (0 - a) w) (keyV (0 - a) w) = some true := eqV_self (by simp [keyV, PV.fine, PV.fines, fine_encW]) (by simp [keyV, encW, PV.deep, PV.deeps, deeps_ints])
      have key : ∀ E1 E2 : Option PV, True := fun _ _ => trivial
      by_cases hlt : 1 < area s
      · simp [hlt] at l_1 l_2
        simp [Fn.f_law_k34, cell_int hd 59 ns _ k9, s101, hcell, e1'', l_r, l_h, l_o, SZ_val, mul3, eqar, l_w, mn, hlt, l_1, l_2, eq11, l_s, isn, hpart, mp, wy, hz]
        rw [comp_filter encW (fun w => keyV (0 - ar s w) w) (fun w => decide (w ≠ [])) (wys s) (fun v hv => by
          obtain ⟨p, hp, gp, hpd⟩ := wys_part hv g
          have hpart := part_at_ok hw 57 g.sh hp []
          have mp := many_ok hb h0 h1 60 p gp (by omega) (by omega) []
          have hap : ar s v = area p := by simp only [ar, hp]
          have hne := eq_W v []
          have en : encW [] = .tup [] := rfl
          rw [en] at hne
          rw [hap]
          by_cases z : v = []
          · subst z; simp [hne]
          · simp [hne, z, hpart, mp, SZ_val, keyV])]
        rw [hfil]
        simp at htl m3 eqk
        simp [SZ_val, htl, m3, eqk]
        simp [keyV] at eqk ⊢
        simp [eqk]
      · simp [hlt] at l_1 l_2
        simp [Fn.f_law_k34, cell_int hd 59 ns _ k9, s101, hcell, e1'', l_r, l_h, l_o, SZ_val, mul3, eqar, l_w, mn, hlt, l_1, l_2, eq00, l_s, isn, hpart, mp, wy, hz]
        rw [comp_filter encW (fun w => keyV (0 - ar s w) w) (fun w => decide (w ≠ [])) (wys s) (fun v hv => by
          obtain ⟨p, hp, gp, hpd⟩ := wys_part hv g
          have hpart := part_at_ok hw 57 g.sh hp []
          have mp := many_ok hb h0 h1 60 p gp (by omega) (by omega) []
          have hap : ar s v = area p := by simp only [ar, hp]
          have hne := eq_W v []
          have en : encW [] = .tup [] := rfl
          rw [en] at hne
          rw [hap]
          by_cases z : v = []
          · subst z; simp [hne]
          · simp [hne, z, hpart, mp, SZ_val, keyV])]
        rw [hfil]
        simp at htl m3 eqk
        simp [SZ_val, htl, m3, eqk]
        simp [keyV] at eqk ⊢
        simp [eqk]
    )
  simp [Fn.f_law_k34, start, s12]
  simp [Fn.f_law_k34] at q
  rw [q]
  simp
end
end SM

/-! PC: pictures, in plain. -/
namespace SM
open PL
abbrev Rows := List (List Nat)
def blk (n : Nat) : List Nat := List.replicate n 32
def padL (w : Nat) (l : List Nat) : List Nat := blk ((w - l.length) / 2) ++ l ++ blk (w - l.length - (w - l.length) / 2)
def blks (w k : Nat) : Rows := List.replicate k (blk w)
def raise (b : Bx) (r : Rows) (u d : Int) : Rows := blks b.w.toNat (u - b.u).toNat ++ r ++ blks b.w.toNat (d - b.d).toNat
def bes2 (a b : Rows) : Rows := List.zipWith (fun x y => x ++ y) a b
def bes : List Rows → Rows
  | [] => []
  | r :: rs => rs.foldl bes2 r
def signC (c : List Nat) (u d : Int) : Rows := blks 3 u.toNat ++ [32 :: (c ++ [32])] ++ blks 3 d.toNat
def chL (u d : Int) : List (List Nat) → List (Bx × Rows) → List Rows
  | c :: cs, p :: ps => signC c u d :: raise p.1 p.2 u d :: chL u d cs ps
  | _, _ => []
/-- the pictures of a row of a table, and blanks behind each -/
def rowL (u d : Int) : List Int → List (Bx × Rows) → List Rows
  | w :: ws, p :: ps => (raise p.1 p.2 u d).map (padL w.toNat) :: blks 2 (u + d + 1).toNat :: rowL u d ws ps
  | _, _ => []
def tabJ (W : Nat) : List Rows → Rows
  | [] => []
  | r :: rs => r ++ (rs.map fun x => blks W 1 ++ x).flatten
def rowH (row : List Bx) : Int × Int := (maxL (row.map (·.u)), maxL (row.map (·.d)))
def tabP (c : Nat) (rows : List (List (Bx × Rows))) : List Rows :=
  let ws := colsW c (rows.map fun row => row.map (·.1))
  rows.map fun row => bes (rowL (rowH (row.map (·.1))).1 (rowH (row.map (·.1))).2 ws row).dropLast
def tabW (c : Nat) (rows : List (List Bx)) : Int := (colsW c rows).sum + 2 * ((c : Int) - 1)
def picK (k : Kd) (bs : List Bx) (rs : List Rows) : Rows :=
  let b := bxK k bs
  match k with
  | .word t => [t]
  | .chain ss => bes (((bs.zip rs).head?.map fun p => raise p.1 p.2 b.u b.d).toList ++ chL b.u b.d ss (bs.zip rs).tail)
  | .over => (rs.getD 0 []).map (padL b.w.toNat) ++ [List.replicate b.w.toNat 45] ++ (rs.getD 1 []).map (padL b.w.toNat)
  | .root => (32 :: List.replicate (b.w - 1).toNat 95) :: (rs.getD 0 []).map (fun l => 124 :: l)
  | .held => (rs.getD 0 []).map (fun l => 40 :: (l ++ [41]))
  | .script u d =>
    let b0 := bs.getD 0 ⟨0, 0, 0⟩
    let wide := b.w - b0.w
    let side := fun (r : Rows) => r.map fun l => blk b0.w.toNat ++ l ++ blk (wide - l.length).toNat
    (if u then side (rs.getD 1 []) else []) ++ bes2 (rs.getD 0 []) ((rs.getD 0 []).map fun _ => blk wide.toNat) ++ (if d then side (rs.getD (if u then 2 else 1) []) else [])
  | .table r c => (tabJ (tabW c (chunk r c bs)).toNat (tabP c (chunk r c (bs.zip rs)))).map fun l => 91 :: (l ++ [93])
def pic : Sm → Rows := Sm.fold fun k ps rs => picK k (ps.map bx) rs
theorem pic_nd (k : Kd) (ps : List Sm) : pic (.nd k ps) = picK k (ps.map bx) (ps.map pic) := fold_nd _ k ps
/-! how wide and high -/
structure Is (r : Rows) (h w : Nat) : Prop where
  h : r.length = h
  w : ∀ l ∈ r, l.length = w
theorem blk_len (n : Nat) : (blk n).length = n := List.length_replicate
theorem blks_is (w k : Nat) : Is (blks w k) k w := ⟨List.length_replicate, fun l hl => by rw [List.eq_of_mem_replicate hl, blk_len]⟩
theorem Is.app {a b : Rows} {h g w : Nat} (x : Is a h w) (y : Is b g w) : Is (a ++ b) (h + g) w := ⟨by rw [List.length_append, x.h, y.h], fun l hl => by
  rcases List.mem_append.mp hl with z | z
  · exact x.w l z
  · exact y.w l z⟩
theorem Is.one (l : List Nat) : Is [l] 1 l.length := ⟨rfl, by simp⟩
theorem Is.map {a : Rows} {h w v : Nat} (x : Is a h w) (f : List Nat → List Nat) (hf : ∀ l, l.length = w → (f l).length = v) : Is (a.map f) h v := ⟨by rw [List.length_map, x.h], fun l hl => by
  obtain ⟨m, hm, rfl⟩ := List.mem_map.mp hl
  exact hf m (x.w m hm)⟩
theorem bes2_is {a b : Rows} {h w v : Nat} (x : Is a h w) (y : Is b h v) : Is (bes2 a b) h (w + v) := by
  refine ⟨by unfold bes2; rw [List.length_zipWith, x.h, y.h]; omega, fun l hl => ?_⟩
  unfold bes2 at hl
  obtain ⟨i, hi, rfl⟩ := List.mem_iff_getElem.mp hl
  rw [List.getElem_zipWith, List.length_append, x.w _ (List.getElem_mem _), y.w _ (List.getElem_mem _)]
def IsL (h : Nat) : List Rows → List Nat → Prop
  | [], [] => True
  | r :: rs, w :: ws => Is r h w ∧ IsL h rs ws
  | _, _ => False
theorem besF_is {h : Nat} : ∀ {rs : List Rows} {ws : List Nat} {r : Rows} {w : Nat}, Is r h w → IsL h rs ws → Is (rs.foldl bes2 r) h (w + ws.sum)
  | [], [], r, w, x, _ => by simpa using x
  | a :: rs, v :: ws, r, w, x, y => by
    have := besF_is (rs := rs) (ws := ws) (bes2_is x y.1) y.2
    rw [List.foldl_cons, List.sum_cons, ← Nat.add_assoc]
    exact this
  | [], _ :: _, _, _, _, y => y.elim
  | _ :: _, [], _, _, _, y => y.elim
theorem raise_is {b : Bx} {r : Rows} {u d : Int} (x : Is r b.rows.toNat b.w.toNat) (h0 : 0 ≤ b.u) (h1 : 0 ≤ b.d) (hu : b.u ≤ u) (hd : b.d ≤ d) : Is (raise b r u d) (u + d + 1).toNat b.w.toNat := by
  have := ((blks_is b.w.toNat (u - b.u).toNat).app x).app (blks_is b.w.toNat (d - b.d).toNat)
  unfold raise
  have e : (u - b.u).toNat + b.rows.toNat + (d - b.d).toNat = (u + d + 1).toNat := by unfold Bx.rows; omega
  rw [e] at this
  exact this
theorem pad_len {w : Nat} {l : List Nat} (h : l.length ≤ w) : (padL w l).length = w := by
  simp only [padL, List.length_append, blk_len]
  omega
theorem sign_is {c : List Nat} {u d : Int} (hc : c.length = 1) (h0 : 0 ≤ u) (h1 : 0 ≤ d) : Is (signC c u d) (u + d + 1).toNat 3 := by
  have := ((blks_is 3 u.toNat).app (show Is [32 :: (c ++ [32])] 1 3 from ⟨rfl, by simp [hc]⟩)).app (blks_is 3 d.toNat)
  unfold signC
  have e : u.toNat + 1 + d.toNat = (u + d + 1).toNat := by omega
  rw [e] at this
  exact this
/-- parts with their pictures -/
def Pics (ps : List (Bx × Rows)) : Prop := ∀ p ∈ ps, Is p.2 p.1.rows.toNat p.1.w.toNat ∧ 0 ≤ p.1.w ∧ 0 ≤ p.1.u ∧ 0 ≤ p.1.d
theorem chL_is {u d : Int} (h0 : 0 ≤ u) (h1 : 0 ≤ d) : ∀ {ss : List (List Nat)} {ps : List (Bx × Rows)}, ps.length = ss.length → (∀ c ∈ ss, c.length = 1) → Pics ps → (∀ p ∈ ps, p.1.u ≤ u ∧ p.1.d ≤ d) →
    IsL (u + d + 1).toNat (chL u d ss ps) ((ps.map fun p => [3, p.1.w.toNat]).flatten)
  | [], [], _, _, _, _ => trivial
  | c :: ss, p :: ps, hl, hc, hp, hb => by
    have h2 := hp p (by simp)
    have h3 := hb p (by simp)
    refine ⟨sign_is (hc c (by simp)) h0 h1, raise_is h2.1 h2.2.2.1 h2.2.2.2 h3.1 h3.2, ?_⟩
    exact chL_is h0 h1 (by simpa using hl) (fun c hc' => hc c (by simp [hc'])) (fun q hq => hp q (by simp [hq])) (fun q hq => hb q (by simp [hq]))
  | [], _ :: _, h, _, _, _ => by simp at h
  | _ :: _, [], h, _, _, _ => by simp at h
theorem flat3 : ∀ (ps : List (Bx × Rows)), Pics ps → ((((ps.map fun p => [3, p.1.w.toNat]).flatten.sum : Nat)) : Int) = (ps.map fun p => p.1.w).sum + 3 * (ps.length : Int)
  | [], _ => rfl
  | p :: ps, h => by
    have ih := flat3 ps fun q hq => h q (by simp [hq])
    have h2 := h p (by simp)
    simp only [List.map_cons, List.flatten_cons, List.sum_append, List.sum_cons, List.sum_nil, List.length_cons]
    omega
theorem rowL_is {u d : Int} (h0 : 0 ≤ u) (h1 : 0 ≤ d) : ∀ {ws : List Int} {ps : List (Bx × Rows)}, ps.length = ws.length → Pics ps → (∀ p ∈ ps, p.1.u ≤ u ∧ p.1.d ≤ d) → (∀ (i : Nat) (w : Int) (p : Bx × Rows), ws[i]? = some w → ps[i]? = some p → p.1.w ≤ w) →
    IsL (u + d + 1).toNat (rowL u d ws ps) ((ws.map fun w => [w.toNat, 2]).flatten)
  | [], [], _, _, _, _ => trivial
  | w :: ws, p :: ps, hl, hp, hb, hw => by
    have h2 := hp p (by simp)
    have h3 := hb p (by simp)
    have h4 := hw 0 w p rfl rfl
    refine ⟨(raise_is h2.1 h2.2.2.1 h2.2.2.2 h3.1 h3.2).map _ fun l hl => pad_len (by omega), blks_is _ _, ?_⟩
    exact rowL_is h0 h1 (by simpa using hl) (fun q hq => hp q (by simp [hq])) (fun q hq => hb q (by simp [hq])) (fun i w p hw' hp' => hw (i + 1) w p (by simpa using hw') (by simpa using hp'))
  | [], _ :: _, h, _, _, _ => by simp at h
  | _ :: _, [], h, _, _, _ => by simp at h
theorem IsL.dropLast {h : Nat} : ∀ {rs : List Rows} {ws : List Nat}, IsL h rs ws → IsL h rs.dropLast ws.dropLast
  | [], [], _ => trivial
  | [_], [_], _ => trivial
  | r :: r' :: rs, w :: w' :: ws, x => by
    rw [List.dropLast_cons₂, List.dropLast_cons₂]
    exact ⟨x.1, IsL.dropLast x.2⟩
  | [], _ :: _, x => x.elim
  | _ :: _, [], x => x.elim
  | [_], _ :: _ :: _, x => x.2.elim
  | _ :: _ :: _, [_], x => x.2.elim
theorem bes_is {h : Nat} {rs : List Rows} {ws : List Nat} (hr : rs ≠ []) (x : IsL h rs ws) : Is (bes rs) h ws.sum := by
  cases rs with
  | nil => exact absurd rfl hr
  | cons r rs =>
    cases ws with
    | nil => exact x.elim
    | cons w ws => rw [List.sum_cons]; exact besF_is x.1 x.2
theorem tabJ_is {W : Nat} : ∀ {rs : List Rows} {hs : List Nat}, rs.length = hs.length → (∀ (i : Nat) (r : Rows) (h : Nat), rs[i]? = some r → hs[i]? = some h → Is r h W) → Is (tabJ W rs) (hs.sum + (rs.length - 1)) W
  | [], [], _, _ => ⟨rfl, by simp [tabJ]⟩
  | r :: rs, h :: hs, hl, H => by
    have h0 := H 0 r h rfl rfl
    have key : ∀ (rs : List Rows) (hs : List Nat), rs.length = hs.length → (∀ (i : Nat) (r : Rows) (h : Nat), rs[i]? = some r → hs[i]? = some h → Is r h W) → Is (rs.map fun x => blks W 1 ++ x).flatten (hs.sum + rs.length) W := by
      intro rs
      induction rs with
      | nil => intro hs hl _; cases hs with | nil => exact ⟨rfl, by simp⟩ | cons _ _ => simp at hl
      | cons r rs ih =>
        intro hs hl H
        cases hs with
        | nil => simp at hl
        | cons h hs =>
          have i1 := ih hs (by simpa using hl) fun i r h hr hh => H (i + 1) r h (by simpa using hr) (by simpa using hh)
          have := ((blks_is W 1).app (H 0 r h rfl rfl)).app i1
          rw [List.map_cons, List.flatten_cons, List.sum_cons, List.length_cons]
          have e : 1 + h + (hs.sum + rs.length) = h + hs.sum + (rs.length + 1) := by omega
          rw [e] at this
          exact this
    have := h0.app (key rs hs (by simpa using hl) fun i r h hr hh => H (i + 1) r h (by simpa using hr) (by simpa using hh))
    unfold tabJ
    rw [List.sum_cons, List.length_cons]
    have e : h + (hs.sum + rs.length) = h + hs.sum + (rs.length + 1 - 1) := by omega
    rw [e] at this
    exact this
  | [], _ :: _, h, _ => by simp at h
  | _ :: _, [], h, _ => by simp at h
theorem wflat : ∀ (ws : List Int), ws ≠ [] → (∀ w ∈ ws, 0 ≤ w) → ((((ws.map fun w => [w.toNat, 2]).flatten.dropLast.sum : Nat)) : Int) = ws.sum + 2 * ((ws.length : Int) - 1)
  | [], h, _ => absurd rfl h
  | [w], _, h => by have := h w (by simp); simp; omega
  | w :: v :: ws, _, h => by
    have ih := wflat (v :: ws) (by simp) fun x hx => h x (by simp [hx])
    have := h w (by simp)
    simp only [List.map_cons, List.flatten_cons, List.cons_append, List.nil_append, List.sum_cons, List.length_cons] at ih ⊢
    rw [List.dropLast_cons₂, List.dropLast_cons₂]
    simp only [List.sum_cons]
    omega
/-- signs are signs, and no box is too great -/
def Kd.sg : Kd → Prop
  | .chain ss => ∀ c ∈ ss, c.length = 1
  | .word t => ∀ c ∈ t, c < 1114112
  | _ => True
inductive Wl : Sm → Prop where
  | nd {k : Kd} {ps : List Sm} : k.sg → ((bx (.nd k ps)).w ≤ 100000 ∧ (bx (.nd k ps)).u ≤ 400 ∧ (bx (.nd k ps)).d ≤ 400) → (∀ p ∈ ps, Wl p) → Wl (.nd k ps)
theorem Wl.sg {k : Kd} {ps : List Sm} (h : Wl (.nd k ps)) : k.sg := by cases h; assumption
theorem Wl.mem {k : Kd} {ps : List Sm} (h : Wl (.nd k ps)) : ∀ p ∈ ps, Wl p := by cases h; assumption
theorem Wl.b {s : Sm} (h : Wl s) : (bx s).w ≤ 100000 ∧ (bx s).u ≤ 400 ∧ (bx s).d ≤ 400 := by cases h; assumption
theorem rowH_le {row : List Bx} {b : Bx} (h : b ∈ row) : b.u ≤ (rowH row).1 ∧ b.d ≤ (rowH row).2 :=
  ⟨maxL_ge (List.mem_map_of_mem (f := fun b : Bx => b.u) h), maxL_ge (List.mem_map_of_mem (f := fun b : Bx => b.d) h)⟩
theorem rowH_nn {row : List Bx} (h : ∀ b ∈ row, 0 ≤ b.w ∧ 0 ≤ b.u ∧ 0 ≤ b.d) : 0 ≤ (rowH row).1 ∧ 0 ≤ (rowH row).2 := by
  refine ⟨maxL_nonneg fun i hi => ?_, maxL_nonneg fun i hi => ?_⟩
  · obtain ⟨b, hb, rfl⟩ := List.mem_map.mp hi; exact (h b hb).2.1
  · obtain ⟨b, hb, rfl⟩ := List.mem_map.mp hi; exact (h b hb).2.2
theorem rowsH_eq (rows : List (List Bx)) : rowsH rows = rows.map rowH := rfl
theorem cols_nn {c : Nat} {rows : List (List Bx)} (h : ∀ row ∈ rows, ∀ b ∈ row, 0 ≤ b.w ∧ 0 ≤ b.u ∧ 0 ≤ b.d) : ∀ x ∈ colsW c rows, 0 ≤ x := fun x hx => by
  unfold colsW at hx
  obtain ⟨k, _, rfl⟩ := List.mem_map.mp hx
  refine maxL_nonneg fun j hj => ?_
  obtain ⟨row, hrow, rfl⟩ := List.mem_map.mp hj
  exact getD_all (P := fun b : Bx => 0 ≤ b.w) (fun b hb => (h row hrow b hb).1) (Int.le_refl 0) k
theorem cols_ge {c : Nat} {rows : List (List Bx)} {row : List Bx} (hr : row ∈ rows) {i : Nat} {w : Int} {b : Bx} (hw : (colsW c rows)[i]? = some w) (hb : row[i]? = some b) : b.w ≤ w := by
  unfold colsW at hw
  rw [List.getElem?_map] at hw
  cases e : (List.range c)[i]? with
  | none => rw [e] at hw; cases hw
  | some j =>
    rw [e] at hw
    have : j = i := by
      have := List.getElem?_eq_some_iff.mp e
      obtain ⟨h1, h2⟩ := this
      simp at h2; exact h2.symm
    subst this
    simp at hw
    rw [← hw]
    exact maxL_ge (List.mem_map.mpr ⟨row, hr, by rw [hb]; rfl⟩)
/-- a row of a table -/
theorem row_is {c : Nat} {rows : List (List (Bx × Rows))} {row : List (Bx × Rows)} (hr : row ∈ rows) (hc : 1 ≤ c) (hlen : row.length = c) (hp : ∀ row ∈ rows, Pics row) :
    Is (bes (rowL (rowH (row.map (·.1))).1 (rowH (row.map (·.1))).2 (colsW c (rows.map fun row => row.map (·.1))) row).dropLast) ((rowH (row.map (·.1))).1 + (rowH (row.map (·.1))).2 + 1).toNat (tabW c (rows.map fun row => row.map (·.1))).toNat := by
  have hpr := hp row hr
  have nn : ∀ r ∈ rows.map (fun row => row.map (·.1)), ∀ b ∈ r, 0 ≤ b.w ∧ 0 ≤ b.u ∧ 0 ≤ b.d := fun r hr' b hb => by
    obtain ⟨row', h1, rfl⟩ := List.mem_map.mp hr'
    obtain ⟨p, h2, rfl⟩ := List.mem_map.mp hb
    exact (hp row' h1 p h2).2
  have hrow : row.map (·.1) ∈ rows.map (fun row => row.map (·.1)) := List.mem_map_of_mem hr
  have hn := rowH_nn (nn _ hrow)
  have hcl : (colsW c (rows.map fun row => row.map (·.1))).length = c := by simp [colsW]
  have h1 := rowL_is (u := (rowH (row.map (·.1))).1) (d := (rowH (row.map (·.1))).2) hn.1 hn.2 (ws := colsW c (rows.map fun row => row.map (·.1))) (ps := row) (by rw [hcl, hlen]) hpr (fun p hp' => rowH_le (List.mem_map_of_mem hp')) (fun i w p hw hp' => cols_ge hrow hw (by rw [List.getElem?_map, hp']; rfl))
  have h2 := h1.dropLast
  have hwn := cols_nn nn (c := c)
  have hne : (rowL (rowH (row.map (·.1))).1 (rowH (row.map (·.1))).2 (colsW c (rows.map fun row => row.map (·.1))) row).dropLast ≠ [] := by
    cases e : colsW c (rows.map fun row => row.map (·.1)) with
    | nil => rw [e] at hcl; simp at hcl; omega
    | cons w ws =>
      cases e2 : row with
      | nil => rw [e2] at hlen; simp at hlen; omega
      | cons p ps => simp [rowL]
  have h3 := bes_is hne h2
  have h4 := wflat (colsW c (rows.map fun row => row.map (·.1))) (fun z => by rw [z] at hcl; simp at hcl; omega) hwn
  rw [hcl] at h4
  have e : ((colsW c (rows.map fun row => row.map (·.1))).map fun w => [w.toNat, 2]).flatten.dropLast.sum = (tabW c (rows.map fun row => row.map (·.1))).toNat := by
    unfold tabW
    omega
  rw [e] at h3
  exact h3
theorem zip_fst {α β : Type} : ∀ {l : List α} {m : List β}, l.length = m.length → (l.zip m).map (·.1) = l
  | [], [], _ => rfl
  | a :: l, b :: m, h => by simp only [List.zip_cons_cons, List.map_cons]; rw [zip_fst (by simpa using h)]
  | [], _ :: _, h => by simp at h
  | _ :: _, [], h => by simp at h
theorem rowsI {l : List Int} (h : ∀ i ∈ l, 0 ≤ i) : (((l.map Int.toNat).sum : Nat) : Int) = l.sum := by
  induction l with
  | nil => rfl
  | cons a r ih =>
    have := ih fun i hi => h i (by simp [hi])
    have := h a (by simp)
    simp only [List.map_cons, List.sum_cons]
    omega
theorem pic_is {s : Sm} (h : Sh s) (hw : Wl s) : Is (pic s) (bx s).rows.toNat (bx s).w.toNat := by
  induction s using Sm.ind with
  | h k ps ih =>
    have hk := h.kd
    have H : ∀ p ∈ ps, Is (pic p) (bx p).rows.toNat (bx p).w.toNat ∧ 0 ≤ (bx p).w ∧ 0 ≤ (bx p).u ∧ 0 ≤ (bx p).d := fun p hp => ⟨ih p hp (h.mem p hp) (hw.mem p hp), bx_nonneg (h.mem p hp)⟩
    have hsg := hw.sg
    rw [pic_nd, bx_nd]
    cases k with
    | word t => simp only [picK, bxK, Bx.rows]; exact ⟨rfl, by simp⟩
    | over =>
      obtain ⟨x, y, rfl⟩ := len2 hk
      obtain ⟨h1, n1, n2, n3⟩ := H x (by simp)
      obtain ⟨h2, m1, m2, m3⟩ := H y (by simp)
      simp only [picK, bxK, Bx.rows, List.map_cons, List.map_nil, List.getD_cons_zero, List.getD_cons_succ] at h1 h2 ⊢
      have a := ((h1.map (padL (max (bx x).w (bx y).w + 2).toNat) fun l hl => pad_len (by omega)).app (show Is [List.replicate (max (bx x).w (bx y).w + 2).toNat 45] 1 (max (bx x).w (bx y).w + 2).toNat from ⟨rfl, by simp⟩)).app (h2.map (padL (max (bx x).w (bx y).w + 2).toNat) fun l hl => pad_len (by omega))
      refine ⟨?_, a.w⟩
      rw [a.h]; omega
    | root =>
      obtain ⟨x, rfl⟩ := len1 hk
      obtain ⟨h1, n1, n2, n3⟩ := H x (by simp)
      simp only [picK, bxK, Bx.rows, List.map_cons, List.map_nil, List.getD_cons_zero] at h1 ⊢
      have a := (show Is [32 :: List.replicate ((bx x).w + 1 - 1).toNat 95] 1 ((bx x).w + 1).toNat from ⟨rfl, by simp; omega⟩).app (h1.map (fun l => 124 :: l) (v := ((bx x).w + 1).toNat) fun l hl => by simp; omega)
      refine ⟨?_, a.w⟩
      have := a.h
      simp only [List.singleton_append] at this
      rw [this]; omega
    | held =>
      obtain ⟨x, rfl⟩ := len1 hk
      obtain ⟨h1, n1, n2, n3⟩ := H x (by simp)
      simp only [picK, bxK, Bx.rows, List.map_cons, List.map_nil, List.getD_cons_zero] at h1 ⊢
      exact h1.map _ fun l hl => by simp; omega
    | script u d =>
      obtain ⟨hud, hk⟩ := hk
      cases u <;> cases d <;> simp at hud hk
      · obtain ⟨x, y, rfl⟩ := len2 hk
        obtain ⟨h1, n1, n2, n3⟩ := H x (by simp)
        obtain ⟨h2, m1, m2, m3⟩ := H y (by simp)
        simp [picK, bxK, Bx.rows, maxL] at h1 h2 ⊢
        have a := (bes2_is h1 (h1.map (fun _ => blk ((bx x).w + (bx y).w - (bx x).w).toNat) fun l hl => blk_len _)).app (h2.map (fun l => blk (bx x).w.toNat ++ l ++ blk ((bx x).w + (bx y).w - (bx x).w - l.length).toNat) (v := (bx x).w.toNat + ((bx x).w + (bx y).w - (bx x).w).toNat) fun l hl => by simp [blk_len]; omega)
        refine ⟨?_, fun l hl => ?_⟩
        · have := a.h; simp at this ⊢; omega
        · have := a.w l (by simpa using hl); omega
      · obtain ⟨x, y, rfl⟩ := len2 hk
        obtain ⟨h1, n1, n2, n3⟩ := H x (by simp)
        obtain ⟨h2, m1, m2, m3⟩ := H y (by simp)
        simp [picK, bxK, Bx.rows, maxL] at h1 h2 ⊢
        have a := (h2.map (fun l => blk (bx x).w.toNat ++ l ++ blk ((bx x).w + (bx y).w - (bx x).w - l.length).toNat) (v := (bx x).w.toNat + ((bx x).w + (bx y).w - (bx x).w).toNat) fun l hl => by simp [blk_len]; omega).app (bes2_is h1 (h1.map (fun _ => blk ((bx x).w + (bx y).w - (bx x).w).toNat) fun l hl => blk_len _))
        refine ⟨?_, fun l hl => ?_⟩
        · have := a.h; simp at this ⊢; omega
        · have := a.w l (by simpa using hl); omega
      · obtain ⟨x, y, z, rfl⟩ := len3 hk
        obtain ⟨h1, n1, n2, n3⟩ := H x (by simp)
        obtain ⟨h2, m1, m2, m3⟩ := H y (by simp)
        obtain ⟨h3, l1, l2, l3⟩ := H z (by simp)
        simp [picK, bxK, Bx.rows, maxL] at h1 h2 h3 ⊢
        have a := ((h2.map (fun l => blk (bx x).w.toNat ++ l ++ blk ((bx x).w + max (bx y).w (bx z).w - (bx x).w - l.length).toNat) (v := (bx x).w.toNat + ((bx x).w + max (bx y).w (bx z).w - (bx x).w).toNat) fun l hl => by simp [blk_len]; omega).app (bes2_is h1 (h1.map (fun _ => blk ((bx x).w + max (bx y).w (bx z).w - (bx x).w).toNat) fun l hl => blk_len _))).app (h3.map (fun l => blk (bx x).w.toNat ++ l ++ blk ((bx x).w + max (bx y).w (bx z).w - (bx x).w - l.length).toNat) (v := (bx x).w.toNat + ((bx x).w + max (bx y).w (bx z).w - (bx x).w).toNat) fun l hl => by simp [blk_len]; omega)
        refine ⟨?_, fun l hl => ?_⟩
        · have := a.h; simp at this ⊢; omega
        · have := a.w l (by simpa using hl); omega
    | chain ss =>
      obtain ⟨x, r, rfl, hr⟩ := lenS hk
      have hP : Pics (((x :: r).map bx).zip ((x :: r).map pic)) := fun p hp => by
        rw [List.zip_map'] at hp
        obtain ⟨q, hq, rfl⟩ := List.mem_map.mp hp
        exact H q hq
      have hB : ∀ p ∈ ((x :: r).map bx).zip ((x :: r).map pic), p.1.u ≤ (bxK (.chain ss) ((x :: r).map bx)).u ∧ p.1.d ≤ (bxK (.chain ss) ((x :: r).map bx)).d := fun p hp => by
        have := (List.of_mem_zip hp).1
        exact ⟨maxL_ge (List.mem_map_of_mem (f := fun b : Bx => b.u) this), maxL_ge (List.mem_map_of_mem (f := fun b : Bx => b.d) this)⟩
      have hnn := bx_nonneg h
      rw [bx_nd] at hnn
      simp only [List.map_cons, List.zip_cons_cons] at hP hB hnn ⊢
      simp only [picK, List.zip_cons_cons, List.head?_cons, Option.map_some, Option.toList_some, List.tail_cons, List.singleton_append, bes]
      have hx := hP (bx x, pic x) (by simp)
      have hbx := hB (bx x, pic x) (by simp)
      have c1 := chL_is hnn.2.1 hnn.2.2 (ss := ss) (ps := (r.map bx).zip (r.map pic)) (by simp [hr]) hsg (fun p hp => hP p (by simp [hp])) (fun p hp => hB p (by simp [hp]))
      have c2 := besF_is (raise_is hx.1 hx.2.2.1 hx.2.2.2 hbx.1 hbx.2) c1
      have c3 := flat3 ((r.map bx).zip (r.map pic)) (fun p hp => hP p (by simp [hp]))
      have c4 : (((r.map bx).zip (r.map pic)).map fun p => p.1.w) = (r.map bx).map (·.w) := by
        rw [← zip_fst (l := r.map bx) (m := r.map pic) (by simp), List.map_map, zip_fst (by simp)]; rfl
      rw [c4] at c3
      have c5 : ((r.map bx).zip (r.map pic)).length = r.length := by simp
      rw [c5] at c3
      refine ⟨c2.h, fun l hl => ?_⟩
      rw [c2.w l hl]
      simp only [bxK, List.map_cons, List.sum_cons, List.length_cons, List.length_map]
      simp only [] at c3 hx
      have := hx.2.1
      omega
    | table r c =>
      obtain ⟨h1, h2, h3⟩ := hk
      have hlen : ∀ row ∈ chunk r c ((ps.map bx).zip (ps.map pic)), row.length = c := chunk_each r c _ (by simp [h3])
      have hP : ∀ row ∈ chunk r c ((ps.map bx).zip (ps.map pic)), Pics row := fun row hrow p hp => by
        have hp := chunk_mem r c _ row hrow p hp
        rw [List.zip_map'] at hp
        obtain ⟨q, hq, rfl⟩ := List.mem_map.mp hp
        exact H q hq
      have hfst : (chunk r c ((ps.map bx).zip (ps.map pic))).map (fun row => row.map (·.1)) = chunk r c (ps.map bx) := by
        rw [← chunk_map, zip_fst (by simp)]
      have hcl := chunk_length r c ((ps.map bx).zip (ps.map pic))
      simp only [picK]
      have hnn : ∀ row ∈ chunk r c (ps.map bx), ∀ b ∈ row, 0 ≤ b.w ∧ 0 ≤ b.u ∧ 0 ≤ b.d := fun row hrow b hb => by
        have hb := chunk_mem r c _ row hrow b hb
        obtain ⟨q, hq, rfl⟩ := List.mem_map.mp hb
        exact (H q hq).2
      have t1 := tabJ_is (W := (tabW c (chunk r c (ps.map bx))).toNat) (rs := tabP c (chunk r c ((ps.map bx).zip (ps.map pic)))) (hs := ((rowsH (chunk r c (ps.map bx))).map fun p => p.1 + p.2 + 1).map Int.toNat) (by simp [tabP, rowsH, chunk_length]) (fun i x hh hx hhh => by
        unfold tabP at hx
        rw [List.getElem?_map] at hx
        cases e : (chunk r c ((ps.map bx).zip (ps.map pic)))[i]? with
        | none => rw [e] at hx; cases hx
        | some row =>
          rw [e] at hx
          have hmem := List.mem_of_getElem? e
          have := row_is hmem h2 (hlen row hmem) hP
          rw [hfst] at this
          simp only [Option.map_some, Option.some.injEq] at hx
          rw [hfst] at hx
          rw [← hx]
          have hh2 : (chunk r c (ps.map bx))[i]? = some (row.map (·.1)) := by rw [← hfst, List.getElem?_map, e]; rfl
          rw [List.getElem?_map, List.getElem?_map, rowsH_eq, List.getElem?_map, hh2] at hhh
          simp at hhh
          rw [← hhh]
          exact this)
      have t2 := t1.map (fun l => 91 :: (l ++ [93])) (v := (tabW c (chunk r c (ps.map bx))).toNat + 2) fun l hl => by simp; omega
      have hwn := cols_nn hnn (c := c)
      have hws := sum_nonneg hwn
      have e1 := rowsI (l := (rowsH (chunk r c (ps.map bx))).map fun p => p.1 + p.2 + 1) fun i hi => by
        rw [rowsH_eq, List.map_map] at hi
        obtain ⟨row, hrow, rfl⟩ := List.mem_map.mp hi
        have := rowH_nn (hnn row hrow)
        simp only [Function.comp]
        omega
      have e2 : (tabP c (chunk r c ((ps.map bx).zip (ps.map pic)))).length = r := by simp [tabP, chunk_length]
      rw [e2] at t2
      have e3 := chunk_length r c (ps.map bx)
      refine ⟨?_, fun l hl => ?_⟩
      · rw [t2.h]
        simp only [bxK, tabBx, Bx.rows, e3]
        omega
      · rw [t2.w l hl]
        simp only [bxK, tabBx, tabW]
        omega
end SM

/-! PW: the walk of pictures. -/
namespace SM
open PL
def encR (r : Rows) : PV := .tup (r.map .str)
@[simp] theorem d_encR (st : Sto) (r : Rows) : deref st (encR r) = encR r := (rfl)
@[simp] theorem it_encR (r : Rows) : itV (encR r) = some (r.map .str) := (rfl)
theorem under_strs (n : Nat) (r : Rows) : PV.unders n (r.map PV.str) = true := by
  induction r with
  | nil => simp [PV.unders]
  | cons a r ih => simp [PV.unders, PV.under, ih]
@[simp] theorem under_encR (n : Nat) (r : Rows) : (encR r).under n = true := by simp only [encR, PV.under, under_strs]
theorem mulBlk (c : Nat) {w : Int} (h0 : 0 ≤ w) (h : w ≤ 100000) : mulV (.str [c]) (.int w) = some (.str (List.replicate w.toNat c)) := by
  simp only [mulV]
  rw [if_pos (by unfold SZ; simp; omega)]
  simp
theorem mulTup (l : List Nat) {k : Int} (h0 : 0 ≤ k) (h : k ≤ 1000) : mulV (.tup [.str l]) (.int k) = some (.tup (List.replicate k.toNat (.str l))) := by
  simp only [mulV]
  rw [if_pos (by simp; omega)]
  simp
structure PicT (T : Tab) : Prop extends BoxT T where
  padded : T.lookup 44 = some Fn.f_padded
  blanks : T.lookup 45 = some Fn.f_blanks
  raised : T.lookup 46 = some Fn.f_raised
  beside : T.lookup 47 = some Fn.f_beside
  chain_picture : T.lookup 48 = some Fn.f_chain_picture
  script_picture : T.lookup 49 = some Fn.f_script_picture
  table_picture : T.lookup 50 = some Fn.f_table_picture
  picture : T.lookup 51 = some Fn.f_picture
def PicAt (T : Tab) (n : Nat) (s : Sm) : Prop := ∀ st, callF T n 51 [enc s] st = .ok (encR (pic s)) st
section
variable {T : Tab}
theorem blanks_ok (h : PicT T) (n : Nat) {w k : Int} (h0 : 0 ≤ w) (h1 : w ≤ 100000) (h2 : 0 ≤ k) (h3 : k ≤ 1000) (st : Sto) : callF T (n + 1) 45 [.int w, .int k] st = .ok (encR (blks w.toNat k.toNat)) st := by
  rw [callF_of h.blanks, runD_of rfl]
  simp [Fn.f_blanks, start, mulBlk 32 h0 h1, mulTup _ h2 h3, SZ_val, encR, blks, blk]
theorem padded_ok (h : PicT T) (n : Nat) {w : Int} {l : List Nat} (h0 : (l.length : Int) ≤ w) (h1 : w ≤ 100000) (st : Sto) : callF T (n + 1) 44 [.str l, .int w] st = .ok (.str (padL w.toNat l)) st := by
  rw [callF_of h.padded, runD_of rfl]
  have e1 : ((w - (l.length : Int)) / 2).toNat = (w.toNat - l.length) / 2 := by omega
  have e2 : (w - (l.length : Int) - (w - (l.length : Int)) / 2).toNat = w.toNat - l.length - (w.toNat - l.length) / 2 := by omega
  have m1 := mulBlk 32 (w := (w - (l.length : Int)) / 2) (by omega) (by omega)
  have m2 := mulBlk 32 (w := w - (l.length : Int) - (w - (l.length : Int)) / 2) (by omega) (by omega)
  rw [e1] at m1
  rw [e2] at m2
  have z1 : (w.toNat - l.length) / 2 + l.length ≤ 16777216 := by omega
  have z2 : (w.toNat - l.length) / 2 + l.length + (w.toNat - l.length - (w.toNat - l.length) / 2) ≤ 16777216 := by omega
  have z3 : (w.toNat - l.length) / 2 + (l.length + (w.toNat - l.length - (w.toNat - l.length) / 2)) ≤ 16777216 := by omega
  simp [Fn.f_padded, start, m1, m2, SZ_val, z1, z2, z3, padL, blk]
theorem raised_ok (h : PicT T) (n : Nat) (s : Sm) (hs : Sh s) (hw : Wl s) {u d : Int} (hu : (bx s).u ≤ u) (hu2 : u ≤ 400) (hd : (bx s).d ≤ d) (hd2 : d ≤ 400) (hb : BoxAt T (n + 1) s) (hp : PicAt T (n + 1) s) (st : Sto) :
    callF T (n + 2) 46 [enc s, .int u, .int d] st = .ok (encR (raise (bx s) (pic s) u d)) st := by
  rw [callF_of h.raised, runD_of rfl]
  have hnn := bx_nonneg hs
  have hbb := hw.b
  have hi := pic_is hs hw
  have b1 := blanks_ok h n (w := (bx s).w) (k := u - (bx s).u) hnn.1 hbb.1 (by omega) (by omega) st
  have b2 := blanks_ok h n (w := (bx s).w) (k := d - (bx s).d) hnn.1 hbb.1 (by omega) (by omega) st
  have hb' := hb st
  have hp' := hp st
  have hl := hi.h
  unfold Bx.rows at hl
  have z0 : (bx s).rows.toNat = ((bx s).u + (bx s).d + 1).toNat := rfl
  have z1 : (u - (bx s).u).toNat + (pic s).length ≤ 16777216 := by omega
  have z2 : (u - (bx s).u).toNat + ((pic s).length + (d - (bx s).d).toNat) ≤ 16777216 := by omega
  have z3 : (u - (bx s).u).toNat + (pic s).length + (d - (bx s).d).toNat ≤ 16777216 := by omega
  simp only [encB] at hb'
  simp only [encR] at b1 b2 hp'
  simp [Fn.f_raised, start, hb', hp', b1, b2, SZ_val, blks, z1, z2, z3, encR, raise]
theorem zipL_str : ∀ (a b : Rows), zipL (a.map PV.str) (b.map PV.str) = (a.zip b).map fun (p : List Nat × List Nat) => .tup [.str p.1, .str p.2]
  | [], _ => by simp [zipL]
  | _ :: _, [] => by simp [zipL]
  | x :: a, y :: b => by simp [zipL, zipL_str a b]
theorem zip_bes (a b : Rows) : (a.zip b).map (fun (p : List Nat × List Nat) => PV.str (p.1 ++ p.2)) = (bes2 a b).map .str := by
  unfold bes2
  induction a generalizing b with
  | nil => simp
  | cons x a ih =>
    cases b with
    | nil => simp
    | cons y b => simp [ih]
def besB : PS := match Fn.f_beside.body with | .seq _ (.seq (.fr _ _ b) _) => b | _ => .skip
theorem besideL (cf : CF) {P : Option PV} {hh : Nat} (hz : hh ≤ 16777216) (st : Sto) : ∀ (rs : List Rows) (ws : List Nat) (r : Rows) (w : Nat) (x : Option PV), Is r hh w → IsL hh rs ws → w + ws.sum ≤ 16777216 →
    ∃ x', forL (forF cf (.nm 2) besB) (rs.map encR) [P, some (.lst (r.map .str)), x, none, none] st = .next [P, some (.lst ((rs.foldl bes2 r).map .str)), x', none, none] st
  | [], [], r, w, x, _, _, _ => ⟨x, by simp⟩
  | a :: rs, v :: ws, r, w, x, h1, h2, h3 => by
    rw [List.sum_cons] at h3
    obtain ⟨x', ih⟩ := besideL cf (P := P) hz st rs ws (bes2 r a) (w + v) (some (encR a)) (bes2_is h1 h2.1) h2.2 (by omega)
    refine ⟨x', ?_⟩
    have e1 : min r.length a.length ≤ 16777216 := by rw [h1.h, h2.1.h]; omega
    have hcomp : compL (fun (x : PV) (st1 : Sto) => (match asgT (.tp (.cons (.nm 3) (.cons (.nm 4) .nil))) x [P, some (.lst (r.map .str)), some (encR a), none, none] with | none => Res.stuck | some e2 => Res.stuck)) [] st = .ok [] st := rfl
    simp only [besB, Fn.f_beside] at ih ⊢
    simp [zipL_str, SZ_val, e1, encR]
    rw [comp_map (fun (p : List Nat × List Nat) => .tup [.str p.1, .str p.2]) (fun p => .str (p.1 ++ p.2)) (r.zip a) (fun p hp => by
      have h4 := List.of_mem_zip hp
      have h5 := h1.w _ h4.1
      have h6 := h2.1.w _ h4.2
      have h7 : p.1.length + p.2.length ≤ 16777216 := by omega
      simp [SZ_val, h7])]
    rw [zip_bes]
    simp [encR] at ih ⊢
    exact ih
  | [], _ :: _, _, _, _, _, h, _ => h.elim
  | _ :: _, [], _, _, _, _, h, _ => h.elim
theorem beside_ok (h : PicT T) (n : Nat) {hh : Nat} (hz : hh ≤ 16777216) {rs : List Rows} {ws : List Nat} (hne : rs ≠ []) (hi : IsL hh rs ws) (hsum : ws.sum ≤ 16777216) (st : Sto) : callF T (n + 1) 47 [.lst (rs.map encR)] st = .ok (encR (bes rs)) st := by
  rw [callF_of h.beside, runD_of rfl]
  cases rs with
  | nil => exact absurd rfl hne
  | cons r rs =>
    cases ws with
    | nil => exact hi.elim
    | cons w ws =>
      rw [List.sum_cons] at hsum
      obtain ⟨x', q⟩ := besideL (callF T n) (P := some (.lst ((r :: rs).map encR))) hz st rs ws r w none hi.1 hi.2 hsum
      have hr : r.length ≤ 16777216 := by rw [hi.1.h]; exact hz
      simp only [besB, Fn.f_beside] at q
      simp [Fn.f_beside, start, encR, SZ_val, hr]
      simp [encR] at q
      rw [q]
      simp [encR, bes]
theorem pairs_cons (c : List Nat) (ss : List (List Nat)) (v : PV) (vs : List PV) : pairs (c :: ss) (v :: vs) = .tup [.str c, v] :: pairs ss vs := rfl
def chB : PS := match Fn.f_chain_picture.body with | .seq _ (.seq _ (.seq (.fr _ _ b) _)) => b | _ => .skip
theorem chainW (h : PicT T) (m : Nat) {S W : Option PV} {u d : Int} (u0 : 0 ≤ u) (u1 : u ≤ 400) (d0 : 0 ≤ d) (d1 : d ≤ 400) (st : Sto) : ∀ (ss : List (List Nat)) (ps : List Sm) (acc : List PV) (x y : Option PV), ps.length = ss.length → (∀ c ∈ ss, c.length = 1) →
    (∀ p ∈ ps, Sh p ∧ Wl p ∧ (bx p).u ≤ u ∧ (bx p).d ≤ d ∧ BoxAt T (m + 1) p ∧ PicAt T (m + 1) p) → acc.length + 2 * ss.length ≤ 16777216 →
    ∃ x' y', forL (forF (callF T (m + 2)) (.tp (.cons (.nm 5) (.cons (.nm 6) .nil))) chB) (pairs ss (ps.map enc)) [S, some (.ref st.length), W, some (.int u), some (.int d), x, y] (st ++ [.lst acc]) =
      .next [S, some (.ref st.length), W, some (.int u), some (.int d), x', y'] (st ++ [.lst (acc ++ (chL u d ss (ps.map fun p => (bx p, pic p))).map encR)])
  | [], [], acc, x, y, _, _, _, _ => ⟨x, y, by simp [pairs, chL]⟩
  | c :: ss, p :: ps, acc, x, y, hl, hc, H, hz => by
    simp only [List.length_cons] at hz
    obtain ⟨h1, h2, h3, h4, h5, h6⟩ := H p (by simp)
    have hc1 := hc c (by simp)
    obtain ⟨x', y', ih⟩ := chainW h m (S := S) (W := W) u0 u1 d0 d1 st ss ps (acc ++ [encR (signC c u d)] ++ [encR (raise (bx p) (pic p) u d)]) (some (.str c)) (some (enc p)) (by simpa using hl) (fun c hc' => hc c (by simp [hc'])) (fun q hq => H q (by simp [hq])) (by simp; omega)
    refine ⟨x', y', ?_⟩
    have b1 := fun st => blanks_ok h (m + 1) (w := 3) (k := u) (by omega) (by omega) u0 (by omega) st
    have b2 := fun st => blanks_ok h (m + 1) (w := 3) (k := d) (by omega) (by omega) d0 (by omega) st
    have r1 := fun st => raised_ok h m p h1 h2 h3 u1 h4 d1 h5 h6 st
    have z1 : u.toNat + 1 ≤ 16777216 := by omega
    have z2 : u.toNat + (1 + d.toNat) ≤ 16777216 := by omega
    have z2' : u.toNat + (d.toNat + 1) ≤ 16777216 := by omega
    have z2'' : u.toNat + 1 + d.toNat ≤ 16777216 := by omega
    have z3 : acc.length < 16777216 := by omega
    have z4 : acc.length + 1 < 16777216 := by omega
    simp only [chB, Fn.f_chain_picture] at ih ⊢
    simp only [List.map_cons, pairs_cons, chL]
    simp only [encR, blks] at b1 b2
    have e3 : (3 : Int).toNat = 3 := rfl
    rw [e3] at b1 b2
    simp [b1, b2, r1, SZ_val, hc1, z1, z2, z2', z2'', z3, z4]
    simp [encR, signC, blks] at ih ⊢
    exact ih
  | [], _ :: _, _, _, _, h, _, _, _ => by simp at h
  | _ :: _, [], _, _, _, h, _, _, _ => by simp at h
theorem chain_pic_ok (h : PicT T) (m : Nat) {ss : List (List Nat)} {ps : List Sm} (hs : Sh (.nd (.chain ss) ps)) (hw : Wl (.nd (.chain ss) ps)) (hb : BoxAt T (m + 2) (.nd (.chain ss) ps)) (H : ∀ p ∈ ps, BoxAt T (m + 1) p ∧ PicAt T (m + 1) p) (st : Sto) :
    callF T (m + 3) 48 [enc (.nd (.chain ss) ps)] st = .ok (encR (pic (.nd (.chain ss) ps))) st := by
  rw [callF_of h.chain_picture, runD_of rfl]
  have hlen := hs.len
  have hnn := bx_nonneg hs
  have hbb := hw.b
  have hb' := hb st
  have hpi := pic_is hs hw
  obtain ⟨x, r, rfl, hr⟩ := lenS hs.kd
  have hB : ∀ p ∈ x :: r, (bx p).u ≤ (bx (.nd (.chain ss) (x :: r))).u ∧ (bx p).d ≤ (bx (.nd (.chain ss) (x :: r))).d := fun p hp => by
    rw [bx_nd]
    exact ⟨maxL_ge (List.mem_map_of_mem (f := fun b : Bx => b.u) (List.mem_map_of_mem hp)), maxL_ge (List.mem_map_of_mem (f := fun b : Bx => b.d) (List.mem_map_of_mem hp))⟩
  have hP : Pics ((x :: r).map fun p => (bx p, pic p)) := fun p hp => by
    obtain ⟨q, hq, rfl⟩ := List.mem_map.mp hp
    exact ⟨pic_is (hs.mem q hq) (hw.mem q hq), bx_nonneg (hs.mem q hq)⟩
  simp only [List.length_cons] at hlen
  generalize hU : (bx (.nd (.chain ss) (x :: r))).u = U at *
  generalize hD : (bx (.nd (.chain ss) (x :: r))).d = D at *
  generalize hW : (bx (.nd (.chain ss) (x :: r))).w = Wd at *
  have hpe : pic (.nd (.chain ss) (x :: r)) = bes (raise (bx x) (pic x) U D :: chL U D ss (r.map fun p => (bx p, pic p))) := by
    rw [pic_nd]
    rw [bx_nd] at hU hD
    simp only [picK, hU, hD]
    simp [List.zip_map']
  have hx := hB x (by simp)
  have hxm := H x (by simp)
  obtain ⟨x', y', q⟩ := chainW h m (S := some (enc (.nd (.chain ss) (x :: r)))) (W := some (.int Wd)) hnn.2.1 hbb.2.1 hnn.2.2 hbb.2.2 st ss r [encR (raise (bx x) (pic x) U D)] none none hr hw.sg (fun p hp => ⟨hs.mem p (by simp [hp]), hw.mem p (by simp [hp]), (hB p (by simp [hp])).1, (hB p (by simp [hp])).2, (H p (by simp [hp])).1, (H p (by simp [hp])).2⟩) (by simp; omega)
  have r1 := raised_ok h m x (hs.mem x (by simp)) (hw.mem x (by simp)) hx.1 hbb.2.1 hx.2 hbb.2.2 hxm.1 hxm.2 st
  have c1 := chL_is hnn.2.1 hnn.2.2 (ss := ss) (ps := r.map fun p => (bx p, pic p)) (by simp [hr]) hw.sg (fun p hp => hP p (by simp at hp ⊢; exact .inr hp)) (fun p hp => by
    obtain ⟨q, hq, rfl⟩ := List.mem_map.mp hp
    exact hB q (by simp [hq]))
  have hxi := hP (bx x, pic x) (by simp)
  have c2 : IsL (U + D + 1).toNat (raise (bx x) (pic x) U D :: chL U D ss (r.map fun p => (bx p, pic p))) ((bx x).w.toNat :: ((r.map fun p => (bx p, pic p)).map fun p => [3, p.1.w.toNat]).flatten) := ⟨raise_is hxi.1 hxi.2.2.1 hxi.2.2.2 hx.1 hx.2, c1⟩
  have c3 := flat3 (r.map fun p => (bx p, pic p)) (fun p hp => hP p (by simp at hp ⊢; exact .inr hp))
  have c4 : ((r.map fun p => (bx p, pic p)).map fun p => p.1.w) = (r.map bx).map (·.w) := by simp [Function.comp_def]
  rw [c4] at c3
  have hWe : Wd = (bx x).w + ((r.map bx).map (·.w)).sum + 3 * (r.length : Int) := by
    rw [← hW, bx_nd]
    simp only [bxK, List.map_cons, List.sum_cons, List.length_cons, List.length_map]
    omega
  have hbes := fun st => beside_ok h (m + 1) (hh := (U + D + 1).toNat) (by omega) (by simp) c2 (by
    rw [List.sum_cons]
    simp only [List.length_map] at c3
    have := hxi.2.1
    simp only [] at this
    omega) st
  rw [hpe]
  simp only [chB, Fn.f_chain_picture] at q
  simp only [encB, hU, hD, hW] at hb'
  rw [enc_nd] at q hb' ⊢
  simp only [encK, List.map_cons, List.headD_cons, List.tail_cons] at q hb' ⊢
  simp [Fn.f_chain_picture, start, hb', r1, SZ_val]
  simp at q
  rw [q]
  simp at hbes
  simp [hbes]
  exact k_fnA (by simp)
end
end SM

/-! PW2: the walk of pictures: scripts, tables, all. -/
namespace SM
open PL
section
variable {T : Tab}
def side (b w : Int) (r : Rows) : Rows := r.map fun l => blk b.toNat ++ l ++ blk (w - l.length).toNat
theorem side_str (b w : Int) (r : Rows) : (r.map fun l => PV.str (blk b.toNat ++ l ++ blk (w - l.length).toNat)) = (side b w r).map .str := by simp [side, Function.comp_def]
theorem side_len (b w : Int) (r : Rows) : (side b w r).length = r.length := by simp [side]
theorem bes2_blk (r : Rows) (n : Nat) : bes2 r (r.map fun _ => blk n) = r.map fun l => l ++ blk n := by
  unfold bes2
  induction r with
  | nil => rfl
  | cons a r ih => simp [ih]
theorem script_pic_ok (h : PicT T) (m : Nat) {u d : Bool} {ps : List Sm} (hs : Sh (.nd (.script u d) ps)) (hw : Wl (.nd (.script u d) ps)) (hb : BoxAt T (m + 2) (.nd (.script u d) ps)) (H : ∀ p ∈ ps, BoxAt T (m + 2) p ∧ PicAt T (m + 2) p) (st : Sto) :
    callF T (m + 3) 49 [enc (.nd (.script u d) ps)] st = .ok (encR (pic (.nd (.script u d) ps))) st := by
  have hnn := bx_nonneg hs
  have hbb := hw.b
  have hb' := hb st
  obtain ⟨hud, hk⟩ := hs.kd
  have main : ∀ (x : Sm) (W : Int) (up dn : PV) (above below : Rows), x ∈ ps → (bx x).w ≤ W → W ≤ 100000 → callF T (m + 2) 40 [.tup [.str [115, 99, 114, 105, 112, 116], enc x, up, dn]] st = .ok (.tup [.int W, .int (bx (.nd (.script u d) ps)).u, .int (bx (.nd (.script u d) ps)).d]) st →
      (up = .non ∧ above = [] ∨ ∃ y, y ∈ ps ∧ up = enc y ∧ (bx y).w ≤ W - (bx x).w ∧ above = side (bx x).w (W - (bx x).w) (pic y)) → (dn = .non ∧ below = [] ∨ ∃ y, y ∈ ps ∧ dn = enc y ∧ (bx y).w ≤ W - (bx x).w ∧ below = side (bx x).w (W - (bx x).w) (pic y)) →
      callF T (m + 3) 49 [.tup [.str [115, 99, 114, 105, 112, 116], enc x, up, dn]] st = .ok (encR (above ++ bes2 (pic x) ((pic x).map fun _ => blk (W - (bx x).w).toNat) ++ below)) st := by
    intro x W up dn above below hx hW hW2 hbox hup hdn
    have hxs := hs.mem x hx
    have hxn := bx_nonneg hxs
    have hxi := pic_is hxs (hw.mem x hx)
    have hxb := (hw.mem x hx).b
    obtain ⟨hbx, hpx⟩ := H x hx
    have hbx' := hbx st
    have hpx' := hpx st
    simp only [encB] at hbx'
    have hrows : (bx x).rows.toNat ≤ 2000 := by unfold Bx.rows; omega
    have hlen : (pic x).length ≤ 2000 := by rw [hxi.h]; exact hrows
    have m1 := mulBlk 32 (w := W - (bx x).w) (by omega) (by omega)
    have m2 := mulBlk 32 (w := (bx x).w) hxn.1 hxb.1
    have c2 : IsL (bx x).rows.toNat [pic x, (pic x).map fun _ => blk (W - (bx x).w).toNat] [(bx x).w.toNat, (W - (bx x).w).toNat] := ⟨hxi, hxi.map _ fun l hl => blk_len _, trivial⟩
    have hbes := beside_ok h (m + 1) (by omega) (by simp) c2 (by simp; omega) st
    have hbe : bes [pic x, (pic x).map fun _ => blk (W - (bx x).w).toNat] = bes2 (pic x) ((pic x).map fun _ => blk (W - (bx x).w).toNat) := rfl
    rw [hbe, bes2_blk] at hbes
    rw [bes2_blk]
    have hsd : ∀ y, y ∈ ps → (bx y).w ≤ W - (bx x).w → ∀ l ∈ pic y, 0 ≤ W - (bx x).w - (l.length : Int) ∧ W - (bx x).w - (l.length : Int) ≤ 100000 ∧ (bx x).w.toNat + l.length ≤ 16777216 ∧ (bx x).w.toNat + (l.length + (W - (bx x).w - (l.length : Int)).toNat) ≤ 16777216 ∧ (bx x).w.toNat + l.length + (W - (bx x).w - (l.length : Int)).toNat ≤ 16777216 := fun y hy hyw l hl => by
      have h1 := (pic_is (hs.mem y hy) (hw.mem y hy)).w l hl
      have h2 := bx_nonneg (hs.mem y hy)
      omega
    have hyl : ∀ y, y ∈ ps → (pic y).length ≤ 2000 := fun y hy => by
      have h1 := (pic_is (hs.mem y hy) (hw.mem y hy)).h
      have h2 := (hw.mem y hy).b
      unfold Bx.rows at h1
      omega
    have hcomp : ∀ y, y ∈ ps → (bx y).w ≤ W - (bx x).w → ∀ (f : PV → Sto → Res (Option PV)), (∀ l, f (.str l) st = (if 0 ≤ W - (bx x).w - (l.length : Int) ∧ W - (bx x).w - (l.length : Int) ≤ 100000 ∧ (bx x).w.toNat + l.length ≤ 16777216 ∧ (bx x).w.toNat + l.length + (W - (bx x).w - (l.length : Int)).toNat ≤ 16777216 then .ok (some (.str (blk (bx x).w.toNat ++ l ++ blk (W - (bx x).w - l.length).toNat))) st else f (.str l) st)) → compL f ((pic y).map .str) st = .ok ((side (bx x).w (W - (bx x).w) (pic y)).map .str) st := fun y hy hyw f hf => by
      rw [comp_map PV.str (fun l => .str (blk (bx x).w.toNat ++ l ++ blk (W - (bx x).w - l.length).toNat)) (pic y) (fun l hl => by
        rw [hf l]
        have := hsd y hy hyw l hl
        rw [if_pos ⟨this.1, this.2.1, this.2.2.1, this.2.2.2.2⟩]), side_str]
    rw [callF_of h.script_picture, runD_of rfl]
    have hbes2 : callF T (m + 2) 47 [.lst [.tup ((pic x).map .str), .tup (List.replicate (pic x).length (.str (List.replicate (W - (bx x).w).toNat 32)))]] st = .ok (.tup ((pic x).map fun l => .str (l ++ List.replicate (W - (bx x).w).toNat 32))) st := by
      simp [encR, blk, Function.comp_def] at hbes
      have e : ∀ (l : Rows) (v : PV), l.map (fun _ => v) = List.replicate l.length v := fun l v => by simp [List.map_const']
      rw [e] at hbes
      exact hbes
    have hcomp0 : ∀ (f : PV → Sto → Res (Option PV)), (∀ l, f (.str l) st = .ok (some (.str (List.replicate (W - (bx x).w).toNat 32))) st) → compL f ((pic x).map .str) st = .ok (List.replicate (pic x).length (.str (List.replicate (W - (bx x).w).toNat 32))) st := fun f hf => by
      rw [comp_map PV.str (fun _ => .str (List.replicate (W - (bx x).w).toNat 32)) (pic x) fun l _ => hf l]
      simp [List.map_const']
    have z0 : (pic x).length ≤ 16777216 := by omega
    have z00 : (pic x).length + 0 ≤ 16777216 := by omega
    rcases hup with ⟨rfl, rfl⟩ | ⟨y, hy, rfl, hyw, rfl⟩
    · rcases hdn with ⟨rfl, rfl⟩ | ⟨y2, hy2, rfl, hyw2, rfl⟩
      · simp [Fn.f_script_picture, start, hbox, hbx', hpx', SZ_val, z0]
        rw [hcomp0 _ (fun l => by simp [m1])]
        simp [encR] at hpx'
        simp [SZ_val, z0, encR, hbes2, hbx', m2, blk, Function.comp_def]
      · have hpy := (H y2 hy2).2 st
        have z1 := hyl y2 hy2
        have z2 : (pic y2).length ≤ 16777216 := by omega
        have z3 : (pic x).length + (pic y2).length ≤ 16777216 := by omega
        simp [Fn.f_script_picture, start, hbox, hbx', hpx', SZ_val, z0]
        rw [hcomp0 _ (fun l => by simp [m1])]
        simp [SZ_val, z0, encR, hbes2, hbx', m2]
        simp [encR] at hpy
        simp [hpy, SZ_val, z2]
        rw [hcomp y2 hy2 hyw2 _ (fun l => by
          split
          · rename_i q
            have q5 : (bx x).w.toNat + l.length + ((W - (bx x).w).toNat - l.length) ≤ 16777216 := by omega
            simp [mulBlk 32 q.1 q.2.1, SZ_val, q.2.2.1, q5, blk]
          · rfl)]
        simp [SZ_val, z0, z2, z3, side_len, blk, Function.comp_def]
    · have hpy := (H y hy).2 st
      have z1 := hyl y hy
      have z2 : (pic y).length ≤ 16777216 := by omega
      have z3 : (pic y).length + (pic x).length ≤ 16777216 := by omega
      rcases hdn with ⟨rfl, rfl⟩ | ⟨y2, hy2, rfl, hyw2, rfl⟩
      · simp [Fn.f_script_picture, start, hbox, hbx', hpx', SZ_val, z0]
        rw [hcomp0 _ (fun l => by simp [m1])]
        simp [SZ_val, z0, encR, hbes2, hbx', m2]
        simp [encR] at hpy
        simp [hpy, SZ_val, z2]
        rw [hcomp y hy hyw _ (fun l => by
          split
          · rename_i q
            have q5 : (bx x).w.toNat + l.length + ((W - (bx x).w).toNat - l.length) ≤ 16777216 := by omega
            simp [mulBlk 32 q.1 q.2.1, SZ_val, q.2.2.1, q5, blk]
          · rfl)]
        simp [SZ_val, z0, z2, z3, side_len, blk, Function.comp_def]
      · have hpy2 := (H y2 hy2).2 st
        have z4 := hyl y2 hy2
        have z5 : (pic y2).length ≤ 16777216 := by omega
        have z6 : (pic y).length + (pic x).length + (pic y2).length ≤ 16777216 := by omega
        have z7 : (pic y).length + ((pic x).length + (pic y2).length) ≤ 16777216 := by omega
        simp [Fn.f_script_picture, start, hbox, hbx', hpx', SZ_val, z0]
        rw [hcomp0 _ (fun l => by simp [m1])]
        simp [SZ_val, z0, encR, hbes2, hbx', m2]
        simp [encR] at hpy hpy2
        simp [hpy, SZ_val, z2]
        rw [hcomp y hy hyw _ (fun l => by
          split
          · rename_i q
            have q5 : (bx x).w.toNat + l.length + ((W - (bx x).w).toNat - l.length) ≤ 16777216 := by omega
            simp [mulBlk 32 q.1 q.2.1, SZ_val, q.2.2.1, q5, blk]
          · rfl)]
        simp [SZ_val, z2, side_len, hpy2, z5]
        rw [hcomp y2 hy2 hyw2 _ (fun l => by
          split
          · rename_i q
            have q5 : (bx x).w.toNat + l.length + ((W - (bx x).w).toNat - l.length) ≤ 16777216 := by omega
            simp [mulBlk 32 q.1 q.2.1, SZ_val, q.2.2.1, q5, blk]
          · rfl)]
        simp [SZ_val, z0, z3, z5, z6, z7, side_len, blk, Function.comp_def]
  cases u <;> cases d <;> simp at hud hk
  · obtain ⟨x, y, rfl⟩ := len2 hk
    have hyn := bx_nonneg (hs.mem y (by simp))
    rw [pic_nd]
    rw [bx_nd] at hbb
    have e1 := main x ((bx x).w + (bx y).w) .non (enc y) [] (side (bx x).w ((bx x).w + (bx y).w - (bx x).w) (pic y)) (by simp) (by omega) (by simp [bxK, maxL] at hbb; omega) (by rw [enc_nd] at hb'; simpa [encK, encB, bx_nd, bxK, maxL] using hb') (.inl ⟨rfl, rfl⟩) (.inr ⟨y, by simp, rfl, by omega, rfl⟩)
    rw [enc_nd]
    simpa [encK, picK, bxK, maxL, side] using e1
  · obtain ⟨x, y, rfl⟩ := len2 hk
    have hyn := bx_nonneg (hs.mem y (by simp))
    rw [pic_nd]
    rw [bx_nd] at hbb
    have e1 := main x ((bx x).w + (bx y).w) (enc y) .non (side (bx x).w ((bx x).w + (bx y).w - (bx x).w) (pic y)) [] (by simp) (by omega) (by simp [bxK, maxL] at hbb; omega) (by rw [enc_nd] at hb'; simpa [encK, encB, bx_nd, bxK, maxL] using hb') (.inr ⟨y, by simp, rfl, by omega, rfl⟩) (.inl ⟨rfl, rfl⟩)
    rw [enc_nd]
    simpa [encK, picK, bxK, maxL, side] using e1
  · obtain ⟨x, y, z, rfl⟩ := len3 hk
    have hyn := bx_nonneg (hs.mem y (by simp))
    have hzn := bx_nonneg (hs.mem z (by simp))
    rw [pic_nd]
    rw [bx_nd] at hbb
    have e1 := main x ((bx x).w + max (bx y).w (bx z).w) (enc y) (enc z) (side (bx x).w ((bx x).w + max (bx y).w (bx z).w - (bx x).w) (pic y)) (side (bx x).w ((bx x).w + max (bx y).w (bx z).w - (bx x).w) (pic z)) (by simp) (by omega) (by simp [bxK, maxL] at hbb; omega) (by rw [enc_nd] at hb'; simpa [encK, encB, bx_nd, bxK, maxL] using hb') (.inr ⟨y, by simp, rfl, by omega, rfl⟩) (.inr ⟨z, by simp, rfl, by omega, rfl⟩)
    rw [enc_nd]
    simpa [encK, picK, bxK, maxL, side] using e1
/-! tables -/
def inB : PS := match Fn.f_table_picture.body with | .seq _ (.seq _ (.seq _ (.seq (.fr _ _ (.seq _ (.seq (.fr _ _ b) _))) _))) => b | _ => .skip
theorem rowW (h : PicT T) (m : Nat) {S R V F K : Option PV} {u d : Int} (u0 : 0 ≤ u) (u1 : u ≤ 400) (d0 : 0 ≤ d) (d1 : d ≤ 400) (st : Sto) : ∀ (ws : List Int) (ps : List Sm) (acc : List PV) (x y : Option PV), ps.length = ws.length →
    (∀ p ∈ ps, Sh p ∧ Wl p ∧ (bx p).u ≤ u ∧ (bx p).d ≤ d ∧ BoxAt T (m + 1) p ∧ PicAt T (m + 1) p) → (∀ (i : Nat) (w : Int) (p : Sm), ws[i]? = some w → ps[i]? = some p → (bx p).w ≤ w ∧ w ≤ 100000) → acc.length + 2 * ws.length ≤ 16777216 →
    ∃ x' y', forL (forF (callF T (m + 2)) (.tp (.cons (.nm 8) (.cons (.nm 9) .nil))) inB) (zipL (ps.map enc) (ws.map .int)) [S, R, V, F, K, some (.ref st.length), some (.int u), some (.int d), x, y, none] (st ++ [.lst acc]) =
      .next [S, R, V, F, K, some (.ref st.length), some (.int u), some (.int d), x', y', none] (st ++ [.lst (acc ++ (rowL u d ws (ps.map fun p => (bx p, pic p))).map encR)])
  | [], [], acc, x, y, _, _, _, _ => ⟨x, y, by simp [zipL, rowL]⟩
  | w :: ws, p :: ps, acc, x, y, hl, H, hw, hz => by
    simp only [List.length_cons] at hz
    obtain ⟨h1, h2, h3, h4, h5, h6⟩ := H p (by simp)
    obtain ⟨x', y', ih⟩ := rowW h m (S := S) (R := R) (V := V) (F := F) (K := K) u0 u1 d0 d1 st ws ps (acc ++ [encR ((raise (bx p) (pic p) u d).map (padL w.toNat))] ++ [encR (blks 2 (u + d + 1).toNat)]) (some (enc p)) (some (.int w)) (by simpa using hl) (fun q hq => H q (by simp [hq])) (fun i w p hw' hp' => hw (i + 1) w p (by simpa using hw') (by simpa using hp')) (by simp; omega)
    refine ⟨x', y', ?_⟩
    have hww := hw 0 w p rfl rfl
    have hnn := bx_nonneg h1
    have ri := raise_is (u := u) (d := d) (pic_is h1 h2) hnn.2.1 hnn.2.2 h3 h4
    have b2 := fun st => blanks_ok h (m + 1) (w := 2) (k := u + d + 1) (by omega) (by omega) (by omega) (by omega) st
    have r1 := fun st => raised_ok h m p h1 h2 h3 u1 h4 d1 h5 h6 st
    have z1 : (raise (bx p) (pic p) u d).length ≤ 16777216 := by rw [ri.h]; omega
    have z3 : acc.length < 16777216 := by omega
    have z4 : acc.length + 1 < 16777216 := by omega
    have e2 : (2 : Int).toNat = 2 := rfl
    rw [e2] at b2
    simp only [inB, Fn.f_table_picture] at ih ⊢
    simp only [List.map_cons, zipL, rowL]
    simp [r1, SZ_val, z1]
    rw [comp_map PV.str (fun l => .str (padL w.toNat l)) (raise (bx p) (pic p) u d) (fun l hl => by
      have := ri.w l hl
      have pd := padded_ok h (m + 1) (w := w) (l := l) (by omega) hww.2 (st ++ [.lst acc])
      simp [pd])]
    simp [SZ_val, z1, z3, b2, z4]
    simp [encR, Function.comp_def] at ih ⊢
    exact ih
  | [], _ :: _, _, _, _, h, _, _, _ => by simp at h
  | _ :: _, [], _, _, _, h, _, _, _ => by simp at h
def accJ (W : Nat) : Nat → Rows → List Rows → Rows
  | _, F, [] => F
  | 0, F, r :: rs => accJ W 1 (F ++ r) rs
  | k + 1, F, r :: rs => accJ W (k + 2) (F ++ blks W 1 ++ r) rs
theorem accJ_s (W : Nat) : ∀ (rs : List Rows) (k : Nat) (F : Rows), accJ W (k + 1) F rs = F ++ (rs.map fun x => blks W 1 ++ x).flatten
  | [], k, F => by simp [accJ]
  | r :: rs, k, F => by simp [accJ, accJ_s W rs (k + 1)]
theorem accJ_0 (W : Nat) (rs : List Rows) : accJ W 0 [] rs = tabJ W rs := by
  cases rs with
  | nil => rfl
  | cons r rs => simp [accJ, tabJ, accJ_s W rs 0]
def outB : PS := match Fn.f_table_picture.body with | .seq _ (.seq _ (.seq _ (.seq (.fr _ _ b) _))) => b | _ => .skip
def rowR (ws : List Int) (row : List Sm) : Rows := bes (rowL (rowH (row.map bx)).1 (rowH (row.map bx)).2 ws (row.map fun p => (bx p, pic p))).dropLast
theorem cut_init {α : Type} (xs : List α) : cutL xs none (some (-1)) = xs.dropLast := by
  rcases List.eq_nil_or_concat xs with rfl | ⟨v, x, rfl⟩
  · rfl
  · rw [List.concat_eq_append, cut_last]; simp
theorem derefC (st cs : Sto) (xs : List PV) : deref (st ++ (cs ++ [.lst xs])) (.ref (st.length + cs.length)) = .lst xs := by
  have := deref_cat (st ++ cs) xs []
  rw [List.append_assoc, List.length_append] at this
  exact this
theorem tabW_loop (h : PicT T) (m : Nat) {S : Option PV} {c : Nat} (hc : 1 ≤ c) (hc2 : c ≤ 1000) {all : List (List Sm)} (hall : all.length ≤ 1000) (ws : List Int) (hws : ws.length = c) (hwn : ∀ w ∈ ws, 0 ≤ w ∧ w ≤ 100000) (hW : 0 ≤ ws.sum + 2 * ((c : Int) - 1) ∧ ws.sum + 2 * ((c : Int) - 1) ≤ 100000) (st : Sto) :
    ∀ (rs : List (List Sm)) (k : Nat) (F : Rows) (cs : Sto) (x4 x5 x6 x7 x8 x9 : Option PV), (∀ (i : Nat) (row : List Sm), rs[i]? = some row → all[k + i]? = some row) →
    (∀ row ∈ rs, row.length = c ∧ (∀ p ∈ row, Sh p ∧ Wl p ∧ BoxAt T (m + 1) p ∧ PicAt T (m + 1) p) ∧ (∀ (i : Nat) (w : Int) (p : Sm), ws[i]? = some w → row[i]? = some p → (bx p).w ≤ w)) → F.length ≤ 2001 * k → k + rs.length ≤ 1000 →
    ∃ cs' y4 y5 y6 y7 y8 y9, forL (forF (callF T (m + 2)) (.tp (.cons (.nm 4) (.cons (.tp (.cons (.nm 6) (.cons (.nm 7) .nil))) .nil))) outB) (enumL k ((rs.map fun row => rowH (row.map bx)).map fun p => .tup [.int p.1, .int p.2])) [S, some (.tup (all.map fun r => .tup (r.map enc))), some (.lst (ws.map .int)), some (encR F), x4, x5, x6, x7, x8, x9, none] (st ++ cs) =
      .next [S, some (.tup (all.map fun r => .tup (r.map enc))), some (.lst (ws.map .int)), some (encR (accJ (ws.sum + 2 * ((c : Int) - 1)).toNat k F (rs.map (rowR ws)))), y4, y5, y6, y7, y8, y9, none] (st ++ cs')
  | [], k, F, cs, x4, x5, x6, x7, x8, x9, _, _, _, _ => ⟨cs, x4, x5, x6, x7, x8, x9, by simp [enumL, accJ]⟩
  | row :: rs, k, F, cs, x4, x5, x6, x7, x8, x9, hix, H, hF, hk => by
    simp only [List.length_cons] at hk
    obtain ⟨hrl, hrp, hrw⟩ := H row (by simp)
    have hnn := rowH_nn (row := row.map bx) (fun b hb => by obtain ⟨p, hp, rfl⟩ := List.mem_map.mp hb; exact bx_nonneg (hrp p hp).1)
    have hu : (rowH (row.map bx)).1 ≤ 400 := maxL_le0 (by omega) fun i hi => by
      obtain ⟨b, hb, rfl⟩ := List.mem_map.mp hi
      obtain ⟨p, hp, rfl⟩ := List.mem_map.mp hb
      exact (hrp p hp).2.1.b.2.1
    have hd : (rowH (row.map bx)).2 ≤ 400 := maxL_le0 (by omega) fun i hi => by
      obtain ⟨b, hb, rfl⟩ := List.mem_map.mp hi
      obtain ⟨p, hp, rfl⟩ := List.mem_map.mp hb
      exact (hrp p hp).2.1.b.2.2
    have hle : ∀ p ∈ row, (bx p).u ≤ (rowH (row.map bx)).1 ∧ (bx p).d ≤ (rowH (row.map bx)).2 := fun p hp => rowH_le (List.mem_map_of_mem hp)
    have hP : Pics (row.map fun p => (bx p, pic p)) := fun q hq => by
      obtain ⟨p, hp, rfl⟩ := List.mem_map.mp hq
      exact ⟨pic_is (hrp p hp).1 (hrp p hp).2.1, bx_nonneg (hrp p hp).1⟩
    have hi := rowL_is (u := (rowH (row.map bx)).1) (d := (rowH (row.map bx)).2) hnn.1 hnn.2 (ws := ws) (ps := row.map fun p => (bx p, pic p)) (by simp [hrl, hws]) hP (fun q hq => by
      obtain ⟨p, hp, rfl⟩ := List.mem_map.mp hq
      exact hle p hp) (fun i w q hw hq => by
      rw [List.getElem?_map] at hq
      cases e : row[i]? with
      | none => rw [e] at hq; cases hq
      | some p => rw [e] at hq; simp at hq; subst hq; exact hrw i w p hw e)
    generalize hU : (rowH (row.map bx)).1 = U at *
    generalize hD : (rowH (row.map bx)).2 = D at *
    have hi2 := hi.dropLast
    have hwf := wflat ws (fun z => by rw [z] at hws; simp at hws; omega) (fun w hw => (hwn w hw).1)
    rw [hws] at hwf
    have hne : (rowL U D ws (row.map fun p => (bx p, pic p))).dropLast ≠ [] := by
      cases e : ws with
      | nil => rw [e] at hws; simp at hws; omega
      | cons w ws =>
        cases e2 : row with
        | nil => rw [e2] at hrl; simp at hrl; omega
        | cons p ps => simp [rowL]
    have hbes := fun st => beside_ok h (m + 1) (hh := (U + D + 1).toNat) (by omega) hne hi2 (by omega) st
    have hbi := bes_is hne hi2
    have hrr : rowR ws row = bes (rowL U D ws (row.map fun p => (bx p, pic p))).dropLast := by simp only [rowR, hU, hD]
    have hrrl : (rowR ws row).length ≤ 2000 := by rw [hrr, hbi.h]; omega
    obtain ⟨x', y', hin⟩ := rowW h m (S := S) (R := some (.tup (all.map fun r => .tup (r.map enc)))) (V := some (.lst (ws.map .int))) (F := some (encR F)) (K := some (.int (k : Int))) hnn.1 hu hnn.2 hd (st ++ cs) ws row [] x8 x9 (by rw [hrl, hws]) (fun p hp => ⟨(hrp p hp).1, (hrp p hp).2.1, (hle p hp).1, (hle p hp).2, (hrp p hp).2.2⟩) (fun i w p hw hp => ⟨hrw i w p hw hp, (hwn w (List.mem_of_getElem? hw)).2⟩) (by simp; omega)
    have hat : L2.atI (all.map fun r => PV.tup (r.map enc)) (k : Int) = some (.tup (row.map enc)) := by
      refine atI_nat ?_
      have := hix 0 row rfl
      simp only [Nat.add_zero] at this
      rw [List.getElem?_map, this]; rfl
    have hsum := sum_map (fun (x : Int) => x) ws
    simp only [List.map_id'] at hsum
    have hbl := fun st => blanks_ok h (m + 1) (w := ws.sum + 2 * ((c : Int) - 1)) (k := 1) hW.1 hW.2 (by omega) (by omega) st
    have s2 : small64 2 = true := by decide
    have e1 : (1 : Int).toNat = 1 := rfl
    rw [e1] at hbl
    simp only [inB, Fn.f_table_picture] at hin
    simp only [outB, Fn.f_table_picture]
    simp only [List.map_cons, enumL, hU, hD]
    cases k with
    | zero =>
      obtain ⟨cs', y4, y5, y6, y7, y8, y9, ih⟩ := tabW_loop h m (S := S) hc hc2 hall ws hws hwn hW st rs 1 (F ++ rowR ws row) (cs ++ [.lst ((rowL U D ws (row.map fun p => (bx p, pic p))).map encR)]) (some (.int ((0 : Nat) : Int))) (some (.ref (st ++ cs).length)) (some (.int U)) (some (.int D)) x' y' (fun i r hr => by have := hix (i + 1) r (by simpa using hr); rwa [show 0 + (i + 1) = 1 + i by omega] at this) (fun r hr => H r (by simp [hr])) (by simp; omega) (by omega)
      refine ⟨cs', y4, y5, y6, y7, y8, y9, ?_⟩
      have z1 : F.length + (rowR ws row).length ≤ 16777216 := by omega
      simp only [outB, Fn.f_table_picture] at ih
      simp only [accJ]
      simp at hat hin
      simp [hat, SZ_val]
      rw [hin]
      simp [cut_init] at hbes
      simp [derefC, cut_init, hbes, ← hrr, SZ_val, encR, z1]
      simp [encR] at ih
      exact ih
    | succ k =>
      obtain ⟨cs', y4, y5, y6, y7, y8, y9, ih⟩ := tabW_loop h m (S := S) hc hc2 hall ws hws hwn hW st rs (k + 2) (F ++ blks (ws.sum + 2 * ((c : Int) - 1)).toNat 1 ++ rowR ws row) (cs ++ [.lst ((rowL U D ws (row.map fun p => (bx p, pic p))).map encR)]) (some (.int ((k + 1 : Nat) : Int))) (some (.ref (st ++ cs).length)) (some (.int U)) (some (.int D)) x' y' (fun i r hr => by have := hix (i + 1) r (by simpa using hr); rwa [show k + 1 + (i + 1) = k + 2 + i by omega] at this) (fun r hr => H r (by simp [hr])) (by simp [blks]; omega) (by omega)
      refine ⟨cs', y4, y5, y6, y7, y8, y9, ?_⟩
      have z0 : F.length + 1 ≤ 16777216 := by omega
      have z1 : F.length + 1 + (rowR ws row).length ≤ 16777216 := by omega
      have z2 : F.length + ((rowR ws row).length + 1) ≤ 16777216 := by omega
      have z3 : F.length + (1 + (rowR ws row).length) ≤ 16777216 := by omega
      have hk0 : (0 : Int) < ((k + 1 : Nat) : Int) := by omega
      simp only [outB, Fn.f_table_picture] at ih
      simp only [accJ]
      simp at hat hin
      have hsum2 : bSum [.lst (ws.map .int)] = some (.int ws.sum) := hsum
      have hW1 : ((ws.map PV.int).length : Int) = (c : Int) := by simp [hws]
      simp [hat, SZ_val]
      rw [hin]
      have hk1 : (0 : Int) < (k : Int) + 1 := by omega
      simp [cut_init] at hbes
      simp [hk1, hsum2, hws, s2, hbl, SZ_val, encR, blks, z0, derefC, cut_init, hbes, ← hrr, z1, z2, z3]
      simp [encR, blks] at ih
      exact ih
theorem table_pic_ok (h : PicT T) (m : Nat) {r c : Nat} {ps : List Sm} (hs : Sh (.nd (.table r c) ps)) (hw : Wl (.nd (.table r c) ps)) (H : ∀ p ∈ ps, BoxAt T (m + 1) p ∧ PicAt T (m + 1) p) (st : Sto) :
    callF T (m + 3) 50 [enc (.nd (.table r c) ps)] st = .ok (encR (pic (.nd (.table r c) ps))) st := by
  rw [callF_of h.table_picture, runD_of rfl]
  obtain ⟨h1, h2, h3⟩ := hs.kd
  have hlen := hs.len
  have hbb := hw.b
  have hpi := pic_is hs hw
  have hc : c ≤ 1000 := by
    have : 1 * c ≤ r * c := Nat.mul_le_mul_right c h1
    omega
  have hr : r ≤ 1000 := by
    have : r * 1 ≤ r * c := Nat.mul_le_mul_left r h2
    omega
  have hmem : ∀ row ∈ chunk r c ps, ∀ p ∈ row, p ∈ ps := chunk_mem r c ps
  have hrl : ∀ row ∈ chunk r c ps, row.length = c := chunk_each r c ps h3
  have hcl := chunk_length r c ps
  have q1 := columns_ok h.toBoxT (m + 1) c (chunk r c ps) (fun z => by rw [z] at hcl; simp at hcl; omega) hrl (by omega) hc (fun row hrow p hp => (H p (hmem row hrow p hp)).1) st
  have q2 := heights_ok h.toBoxT (m + 1) (chunk r c ps) (fun row hrow => ⟨fun z => by have := hrl row hrow; rw [z] at this; simp at this; omega, by rw [hrl row hrow]; exact hc⟩) (by omega) (fun row hrow p hp => (H p (hmem row hrow p hp)).1) st
  have hnn : ∀ row ∈ (chunk r c ps).map (List.map bx), ∀ b ∈ row, 0 ≤ b.w ∧ 0 ≤ b.u ∧ 0 ≤ b.d := fun row hrow b hb => by
    obtain ⟨row', h4, rfl⟩ := List.mem_map.mp hrow
    obtain ⟨p, hp, rfl⟩ := List.mem_map.mp hb
    exact bx_nonneg (hs.mem p (hmem row' h4 p hp))
  have hwn := cols_nn hnn (c := c)
  have hws := sum_nonneg hwn
  have hwl : (colsW c ((chunk r c ps).map (List.map bx))).length = c := by simp [colsW]
  have hwu : ∀ w ∈ colsW c ((chunk r c ps).map (List.map bx)), w ≤ 100000 := fun w hw' => by
    unfold colsW at hw'
    obtain ⟨k, _, rfl⟩ := List.mem_map.mp hw'
    refine maxL_le0 (by omega) fun j hj => ?_
    obtain ⟨row, hrow, rfl⟩ := List.mem_map.mp hj
    refine getD_all (P := fun b : Bx => b.w ≤ 100000) (fun b hb => ?_) (by simp only; omega) k
    obtain ⟨row', h4, rfl⟩ := List.mem_map.mp hrow
    obtain ⟨p, hp, rfl⟩ := List.mem_map.mp hb
    exact (hw.mem p (hmem row' h4 p hp)).b.1
  have hbw : (bx (.nd (.table r c) ps)).w = (colsW c ((chunk r c ps).map (List.map bx))).sum + 2 * ((c : Int) - 1) + 2 := by
    rw [bx_nd]
    simp only [bxK, tabBx, chunk_map]
  have hpe : pic (.nd (.table r c) ps) = (tabJ ((colsW c ((chunk r c ps).map (List.map bx))).sum + 2 * ((c : Int) - 1)).toNat ((chunk r c ps).map (rowR (colsW c ((chunk r c ps).map (List.map bx)))))).map fun l => 91 :: (l ++ [93]) := by
    rw [pic_nd]
    simp only [picK, tabW, tabP, List.zip_map', chunk_map, List.map_map]
    congr 2
    refine List.map_congr_left fun row hrow => ?_
    simp only [Function.comp_def, rowR, List.map_map]
  generalize hgw : colsW c ((chunk r c ps).map (List.map bx)) = ws at *
  obtain ⟨cs', y4, y5, y6, y7, y8, y9, q3⟩ := tabW_loop h m (S := some (enc (.nd (.table r c) ps))) h2 hc (all := chunk r c ps) (by omega) ws hwl (fun w hw' => ⟨hwn w hw', hwu w hw'⟩) ⟨by omega, by omega⟩ st (chunk r c ps) 0 [] [] none none none none none none (fun i row hrow => by rw [Nat.zero_add]; exact hrow) (fun row hrow => ⟨hrl row hrow, fun p hp => ⟨hs.mem p (hmem row hrow p hp), hw.mem p (hmem row hrow p hp), H p (hmem row hrow p hp)⟩, fun i w p hw' hp => by
    rw [← hgw] at hw'
    exact cols_ge (List.mem_map_of_mem hrow) hw' (by rw [List.getElem?_map, hp]; rfl)⟩) (by simp) (by omega)
  rw [accJ_0] at q3
  have hrh : rowsH ((chunk r c ps).map (List.map bx)) = (chunk r c ps).map fun row => rowH (row.map bx) := by rw [rowsH_eq, List.map_map]; rfl
  rw [hrh] at q2
  rw [hpe] at hpi ⊢
  revert hpi q3
  generalize tabJ (ws.sum + 2 * ((c : Int) - 1)).toNat ((chunk r c ps).map (rowR ws)) = J
  intro hpi q3
  have hJl : J.length ≤ 2000 := by
    have := hpi.h
    simp only [List.length_map] at this
    rw [this]; unfold Bx.rows; omega
  have hJw : ∀ l ∈ J, l.length + 2 ≤ 100000 := fun l hl => by
    have := hpi.w (91 :: (l ++ [93])) (List.mem_map_of_mem hl)
    simp at this
    omega
  have z1 : J.length ≤ 16777216 := by omega
  simp only [outB, Fn.f_table_picture] at q3
  rw [enc_nd] at q3 ⊢
  simp only [encK, chunk_map, List.map_map] at q3 ⊢
  simp only [Function.comp_def] at q3 ⊢
  simp [Function.comp_def] at q1 q2
  simp [Fn.f_table_picture, start, q1, q2, SZ_val]
  simp [Function.comp_def, encR] at q3
  rw [q3]
  simp [SZ_val, z1]
  rw [comp_map PV.str (fun l => .str (91 :: (l ++ [93]))) J (fun l hl => by
    have := hJw l hl
    have z2 : l.length + 1 ≤ 16777216 := by omega
    have z3 : l.length + 1 + 1 ≤ 16777216 := by omega
    have z4 : 1 + l.length ≤ 16777216 := by omega
    have z5 : l.length ≤ 16777215 := by omega
    have z6 : l.length + 1 ≤ 16777215 := by omega
    simp [SZ_val, z2, z3, z4, z5, z6])]
  simp [SZ_val, z1]
  have e : encR (J.map fun l => 91 :: (l ++ [93])) = .tup (J.map fun l => .str (91 :: (l ++ [93]))) := by simp [encR, Function.comp_def]
  rw [← e]
  exact k_fnA (under_encR _ _)
/-- picture tells the picture -/
theorem picture_ok (h : PicT T) (s : Sm) (hs : Sh s) (hw : Wl s) : ∀ n, 3 * dp s + 2 ≤ n → PicAt T n s := by
  induction s using Sm.ind with
  | h k ps ih =>
    intro n hn st
    have hdp := dp_pos (.nd k ps)
    obtain ⟨m, rfl⟩ : ∃ m, n = m + 4 := ⟨n - 4, by omega⟩
    have hI : ∀ j, m + 1 ≤ j → ∀ p ∈ ps, BoxAt T j p ∧ PicAt T j p := fun j hj p hp => by
      have := dp_lt (k := k) hp
      exact ⟨box_ok h.toBoxT p (hs.mem p hp) j (by omega), ih p hp (hs.mem p hp) (hw.mem p hp) j (by omega)⟩
    have hb := box_ok h.toBoxT (.nd k ps) hs (m + 3) (by omega) st
    have hb2 := box_ok h.toBoxT (.nd k ps) hs (m + 2) (by omega)
    have hkind := kindS h.toKpT (m + 2) (.nd k ps) st
    have hbb := hw.b
    have hnn := bx_nonneg hs
    have hpi := pic_is hs hw
    simp only [Sm.kd] at hkind
    simp only [encB] at hb
    rw [callF_of h.picture, runD_of rfl]
    cases k with
    | word t =>
      have hps : ps = [] := List.eq_nil_of_length_eq_zero hs.kd
      subst hps
      have e : pic (.nd (.word t) []) = [t] := by rw [pic_nd]; rfl
      rw [e]
      rw [enc_nd] at hkind hb ⊢
      simp only [encK, Kd.name] at hkind hb ⊢
      simp [Fn.f_picture, start, hkind, hb, SZ_val, encR]
    | chain ss =>
      have q := chain_pic_ok h m hs hw hb2 (fun p hp => hI (m + 1) (by omega) p hp) st
      simp only [Kd.name] at hkind
      obtain ⟨vs, hv⟩ := enc_tup (.nd (.chain ss) ps)
      simp [Fn.f_picture, start, hkind, hb, q]
    | script u d =>
      have q := script_pic_ok h m hs hw hb2 (fun p hp => hI (m + 2) (by omega) p hp) st
      simp only [Kd.name] at hkind
      simp [Fn.f_picture, start, hkind, hb, q]
    | table r c =>
      have q := table_pic_ok h m hs hw (fun p hp => hI (m + 1) (by omega) p hp) st
      simp only [Kd.name] at hkind
      simp [Fn.f_picture, start, hkind, hb, q]
    | over =>
      obtain ⟨x, y, rfl⟩ := len2 hs.kd
      have px := (hI (m + 3) (by omega) x (by simp)).2 st
      have py := (hI (m + 3) (by omega) y (by simp)).2 st
      have ix := pic_is (hs.mem x (by simp)) (hw.mem x (by simp))
      have iy := pic_is (hs.mem y (by simp)) (hw.mem y (by simp))
      have nx := bx_nonneg (hs.mem x (by simp))
      have ny := bx_nonneg (hs.mem y (by simp))
      have bx' := (hw.mem x (by simp)).b
      have by' := (hw.mem y (by simp)).b
      have eW : (bx (.nd .over [x, y])).w = max (bx x).w (bx y).w + 2 := by rw [bx_nd]; rfl
      have eP : pic (.nd .over [x, y]) = (pic x).map (padL (bx (.nd .over [x, y])).w.toNat) ++ [List.replicate (bx (.nd .over [x, y])).w.toNat 45] ++ (pic y).map (padL (bx (.nd .over [x, y])).w.toNat) := by
        rw [pic_nd, bx_nd]; rfl
      rw [eP]
      generalize (bx (.nd .over [x, y])).w = W at *
      have zx : (pic x).length ≤ 2000 := by rw [ix.h]; unfold Bx.rows; omega
      have zy : (pic y).length ≤ 2000 := by rw [iy.h]; unfold Bx.rows; omega
      have z1 : (pic x).length ≤ 16777216 := by omega
      have z2 : (pic y).length ≤ 16777216 := by omega
      have z3 : (pic x).length + 1 ≤ 16777216 := by omega
      have z4 : (pic x).length + (1 + (pic y).length) ≤ 16777216 := by omega
      have z5 : (pic x).length + ((pic y).length + 1) ≤ 16777216 := by omega
      have z6 : (pic x).length + 1 + (pic y).length ≤ 16777216 := by omega
      have mb := mulBlk 45 (w := W) (by omega) (by omega)
      rw [enc_nd] at hkind hb ⊢
      simp only [encK, Kd.name, List.map_cons, List.map_nil] at hkind hb ⊢
      simp [Fn.f_picture, start, hkind, hb, SZ_val, px, py, z1, z2]
      rw [comp_map PV.str (fun l => .str (padL W.toNat l)) (pic x) (fun l hl => by
        have := ix.w l hl
        have pd := padded_ok h (m + 2) (w := W) (l := l) (by omega) (by omega) st
        simp [pd])]
      simp [SZ_val, py, z1, z2]
      rw [comp_map PV.str (fun l => .str (padL W.toNat l)) (pic y) (fun l hl => by
        have := iy.w l hl
        have pd := padded_ok h (m + 2) (w := W) (l := l) (by omega) (by omega) st
        simp [pd])]
      simp [SZ_val, z1, z2, mb, z3, z4, z5, z6, encR, Function.comp_def]
    | root =>
      obtain ⟨x, rfl⟩ := len1 hs.kd
      have px := (hI (m + 3) (by omega) x (by simp)).2 st
      have ix := pic_is (hs.mem x (by simp)) (hw.mem x (by simp))
      have nx := bx_nonneg (hs.mem x (by simp))
      have bx' := (hw.mem x (by simp)).b
      have eW : (bx (.nd .root [x])).w = (bx x).w + 1 := by rw [bx_nd]; rfl
      have eP : pic (.nd .root [x]) = (32 :: List.replicate ((bx (.nd .root [x])).w - 1).toNat 95) :: (pic x).map (fun l => 124 :: l) := by
        rw [pic_nd, bx_nd]; rfl
      rw [eP]
      generalize (bx (.nd .root [x])).w = W at *
      have zx : (pic x).length ≤ 2000 := by rw [ix.h]; unfold Bx.rows; omega
      have z1 : (pic x).length ≤ 16777216 := by omega
      have z3 : (pic x).length + 1 ≤ 16777216 := by omega
      have z4 : 1 + (pic x).length ≤ 16777216 := by omega
      have z5 : (pic x).length ≤ 16777215 := by omega
      have mb := mulBlk 95 (w := W - 1) (by omega) (by omega)
      have z6 : (W - 1).toNat + 1 ≤ 16777216 := by omega
      have z7 : 1 + (W - 1).toNat ≤ 16777216 := by omega
      have z8 : (W - 1).toNat ≤ 16777215 := by omega
      have z9 : W.toNat - 1 ≤ 16777215 := by omega
      have z10 : 1 + (W.toNat - 1) ≤ 16777216 := by omega
      rw [enc_nd] at hkind hb ⊢
      simp only [encK, Kd.name, List.map_cons, List.map_nil] at hkind hb ⊢
      simp [Fn.f_picture, start, hkind, hb, SZ_val, px, z1, mb, z6, z7, z8, z9, z10]
      rw [comp_map PV.str (fun l => .str (124 :: l)) (pic x) (fun l hl => by
        have := ix.w l hl
        have y1 : 1 + l.length ≤ 16777216 := by omega
        have y2 : l.length + 1 ≤ 16777216 := by omega
        have y3 : l.length ≤ 16777215 := by omega
        simp [SZ_val, y1, y2, y3])]
      simp [SZ_val, z1, z3, z4, z5, encR, Function.comp_def]
    | held =>
      obtain ⟨x, rfl⟩ := len1 hs.kd
      have px := (hI (m + 3) (by omega) x (by simp)).2 st
      have ix := pic_is (hs.mem x (by simp)) (hw.mem x (by simp))
      have bx' := (hw.mem x (by simp)).b
      have eP : pic (.nd .held [x]) = (pic x).map (fun l => 40 :: (l ++ [41])) := by
        rw [pic_nd]; rfl
      rw [eP]
      have zx : (pic x).length ≤ 2000 := by rw [ix.h]; unfold Bx.rows; omega
      have z1 : (pic x).length ≤ 16777216 := by omega
      rw [enc_nd] at hkind hb ⊢
      simp only [encK, Kd.name, List.map_cons, List.map_nil] at hkind hb ⊢
      simp [Fn.f_picture, start, hkind, hb, SZ_val, px, z1]
      rw [comp_map PV.str (fun l => .str (40 :: (l ++ [41]))) (pic x) (fun l hl => by
        have := ix.w l hl
        have y1 : 1 + l.length ≤ 16777216 := by omega
        have y2 : l.length + 1 ≤ 16777216 := by omega
        have y3 : l.length ≤ 16777215 := by omega
        have y4 : l.length + 1 ≤ 16777215 := by omega
        have y5 : l.length + 1 + 1 ≤ 16777216 := by omega
        simp [SZ_val, y1, y2, y3, y4, y5])]
      simp [SZ_val, z1, encR, Function.comp_def]
end
end SM

/-! PG: pictures of good sums; their signs. -/
namespace SM
open PL
theorem bx_tight {s : Sm} (h : Gd s) : (bx s).w + 3 ≤ 9 * 5 ^ (dp s - 1) ∧ (bx s).u + 1 ≤ 3 ^ (dp s - 1) ∧ (bx s).d + 1 ≤ 3 ^ (dp s - 1) := by
  induction s using Sm.ind with
  | h k ps ih =>
    have hk := h.kd
    by_cases hw : ∃ t, k = .word t
    · obtain ⟨t, rfl⟩ := hw
      have hps : ps = [] := hk.1
      subst hps
      rw [bx_nd]
      have e : dp (.nd (.word t) []) = 1 := by rw [dp_nd]; simp [maxN]
      rw [e]
      have := hk.2.2.1
      simp [bxK]
      omega
    · have hne : ps ≠ [] := fun z => by
        subst z
        cases k with
        | word t => exact hw ⟨t, rfl⟩
        | chain ss => have := hk.1; simp at this
        | over => cases hk
        | root => cases hk
        | held => cases hk
        | script u d => have := hk.2.1; simp at this; omega
        | table r c =>
          have h1 := hk.1.1
          have h2 := hk.2.1.1
          have := hk.2.2
          have h3 : 1 * 1 ≤ r * c := Nat.mul_le_mul h1 h2
          simp at this
          omega
      obtain ⟨j, hj⟩ : ∃ j, dp (.nd k ps) = j + 2 := by
        obtain ⟨p, r, rfl⟩ := List.exists_cons_of_ne_nil hne
        have h1 := dp_lt (k := k) (show p ∈ p :: r by simp)
        have h2 := dp_pos p
        exact ⟨dp (.nd k (p :: r)) - 2, by omega⟩
      rw [hj, show j + 2 - 1 = j + 1 by omega]
      have A1 : (1 : Int) ≤ 5 ^ j := Int.pow_pos (by omega)
      have B1 : (1 : Int) ≤ 3 ^ j := Int.pow_pos (by omega)
      have hA : (5 : Int) ^ (j + 1) = 5 ^ j * 5 := Int.pow_succ _ _
      have hB : (3 : Int) ^ (j + 1) = 3 ^ j * 3 := Int.pow_succ _ _
      rw [hA, hB]
      have H : ∀ b ∈ ps.map bx, b.w ≤ 9 * 5 ^ j - 3 ∧ b.u ≤ 3 ^ j - 1 ∧ b.d ≤ 3 ^ j - 1 := fun b hb => by
        obtain ⟨p, hp, rfl⟩ := List.mem_map.mp hb
        have h1 := ih p hp (h.mem p hp)
        have h2 := dp_lt (k := k) hp
        have h3 : (5 : Int) ^ (dp p - 1) ≤ 5 ^ j := by
          have : (5 : Nat) ^ (dp p - 1) ≤ 5 ^ j := Nat.pow_le_pow_right (by omega) (by omega)
          exact_mod_cast this
        have h4 : (3 : Int) ^ (dp p - 1) ≤ 3 ^ j := by
          have : (3 : Nat) ^ (dp p - 1) ≤ 3 ^ j := Nat.pow_le_pow_right (by omega) (by omega)
          exact_mod_cast this
        omega
      have hl : (ps.map bx).length = ps.length := List.length_map _
      rw [bx_nd]
      revert H hl
      generalize ps.map bx = bs
      generalize (5 : Int) ^ j = A at A1
      generalize (3 : Int) ^ j = B at B1
      intro H hl
      have G : ∀ i : Nat, (bs.getD i ⟨0, 0, 0⟩).w ≤ 9 * A - 3 ∧ (bs.getD i ⟨0, 0, 0⟩).u ≤ B - 1 ∧ (bs.getD i ⟨0, 0, 0⟩).d ≤ B - 1 := fun i => getD_all (P := fun b : Bx => b.w ≤ 9 * A - 3 ∧ b.u ≤ B - 1 ∧ b.d ≤ B - 1) H ⟨by simp only; omega, by simp only; omega, by simp only; omega⟩ i
      have mU : maxL (bs.map (·.u)) ≤ B - 1 := maxL_le0 (by omega) fun i hi => by
        obtain ⟨b, hb, rfl⟩ := List.mem_map.mp hi
        exact (H b hb).2.1
      have mD : maxL (bs.map (·.d)) ≤ B - 1 := maxL_le0 (by omega) fun i hi => by
        obtain ⟨b, hb, rfl⟩ := List.mem_map.mp hi
        exact (H b hb).2.2
      have mW : maxL ((bs.drop 1).map (·.w)) ≤ 9 * A - 3 := maxL_le0 (by omega) fun i hi => by
        obtain ⟨b, hb, rfl⟩ := List.mem_map.mp hi
        exact (H b (List.mem_of_mem_drop hb)).1
      have sW : (bs.map (·.w)).sum ≤ (bs.map (·.w)).length * (9 * A - 3) := sum_leI fun i hi => by
        obtain ⟨b, hb, rfl⟩ := List.mem_map.mp hi
        exact (H b hb).1
      rw [List.length_map] at sW
      have g0 := G 0
      have g1 := G 1
      have g2 := G 2
      cases k with
      | word t => exact absurd ⟨t, rfl⟩ hw
      | chain ss =>
        have h1 := hk.1
        have h2 := hk.2.2.1
        have := mulB (n := bs.length) (B := 9 * A - 3) (by omega) (c := 5) (by omega)
        simp only [bxK]
        omega
      | over => simp only [bxK, Bx.rows]; omega
      | root => simp only [bxK]; omega
      | held => simp only [bxK]; omega
      | script u d => cases u <;> cases d <;> simp only [bxK, Bx.rows, if_true, if_false, Bool.false_eq_true] <;> omega
      | table r c =>
        obtain ⟨hr, hc, _⟩ := hk
        simp only [bxK, tabBx]
        have a1 : (colsW c (chunk r c bs)).sum ≤ (colsW c (chunk r c bs)).length * (9 * A - 3) := sum_leI fun i hi => by
          unfold colsW at hi
          obtain ⟨k, _, rfl⟩ := List.mem_map.mp hi
          refine maxL_le0 (by omega) fun j hj => ?_
          obtain ⟨row, hrow, rfl⟩ := List.mem_map.mp hj
          exact (getD_all (P := fun b : Bx => b.w ≤ 9 * A - 3) (fun b hb => (H b (chunk_mem r c bs row hrow b hb)).1) (by simp only; omega) k)
        have a3 : (colsW c (chunk r c bs)).length = c := by simp [colsW]
        rw [a3] at a1
        have a2 := sum_leI (l := (rowsH (chunk r c bs)).map fun p => p.1 + p.2 + 1) (m := 2 * B - 1) fun i hi => by
          obtain ⟨p, hp, rfl⟩ := List.mem_map.mp hi
          obtain ⟨row, hrow, rfl⟩ := List.mem_map.mp hp
          have x1 : maxL (row.map (·.u)) ≤ B - 1 := maxL_le0 (by omega) fun i hi => by
            obtain ⟨b, hb, rfl⟩ := List.mem_map.mp hi
            exact (H b (chunk_mem r c bs row hrow b hb)).2.1
          have x2 : maxL (row.map (·.d)) ≤ B - 1 := maxL_le0 (by omega) fun i hi => by
            obtain ⟨b, hb, rfl⟩ := List.mem_map.mp hi
            exact (H b (chunk_mem r c bs row hrow b hb)).2.2
          simp only
          omega
        have a4 : ((rowsH (chunk r c bs)).map fun p => p.1 + p.2 + 1).length = r := by simp [rowsH, chunk_length]
        rw [a4] at a2
        have a5 := chunk_length r c bs
        rw [a5]
        have b1 := mulB (n := c) (B := 9 * A - 3) (by omega) (c := 3) (by omega)
        have b2 := mulB (n := r) (B := 2 * B - 1) (by omega) (c := 3) (by omega)
        omega
theorem Gd.wl {s : Sm} (h : Gd s) (hd : dp s ≤ 6) : Wl s := by
  induction s using Sm.ind with
  | h k ps ih =>
    have ht := bx_tight h
    have h3 : (5 : Int) ^ (dp (.nd k ps) - 1) ≤ 5 ^ 5 := by
      have : (5 : Nat) ^ (dp (.nd k ps) - 1) ≤ 5 ^ 5 := Nat.pow_le_pow_right (by omega) (by omega)
      exact_mod_cast this
    have h4 : (3 : Int) ^ (dp (.nd k ps) - 1) ≤ 3 ^ 5 := by
      have : (3 : Nat) ^ (dp (.nd k ps) - 1) ≤ 3 ^ 5 := Nat.pow_le_pow_right (by omega) (by omega)
      exact_mod_cast this
    have e5 : (5 : Int) ^ 5 = 3125 := by decide
    have e3 : (3 : Int) ^ 5 = 243 := by decide
    refine .nd ?_ ⟨by omega, by omega, by omega⟩ fun p hp => ih p hp (h.mem p hp) (by have := dp_lt (k := k) hp; omega)
    have hk := h.kd
    cases k with
    | chain ss =>
      intro c hc
      have := hk.2.2.2.1 c hc
      simp [signs] at this
      rcases this with rfl | rfl | rfl | rfl | rfl <;> rfl
    | word t =>
      intro c hc
      have := hk.2.2.2 c hc
      simp [isLt] at this
      omega
    | _ => trivial
/-! signs of pictures -/
def Cl (l : List Nat) : Prop := ∀ c ∈ l, c < 256 ∧ c ≠ 10
def ClR (r : Rows) : Prop := ∀ l ∈ r, Cl l
theorem Cl.app {a b : List Nat} (x : Cl a) (y : Cl b) : Cl (a ++ b) := fun c hc => by
  rcases List.mem_append.mp hc with z | z
  · exact x c z
  · exact y c z
theorem cl_rep (n c : Nat) (h : c < 256 ∧ c ≠ 10) : Cl (List.replicate n c) := fun d hd => by rw [List.eq_of_mem_replicate hd]; exact h
theorem cl_blk (n : Nat) : Cl (blk n) := cl_rep n 32 (by omega)
theorem cl_blks (w k : Nat) : ClR (blks w k) := fun l hl => by rw [List.eq_of_mem_replicate hl]; exact cl_blk w
theorem ClR.app {a b : Rows} (x : ClR a) (y : ClR b) : ClR (a ++ b) := fun c hc => by
  rcases List.mem_append.mp hc with z | z
  · exact x c z
  · exact y c z
theorem ClR.map {r : Rows} (x : ClR r) {f : List Nat → List Nat} (hf : ∀ l, Cl l → Cl (f l)) : ClR (r.map f) := fun l hl => by
  obtain ⟨m, hm, rfl⟩ := List.mem_map.mp hl
  exact hf m (x m hm)
theorem cl_pad (w : Nat) (l : List Nat) (h : Cl l) : Cl (padL w l) := ((cl_blk _).app h).app (cl_blk _)
theorem cl_bes2 {a b : Rows} (x : ClR a) (y : ClR b) : ClR (bes2 a b) := fun l hl => by
  unfold bes2 at hl
  obtain ⟨i, hi, rfl⟩ := List.mem_iff_getElem.mp hl
  rw [List.getElem_zipWith]
  exact (x _ (List.getElem_mem _)).app (y _ (List.getElem_mem _))
theorem cl_besF : ∀ (rs : List Rows) (r : Rows), ClR r → (∀ x ∈ rs, ClR x) → ClR (rs.foldl bes2 r)
  | [], r, h, _ => h
  | a :: rs, r, h, H => cl_besF rs (bes2 r a) (cl_bes2 h (H a (by simp))) fun x hx => H x (by simp [hx])
theorem cl_bes {rs : List Rows} (H : ∀ x ∈ rs, ClR x) : ClR (bes rs) := by
  cases rs with
  | nil => intro l hl; cases hl
  | cons r rs => exact cl_besF rs r (H r (by simp)) fun x hx => H x (by simp [hx])
theorem cl_raise {b : Bx} {r : Rows} (u d : Int) (h : ClR r) : ClR (raise b r u d) := ((cl_blks _ _).app h).app (cl_blks _ _)
theorem cl_one {c : Nat} (h : c < 256 ∧ c ≠ 10) {l : List Nat} (hl : Cl l) : Cl (c :: l) := fun d hd => by
  rcases List.mem_cons.mp hd with z | z
  · rw [z]; exact h
  · exact hl d z
theorem cl_nil : Cl [] := fun _ h => by cases h
theorem cl_chL {u d : Int} : ∀ {ss : List (List Nat)} {ps : List (Bx × Rows)}, (∀ c ∈ ss, Cl c) → (∀ p ∈ ps, ClR p.2) → ∀ x ∈ chL u d ss ps, ClR x
  | [], _, _, _, x, hx => by simp [chL] at hx
  | _ :: _, [], _, _, x, hx => by simp [chL] at hx
  | c :: ss, p :: ps, hs, hp, x, hx => by
    simp only [chL, List.mem_cons] at hx
    rcases hx with rfl | rfl | hx
    · refine ((cl_blks _ _).app ?_).app (cl_blks _ _)
      intro l hl
      simp at hl
      subst hl
      exact cl_one (by omega) ((hs c (by simp)).app (cl_one (by omega) cl_nil))
    · exact cl_raise u d (hp p (by simp))
    · exact cl_chL (fun c hc => hs c (by simp [hc])) (fun q hq => hp q (by simp [hq])) x hx
theorem cl_rowL {u d : Int} : ∀ {ws : List Int} {ps : List (Bx × Rows)}, (∀ p ∈ ps, ClR p.2) → ∀ x ∈ rowL u d ws ps, ClR x
  | [], _, _, x, hx => by simp [rowL] at hx
  | _ :: _, [], _, x, hx => by simp [rowL] at hx
  | w :: ws, p :: ps, hp, x, hx => by
    simp only [rowL, List.mem_cons] at hx
    rcases hx with rfl | rfl | hx
    · exact (cl_raise u d (hp p (by simp))).map (cl_pad _)
    · exact cl_blks _ _
    · exact cl_rowL (fun q hq => hp q (by simp [hq])) x hx
theorem getD_cl {rs : List Rows} (H : ∀ r ∈ rs, ClR r) (i : Nat) : ClR (rs.getD i []) := getD_all (P := ClR) H (fun _ h => by cases h) i
theorem pic_cl {s : Sm} (h : Gd s) : ClR (pic s) := by
  induction s using Sm.ind with
  | h k ps ih =>
    have hk := h.kd
    have H : ∀ r ∈ ps.map pic, ClR r := fun r hr => by
      obtain ⟨p, hp, rfl⟩ := List.mem_map.mp hr
      exact ih p hp (h.mem p hp)
    rw [pic_nd]
    cases k with
    | word t =>
      intro l hl
      simp [picK] at hl
      subst hl
      intro c hc
      have := hk.2.2.2 c hc
      simp [isLt] at this
      omega
    | chain ss =>
      simp only [picK]
      have hz : ∀ p ∈ (ps.map bx).zip (ps.map pic), ClR p.2 := fun p hp => H p.2 (List.of_mem_zip hp).2
      refine cl_bes fun x hx => ?_
      rcases List.mem_append.mp hx with z | z
      · cases e : (ps.map bx).zip (ps.map pic) with
        | nil => rw [e] at z; simp at z
        | cons p r =>
          rw [e] at z
          simp at z
          subst z
          exact cl_raise _ _ (hz p (by rw [e]; simp))
      · exact cl_chL (fun c hc => by
          have := hk.2.2.2.1 c hc
          simp [signs] at this
          intro d hd
          rcases this with rfl | rfl | rfl | rfl | rfl <;> simp at hd <;> omega) (fun p hp => hz p (List.mem_of_mem_tail hp)) x z
    | over =>
      simp only [picK]
      refine (((getD_cl H 0).map (cl_pad _)).app ?_).app ((getD_cl H 1).map (cl_pad _))
      intro l hl
      simp at hl
      subst hl
      exact cl_rep _ _ (by omega)
    | root =>
      simp only [picK]
      intro l hl
      rcases List.mem_cons.mp hl with z | z
      · rw [z]; exact cl_one (by omega) (cl_rep _ _ (by omega))
      · exact (getD_cl H 0).map (f := fun l => 124 :: l) (fun l hl => cl_one (by omega) hl) l z
    | held =>
      simp only [picK]
      exact (getD_cl H 0).map fun l hl => cl_one (by omega) (hl.app (cl_one (by omega) cl_nil))
    | script u d =>
      simp only [picK]
      have side : ∀ (b w : Int) (i : Nat), ClR (((ps.map pic).getD i []).map fun l => blk b.toNat ++ l ++ blk (w - l.length).toNat) := fun b w i => (getD_cl H i).map fun l hl => ((cl_blk _).app hl).app (cl_blk _)
      have hn : ClR [] := fun _ h => by cases h
      refine (ClR.app ?_ (cl_bes2 (getD_cl H 0) ((getD_cl H 0).map fun l hl => cl_blk _))).app ?_
      · split
        · exact side _ _ _
        · exact hn
      · split
        · exact side _ _ _
        · exact hn
    | table r c =>
      simp only [picK]
      refine ClR.map ?_ fun l hl => cl_one (by omega) (hl.app (cl_one (by omega) cl_nil))
      have hrow : ∀ x ∈ tabP c (chunk r c ((ps.map bx).zip (ps.map pic))), ClR x := fun x hx => by
        unfold tabP at hx
        obtain ⟨row, hr, rfl⟩ := List.mem_map.mp hx
        refine cl_bes fun y hy => cl_rowL (fun p hp => ?_) y (List.dropLast_subset _ hy)
        exact H p.2 (List.of_mem_zip (chunk_mem r c _ row hr p hp)).2
      revert hrow
      generalize tabP c (chunk r c ((ps.map bx).zip (ps.map pic))) = rs
      intro hrow
      cases rs with
      | nil => intro l hl; cases hl
      | cons a rs =>
        refine (hrow a (by simp)).app ?_
        intro l hl
        obtain ⟨y, hy, hl⟩ := List.mem_flatten.mp hl
        obtain ⟨z, hz, rfl⟩ := List.mem_map.mp hy
        exact ((cl_blks _ _).app (hrow z (by simp [hz]))) l hl
theorem fine_strs {r : Rows} (h : ∀ l ∈ r, Cl l) : PV.fines (r.map .str) = true := fines_iff.mpr fun v hv => by
  obtain ⟨l, hl, rfl⟩ := List.mem_map.mp hv
  simp only [PV.fine]
  rw [List.all_eq_true]
  intro c hc
  have := h l hl c hc
  simp; omega
theorem deep_strs (r : Rows) : PV.deeps (r.map .str) = 0 := by
  induction r with
  | nil => simp [PV.deeps]
  | cons a r ih => simp [PV.deeps, PV.deep, ih]
theorem eq_lines {r : Rows} (h : ClR r) : eqV (.lst (r.map .str)) (.lst (r.map .str)) = some true := eqV_self (by simp only [PV.fine]; exact fine_strs h) (by simp [PV.deep, deep_strs])
theorem eq_rows {r : Rows} (h : ClR r) : eqV (encR r) (encR r) = some true := eqV_self (by simp only [encR, PV.fine]; exact fine_strs h) (by simp [encR, PV.deep, deep_strs])
end SM

/-! FM: where the parts of tables stand. -/
namespace SM
open PL
def encC (p : Int × Int) : PV := .tup [.int p.1, .int p.2]
def corL (t : Int) : Int → List Int → List Sm → List (Int × Int)
  | l, w :: ws, p :: ps => (l + (w - (bx p).w) / 2, t - (bx p).u) :: corL t (l + w + 2) ws ps
  | _, _, _ => []
def hOf (row : List Sm) : Int × Int := rowH (row.map bx)
def corR (ws : List Int) : Int → List (List Sm) → List (List (Int × Int))
  | _, [] => []
  | t, row :: rs => corL (t + (hOf row).1) 1 ws row :: corR ws (t + (hOf row).1 + (hOf row).2 + 2) rs
structure FrmT (T : Tab) : Prop extends BoxT T where
  part_at : T.lookup 26 = some Fn.f_part_at
  middle : T.lookup 57 = some Fn.f_middle
  table_corners : T.lookup 58 = some Fn.f_table_corners
  corners : T.lookup 60 = some Fn.f_corners
  frame : T.lookup 61 = some Fn.f_frame
section
variable {T : Tab}
theorem mid_ok (h : FrmT T) (n : Nat) (a b : Int) (st : Sto) : callF T (n + 1) 57 [.int a, .int b] st = .ok (.int ((a - b) / 2)) st := by
  rw [callF_of h.middle, runD_of rfl]
  simp [Fn.f_middle, start]
def tcI : PS := match Fn.f_table_corners.body with | .seq _ (.seq _ (.seq _ (.seq (.fr _ _ (.seq _ (.seq (.fr _ _ b) _))) _))) => b | _ => .skip
theorem tcIn (h : FrmT T) (m : Nat) {S R A U D : Option PV} {tp u : Int} (st : Sto) (hU : U = some (.int u)) : ∀ (ws : List Int) (ps : List Sm) (l : Int) (acc : List PV) (x y : Option PV), ps.length = ws.length → (∀ p ∈ ps, BoxAt T (m + 1) p) → acc.length + ws.length ≤ 16777216 →
    ∃ x' y' l', forL (forF (callF T (m + 1)) (.tp (.cons (.nm 8) (.cons (.nm 9) .nil))) tcI) (zipL (ps.map enc) (ws.map .int)) [S, R, some (.ref st.length), some (.int tp), A, some (.int l), U, D, x, y] (st ++ [.lst acc]) =
      .next [S, R, some (.ref st.length), some (.int tp), A, l', U, D, x', y'] (st ++ [.lst (acc ++ (corL (tp + u) l ws ps).map encC)])
  | [], [], l, acc, x, y, _, _, _ => ⟨x, y, some (.int l), by simp [zipL, corL]⟩
  | w :: ws, p :: ps, l, acc, x, y, hl, H, hz => by
    simp only [List.length_cons] at hz
    obtain ⟨x', y', l', ih⟩ := tcIn h m (S := S) (R := R) (A := A) (U := U) (D := D) (tp := tp) st hU ws ps (l + w + 2) (acc ++ [encC (l + (w - (bx p).w) / 2, tp + u - (bx p).u)]) (some (enc p)) (some (.int w)) (by simpa using hl) (fun q hq => H q (by simp [hq])) (by simp; omega)
    refine ⟨x', y', l', ?_⟩
    subst hU
    have hb := fun st => H p (by simp) st
    simp only [encB] at hb
    have hm := fun st => mid_ok h m w (bx p).w st
    have z3 : acc.length < 16777216 := by omega
    simp only [tcI, Fn.f_table_corners] at ih ⊢
    simp only [List.map_cons, zipL, corL]
    simp [hb, hm, SZ_val, z3]
    simp [encC] at ih ⊢
    exact ih
  | [], _ :: _, _, _, _, _, h, _, _ => by simp at h
  | _ :: _, [], _, _, _, _, h, _, _ => by simp at h
def tcO : PS := match Fn.f_table_corners.body with | .seq _ (.seq _ (.seq _ (.seq (.fr _ _ b) _))) => b | _ => .skip
theorem tcOut (h : FrmT T) (m : Nat) {S : Option PV} {c : Nat} (hc : c ≤ 1000) {all : PV} (ws : List Int) (hws : ws.length = c) (hcols : ∀ st, callF T (m + 1) 37 [all] st = .ok (.lst (ws.map .int)) st) (st : Sto) : ∀ (rs : List (List Sm)) (tp : Int) (acc : List PV) (x4 x5 x6 x7 x8 x9 : Option PV),
    (∀ row ∈ rs, row.length = c ∧ ∀ p ∈ row, BoxAt T (m + 1) p) → acc.length + rs.length * 1000 ≤ 16777216 → (hall : deref (st ++ [.lst acc]) all = all) → (∀ acc, deref (st ++ [.lst acc]) all = all) →
    ∃ y3 y4 y5 y6 y7 y8 y9, forL (forF (callF T (m + 1)) (.tp (.cons (.nm 4) (.cons (.tp (.cons (.nm 6) (.cons (.nm 7) .nil))) .nil))) tcO) (zipL (rs.map fun r => .tup (r.map enc)) ((rs.map hOf).map encC)) [S, some all, some (.ref st.length), some (.int tp), x4, x5, x6, x7, x8, x9] (st ++ [.lst acc]) =
      .next [S, some all, some (.ref st.length), y3, y4, y5, y6, y7, y8, y9] (st ++ [.lst (acc ++ (corR ws tp rs).flatten.map encC)])
  | [], tp, acc, x4, x5, x6, x7, x8, x9, _, _, _, _ => ⟨some (.int tp), x4, x5, x6, x7, x8, x9, by simp [zipL, corR]⟩
  | row :: rs, tp, acc, x4, x5, x6, x7, x8, x9, H, hz, hall, hall2 => by
    obtain ⟨hrl, hrb⟩ := H row (by simp)
    simp only [List.length_cons] at hz
    have hz' : acc.length + 1000 + rs.length * 1000 ≤ 16777216 := by omega
    obtain ⟨x', y', l', hin⟩ := tcIn h m (S := S) (R := some all) (A := some (.tup (row.map enc))) (U := some (.int (hOf row).1)) (D := some (.int (hOf row).2)) (tp := tp) (u := (hOf row).1) st rfl ws row 1 acc x8 x9 (by rw [hrl, hws]) hrb (by omega)
    have hlen : (corL (tp + (hOf row).1) 1 ws row).length ≤ 1000 := by
      have : ∀ (t l : Int) (ws : List Int) (ps : List Sm), (corL t l ws ps).length ≤ ps.length := by
        intro t l ws
        induction ws generalizing l with
        | nil => intro ps; simp [corL]
        | cons w ws ih => intro ps; cases ps with
          | nil => simp [corL]
          | cons p ps => simp only [corL, List.length_cons]; have := ih (l + w + 2) ps; omega
      have := this (tp + (hOf row).1) 1 ws row
      omega
    obtain ⟨y3, y4, y5, y6, y7, y8, y9, ih⟩ := tcOut h m (S := S) hc ws hws hcols st rs (tp + (hOf row).1 + (hOf row).2 + 2) (acc ++ (corL (tp + (hOf row).1) 1 ws row).map encC) (some (.tup (row.map enc))) l' (some (.int (hOf row).1)) (some (.int (hOf row).2)) x' y' (fun r hr => H r (by simp [hr])) (by simp; omega) (hall2 _) hall2
    refine ⟨y3, y4, y5, y6, y7, y8, y9, ?_⟩
    simp only [tcI, Fn.f_table_corners] at hin
    simp only [tcO, Fn.f_table_corners] at ih ⊢
    simp only [List.map_cons, zipL, corR, encC]
    simp [hcols]
    rw [hin]
    simp [encC] at ih ⊢
    exact ih
theorem under_encCs (n : Nat) (l : List (Int × Int)) : PV.unders n (l.map encC) = true := by
  induction l with
  | nil => simp [PV.unders]
  | cons a r ih => simp [PV.unders, encC, PV.under] at ih ⊢; exact ih
theorem tcor_ok (h : FrmT T) (m : Nat) {r c : Nat} {ps : List Sm} (hs : Sh (.nd (.table r c) ps)) (H : ∀ p ∈ ps, BoxAt T m p ∧ BoxAt T (m + 1) p) (st : Sto) :
    callF T (m + 2) 58 [enc (.nd (.table r c) ps)] st = .ok (.lst ((corR (colsW c ((chunk r c ps).map (List.map bx))) 0 (chunk r c ps)).flatten.map encC)) st := by
  rw [callF_of h.table_corners, runD_of rfl]
  obtain ⟨h1, h2, h3⟩ := hs.kd
  have hlen := hs.len
  have hc : c ≤ 1000 := by
    have : 1 * c ≤ r * c := Nat.mul_le_mul_right c h1
    omega
  have hr : r ≤ 1000 := by
    have : r * 1 ≤ r * c := Nat.mul_le_mul_left r h2
    omega
  have hmem : ∀ row ∈ chunk r c ps, ∀ p ∈ row, p ∈ ps := chunk_mem r c ps
  have hrl : ∀ row ∈ chunk r c ps, row.length = c := chunk_each r c ps h3
  have hcl := chunk_length r c ps
  have q1 := fun st => columns_ok h.toBoxT m c (chunk r c ps) (fun z => by rw [z] at hcl; simp at hcl; omega) hrl (by omega) hc (fun row hrow p hp => (H p (hmem row hrow p hp)).1) st
  have q2 := fun st => heights_ok h.toBoxT m (chunk r c ps) (fun row hrow => ⟨fun z => by have := hrl row hrow; rw [z] at this; simp at this; omega, by rw [hrl row hrow]; exact hc⟩) (by omega) (fun row hrow p hp => (H p (hmem row hrow p hp)).1) st
  have hwl : (colsW c ((chunk r c ps).map (List.map bx))).length = c := by simp [colsW]
  have hrh : rowsH ((chunk r c ps).map (List.map bx)) = (chunk r c ps).map hOf := by rw [rowsH_eq, List.map_map]; rfl
  rw [hrh] at q2
  obtain ⟨y3, y4, y5, y6, y7, y8, y9, q3⟩ := tcOut h m (S := some (enc (.nd (.table r c) ps))) hc (all := .tup ((chunk r c ps).map fun r => .tup (r.map enc))) (colsW c ((chunk r c ps).map (List.map bx))) hwl q1 st (chunk r c ps) 0 [] none none none none none none (fun row hrow => ⟨hrl row hrow, fun p hp => (H p (hmem row hrow p hp)).2⟩) (by simp; omega) rfl (fun _ => rfl)
  generalize colsW c ((chunk r c ps).map (List.map bx)) = ws at *
  simp only [tcO, Fn.f_table_corners] at q3
  rw [enc_nd] at q3 ⊢
  simp only [encK, chunk_map, List.map_map, Function.comp_def] at q3 ⊢
  have hze : zipL ((chunk r c ps).map fun r => PV.tup (r.map enc)) ((chunk r c ps).map fun x => encC (hOf x)) = zipL ((chunk r c ps).map fun r => PV.tup (r.map enc)) (((chunk r c ps).map hOf).map fun p => PV.tup [.int p.1, .int p.2]) := by
    rw [List.map_map]; rfl
  rw [hze] at q3
  simp [Fn.f_table_corners, start, SZ_val, q2]
  simp at q3
  rw [q3]
  simp
  refine k_fnA ?_
  have hu := under_encCs st.length (corR ws 0 (chunk r c ps)).flatten
  simp only [PV.under]
  simpa using hu
/-- the frame of a part of a table -/
theorem frame_tab (h : FrmT T) (n : Nat) {r c : Nat} {ps : List Sm} (hs : Sh (.nd (.table r c) ps)) (hd : dp (.nd (.table r c) ps) ≤ 6) (hn : 30 ≤ n) {i : Nat} {p : Sm} {x y : Int} (hp : ps[i]? = some p) (hc : (corR (colsW c ((chunk r c ps).map (List.map bx))) 0 (chunk r c ps)).flatten[i]? = some (x, y)) (st : Sto) :
    callF T n 61 [enc (.nd (.table r c) ps), encW [i]] st = .ok (.tup [.int x, .int y, .int (bx p).w, .int (bx p).rows]) st := by
  obtain ⟨n, rfl⟩ : ∃ j, n = j + 5 := ⟨n - 5, by omega⟩
  have hpm := List.mem_of_getElem? hp
  have hps := hs.mem p hpm
  have hdl : ∀ q ∈ ps, dp q ≤ 5 := fun q hq => by have := dp_lt (k := .table r c) hq; omega
  have hB : ∀ q ∈ ps, ∀ j, 15 ≤ j → BoxAt T j q := fun q hq j hj => box_ok h.toBoxT q (hs.mem q hq) j (by have := hdl q hq; omega)
  have hl : i < ps.length := (List.getElem?_eq_some_iff.mp hp).1
  have hle := hs.len
  have hpr : ∀ m st, callF T (m + 2) 21 [enc (.nd (.table r c) ps)] st = .ok (.tup (ps.map enc)) st := fun m st => parts_ok h.toKpT m (.nd (.table r c) ps) hs st
  have ha : L2.atI (ps.map enc) (i : Int) = some (enc p) := atI_nat (by rw [List.getElem?_map, hp]; rfl)
  have hpa : callF T (n + 4) 26 [enc (.nd (.table r c) ps), .tup [.int (i : Int)]] st = .ok (enc p) st := by
    rw [callF_of h.part_at, runD_of rfl]
    have hpr' := hpr (n + 1) st
    have h0 : (0 : Int) ≤ (i : Int) := by omega
    simp [Fn.f_part_at, start, hpr', hl, ha]
  have hk := kindS h.toKpT (n + 2) (.nd (.table r c) ps) st
  have hbx := box_ok h.toBoxT (.nd (.table r c) ps) hs (n + 3) (by omega) st
  have htc := tcor_ok h (n + 1) hs (fun q hq => ⟨hB q hq (n + 1) (by omega), hB q hq (n + 2) (by omega)⟩) st
  have hcor : callF T (n + 4) 60 [enc (.nd (.table r c) ps)] st = .ok (.lst ((corR (colsW c ((chunk r c ps).map (List.map bx))) 0 (chunk r c ps)).flatten.map encC)) st := by
    rw [callF_of h.corners, runD_of rfl]
    simp only [Sm.kd, Kd.name] at hk
    simp only [encB] at hbx
    simp [Fn.f_corners, start, hk, hbx, htc]
  have hat : L2.atI ((corR (colsW c ((chunk r c ps).map (List.map bx))) 0 (chunk r c ps)).flatten.map encC) (i : Int) = some (encC (x, y)) := atI_nat (by rw [List.getElem?_map, hc]; rfl)
  have hbp := hB p hpm (n + 4) (by omega) st
  have hrp := rows_ok h.toBoxT (n + 3) (bx p) st
  simp only [encB] at hbp hrp
  have hpr' := hpr (n + 2) st
  have ew : encW [i] = .tup [.int (i : Int)] := rfl
  rw [ew, callF_of h.frame, runD_of rfl]
  generalize (corR (colsW c ((chunk r c ps).map (List.map bx))) 0 (chunk r c ps)).flatten.map encC = Z at *
  simp [Fn.f_frame, start, hpa, SZ_val, hcor, hat, encC, hpr', ha, hbp, hrp]
end
end SM

/-! K38: tables about. -/
namespace SM
open PL
theorem maxL_congr {l m : List Int} (h : ∀ x, x ∈ l ↔ x ∈ m) : maxL l = maxL m := by
  cases l with
  | nil =>
    cases m with
    | nil => rfl
    | cons a r => have := (h a).mpr (by simp); simp at this
  | cons a r =>
    cases m with
    | nil => have := (h a).mp (by simp); simp at this
    | cons b s =>
      refine Int.le_antisymm ?_ ?_
      · exact maxL_le (by simp) fun y hy => maxL_ge ((h y).mp hy)
      · exact maxL_le (by simp) fun y hy => maxL_ge ((h y).mpr hy)
theorem hOf_rev (row : List Sm) : hOf row.reverse = hOf row := by
  unfold hOf rowH
  refine Prod.ext ?_ ?_
  · exact maxL_congr fun x => by simp
  · exact maxL_congr fun x => by simp
def wsOf (c : Nat) (rows : List (List Sm)) : List Int := colsW c (rows.map (List.map bx))
theorem ws_len (c : Nat) (rows : List (List Sm)) : (wsOf c rows).length = c := by simp [wsOf, colsW]
theorem ws_about (c : Nat) (rows : List (List Sm)) : wsOf c rows.reverse = wsOf c rows := by
  unfold wsOf colsW
  refine List.map_congr_left fun k _ => ?_
  exact maxL_congr fun x => by simp
theorem ws_more (c : Nat) {rows : List (List Sm)} {row : List Sm} (h : row ∈ rows) : wsOf c (rows ++ [row]) = wsOf c rows := by
  unfold wsOf colsW
  refine List.map_congr_left fun k _ => ?_
  refine maxL_congr fun x => ?_
  constructor
  · intro hx
    simp only [List.map_append, List.map_cons, List.map_nil, List.mem_append] at hx
    rcases hx with z | z
    · exact z
    · simp only [List.mem_singleton] at z
      rw [z]
      simp only [List.map_map]
      exact List.mem_map.mpr ⟨row, h, rfl⟩
  · intro hx
    simp only [List.map_append, List.mem_append]
    exact .inl hx
theorem ws_turn {c : Nat} {rows : List (List Sm)} (h : ∀ row ∈ rows, row.length = c) : wsOf c (rows.map List.reverse) = (wsOf c rows).reverse := by
  refine List.ext_getElem (by simp [ws_len]) fun k h1 h2 => ?_
  rw [ws_len] at h1
  rw [List.getElem_reverse]
  simp only [wsOf, colsW, List.getElem_map, List.getElem_range, List.length_map, List.length_range, List.map_map]
  congr 1
  refine List.map_congr_left fun row hr => ?_
  have hl := h row hr
  simp only [Function.comp, List.map_reverse]
  rw [List.getD_eq_getElem?_getD, List.getD_eq_getElem?_getD, List.getElem?_reverse (by simp [hl]; exact h1)]
  simp [hl]
theorem sum_rev (l : List Int) : l.reverse.sum = l.sum := by
  induction l with
  | nil => rfl
  | cons a r ih => simp [ih]; omega
def tb (c : Nat) (rows : List (List Sm)) : Sm := .nd (.table rows.length c) rows.flatten
theorem tb_chunk {c : Nat} {rows : List (List Sm)} (h : ∀ row ∈ rows, row.length = c) : chunk rows.length c rows.flatten = rows := chunk_of rows c h
theorem tb_bx {c : Nat} {rows : List (List Sm)} (h : ∀ row ∈ rows, row.length = c) : bx (tb c rows) = tabBx c (rows.map (List.map bx)) := by
  unfold tb
  rw [bx_nd]
  simp only [bxK, chunk_map, tb_chunk h]
theorem tabBx_eq (c : Nat) (rows : List (List Sm)) : tabBx c (rows.map (List.map bx)) = (let high : Int := ((rows.map hOf).map fun p => p.1 + p.2 + 1).sum + (rows.length : Int) - 1; ⟨(wsOf c rows).sum + 2 * ((c : Int) - 1) + 2, high / 2, high - 1 - high / 2⟩) := by
  unfold tabBx
  rw [rowsH_eq]
  simp only [List.map_map, List.length_map]
  rfl
theorem bx_turn {c : Nat} {rows : List (List Sm)} (h : ∀ row ∈ rows, row.length = c) : bx (tb c (rows.map List.reverse)) = bx (tb c rows) := by
  rw [tb_bx (fun row hr => by obtain ⟨r, hr', rfl⟩ := List.mem_map.mp hr; simp [h r hr']), tb_bx h, tabBx_eq, tabBx_eq, ws_turn h, sum_rev]
  have e : (rows.map List.reverse).map hOf = rows.map hOf := by
    rw [List.map_map]
    exact List.map_congr_left fun row _ => hOf_rev row
  rw [e]
  simp
theorem bx_about {c : Nat} {rows : List (List Sm)} (h : ∀ row ∈ rows, row.length = c) : bx (tb c rows.reverse) = bx (tb c rows) := by
  rw [tb_bx (fun row hr => h row (by simpa using hr)), tb_bx h, tabBx_eq, tabBx_eq, ws_about]
  have e : ((rows.reverse.map hOf).map fun p => p.1 + p.2 + 1).sum = ((rows.map hOf).map fun p => p.1 + p.2 + 1).sum := by
    rw [List.map_reverse, List.map_reverse, sum_rev]
  rw [e]
  simp
/-! corners -/
def topS : Nat → List (List Sm) → Int
  | n + 1, row :: rs => (hOf row).1 + (hOf row).2 + 2 + topS n rs
  | _, _ => 0
def lefS : Nat → List Int → Int
  | j + 1, w :: ws => w + 2 + lefS j ws
  | _, _ => 0
theorem corL_get (t : Int) : ∀ (ws : List Int) (ps : List Sm) (l : Int) (j : Nat) (w : Int) (p : Sm), ws[j]? = some w → ps[j]? = some p → (corL t l ws ps)[j]? = some (l + lefS j ws + (w - (bx p).w) / 2, t - (bx p).u)
  | [], _, _, _, _, _, h, _ => by simp at h
  | _ :: _, [], _, _, _, _, _, h => by simp at h
  | v :: ws, q :: ps, l, 0, w, p, h1, h2 => by simp at h1 h2; subst h1; subst h2; simp [corL, lefS]
  | v :: ws, q :: ps, l, j + 1, w, p, h1, h2 => by
    simp only [corL, List.getElem?_cons_succ]
    rw [corL_get t ws ps (l + v + 2) j w p (by simpa using h1) (by simpa using h2)]
    simp only [lefS, Option.some.injEq, Prod.mk.injEq, and_true]
    omega
theorem corL_len (t : Int) : ∀ (ws : List Int) (ps : List Sm) (l : Int), ps.length = ws.length → (corL t l ws ps).length = ps.length
  | [], [], _, _ => rfl
  | w :: ws, p :: ps, l, h => by simp only [corL, List.length_cons, corL_len t ws ps (l + w + 2) (by simpa using h)]
  | [], _ :: _, _, h => by simp at h
  | _ :: _, [], _, h => by simp at h
theorem corR_get (ws : List Int) : ∀ (rows : List (List Sm)) (t : Int) (n : Nat) (row : List Sm), rows[n]? = some row → (corR ws t rows)[n]? = some (corL (t + topS n rows + (hOf row).1) 1 ws row)
  | [], _, _, _, h => by simp at h
  | r :: rs, t, 0, row, h => by simp at h; subst h; simp [corR, topS]
  | r :: rs, t, n + 1, row, h => by
    simp only [corR, List.getElem?_cons_succ]
    rw [corR_get ws rs _ n row (by simpa using h)]
    simp only [topS]
    congr 2
    omega
theorem corR_mem (ws : List Int) : ∀ (rows : List (List Sm)) (t : Int), (∀ row ∈ rows, row.length = ws.length) → ∀ l ∈ corR ws t rows, l.length = ws.length
  | [], _, _, l, h => by simp [corR] at h
  | r :: rs, t, H, l, h => by
    simp only [corR, List.mem_cons] at h
    rcases h with rfl | h
    · rw [corL_len _ _ _ _ (H r (by simp)), H r (by simp)]
    · exact corR_mem ws rs _ (fun row hr => H row (by simp [hr])) l h
theorem flat_get {α : Type} {c : Nat} : ∀ (L : List (List α)) (n j : Nat), (∀ l ∈ L, l.length = c) → j < c → L.flatten[c * n + j]? = (L[n]?).bind fun l => l[j]?
  | [], _, _, _, _ => by simp
  | l :: L, 0, j, H, hj => by
    have := H l (by simp)
    simp only [List.flatten_cons, Nat.mul_zero, Nat.zero_add, List.getElem?_cons_zero, Option.bind_some]
    rw [List.getElem?_append_left (by omega)]
  | l :: L, n + 1, j, H, hj => by
    have hl := H l (by simp)
    simp only [List.flatten_cons, List.getElem?_cons_succ]
    rw [List.getElem?_append_right (by rw [hl, Nat.mul_succ]; omega), hl, show c * (n + 1) + j - c = c * n + j by rw [Nat.mul_succ]; omega]
    exact flat_get L n j (fun x hx => H x (by simp [hx])) hj
theorem topS_turn : ∀ (n : Nat) (rows : List (List Sm)), topS n (rows.map List.reverse) = topS n rows
  | 0, _ => by simp [topS]
  | n + 1, [] => rfl
  | n + 1, r :: rs => by simp only [List.map_cons, topS, hOf_rev, topS_turn n rs]
theorem cor_at {c : Nat} {rows : List (List Sm)} (h : ∀ row ∈ rows, row.length = c) {n j : Nat} {row : List Sm} {p : Sm} {w : Int} (hr : rows[n]? = some row) (hp : row[j]? = some p) (hw : (wsOf c rows)[j]? = some w) :
    (corR (wsOf c rows) 0 rows).flatten[c * n + j]? = some (1 + lefS j (wsOf c rows) + (w - (bx p).w) / 2, topS n rows + (hOf row).1 - (bx p).u) := by
  have hj : j < c := by have := (List.getElem?_eq_some_iff.mp hp).1; have := h row (List.mem_of_getElem? hr); omega
  rw [flat_get (c := c) _ n j (fun l hl => by rw [corR_mem _ _ _ (fun row hr => by rw [ws_len]; exact h row hr) l hl, ws_len]) hj, corR_get _ _ _ n row hr, Option.bind_some, corL_get _ _ _ _ j w p hw hp]
  simp
/-! pictures -/
def br (l : List Nat) : List Nat := 91 :: (l ++ [93])
theorem pic_tab {c : Nat} {rows : List (List Sm)} (h : ∀ row ∈ rows, row.length = c) : pic (tb c rows) = (tabJ ((wsOf c rows).sum + 2 * ((c : Int) - 1)).toNat (rows.map (rowR (wsOf c rows)))).map br := by
  unfold tb
  rw [pic_nd]
  simp only [picK, tabW, tabP, List.zip_map', chunk_map, List.map_map, tb_chunk h]
  have e : rows.map (rowR (wsOf c rows)) = rows.map ((fun row => bes (rowL (rowH (row.map (·.1))).1 (rowH (row.map (·.1))).2 (colsW c (rows.map (List.map bx))) row).dropLast) ∘ List.map fun a => (bx a, pic a)) := by
    refine List.map_congr_left fun row hrow => ?_
    simp only [Function.comp_def, rowR, List.map_map]
    rfl
  rw [e]
  simp only [Function.comp_def, List.map_map]
  rfl
theorem tabJ_more (W : Nat) (L : List Rows) (x : Rows) (h : L ≠ []) : tabJ W (L ++ [x]) = tabJ W L ++ (blks W 1 ++ x) := by
  cases L with
  | nil => exact absurd rfl h
  | cons a r => simp [tabJ]
theorem pic_more {c : Nat} {row : List Sm} {rs : List (List Sm)} (h : ∀ r ∈ row :: rs, r.length = c) : pic (tb c (row :: rs ++ [row])) = pic (tb c (row :: rs)) ++ br (blk ((wsOf c (row :: rs)).sum + 2 * ((c : Int) - 1)).toNat) :: (rowR (wsOf c (row :: rs)) row).map br := by
  rw [pic_tab (fun r hr => by rcases List.mem_append.mp hr with z | z; exact h r z; simp at z; subst z; exact h r (by simp)), pic_tab h, ws_more c (by simp), List.map_append, show List.map (rowR (wsOf c (row :: rs))) [row] = [rowR (wsOf c (row :: rs)) row] from rfl, tabJ_more _ _ _ (by simp)]
  simp [blks]
theorem pic_first {c : Nat} {row : List Sm} {rs : List (List Sm)} (h : ∀ r ∈ row :: rs, r.length = c) : ∃ R, pic (tb c (row :: rs)) = (rowR (wsOf c (row :: rs)) row).map br ++ R := by
  rw [pic_tab h]
  simp only [List.map_cons, tabJ, List.map_append]
  exact ⟨_, rfl⟩
theorem rowR_len {c : Nat} (hc : 1 ≤ c) {rows : List (List Sm)} (h : ∀ row ∈ rows, row.length = c) (hs : ∀ row ∈ rows, ∀ p ∈ row, Sh p ∧ Wl p) {row : List Sm} (hr : row ∈ rows) : (rowR (wsOf c rows) row).length = ((hOf row).1 + (hOf row).2 + 1).toNat := by
  have := row_is (c := c) (rows := rows.map fun r => r.map fun p => (bx p, pic p)) (row := row.map fun p => (bx p, pic p)) (List.mem_map_of_mem hr) hc (by simp [h row hr]) (fun r hr p hp => by
    obtain ⟨r', h1, rfl⟩ := List.mem_map.mp hr
    obtain ⟨q, hq, rfl⟩ := List.mem_map.mp hp
    exact ⟨pic_is (hs r' h1 q hq).1 (hs r' h1 q hq).2, bx_nonneg (hs r' h1 q hq).1⟩)
  have h2 := this.h
  simp only [List.map_map, Function.comp_def] at h2
  exact h2
theorem enc_tb {c : Nat} {rows : List (List Sm)} (h : ∀ row ∈ rows, row.length = c) : enc (tb c rows) = .tup [.str [116, 97, 98, 108, 101], .tup (rows.map fun r => .tup (r.map enc))] := by
  unfold tb
  rw [enc_nd]
  simp only [encK, chunk_map, tb_chunk h, List.map_map]
  rfl
theorem flat_len2 {α : Type} {c : Nat} : ∀ (L : List (List α)), (∀ l ∈ L, l.length = c) → L.flatten.length = L.length * c
  | [], _ => by simp
  | l :: L, h => by
    rw [List.flatten_cons, List.length_append, h l (by simp), flat_len2 L fun x hx => h x (by simp [hx]), List.length_cons, Nat.succ_mul]
    omega
theorem hOf_le {row : List Sm} (h : ∀ p ∈ row, Gd p ∧ dp p ≤ 3) : (0 ≤ (hOf row).1 ∧ (hOf row).1 ≤ 8) ∧ (0 ≤ (hOf row).2 ∧ (hOf row).2 ≤ 8) := by
  have hn := rowH_nn (row := row.map bx) (fun b hb => by obtain ⟨p, hp, rfl⟩ := List.mem_map.mp hb; exact bx_nonneg (h p hp).1.sh)
  have key : ∀ p ∈ row, (bx p).u ≤ 8 ∧ (bx p).d ≤ 8 := fun p hp => by
    have ht := bx_tight (h p hp).1
    have h4 : (3 : Int) ^ (dp p - 1) ≤ 3 ^ 2 := by
      have : (3 : Nat) ^ (dp p - 1) ≤ 3 ^ 2 := Nat.pow_le_pow_right (by omega) (by have := (h p hp).2; omega)
      exact_mod_cast this
    have e : (3 : Int) ^ 2 = 9 := by decide
    omega
  refine ⟨⟨hn.1, maxL_le0 (by omega) fun i hi => ?_⟩, hn.2, maxL_le0 (by omega) fun i hi => ?_⟩
  · obtain ⟨b, hb, rfl⟩ := List.mem_map.mp hi
    obtain ⟨p, hp, rfl⟩ := List.mem_map.mp hb
    exact (key p hp).1
  · obtain ⟨b, hb, rfl⟩ := List.mem_map.mp hi
    obtain ⟨p, hp, rfl⟩ := List.mem_map.mp hb
    exact (key p hp).2
theorem ws_le {c : Nat} {rows : List (List Sm)} (h : ∀ row ∈ rows, ∀ p ∈ row, Gd p ∧ dp p ≤ 3) : ∀ w ∈ wsOf c rows, 0 ≤ w ∧ w ≤ 222 := fun w hw => by
  unfold wsOf colsW at hw
  obtain ⟨k, _, rfl⟩ := List.mem_map.mp hw
  have key : ∀ row ∈ rows, ∀ b ∈ row.map bx, 0 ≤ b.w ∧ b.w ≤ 222 := fun row hr b hb => by
    obtain ⟨p, hp, rfl⟩ := List.mem_map.mp hb
    have hg := h row hr p hp
    have ht := bx_tight hg.1
    have h4 : (5 : Int) ^ (dp p - 1) ≤ 5 ^ 2 := by
      have : (5 : Nat) ^ (dp p - 1) ≤ 5 ^ 2 := Nat.pow_le_pow_right (by omega) (by omega)
      exact_mod_cast this
    have e : (5 : Int) ^ 2 = 25 := by decide
    have := bx_nonneg hg.1.sh
    omega
  refine ⟨maxL_nonneg fun j hj => ?_, maxL_le0 (by omega) fun j hj => ?_⟩
  · obtain ⟨row, hrow, rfl⟩ := List.mem_map.mp hj
    obtain ⟨row', h4, rfl⟩ := List.mem_map.mp hrow
    exact getD_all (P := fun b : Bx => 0 ≤ b.w) (fun b hb => (key row' h4 b hb).1) (by simp only; omega) k
  · obtain ⟨row, hrow, rfl⟩ := List.mem_map.mp hj
    obtain ⟨row', h4, rfl⟩ := List.mem_map.mp hrow
    exact getD_all (P := fun b : Bx => b.w ≤ 222) (fun b hb => (key row' h4 b hb).2) (by simp only; omega) k
theorem tb_ok {c : Nat} {rows : List (List Sm)} (h : ∀ row ∈ rows, row.length = c) (c1 : 1 ≤ c) (c3 : c ≤ 3) (r1 : 1 ≤ rows.length) (r4 : rows.length ≤ 4) (hg : ∀ row ∈ rows, ∀ p ∈ row, Gd p ∧ dp p ≤ 3) :
    Sh (tb c rows) ∧ Wl (tb c rows) ∧ dp (tb c rows) ≤ 4 ∧ 0 ≤ (wsOf c rows).sum ∧ (wsOf c rows).sum ≤ 666 := by
  have hm : ∀ p ∈ rows.flatten, Gd p ∧ dp p ≤ 3 := fun p hp => by
    obtain ⟨row, hr, hp⟩ := List.mem_flatten.mp hp
    exact hg row hr p hp
  have hfl := flat_len2 rows h
  have hwl := ws_le (c := c) hg
  have s0 := sum_nonneg (l := wsOf c rows) fun i hi => (hwl i hi).1
  have s1 := sum_leI (l := wsOf c rows) (m := 222) fun i hi => (hwl i hi).2
  rw [ws_len] at s1
  have hb := tb_bx h
  rw [tabBx_eq] at hb
  have t0 : 0 ≤ ((rows.map hOf).map fun p => p.1 + p.2 + 1).sum := sum_nonneg fun i hi => by
    obtain ⟨p, hp, rfl⟩ := List.mem_map.mp hi
    obtain ⟨row, hr, rfl⟩ := List.mem_map.mp hp
    have := hOf_le (hg row hr)
    omega
  have t1 := sum_leI (l := (rows.map hOf).map fun p => p.1 + p.2 + 1) (m := 17) fun i hi => by
    obtain ⟨p, hp, rfl⟩ := List.mem_map.mp hi
    obtain ⟨row, hr, rfl⟩ := List.mem_map.mp hp
    have := hOf_le (hg row hr)
    omega
  simp only [List.length_map] at t1
  refine ⟨.nd ⟨r1, c1, hfl⟩ ?_ fun p hp => (hm p hp).1.sh, .nd trivial ?_ fun p hp => (hm p hp).1.wl (by have := (hm p hp).2; omega), dp_le (m := 3) fun p hp => (hm p hp).2, s0, by omega⟩
  · rw [hfl]
    have : rows.length * c ≤ 4 * 3 := Nat.mul_le_mul r4 c3
    omega
  · have e : bx (.nd (.table rows.length c) rows.flatten) = bx (tb c rows) := rfl
    rw [e, hb]
    simp only
    omega
section
variable {T : Tab}
theorem frame_at (h : FrmT T) {c : Nat} {rows : List (List Sm)} (hl : ∀ row ∈ rows, row.length = c) (c1 : 1 ≤ c) (c3 : c ≤ 3) (r1 : 1 ≤ rows.length) (r4 : rows.length ≤ 4) (hg : ∀ row ∈ rows, ∀ p ∈ row, Gd p ∧ dp p ≤ 3) {n j : Nat} {row : List Sm} {p : Sm} {w : Int} (hr : rows[n]? = some row) (hp : row[j]? = some p) (hw : (wsOf c rows)[j]? = some w) :
    callF T 60 61 [.tup [.str [116, 97, 98, 108, 101], .tup (rows.map fun r => .tup (r.map enc))], .tup [.int ((c : Int) * (n : Int) + (j : Int))]] [] = .ok (.tup [.int (1 + lefS j (wsOf c rows) + (w - (bx p).w) / 2), .int (topS n rows + (hOf row).1 - (bx p).u), .int (bx p).w, .int (bx p).rows]) [] := by
  obtain ⟨sh, _, hd, _⟩ := tb_ok hl c1 c3 r1 r4 hg
  have hj : j < c := by have := (List.getElem?_eq_some_iff.mp hp).1; have := hl row (List.mem_of_getElem? hr); omega
  have hpf : rows.flatten[c * n + j]? = some p := by rw [flat_get rows n j hl hj, hr]; exact hp
  have hc := cor_at hl hr hp hw
  have hq := frame_tab h 60 (r := rows.length) (c := c) (ps := rows.flatten) sh (Nat.le_trans hd (by omega)) (by omega) hpf (by rw [tb_chunk hl]; exact hc) []
  have e1 : enc (.nd (.table rows.length c) rows.flatten) = enc (tb c rows) := rfl
  rw [e1, enc_tb hl] at hq
  have e2 : encW [c * n + j] = .tup [.int ((c : Int) * (n : Int) + (j : Int))] := by simp [encW]
  rw [e2] at hq
  exact hq
theorem sm62 {c : Nat} (h : c ≤ 3) : small62 (c : Int) = true := by
  unfold small62
  simp only [Bool.and_eq_true, decide_eq_true_eq]
  omega
theorem sm64 {c : Nat} (h : c ≤ 3) : small64 (c : Int) = true := by
  unfold small64
  simp only [Bool.and_eq_true, decide_eq_true_eq]
  omega
theorem at_lastS (l : List Nat) : L2.atI (br l) (-1) = some 93 := by
  have := atI_last (91 :: l) 93
  simpa [br] using this
theorem law38 (hp : PicT T) (hf : FrmT T) (hd : DrawT T) (h0 : T.lookup 180 = some Fn.f_law_room) (hl : T.lookup 207 = some Fn.f_law_k38) : LawTrue T 61 207 := by
  intro ns hns
  refine ⟨[], ?_⟩
  rw [callF_of hl, runD_of rfl]
  have s8 : small62 8 = true := by decide
  have s113 : small64 113 = true := by decide
  have s3 : small64 3 = true := by decide
  have s31 : small64 31 = true := by decide
  have s7 : small64 7 = true := by decide
  obtain ⟨f, hfd⟩ := (draws hd 2).2.2
  obtain ⟨e', q, hq⟩ := range_inv (f := forF (callF T 60) (.nm 1) (match Fn.f_law_k38.body with | .seq (.fr _ _ b) _ => b | _ => .skip)) (st := []) (fun e => ∃ o1 o2 o3 o4 o5 o6 o7 o8 o9 o10 o11 o12 o13 o14 o15 o16 o17 o18 o19, e = [some (.scr ns), o1, o2, o3, o4, o5, o6, o7, o8, o9, o10, o11, o12, o13, o14, o15, o16, o17, o18, o19, none, none, none]) 8 [some (.scr ns), none, none, none, none, none, none, none, none, none, none, none, none, none, none, none, none, none, none, none, none, none, none] ⟨_, _, _, _, _, _, _, _, _, _, _, _, _, _, _, _, _, _, _, rfl⟩ (by
    rintro k hk e ⟨o1, o2, o3, o4, o5, o6, o7, o8, o9, o10, o11, o12, o13, o14, o15, o16, o17, o18, o19, rfl⟩
    have hcl := cell_ok hd 59 ns k []
    generalize hcell : cellI ns k + 113 * (k : Int) = cell
    have m1 := mixI_nonneg (c := cell) (p := 9049) (m := 3) (by decide)
    have m2 := mixI_lt (c := cell) (p := 9049) (m := 3) (by decide)
    have m3 := mixI_nonneg (c := cell) (p := 9043) (m := 3) (by decide)
    have m4 := mixI_lt (c := cell) (p := 9043) (m := 3) (by decide)
    obtain ⟨c, hc⟩ : ∃ c : Nat, 1 + mixI cell 9049 3 = (c : Int) := ⟨(1 + mixI cell 9049 3).toNat, by omega⟩
    obtain ⟨r, hr⟩ : ∃ r : Nat, 1 + mixI cell 9043 3 = (r : Int) := ⟨(1 + mixI cell 9043 3).toNat, by omega⟩
    have c1 : 1 ≤ c := by omega
    have c3 : c ≤ 3 := by omega
    have r1 : 1 ≤ r := by omega
    have r3 : r ≤ 3 := by omega
    have zr : r ≤ 16777216 := by omega
    have zc : c ≤ 16777216 := by omega
    have dr : ∀ x, callF T 60 12 [.int x, .int 3] [] = .ok (enc (f x)) [] := fun x => (hfd x).2.2 60 [] (by omega)
    simp [Fn.f_law_k38, hcl, s113, hcell, mix_ok hd, hc, hr, SZ_val, sm62 r3, rngL_map, zr]
    rw [comp_map (fun (n : Nat) => .int (n : Int)) (fun (n : Nat) => .tup (((List.range c).map fun (j : Nat) => f (cell * 3 + 31 * (n : Int) + 7 * (j : Int))).map enc)) (List.range r) (fun n _ => by
      simp [sm62 c3, rngL_map, SZ_val, zc]
      rw [comp_map (fun (j : Nat) => .int (j : Int)) (fun (j : Nat) => enc (f (cell * 3 + 31 * (n : Int) + 7 * (j : Int)))) (List.range c) (fun j _ => by simp [s3, s31, s7, dr])]
      simp [SZ_val, zc, Function.comp_def])]
    have hrows : (List.range r).map (fun (n : Nat) => PV.tup (((List.range c).map fun (j : Nat) => f (cell * 3 + 31 * (n : Int) + 7 * (j : Int))).map enc)) = ((List.range r).map fun (n : Nat) => (List.range c).map fun (j : Nat) => f (cell * 3 + 31 * (n : Int) + 7 * (j : Int))).map fun row => .tup (row.map enc) := by
      rw [List.map_map]; rfl
    rw [hrows]
    have hlen : ∀ row ∈ (List.range r).map (fun (n : Nat) => (List.range c).map fun (j : Nat) => f (cell * 3 + 31 * (n : Int) + 7 * (j : Int))), row.length = c := fun row h => by
      obtain ⟨n, _, rfl⟩ := List.mem_map.mp h
      simp
    have hg : ∀ row ∈ (List.range r).map (fun (n : Nat) => (List.range c).map fun (j : Nat) => f (cell * 3 + 31 * (n : Int) + 7 * (j : Int))), ∀ p ∈ row, Gd p ∧ dp p ≤ 3 := fun row h p hp => by
      obtain ⟨n, _, rfl⟩ := List.mem_map.mp h
      obtain ⟨j, _, rfl⟩ := List.mem_map.mp hp
      exact ⟨(hfd _).1, (hfd _).2.1⟩
    have hrl : ((List.range r).map (fun (n : Nat) => (List.range c).map fun (j : Nat) => f (cell * 3 + 31 * (n : Int) + 7 * (j : Int)))).length = r := by simp
    generalize (List.range r).map (fun (n : Nat) => (List.range c).map fun (j : Nat) => f (cell * 3 + 31 * (n : Int) + 7 * (j : Int))) = rows at *
    have hrz : rows.length ≤ 16777216 := by omega
    simp [SZ_val, hrz]
    rw [comp_map (fun (row : List Sm) => .tup (row.map enc)) (fun (row : List Sm) => .tup (row.reverse.map enc)) rows (fun row _ => by simp [List.map_reverse])]
    have hlt : ∀ row ∈ rows.map List.reverse, row.length = c := fun row h => by
      obtain ⟨x, hx, rfl⟩ := List.mem_map.mp h
      simp [hlen x hx]
    have hla : ∀ row ∈ rows.reverse, row.length = c := fun row h => hlen row (by simpa using h)
    have hgt : ∀ row ∈ rows.map List.reverse, ∀ p ∈ row, Gd p ∧ dp p ≤ 3 := fun row h p hp => by
      obtain ⟨x, hx, rfl⟩ := List.mem_map.mp h
      exact hg x hx p (by simpa using hp)
    have hga : ∀ row ∈ rows.reverse, ∀ p ∈ row, Gd p ∧ dp p ≤ 3 := fun row h => hg row (by simpa using h)
    have okS := tb_ok hlen c1 c3 (by omega) (by omega) hg
    have okT := tb_ok hlt c1 c3 (by simp; omega) (by simp; omega) hgt
    have okA := tb_ok hla c1 c3 (by simp; omega) (by simp; omega) hga
    have bo : ∀ t, Sh t → dp t ≤ 10 → callF T 60 40 [enc t] [] = .ok (.tup [.int (bx t).w, .int (bx t).u, .int (bx t).d]) [] := fun t a b => box_ok hp.toBoxT t a 60 (by omega) []
    have bS := bo _ okS.1 (by omega)
    have bT := bo _ okT.1 (by omega)
    have bA := bo _ okA.1 (by omega)
    rw [bx_turn hlen, enc_tb hlt] at bT
    rw [bx_about hlen, enc_tb hla] at bA
    have rS := room_ok hp.toBoxT h0 59 _ okS.1 (by omega) []
    have pS := picture_ok hp _ okS.1 okS.2.1 60 (by omega) []
    rw [enc_tb hlen] at bS rS pS
    simp [Function.comp_def] at bT bA
    obtain ⟨e2, q2, hq2⟩ := range_inv (f := forF (callF T 60) (.nm 4) (match Fn.f_law_k38.body with | .seq (.fr _ _ (.seq _ (.seq _ (.seq _ (.seq _ (.seq _ (.seq (.fr _ _ b) _))))))) _ => b | _ => .skip)) (st := []) (fun e => ∃ o4 o13 o14 o15 o16 o17 o18 o19, e = [some (.scr ns), some (.int (k : Int)), some (.int cell), some (.tup (rows.map fun row => .tup (row.map enc))), o4, o5, o6, o7, some (.int (c : Int)), some (.int (r : Int)), some (.tup [.str [116, 97, 98, 108, 101], .tup (rows.map fun row => .tup (row.map enc))]), some (.tup [.str [116, 97, 98, 108, 101], .tup (rows.map fun row => .tup (row.map enc).reverse)]), some (.tup [.str [116, 97, 98, 108, 101], .tup (rows.map fun row => .tup (row.map enc)).reverse]), o13, o14, o15, o16, o17, o18, o19, none, none, none]) r [some (.scr ns), some (.int (k : Int)), some (.int cell), some (.tup (rows.map fun row => .tup (row.map enc))), o4, o5, o6, o7, some (.int (c : Int)), some (.int (r : Int)), some (.tup [.str [116, 97, 98, 108, 101], .tup (rows.map fun row => .tup (row.map enc))]), some (.tup [.str [116, 97, 98, 108, 101], .tup (rows.map fun row => .tup (row.map enc).reverse)]), some (.tup [.str [116, 97, 98, 108, 101], .tup (rows.map fun row => .tup (row.map enc)).reverse]), o13, o14, o15, o16, o17, o18, o19, none, none, none] ⟨_, _, _, _, _, _, _, _, rfl⟩ (by
      rintro n hn e ⟨o4, o13, o14, o15, o16, o17, o18, o19, rfl⟩
      obtain ⟨row, hrow⟩ : ∃ row, rows[n]? = some row := ⟨_, List.getElem?_eq_getElem (by omega)⟩
      have hrc := hlen row (List.mem_of_getElem? hrow)
      obtain ⟨e3, q3, hq3⟩ := range_inv (f := forF (callF T 60) (.nm 13) (match Fn.f_law_k38.body with | .seq (.fr _ _ (.seq _ (.seq _ (.seq _ (.seq _ (.seq _ (.seq (.fr _ _ (.seq (.fr _ _ b) _)) _))))))) _ => b | _ => .skip)) (st := []) (fun e => ∃ o13 o14 o15 o16 o17 o18 o19, e = [some (.scr ns), some (.int (k : Int)), some (.int cell), some (.tup (rows.map fun row => .tup (row.map enc))), some (.int (n : Int)), o5, o6, o7, some (.int (c : Int)), some (.int (r : Int)), some (.tup [.str [116, 97, 98, 108, 101], .tup (rows.map fun row => .tup (row.map enc))]), some (.tup [.str [116, 97, 98, 108, 101], .tup (rows.map fun row => .tup (row.map enc).reverse)]), some (.tup [.str [116, 97, 98, 108, 101], .tup (rows.map fun row => .tup (row.map enc)).reverse]), o13, o14, o15, o16, o17, o18, o19, none, none, none]) c [some (.scr ns), some (.int (k : Int)), some (.int cell), some (.tup (rows.map fun row => .tup (row.map enc))), some (.int (n : Int)), o5, o6, o7, some (.int (c : Int)), some (.int (r : Int)), some (.tup [.str [116, 97, 98, 108, 101], .tup (rows.map fun row => .tup (row.map enc))]), some (.tup [.str [116, 97, 98, 108, 101], .tup (rows.map fun row => .tup (row.map enc).reverse)]), some (.tup [.str [116, 97, 98, 108, 101], .tup (rows.map fun row => .tup (row.map enc)).reverse]), o13, o14, o15, o16, o17, o18, o19, none, none, none] ⟨_, _, _, _, _, _, _, rfl⟩ (by
        rintro j hj e ⟨o13, o14, o15, o16, o17, o18, o19, rfl⟩
        obtain ⟨p, hpj⟩ : ∃ p, row[j]? = some p := ⟨_, List.getElem?_eq_getElem (by omega)⟩
        obtain ⟨w, hw⟩ : ∃ w, (wsOf c rows)[j]? = some w := ⟨_, List.getElem?_eq_getElem (by rw [ws_len]; exact hj)⟩
        obtain ⟨w', hw'⟩ : ∃ w, (wsOf c (rows.map List.reverse))[c - 1 - j]? = some w := ⟨_, List.getElem?_eq_getElem (by rw [ws_len]; omega)⟩
        have f1 := frame_at hf hlen c1 c3 (by omega) (by omega) hg hrow hpj hw
        have f2 := frame_at hf hlt c1 c3 (by simp; omega) (by simp; omega) hgt (n := n) (j := c - 1 - j) (row := row.reverse) (p := p) (by rw [List.getElem?_map, hrow]; rfl) (by rw [List.getElem?_reverse (by omega), hrc, show c - 1 - (c - 1 - j) = j by omega]; exact hpj) hw'
        have f3 := frame_at hf hla c1 c3 (by simp; omega) (by simp; omega) hga (n := r - 1 - n) (j := j) (row := row) (p := p) (w := w) (by rw [List.getElem?_reverse (by omega), hrl, show r - 1 - (r - 1 - n) = n by omega]; exact hrow) hpj (by rw [ws_about]; exact hw)
        rw [ws_about] at f3
        rw [topS_turn, hOf_rev] at f2
        have i2 : (c : Int) * (n : Int) + ((c - 1 - j : Nat) : Int) = (c : Int) * (n : Int) + (c : Int) - 1 - (j : Int) := by
          generalize (c : Int) * (n : Int) = X
          omega
        have i3 : ((r - 1 - n : Nat) : Int) = (r : Int) - 1 - (n : Int) := by omega
        rw [i2] at f2
        rw [i3] at f3
        simp only [List.map_map, Function.comp_def, List.map_reverse] at f2
        simp only [List.map_reverse] at f3
        simp [Fn.f_law_k38, sm64 c3, SZ_val, f1, f2, f3]
        )
      obtain ⟨p13, p14, p15, p16, p17, p18, p19, rfl⟩ := hq3
      simp [Fn.f_law_k38] at q3
      simp [Fn.f_law_k38, sm62 c3]
      rw [q3]
      simp
      )
    obtain ⟨p4, p13, p14, p15, p16, p17, p18, p19, rfl⟩ := hq2
    simp [Fn.f_law_k38] at q2
    simp [SZ_val, hrz, bS, bT, bA, sm62 r3]
    rw [q2]
    obtain ⟨row, rs, hrs⟩ : ∃ row rs, rows = row :: rs := by
      cases rows with
      | nil => simp at hrl; omega
      | cons a b => exact ⟨a, b, rfl⟩
    have hpic := pic_tab hlen
    have hcl := pic_cl (s := tb c rows) (.nd ⟨⟨by omega, by omega⟩, ⟨c1, c3⟩, flat_len2 rows hlen⟩ fun p hp' => by
      obtain ⟨row, hr', hp'⟩ := List.mem_flatten.mp hp'
      exact (hg row hr' p hp').1)
    have hmore : pic (tb c (rows ++ [row])) = pic (tb c rows) ++ br (blk ((wsOf c rows).sum + 2 * ((c : Int) - 1)).toNat) :: (rowR (wsOf c rows) row).map br := by
      subst hrs
      exact pic_more hlen
    have hfirst : ∃ R, pic (tb c rows) = (rowR (wsOf c rows) row).map br ++ R := by
      subst hrs
      exact pic_first hlen
    have hrm : row ∈ rows := by rw [hrs]; simp
    have hrR := rowR_len c1 hlen (fun x hx p hp' => ⟨(hg x hx p hp').1.sh, (hg x hx p hp').1.wl (by have := (hg x hx p hp').2; omega)⟩) hrm
    have hlm : ∀ x ∈ rows ++ [row], x.length = c := fun x hx => by
      rcases List.mem_append.mp hx with z | z
      · exact hlen x z
      · simp at z; subst z; exact hlen x hrm
    have hgm : ∀ x ∈ rows ++ [row], ∀ p ∈ x, Gd p ∧ dp p ≤ 3 := fun x hx => by
      rcases List.mem_append.mp hx with z | z
      · exact hg x z
      · simp at z; subst z; exact hg x hrm
    have okM := tb_ok hlm c1 c3 (by simp) (by simp; omega) hgm
    have pM := picture_ok hp _ okM.1 okM.2.1 60 (by omega) []
    rw [enc_tb hlm, hmore] at pM
    have hisS := pic_is okS.1 okS.2.1
    have hbw : (bx (tb c rows)).w = (wsOf c rows).sum + 2 * ((c : Int) - 1) + 2 := by rw [tb_bx hlen, tabBx_eq]
    have hlS : (pic (tb c rows)).length ≤ 2000 := by
      have := okS.2.1.b
      rw [hisS.h]; unfold Bx.rows; omega
    have hhO := hOf_le (hg row hrm)
    have hat0 : L2.atI (rows.map fun row => PV.tup (row.map enc)) 0 = some (.tup (row.map enc)) := by rw [hrs]; simp
    have hrowz : row.length ≤ 16777216 := by rw [hlen row hrm]; omega
    have hrne : row ≠ [] := fun z => by have := hlen row hrm; rw [z] at this; simp at this; omega
    obtain ⟨R, hR⟩ := hfirst
    have brow : ∀ p ∈ row, callF T 60 40 [enc p] [] = .ok (.tup [.int (bx p).w, .int (bx p).u, .int (bx p).d]) [] := fun p hp' => bo p (hg row hrm p hp').1.sh (by have := (hg row hrm p hp').2; omega)
    have mxU := max_map (fun p => (bx p).u) row hrne
    have mxD := max_map (fun p => (bx p).d) row hrne
    have hUe : maxL (row.map fun p => (bx p).u) = (hOf row).1 := by simp [hOf, rowH, Function.comp_def]
    have hDe : maxL (row.map fun p => (bx p).d) = (hOf row).2 := by simp [hOf, rowH, Function.comp_def]
    have hP : ∀ l ∈ pic (tb c rows), L2.atI l 0 = some 91 ∧ L2.atI l (-1) = some 93 := fun l hl => by
      rw [hpic] at hl
      obtain ⟨x, _, rfl⟩ := List.mem_map.mp hl
      exact ⟨by simp [br], at_lastS x⟩
    have hYl : ((rowR (wsOf c rows) row).map br).length = ((hOf row).1 + (hOf row).2 + 1).toNat := by rw [List.length_map]; exact hrR
    have hclY : ClR ((rowR (wsOf c rows) row).map br) := fun l hl => hcl l (by rw [hR]; exact List.mem_append_left _ hl)
    generalize hYY : (rowR (wsOf c rows) row).map br = Y at *
    have hWb : 0 ≤ (wsOf c rows).sum + 2 * ((c : Int) - 1) ∧ (wsOf c rows).sum + 2 * ((c : Int) - 1) ≤ 1000 := by have := okS.2.2.2; omega
    have hbw2 : (bx (tb c rows)).w - 2 = (wsOf c rows).sum + 2 * ((c : Int) - 1) := by omega
    generalize hWW : (wsOf c rows).sum + 2 * ((c : Int) - 1) = W at *
    clear hmore hpic
    generalize hPP : pic (tb c rows) = P at *
    generalize hOu : (hOf row).1 = U at *
    generalize hOd : (hOf row).2 = D at *
    have mW := mulBlk 32 (w := W) hWb.1 (by omega)
    have e1 : cutL (P.map PV.str ++ .str (br (blk W.toNat)) :: Y.map .str) none (some (P.length : Int)) = P.map .str := by
      rw [cut_to]
      exact List.take_left' (by simp)
    have e2 : cutL (P.map PV.str ++ .str (br (blk W.toNat)) :: Y.map .str) (some ((P.length : Int) + 1)) none = Y.map .str := by
      have := cut_from (P.map PV.str ++ .str (br (blk W.toNat)) :: Y.map .str) (P.length + 1)
      rw [Int.natCast_add] at this
      rw [show ((1 : Nat) : Int) = 1 from rfl] at this
      rw [this, List.drop_append, List.drop_eq_nil_of_le (by simp)]
      simp
    have e3 : cutL (P.map PV.str) none (some (U + D + 1)) = Y.map .str := by
      have := cut_to (P.map PV.str) (U + D + 1).toNat
      rw [Int.toNat_of_nonneg (by omega)] at this
      rw [this, hR, List.map_append]
      exact List.take_left' (by simp [hYl])
    have e4 : L2.atI (P.map PV.str ++ .str (br (blk W.toNat)) :: Y.map .str) (P.length : Int) = some (.str (br (blk W.toNat))) := atI_nat (by
      rw [List.getElem?_append_right (by simp)]
      simp)
    have e5 : ((P.length : Int) + ((Y.length : Int) + 1)) = (P.length : Int) + 1 + (U + D + 1) := by rw [hYl]; omega
    have q1 : eqV (.tup (P.map .str)) (.tup (P.map .str)) = some true := eq_rows hcl
    have q2' : eqV (.tup (Y.map .str)) (.tup (Y.map .str)) = some true := eq_rows hclY
    have z1 : P.length ≤ 16777216 := by omega
    have eq0 : eqV (.lst []) (.lst []) = some true := eqV_self (a := .lst []) rfl (by simp [PV.deep, PV.deeps])
    have hff : P.filter (fun _ => false) = [] := by simp [List.filter_eq_nil_iff]
    have hrz1 : rows.length + 1 ≤ 16777216 := by omega
    have hrz2 : rows.length ≤ 16777215 := by omega
    simp only [encR] at pS pM
    simp at pM
    simp [SZ_val, pS, z1]
    rw [comp_filter PV.str PV.str (fun _ => false) P (fun l hl => by
      have := hP l hl
      simp [this.1, this.2])]
    simp [SZ_val, hff, eq0, hat0, hrz1, hrz2, pM, hrowz]
    rw [comp_map enc (fun p => .int (bx p).u) row (fun p hp' => by simp [brow p hp'])]
    simp [SZ_val, hat0, hrowz, mxU, hUe]
    rw [comp_map enc (fun p => .int (bx p).d) row (fun p hp' => by simp [brow p hp'])]
    simp [SZ_val, mxD, hDe, e1, e2, e3, q1, q2', e4, rS, hbw2, mW]
    have y1 : W.toNat ≤ 16777215 := by omega
    have y2 : W.toNat + 1 ≤ 16777215 := by omega
    have y3 : W.toNat + 1 + 1 ≤ 16777216 := by omega
    have y4 : 1 + W.toNat ≤ 16777216 := by omega
    have e6 : (P.length : Int) + ((Y.length : Int) + 1) = (P.length : Int) + 1 + (U + D + 1) := e5
    simp [SZ_val, y1, y2, y3, y4, br, blk, e6]
    )
  simp [Fn.f_law_k38, start, s8]
  simp [Fn.f_law_k38] at q
  rw [q]
  simp
end
end SM

namespace Lw
open PySem
def topS (i : Nat) : Stmt := PySem.Challenge.pw_sumlays_k38_whole_tables_about.main.body.getD i (.Pass ⟨0, 0, 0, 0⟩)
def T : PL.Tab := [(20, Fn.f_kind), (21, Fn.f_parts), (26, Fn.f_part_at), (35, Fn.f_rows_of), (36, Fn.f_box_or_none), (37, Fn.f_columns), (38, Fn.f_heights), (39, Fn.f_table_box), (40, Fn.f_box), (44, Fn.f_padded), (45, Fn.f_blanks), (46, Fn.f_raised), (47, Fn.f_beside), (48, Fn.f_chain_picture), (49, Fn.f_script_picture), (50, Fn.f_table_picture), (51, Fn.f_picture), (57, Fn.f_middle), (58, Fn.f_table_corners), (59, Fn.f_script_corners), (60, Fn.f_corners), (61, Fn.f_frame), (7, Fn.f_law_cell), (8, Fn.f_law_mix), (9, Fn.f_law_atom), (10, Fn.f_law_base), (11, Fn.f_law_item), (12, Fn.f_law_draw), (180, Fn.f_law_room), (207, Fn.f_law_k38)]
def B : PL.Tb := ⟨T, [("GAP", (.int 3)), ("BETWEEN", (.int 2))], ["enumerate", "len", "list", "max", "min", "range", "sum", "tuple", "zip"]⟩
def SS : List Stmt := [topS 4, topS 5, topS 6, topS 10, topS 11, topS 12, topS 13, topS 14, topS 15, topS 17, topS 18, topS 19, topS 20, topS 21, topS 22, topS 23, topS 24, topS 26, topS 27, topS 28, topS 29, topS 30, topS 32, topS 33, topS 34, topS 35, topS 36, topS 37, topS 38, topS 39]
theorem tab : PL.tabOk B B.T SS = true := by decide +kernel
theorem defs_mk {K : PySem.W.Frag} (h0 : PL.DefAt K "kind" ["some"] (topS 4)) (h1 : PL.DefAt K "parts" ["some"] (topS 5)) (h2 : PL.DefAt K "part_at" ["some", "way"] (topS 6)) (h3 : PL.DefAt K "rows_of" ["one"] (topS 10)) (h4 : PL.DefAt K "box_or_none" ["some"] (topS 11)) (h5 : PL.DefAt K "columns" ["rows"] (topS 12)) (h6 : PL.DefAt K "heights" ["rows"] (topS 13)) (h7 : PL.DefAt K "table_box" ["rows"] (topS 14)) (h8 : PL.DefAt K "box" ["some"] (topS 15)) (h9 : PL.DefAt K "padded" ["line", "wide"] (topS 17)) (h10 : PL.DefAt K "blanks" ["wide", "many"] (topS 18)) (h11 : PL.DefAt K "raised" ["some", "up", "down"] (topS 19)) (h12 : PL.DefAt K "beside" ["pictures"] (topS 20)) (h13 : PL.DefAt K "chain_picture" ["some"] (topS 21)) (h14 : PL.DefAt K "script_picture" ["some"] (topS 22)) (h15 : PL.DefAt K "table_picture" ["some"] (topS 23)) (h16 : PL.DefAt K "picture" ["some"] (topS 24)) (h17 : PL.DefAt K "middle" ["wide", "inner"] (topS 26)) (h18 : PL.DefAt K "table_corners" ["some"] (topS 27)) (h19 : PL.DefAt K "script_corners" ["some"] (topS 28)) (h20 : PL.DefAt K "corners" ["some"] (topS 29)) (h21 : PL.DefAt K "frame" ["some", "way"] (topS 30)) (h22 : PL.DefAt K "_law_cell" ["script", "k"] (topS 32)) (h23 : PL.DefAt K "_law_mix" ["cell", "prime", "many"] (topS 33)) (h24 : PL.DefAt K "_law_atom" ["cell"] (topS 34)) (h25 : PL.DefAt K "_law_base" ["cell", "left"] (topS 35)) (h26 : PL.DefAt K "_law_item" ["cell", "left"] (topS 36)) (h27 : PL.DefAt K "_law_draw" ["cell", "left"] (topS 37)) (h28 : PL.DefAt K "_law_room" ["some"] (topS 38)) (h29 : PL.DefAt K "law" ["script"] (topS 39)) : PL.defsAt K B.T SS :=
  ⟨h0, h1, h2, h3, h4, h5, h6, h7, h8, h9, h10, h11, h12, h13, h14, h15, h16, h17, h18, h19, h20, h21, h22, h23, h24, h25, h26, h27, h28, h29, trivial⟩
theorem bs_mk {mg : Str → Option Value} (z0 : mg "enumerate" = none) (z1 : mg "len" = none) (z2 : mg "list" = none) (z3 : mg "max" = none) (z4 : mg "min" = none) (z5 : mg "range" = none) (z6 : mg "sum" = none) (z7 : mg "tuple" = none) (z8 : mg "zip" = none) : ∀ x ∈ B.bs, mg x = none := by
  intro x hx
  simp only [B, List.mem_cons, List.not_mem_nil, or_false] at hx
  rcases hx with rfl | rfl | rfl | rfl | rfl | rfl | rfl | rfl | rfl
  · exact z0
  · exact z1
  · exact z2
  · exact z3
  · exact z4
  · exact z5
  · exact z6
  · exact z7
  · exact z8
theorem cs_mk {K : PySem.W.Frag} {mg : Str → Option Value} {t0 : Tok} (c0 : mg "GAP" = some (.int 3 t0)) {t1 : Tok} (c1 : mg "BETWEEN" = some (.int 2 t1)) : ∀ p ∈ B.cs, ∃ u V, mg p.1 = some u ∧ L2.RelV V u ∧ ∀ wd, PL.Rep K wd p.2 V := by
  intro p hp
  simp only [B, List.mem_cons, List.not_mem_nil, or_false] at hp
  rcases hp with rfl | rfl
  · exact ⟨_, .int _, c0, ⟨_, rfl⟩, fun wd => .int _⟩
  · exact ⟨_, .int _, c1, ⟨_, rfl⟩, fun wd => .int _⟩
end Lw

namespace Lw
def M : Nat := 60
theorem law_true : PL.LawTrue B.T (M + 1) 207 := SM.law38 ⟨⟨⟨rfl, rfl⟩, rfl, rfl, rfl, rfl, rfl, rfl⟩, rfl, rfl, rfl, rfl, rfl, rfl, rfl, rfl⟩ ⟨⟨⟨rfl, rfl⟩, rfl, rfl, rfl, rfl, rfl, rfl⟩, rfl, rfl, rfl, rfl, rfl⟩ ⟨rfl, rfl, rfl, rfl, rfl, rfl⟩ rfl rfl
end Lw

open PySem PySem.W PyProof.Rows
set_option maxRecDepth 100000 in
set_option maxHeartbeats 0 in
theorem PySem.Challenge.cw_sumlays_k38_whole_tables_about_holds : PySem.Challenge.rw_sumlays_k38_whole_tables_about.Holds := by
  w_on; o_law; k_head; (case hw => w_witness2)
  k_fill
  refine PL.walk (l := PySem.Challenge.rw_sumlays_k38_whole_tables_about) (m := Lw.M + 1) rfl rfl ⟨rfl, by decide, by decide⟩ rfl (fun w h Y => PySem.W.kIn_of Y) ?F
  case F =>
    intro w mg fa h KX G hmg
    refine PL.law_ok (B := Lw.B) (ss := Lw.SS) (i := 207) Lw.tab ?defs (fun x v e => PySem.W.mg_of KX G e) ?bs ?cs rfl rfl rfl Lw.law_true hmg
    case defs =>
      refine' Lw.defs_mk ?h0 ?h1 ?h2 ?h3 ?h4 ?h5 ?h6 ?h7 ?h8 ?h9 ?h10 ?h11 ?h12 ?h13 ?h14 ?h15 ?h16 ?h17 ?h18 ?h19 ?h20 ?h21 ?h22 ?h23 ?h24 ?h25 ?h26 ?h27 ?h28 ?h29
      case h0 => refine' PL.DefAt.of ?a ?l ?c ?k ?b; (case a => k_is); (case l => k_is); (case c => k_is); (case k => k_is); (case b => exact fun _ _ _ _ _ _ us hl => match us, hl with | [_], _ => rfl)
      case h1 => refine' PL.DefAt.of ?a ?l ?c ?k ?b; (case a => k_is); (case l => k_is); (case c => k_is); (case k => k_is); (case b => exact fun _ _ _ _ _ _ us hl => match us, hl with | [_], _ => rfl)
      case h2 => refine' PL.DefAt.of ?a ?l ?c ?k ?b; (case a => k_is); (case l => k_is); (case c => k_is); (case k => k_is); (case b => exact fun _ _ _ _ _ _ us hl => match us, hl with | [_, _], _ => rfl)
      case h3 => refine' PL.DefAt.of ?a ?l ?c ?k ?b; (case a => k_is); (case l => k_is); (case c => k_is); (case k => k_is); (case b => exact fun _ _ _ _ _ _ us hl => match us, hl with | [_], _ => rfl)
      case h4 => refine' PL.DefAt.of ?a ?l ?c ?k ?b; (case a => k_is); (case l => k_is); (case c => k_is); (case k => k_is); (case b => exact fun _ _ _ _ _ _ us hl => match us, hl with | [_], _ => rfl)
      case h5 => refine' PL.DefAt.of ?a ?l ?c ?k ?b; (case a => k_is); (case l => k_is); (case c => k_is); (case k => k_is); (case b => exact fun _ _ _ _ _ _ us hl => match us, hl with | [_], _ => rfl)
      case h6 => refine' PL.DefAt.of ?a ?l ?c ?k ?b; (case a => k_is); (case l => k_is); (case c => k_is); (case k => k_is); (case b => exact fun _ _ _ _ _ _ us hl => match us, hl with | [_], _ => rfl)
      case h7 => refine' PL.DefAt.of ?a ?l ?c ?k ?b; (case a => k_is); (case l => k_is); (case c => k_is); (case k => k_is); (case b => exact fun _ _ _ _ _ _ us hl => match us, hl with | [_], _ => rfl)
      case h8 => refine' PL.DefAt.of ?a ?l ?c ?k ?b; (case a => k_is); (case l => k_is); (case c => k_is); (case k => k_is); (case b => exact fun _ _ _ _ _ _ us hl => match us, hl with | [_], _ => rfl)
      case h9 => refine' PL.DefAt.of ?a ?l ?c ?k ?b; (case a => k_is); (case l => k_is); (case c => k_is); (case k => k_is); (case b => exact fun _ _ _ _ _ _ us hl => match us, hl with | [_, _], _ => rfl)
      case h10 => refine' PL.DefAt.of ?a ?l ?c ?k ?b; (case a => k_is); (case l => k_is); (case c => k_is); (case k => k_is); (case b => exact fun _ _ _ _ _ _ us hl => match us, hl with | [_, _], _ => rfl)
      case h11 => refine' PL.DefAt.of ?a ?l ?c ?k ?b; (case a => k_is); (case l => k_is); (case c => k_is); (case k => k_is); (case b => exact fun _ _ _ _ _ _ us hl => match us, hl with | [_, _, _], _ => rfl)
      case h12 => refine' PL.DefAt.of ?a ?l ?c ?k ?b; (case a => k_is); (case l => k_is); (case c => k_is); (case k => k_is); (case b => exact fun _ _ _ _ _ _ us hl => match us, hl with | [_], _ => rfl)
      case h13 => refine' PL.DefAt.of ?a ?l ?c ?k ?b; (case a => k_is); (case l => k_is); (case c => k_is); (case k => k_is); (case b => exact fun _ _ _ _ _ _ us hl => match us, hl with | [_], _ => rfl)
      case h14 => refine' PL.DefAt.of ?a ?l ?c ?k ?b; (case a => k_is); (case l => k_is); (case c => k_is); (case k => k_is); (case b => exact fun _ _ _ _ _ _ us hl => match us, hl with | [_], _ => rfl)
      case h15 => refine' PL.DefAt.of ?a ?l ?c ?k ?b; (case a => k_is); (case l => k_is); (case c => k_is); (case k => k_is); (case b => exact fun _ _ _ _ _ _ us hl => match us, hl with | [_], _ => rfl)
      case h16 => refine' PL.DefAt.of ?a ?l ?c ?k ?b; (case a => k_is); (case l => k_is); (case c => k_is); (case k => k_is); (case b => exact fun _ _ _ _ _ _ us hl => match us, hl with | [_], _ => rfl)
      case h17 => refine' PL.DefAt.of ?a ?l ?c ?k ?b; (case a => k_is); (case l => k_is); (case c => k_is); (case k => k_is); (case b => exact fun _ _ _ _ _ _ us hl => match us, hl with | [_, _], _ => rfl)
      case h18 => refine' PL.DefAt.of ?a ?l ?c ?k ?b; (case a => k_is); (case l => k_is); (case c => k_is); (case k => k_is); (case b => exact fun _ _ _ _ _ _ us hl => match us, hl with | [_], _ => rfl)
      case h19 => refine' PL.DefAt.of ?a ?l ?c ?k ?b; (case a => k_is); (case l => k_is); (case c => k_is); (case k => k_is); (case b => exact fun _ _ _ _ _ _ us hl => match us, hl with | [_], _ => rfl)
      case h20 => refine' PL.DefAt.of ?a ?l ?c ?k ?b; (case a => k_is); (case l => k_is); (case c => k_is); (case k => k_is); (case b => exact fun _ _ _ _ _ _ us hl => match us, hl with | [_], _ => rfl)
      case h21 => refine' PL.DefAt.of ?a ?l ?c ?k ?b; (case a => k_is); (case l => k_is); (case c => k_is); (case k => k_is); (case b => exact fun _ _ _ _ _ _ us hl => match us, hl with | [_, _], _ => rfl)
      case h22 => refine' PL.DefAt.of ?a ?l ?c ?k ?b; (case a => k_is); (case l => k_is); (case c => k_is); (case k => k_is); (case b => exact fun _ _ _ _ _ _ us hl => match us, hl with | [_, _], _ => rfl)
      case h23 => refine' PL.DefAt.of ?a ?l ?c ?k ?b; (case a => k_is); (case l => k_is); (case c => k_is); (case k => k_is); (case b => exact fun _ _ _ _ _ _ us hl => match us, hl with | [_, _, _], _ => rfl)
      case h24 => refine' PL.DefAt.of ?a ?l ?c ?k ?b; (case a => k_is); (case l => k_is); (case c => k_is); (case k => k_is); (case b => exact fun _ _ _ _ _ _ us hl => match us, hl with | [_], _ => rfl)
      case h25 => refine' PL.DefAt.of ?a ?l ?c ?k ?b; (case a => k_is); (case l => k_is); (case c => k_is); (case k => k_is); (case b => exact fun _ _ _ _ _ _ us hl => match us, hl with | [_, _], _ => rfl)
      case h26 => refine' PL.DefAt.of ?a ?l ?c ?k ?b; (case a => k_is); (case l => k_is); (case c => k_is); (case k => k_is); (case b => exact fun _ _ _ _ _ _ us hl => match us, hl with | [_, _], _ => rfl)
      case h27 => refine' PL.DefAt.of ?a ?l ?c ?k ?b; (case a => k_is); (case l => k_is); (case c => k_is); (case k => k_is); (case b => exact fun _ _ _ _ _ _ us hl => match us, hl with | [_, _], _ => rfl)
      case h28 => refine' PL.DefAt.of ?a ?l ?c ?k ?b; (case a => k_is); (case l => k_is); (case c => k_is); (case k => k_is); (case b => exact fun _ _ _ _ _ _ us hl => match us, hl with | [_], _ => rfl)
      case h29 => refine' PL.DefAt.of ?a ?l ?c ?k ?b; (case a => k_is); (case l => k_is); (case c => k_is); (case k => k_is); (case b => exact fun _ _ _ _ _ _ us hl => match us, hl with | [_], _ => rfl)
    case bs =>
      refine' Lw.bs_mk (PySem.W.mg_none_of KX G ?z0) (PySem.W.mg_none_of KX G ?z1) (PySem.W.mg_none_of KX G ?z2) (PySem.W.mg_none_of KX G ?z3) (PySem.W.mg_none_of KX G ?z4) (PySem.W.mg_none_of KX G ?z5) (PySem.W.mg_none_of KX G ?z6) (PySem.W.mg_none_of KX G ?z7) (PySem.W.mg_none_of KX G ?z8)
      case z0 => k_is
      case z1 => k_is
      case z2 => k_is
      case z3 => k_is
      case z4 => k_is
      case z5 => k_is
      case z6 => k_is
      case z7 => k_is
      case z8 => k_is
    case cs =>
      refine' Lw.cs_mk (PySem.W.mg_of KX G ?c0) (PySem.W.mg_of KX G ?c1)
      case c0 => k_is
      case c1 => k_is
