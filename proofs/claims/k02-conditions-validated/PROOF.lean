import PyProof.Rows.All
import Wide.All
import OpenK.AllK
import Wide.FinOn
import HandS.ForMost
import HandS.ForExc
import HandS.IsInst
import HandS.Strs
import HandS.Property
import HandS.Star
import HandS.ExcInit
import KE.KExcSuper
import KE.KSuperObj
import KE.KSuper
import HandS.ExcValue
import HandS.ExcField
import HandS.ExcIs
import HandS.Lambda
import HandS.HeadHook2
import KE.KStateDown
import HandS.Head0
import HandS.Head1
import HandS.Head2
import HandS.TupAny
import KE.GoesMore
import KE.GoesEnum
import HandS.Replace
import HandS.Style
import HandS.More
import HandS.SetFor
import HandS.NamedTupGet
import KE.KRevSl
import HandS.HeadWalk
import HandS.HeadEnd
import PyProof.StrLawsIn
import PySem.Challenge.RW_smallcourt_k02_conditions_validated
set_option Elab.async false
set_option linter.all false
set_option maxRecDepth 100000
/-! Core: a small language that mirrors the program's defs, its values and its evaluator. -/
namespace SC
open PySem L2

inductive MV where
  | non | bl (b : Bool) | int (i : Int) | str (s : Str)
  | tup (xs : List MV) | lst (xs : List MV) | scr (xs : List MV)
  | ins (c : Nat) (vs : List MV) | dct (ks : List Key) (vs : List MV) | exo (c a : Nat) (d : Option Nat) (vs : List MV)
  deriving Inhabited

/-- what a name holds: a value that never changes, or a live object -/
inductive LV where
  | v (x : MV) | r (n : Nat)
  deriving Inhabited

inductive MO where
  | dead | lst (xs : List LV) | ins (c : Nat) (fs : List (Nat × LV))
  deriving Inhabited

abbrev MH := List MO
abbrev ME := List (Option LV)

inductive Out (α : Type) where
  | ok (a : α) (h : MH) | exc (c : Nat) (fs : List (Nat × MV)) (h : MH) | bad

@[simp] def Out.bind {α β : Type} (o : Out α) (f : α → MH → Out β) : Out β := match o with
  | .ok a h => f a h
  | .exc c fs h => .exc c fs h
  | .bad => .bad

inductive OutS where
  | nxt (r : ME) (h : MH) | ret (x : LV) (h : MH) | brk (r : ME) (h : MH) | cnt (r : ME) (h : MH) | exc (c : Nat) (fs : List (Nat × MV)) (h : MH) | bad

@[simp] def Out.thenS {α : Type} (o : Out α) (f : α → MH → OutS) : OutS := match o with
  | .ok a h => f a h
  | .exc c fs h => .exc c fs h
  | .bad => .bad
@[simp] def OutS.andS (o : OutS) (f : ME → MH → OutS) : OutS := match o with
  | .nxt r h => f r h
  | o => o

/-! ### decidable equality -/
mutual
def MV.beq (x y : MV) : Bool := match x with
  | .non => match y with | .non => true | _ => false
  | .bl a => match y with | .bl b => a == b | _ => false
  | .int a => match y with | .int b => a == b | _ => false
  | .str a => match y with | .str b => a == b | _ => false
  | .tup xs => match y with | .tup ys => MV.beqs xs ys | _ => false
  | .lst xs => match y with | .lst ys => MV.beqs xs ys | _ => false
  | .scr xs => match y with | .scr ys => MV.beqs xs ys | _ => false
  | .ins c xs => match y with | .ins d ys => c == d && MV.beqs xs ys | _ => false
  | .dct ks xs => match y with | .dct js ys => decide (ks = js) && MV.beqs xs ys | _ => false
  | .exo c a d xs => match y with | .exo c' a' d' ys => decide (c = c' ∧ a = a' ∧ d = d') && MV.beqs xs ys | _ => false
def MV.beqs (x y : List MV) : Bool := match x with
  | [] => match y with | [] => true | _ => false
  | x :: xs => match y with | y :: ys => MV.beq x y && MV.beqs xs ys | _ => false
end
mutual
theorem MV.beq_eq : ∀ {x y : MV}, MV.beq x y = true → x = y
  | .non, y, h => by cases y <;> simp_all [MV.beq]
  | .bl a, y, h => by cases y <;> simp_all [MV.beq]
  | .int a, y, h => by cases y <;> simp_all [MV.beq]
  | .str a, y, h => by cases y <;> simp_all [MV.beq]
  | .tup xs, y, h => by
    cases y <;> simp only [MV.beq, Bool.false_eq_true] at h
    rw [MV.beqs_eq h]
  | .lst xs, y, h => by
    cases y <;> simp only [MV.beq, Bool.false_eq_true] at h
    rw [MV.beqs_eq h]
  | .scr xs, y, h => by
    cases y <;> simp only [MV.beq, Bool.false_eq_true] at h
    rw [MV.beqs_eq h]
  | .ins c fs, y, h => by
    cases y <;> simp only [MV.beq, Bool.false_eq_true, Bool.and_eq_true, beq_iff_eq] at h
    rw [MV.beqs_eq h.2, h.1]
  | .dct ks fs, y, h => by
    cases y <;> simp only [MV.beq, Bool.false_eq_true, Bool.and_eq_true, decide_eq_true_eq] at h
    rw [MV.beqs_eq h.2, h.1]
  | .exo c a d fs, y, h => by
    cases y <;> simp only [MV.beq, Bool.false_eq_true, Bool.and_eq_true, decide_eq_true_eq] at h
    rw [MV.beqs_eq h.2, h.1.1, h.1.2.1, h.1.2.2]
theorem MV.beqs_eq : ∀ {x y : List MV}, MV.beqs x y = true → x = y
  | [], y, h => by cases y <;> simp_all [MV.beqs]
  | x :: xs, y, h => by
    cases y with
    | nil => simp [MV.beqs] at h
    | cons y ys =>
      simp only [MV.beqs, Bool.and_eq_true] at h
      rw [MV.beq_eq h.1, MV.beqs_eq h.2]
end
mutual
theorem MV.beq_refl : ∀ (x : MV), MV.beq x x = true
  | .non => by simp [MV.beq]
  | .bl a => by simp [MV.beq]
  | .int a => by simp [MV.beq]
  | .str a => by simp [MV.beq]
  | .tup xs => by simp only [MV.beq]; exact MV.beqs_refl xs
  | .lst xs => by simp only [MV.beq]; exact MV.beqs_refl xs
  | .scr xs => by simp only [MV.beq]; exact MV.beqs_refl xs
  | .ins c fs => by simp only [MV.beq, beq_self_eq_true, Bool.true_and]; exact MV.beqs_refl fs
  | .dct ks fs => by simp only [MV.beq, decide_true, Bool.true_and]; exact MV.beqs_refl fs
  | .exo c a d fs => by simp only [MV.beq, and_self, decide_true, Bool.true_and]; exact MV.beqs_refl fs
theorem MV.beqs_refl : ∀ (x : List MV), MV.beqs x x = true
  | [] => by simp [MV.beqs]
  | x :: xs => by simp only [MV.beqs, MV.beq_refl x, MV.beqs_refl xs, Bool.and_self]
end
instance : DecidableEq MV := fun x y => if h : MV.beq x y = true then .isTrue (MV.beq_eq h) else .isFalse fun e => h (e ▸ MV.beq_refl x)
instance : DecidableEq LV := fun x y => match x, y with
  | .v a, .v b => if h : a = b then .isTrue (by rw [h]) else .isFalse fun e => h (by cases e; rfl)
  | .r a, .r b => if h : a = b then .isTrue (by rw [h]) else .isFalse fun e => h (by cases e; rfl)
  | .v _, .r _ => .isFalse fun e => by cases e
  | .r _, .v _ => .isFalse fun e => by cases e

/-! ### the language -/
inductive BOp where | add | addL | sub | mul | fdiv | mod | pow | shl | shr | band | rep
  deriving DecidableEq
inductive COp where | eq | ne | lt | le | gt | ge | isin | notin | isn | notn
  deriving DecidableEq
inductive Ty where | int | bool | str | tuple | list | dict | cls (c : Nat)
  deriving DecidableEq
inductive Blt where | len | int1 | max2 | min2 | list | listL | tuple | sorted | sortedSet | sum | maxL | isi (ts : List Ty)
  deriving DecidableEq
inductive BMt where | append | extend | popAt | popLast | index | join | count | split | insert | reverse
  deriving DecidableEq
inductive Tg where | nm (i : Nat) | tup (ts : List Tg)

mutual
inductive CE where
  | var (i : Nat) | cst (x : MV)
  | tup (es : CEs) | lst (es : CEs) | lstL (es : CEs)
  | bin (op : BOp) (a b : CE) | neg (a : CE)
  | not (a : CE) | and (a b : CE) | or (a b : CE) | ite (t a b : CE)
  | cmp (op : COp) (a b : CE) | chn (o1 o2 : COp) (a b c : CE)
  | call (f : Nat) (es : CEs) | make (c : Nat) (es : CEs) | meth (m : Nat) (o : CE) (es : CEs) | attr (f : Nat) (o : CE) | inst (o : CE) (es : CEs)
  | blt (b : Blt) (es : CEs) | bm (m : BMt) (o : CE) (es : CEs)
  | idx (a b : CE) | slc (live : Bool) (a lo hi : CE)
  | comp (live : Bool) (t : Tg) (it : CI) (c e : CE)
  | frz (e : CE) | nop | errL (e : CE) | isx (c a : Nat) (d : Option Nat) (x i : Nat) | xat (c a : Nat) (d : Option Nat) (f i : Nat) | lenO (m : Nat) (o : CE) | rev (a : CE)
inductive CEs where
  | nil | cons (e : CE) (es : CEs)
inductive CI where
  | val (e : CE) | rng (e : CE) | rng2 (a b : CE) | enum (e : CE) | zip (a b : CE)
end
mutual
inductive CS where
  | asg (t : Tg) (e : CE) | par (is : List Nat) (es : CEs) | setF (f : Nat) (o e : CE) | setI (o i e : CE)
  | aug (i : Nat) (op : BOp) (e : CE) | augF (f : Nat) (op : BOp) (o e : CE)
  | expr (e : CE) | ret (e : CE) | pass | brk | cnt | never | rais (c : Nat) (fs : List Nat) (es : CEs)
  | ife (t : CE) (a b : CSs) | tryR (c : Nat) (gs : List Nat) (body : CSs) | forr (t : Tg) (it : CI) (body : CSs) | whil (t : CE) (body : CSs)
inductive CSs where
  | nil | cons (s : CS) (ss : CSs)
end

structure Tab where
  lay : Nat → List Nat
  frozen : Nat → Bool
  prop : Nat → Nat → Option Nat
  meth : Nat → Nat → Option Nat
  init : Nat → Option Nat
  callm : Nat → Option Nat
  err : Nat → List MV → Option MV
  isx : Nat → Nat → Option Bool
  xlay : Nat → List Nat

/-! ### values, read in a heap -/
def pures : List LV → Option (List MV)
  | [] => some []
  | .v x :: r => (pures r).map (x :: ·)
  | .r _ :: _ => none
def lstOf (h : MH) : LV → Option (List LV)
  | .v (.lst xs) => some (xs.map .v)
  | .r n => match h[n]? with
    | some (.lst xs) => some xs
    | _ => none
  | _ => none
def seqOf (h : MH) : LV → Option (List LV)
  | .v (.lst xs) => some (xs.map .v)
  | .v (.scr xs) => some (xs.map .v)
  | .v (.tup xs) => some (xs.map .v)
  | .r n => match h[n]? with
    | some (.lst xs) => some xs
    | _ => none
  | _ => none
/-- a value as it stands now: a live list as a list -/
def valOf (h : MH) : LV → Option MV
  | .v x => some x
  | .r n => match h[n]? with
    | some (.lst xs) => (pures xs).map .lst
    | _ => none
mutual
def toD (x : MV) : Option PyData := match x with
  | .non => some .none
  | .bl b => some (.bool b)
  | .int i => some (.int i)
  | .str s => some (.str s)
  | .tup xs => (toDs xs).map .tuple
  | .lst xs => (toDs xs).map .list
  | _ => none
def toDs (x : List MV) : Option (List PyData) := match x with
  | [] => some []
  | x :: xs => match toD x, toDs xs with
    | some d, some ds => some (d :: ds)
    | _, _ => none
end
def insOf (T : Tab) (h : MH) : LV → Option (Nat × List (Nat × LV))
  | .v (.ins c vs) => some (c, (T.lay c).zip (vs.map .v))
  | .r n => match h[n]? with
    | some (.ins c fs) => some (c, fs)
    | _ => none
  | _ => none
def intsL : List LV → Option (List Int)
  | [] => some []
  | .v (.int i) :: r => (intsL r).map (i :: ·)
  | _ :: _ => none
def strsL : List LV → Option (List Str)
  | [] => some []
  | .v (.str i) :: r => (strsL r).map (i :: ·)
  | _ :: _ => none
def ltS (a b : Str) : Bool := decide (a.cps.toList < b.cps.toList)
def leS (a b : Str) : Bool := !ltS b a
def insS (x : Str) : List Str → List Str
  | [] => [x]
  | y :: r => if leS x y then x :: y :: r else y :: insS x r
def sortS : List Str → List Str
  | [] => []
  | x :: r => insS x (sortS r)
def dedupS : List Str → List Str
  | [] => []
  | x :: r => if x ∈ r then dedupS r else x :: dedupS r
def flat : LV → Bool
  | .v .non => true
  | .v (.bl _) => true
  | .v (.int _) => true
  | .v (.str _) => true
  | _ => false
def eqM : MV → MV → Bool
  | .non, .non => true
  | .bl a, .bl b => a == b
  | .bl a, .int b => (if a then 1 else 0) == b
  | .int a, .bl b => a == (if b then 1 else 0)
  | .int a, .int b => a == b
  | .str a, .str b => a == b
  | _, _ => false
def eqL : LV → LV → Bool
  | .v a, .v b => eqM a b
  | _, _ => false
def ok1 {α : Type} (x : MV) (h : MH) : Out LV := .ok (.v x) h

def ret (x : MV) (h : MH) : Out LV := .ok (.v x) h

def addF (x y : LV) (h : MH) : Out LV := match x, y with
  | .v (.int i), .v (.int j) => ret (.int (i + j)) h
  | .v (.str a), .v (.str b) => if a.length + b.length ≤ sizeLine then ret (.str (a ++ b)) h else .bad
  | .v (.tup xs), .v (.tup ys) => if xs.length + ys.length ≤ sizeLine then ret (.tup (xs ++ ys)) h else .bad
  | x, y => match (lstOf h x).bind pures, (lstOf h y).bind pures with
    | some xs, some ys => if xs.length + ys.length ≤ sizeLine then ret (.lst (xs ++ ys)) h else .bad
    | _, _ => .bad
def addLF (x y : LV) (h : MH) : Out LV := match lstOf h x, lstOf h y with
  | some xs, some ys => if xs.length + ys.length ≤ sizeLine then .ok (.r h.length) (h ++ [.lst (xs ++ ys)]) else .bad
  | _, _ => .bad
def arith (op : BOp) (i j : Int) : Option Int := match op with
  | .add => some (i + j)
  | .addL => none
  | .sub => some (i - j)
  | .mul => if (-(2 ^ 64) < i ∧ i < 2 ^ 64) ∨ (-(2 ^ 64) < j ∧ j < 2 ^ 64) then some (i * j) else none
  | .fdiv => if j ≠ 0 ∧ j.natAbs < 1073741824 then some (i.fdiv j) else none
  | .mod => if j ≠ 0 then some (i.fmod j) else none
  | .pow => if 0 ≤ j ∧ j ≤ 1000000 ∧ i.natAbs < 2 ^ 64 then some (i ^ j.toNat) else none
  | .shl => if 0 ≤ j ∧ j ≤ 1000000 ∧ i.natAbs < 2 ^ 64 then some (i * 2 ^ j.toNat) else none
  | .shr => if 0 ≤ j then some (i / 2 ^ j.toNat) else none
  | .band => some (Builtin.bitAnd i j)
  | .rep => none
def arF (op : BOp) (x y : LV) (h : MH) : Out LV := match x, y with
  | .v (.int i), .v (.int j) => match arith op i j with
    | some k => ret (.int k) h
    | none => .bad
  | _, _ => .bad
/-- a list times a number -/
def repF (x y : LV) (h : MH) : Out LV := match (lstOf h x).bind pures, y with
  | some xs, .v (.int k) => if -(2 ^ 63) ≤ k ∧ k < 2 ^ 63 ∧ xs.length * k.toNat ≤ sizeLine then ret (.lst (List.replicate k.toNat xs).flatten) h else .bad
  | _, _ => .bad
def binF (op : BOp) (x y : LV) (h : MH) : Out LV := match op with
  | .add => addF x y h
  | .addL => addLF x y h
  | .sub => arF .sub x y h
  | .mul => arF .mul x y h
  | .fdiv => arF .fdiv x y h
  | .mod => arF .mod x y h
  | .pow => arF .pow x y h
  | .shl => arF .shl x y h
  | .shr => arF .shr x y h
  | .band => arF .band x y h
  | .rep => repF x y h

def eqD (x y : LV) (h : MH) : Option Bool := match (valOf h x).bind toD, (valOf h y).bind toD with
  | some d, some e => if SeqAt.shaped d = true ∧ SeqAt.shaped e = true then some (PyData.eqv d e) else none
  | _, _ => none
def eqN (x y : LV) (h : MH) : Option Bool := match lstOf h x, lstOf h y with
  | some xs, some ys => if xs.length = ys.length then none else some false
  | _, _ => none
/-- ==: of data, or of lists that are not of one length -/
def eqF (x y : LV) (h : MH) : Option Bool := match eqD x y h with
  | some b => some b
  | none => eqN x y h
def inF (x y : LV) (h : MH) : Option Bool := match x, y with
  | .v (.str a), .v (.str b) => some (!(Builtin.Str.occurrences b a 0 b.length 1).isEmpty)
  | x, y => match seqOf h y with
    | some ys => if flat x = true ∧ ys.all flat = true then some (ys.any fun z => eqL z x) else none
    | none => none
def cmpF (op : COp) (x y : LV) (h : MH) : Option Bool := match op with
  | .eq => eqF x y h
  | .ne => (eqF x y h).map (!·)
  | .isin => inF x y h
  | .notin => (inF x y h).map (!·)
  | .isn => match y with
    | .v .non => some (decide (x = .v .non))
    | _ => none
  | .notn => match y with
    | .v .non => some (!decide (x = .v .non))
    | _ => none
  | .lt => match x, y with
    | .v (.int i), .v (.int j) => some (decide (i < j))
    | .v (.str a), .v (.str b) => some (ltS a b)
    | _, _ => none
  | .le => match x, y with
    | .v (.int i), .v (.int j) => some (decide (i ≤ j))
    | .v (.str a), .v (.str b) => some (leS a b)
    | _, _ => none
  | .gt => match x, y with
    | .v (.int i), .v (.int j) => some (decide (j < i))
    | .v (.str a), .v (.str b) => some (ltS b a)
    | _, _ => none
  | .ge => match x, y with
    | .v (.int i), .v (.int j) => some (decide (j ≤ i))
    | .v (.str a), .v (.str b) => some (leS b a)
    | _, _ => none
def cmpO (op : COp) (x y : LV) (h : MH) : Out LV := match cmpF op x y h with
  | some b => ret (.bl b) h
  | none => .bad

def tyIs (T : Tab) (h : MH) (x : LV) (t : Ty) : Option Bool := match x with
  | .v .non => some false
  | .v (.bl _) => some (t == .int || t == .bool)
  | .v (.int _) => some (t == .int)
  | .v (.str _) => some (t == .str)
  | .v (.tup _) => some (t == .tuple)
  | .v (.lst _) => some (t == .list)
  | .v (.ins c _) => some (t == .cls c)
  | .r n => match h[n]? with
    | some (.lst _) => some (t == .list)
    | some (.ins c _) => some (t == .cls c)
    | _ => none
  | _ => none
def tyAny (T : Tab) (h : MH) (x : LV) : List Ty → Option Bool
  | [] => some false
  | t :: r => match tyIs T h x t, tyAny T h x r with
    | some a, some b => some (a || b)
    | _, _ => none

def lenF (x : LV) (h : MH) : Out LV := match x with
  | .v (.str a) => if a.length ≤ sizeLine then ret (.int a.length) h else .bad
  | x => match seqOf h x with
    | some xs => ret (.int xs.length) h
    | none => .bad
def maxI : List Int → Option Int
  | [] => none
  | x :: r => match maxI r with
    | none => some x
    | some m => some (if m < x then x else m)
def un1 (f : LV → MH → Out LV) (ls : List LV) (h : MH) : Out LV := match ls with
  | [x] => f x h
  | _ => .bad
def un2 (f : LV → LV → MH → Out LV) (ls : List LV) (h : MH) : Out LV := match ls with
  | [x, y] => f x y h
  | _ => .bad
def un0 (f : MH → Out LV) (ls : List LV) (h : MH) : Out LV := match ls with
  | [] => f h
  | _ => .bad
def intF (x : LV) (h : MH) : Out LV := match x with
  | .v (.int i) => ret (.int i) h
  | .v (.bl k) => ret (.int (if k then 1 else 0)) h
  | _ => .bad
def maxF (x y : LV) (h : MH) : Out LV := match x, y with
  | .v (.int i), .v (.int j) => ret (.int (if j > i then j else i)) h
  | _, _ => .bad
def minF (x y : LV) (h : MH) : Out LV := match x, y with
  | .v (.int i), .v (.int j) => ret (.int (if j < i then j else i)) h
  | _, _ => .bad
def listF (x : LV) (h : MH) : Out LV := match (seqOf h x).bind pures with
  | some xs => ret (.lst xs) h
  | none => .bad
def listLF (x : LV) (h : MH) : Out LV := match seqOf h x with
  | some xs => .ok (.r h.length) (h ++ [.lst xs])
  | none => .bad
def tupleF (x : LV) (h : MH) : Out LV := match (seqOf h x).bind pures with
  | some xs => ret (.tup xs) h
  | none => .bad
def sortedF (x : LV) (h : MH) : Out LV := match (seqOf h x).bind strsL with
  | some xs => if xs.length < 64 then ret (.lst ((sortS xs).map .str)) h else .bad
  | none => .bad
def sumF (x : LV) (h : MH) : Out LV := match (lstOf h x).bind intsL with
  | some xs => ret (.int xs.sum) h
  | none => .bad
def maxLF (x : LV) (h : MH) : Out LV := match ((lstOf h x).bind intsL).bind maxI with
  | some m => ret (.int m) h
  | none => .bad
def isiF (T : Tab) (ts : List Ty) (x : LV) (h : MH) : Out LV := match tyAny T h x ts with
  | some b => ret (.bl b) h
  | none => .bad
def bltF (T : Tab) (b : Blt) (ls : List LV) (h : MH) : Out LV := match b with
  | .len => un1 lenF ls h
  | .int1 => un1 intF ls h
  | .max2 => un2 maxF ls h
  | .min2 => un2 minF ls h
  | .list => un1 listF ls h
  | .listL => un1 listLF ls h
  | .tuple => un1 tupleF ls h
  | .sorted => un1 sortedF ls h
  | .sortedSet => .bad
  | .sum => un1 sumF ls h
  | .maxL => un1 maxLF ls h
  | .isi ts => un1 (isiF T ts) ls h

def idxF (x y : LV) (h : MH) : Out LV := match x, y with
  | .v (.str a), .v (.int i) => match atI a.cps.toList i with
    | some c => if a.length ≤ sizeLine then ret (.str ⟨#[c]⟩) h else .bad
    | none => .bad
  | x, .v (.int i) => match (seqOf h x).bind fun xs => atI xs i with
    | some z => .ok z h
    | none => .bad
  | _, _ => .bad
def cutM {α : Type} (xs : List α) (lo hi : Option Int) : List α := (xs.drop (HT.sIx xs.length 0 lo)).take (HT.sIx xs.length xs.length hi - HT.sIx xs.length 0 lo)
def optI (x : LV) (h : MH) : Out (Option Int) := match x with
  | .v (.int i) => .ok (some i) h
  | _ => .bad
def slcF (live : Bool) (x : LV) (l u : Option Int) (h : MH) : Out LV := match x with
  | .v (.str a) => if a.length ≤ sizeLine then ret (.str (cutS a l u)) h else .bad
  | .v (.tup xs) => ret (.tup (cutM xs l u)) h
  | x => if live then (match lstOf h x with
    | some xs => .ok (.r h.length) (h ++ [.lst (cutM xs l u)])
    | none => .bad) else match (lstOf h x).bind pures with
    | some xs => ret (.lst (cutM xs l u)) h
    | none => .bad
def CE.isNop : CE → Bool
  | .nop => true
  | _ => false
def noexc (o : Out LV) : Out LV := match o with
  | .ok x h => .ok x h
  | _ => .bad
def firstIx (p : LV → Bool) : List LV → Option Nat
  | [] => none
  | x :: r => if p x then some 0 else (firstIx p r).map (· + 1)
def appendF (o x : LV) (h : MH) : Out LV := match o with
  | .r n => match h[n]? with
    | some (.lst xs) => if xs.length < sizeLine then .ok (.v .non) (h.set n (.lst (xs ++ [x]))) else .bad
    | _ => .bad
  | _ => .bad
def extendF (o x : LV) (h : MH) : Out LV := match o, lstOf h x with
  | .r n, some ys => match h[n]? with
    | some (.lst xs) => if xs.length + ys.length ≤ sizeLine then .ok (.v .non) (h.set n (.lst (xs ++ ys))) else .bad
    | _ => .bad
  | _, _ => .bad
def popAtF (o x : LV) (h : MH) : Out LV := match o, x with
  | .r n, .v (.int i) => match h[n]? with
    | some (.lst xs) => match seqIndex? i xs.length with
      | some k => match xs[k]? with
        | some z => if -(2 ^ 63) ≤ i ∧ i < 2 ^ 63 then .ok z (h.set n (.lst (xs.eraseIdx k))) else .bad
        | none => .bad
      | none => .bad
    | _ => .bad
  | _, _ => .bad
def popLastF (o : LV) (h : MH) : Out LV := match o with
  | .r n => match h[n]? with
    | some (.lst xs) => match xs[xs.length - 1]? with
      | some z => .ok z (h.set n (.lst xs.dropLast))
      | none => .bad
    | _ => .bad
  | _ => .bad
def indexF (o x : LV) (h : MH) : Out LV := match o with
  | .v (.str a) => match x with
    | .v (.str b) => match Builtin.Str.occurrences a b 0 a.length 1 with
      | i :: _ => ret (.int (i : Nat)) h
      | [] => .bad
    | _ => .bad
  | .v (.tup xs) => match x, strsL (xs.map .v) with
    | .v (.str b), some ys => match ys.findIdx? (fun z => z == b) with
      | some j => ret (.int (j : Nat)) h
      | none => .bad
    | _, _ => .bad
  | o => match lstOf h o with
    | some ys => if flat x = true ∧ ys.all flat = true then (match ys.findIdx? (fun z => eqL z x) with
      | some j => ret (.int (j : Nat)) h
      | none => .bad) else .bad
    | none => .bad
def joinF (o x : LV) (h : MH) : Out LV := match o, (seqOf h x).bind strsL with
  | .v (.str a), some ys => if (ys.map (·.length)).sum + ys.length * a.length ≤ 16777216 then ret (.str (Txt.join a ys)) h else .bad
  | _, _ => .bad
def splitF (o x : LV) (h : MH) : Out LV := match o, x with
  | .v (.str a), .v (.str b) => if (b.length == 0) = false ∧ a.length + 2 ≤ sizeLine then ret (.lst ((Txt.split a b).map .str)) h else .bad
  | _, _ => .bad
def countF (o x : LV) (h : MH) : Out LV := match lstOf h o with
  | some ys => if flat x = true ∧ ys.all flat = true then ret (.int ((ys.countP fun z => eqL z x : Nat) : Int)) h else .bad
  | none => .bad
def insertF (o i x : LV) (h : MH) : Out LV := match o, i with
  | .r n, .v (.int k) => match h[n]? with
    | some (.lst xs) => if xs.length < sizeLine ∧ 0 ≤ k ∧ k < 2 ^ 63 then .ok (.v .non) (h.set n (.lst (xs.take k.toNat ++ x :: xs.drop k.toNat))) else .bad
    | _ => .bad
  | _, _ => .bad
def reverseF (o : LV) (h : MH) : Out LV := match o with
  | .r n => match h[n]? with
    | some (.lst xs) => .ok (.v .non) (h.set n (.lst xs.reverse))
    | _ => .bad
  | _ => .bad
/-- what a caught error is told as -/
def errF (T : Tab) (o : Out LV) : Out LV := match o with
  | .ok _ h => .ok (.v (.tup [.str "none"])) h
  | .exc c fs h => if fs.map (·.1) = T.xlay c then (match T.err c (fs.map (·.2)) with
    | some v => .ok (.v v) h
    | none => .bad) else .bad
  | .bad => .bad
def isxF (T : Tab) (c a : Nat) (d : Option Nat) (x : Nat) (l : Option (Option LV)) (h : MH) : Out LV := match l with
  | some (some (.v (.exo c' a' d' vs))) => if c' = c ∧ a' = a ∧ d' = d then (match T.isx c x with
    | some b => ret (.bl b) h
    | none => .bad) else .bad
  | _ => .bad
def xatF (T : Tab) (c a : Nat) (d : Option Nat) (f : Nat) (l : Option (Option LV)) (h : MH) : Out LV := match l with
  | some (some (.v (.exo c' a' d' vs))) => if c' = c ∧ a' = a ∧ d' = d then (match ((T.xlay c).zip vs).lookup f with
    | some v => ret v h
    | none => .bad) else .bad
  | _ => .bad
def lenOF (o : Out LV) : Out LV := match o with
  | .ok (.v (.int i)) h => if 0 ≤ i ∧ i < 2 ^ 63 then .ok (.v (.int i)) h else .bad
  | _ => .bad
def revF (x : LV) (h : MH) : Out LV := match x with
  | .v (.tup xs) => if xs.length ≤ sizeLine then ret (.tup xs.reverse) h else .bad
  | _ => .bad
def bmF (m : BMt) (o : LV) (as : List LV) (h : MH) : Out LV := match m with
  | .append => un1 (appendF o) as h
  | .extend => un1 (extendF o) as h
  | .popAt => un1 (popAtF o) as h
  | .popLast => un0 (popLastF o) as h
  | .index => un1 (indexF o) as h
  | .join => un1 (joinF o) as h
  | .split => un1 (splitF o) as h
  | .count => un1 (countF o) as h
  | .insert => un2 (insertF o) as h
  | .reverse => un0 (reverseF o) as h

def recvOk (m : BMt) (x : LV) (h : MH) : Bool := match m with
  | .join => match x with
    | .v (.str _) => true
    | _ => false
  | .split => match x with
    | .v (.str _) => true
    | _ => false
  | .index => match x with
    | .v (.str _) => true
    | .v (.tup _) => true
    | x => (lstOf h x).isSome
  | _ => (lstOf h x).isSome

def asgT (t : Tg) (x : LV) (r : ME) : Option ME := match t with
  | .nm i => some (r.set i (some x))
  | .tup ts => match x with
    | .v (.tup xs) => if xs.length = ts.length then asgTs ts xs r else none
    | _ => none
where asgTs (ts : List Tg) (xs : List MV) (r : ME) : Option ME := match ts with
  | [] => match xs with
    | [] => some r
    | _ => none
  | t :: ts => match xs with
    | x :: xs => (asgT t (.v x) r).bind fun r => asgTs ts xs r
    | [] => none

mutual
def tgSlots (t : Tg) : List Nat := match t with
  | .nm i => [i]
  | .tup ts => tgSlotss ts
def tgSlotss (ts : List Tg) : List Nat := match ts with
  | [] => []
  | t :: ts => tgSlots t ++ tgSlotss ts
end
def wipeR (r : ME) : List Nat → ME
  | [] => r
  | v :: vs => (wipeR r vs).set v none
/-- what a loop walks: the items, and the live list that must stay as it is -/
structure Its where
  items : List LV
  live : Option (Nat × List LV)
def Its.okIn (g : Option (Nat × List LV)) (h : MH) : Bool := match g with
  | none => true
  | some (n, xs) => match h[n]? with
    | some (.lst ys) => decide (ys = xs)
    | _ => false
def rangeL (lo : Int) (n : Nat) : List LV := (List.range n).map fun (i : Nat) => .v (.int (lo + (i : Int)))
def enumL (xs : List MV) : List LV := (List.range xs.length).zipWith (fun (i : Nat) x => .v (.tup [.int (i : Int), x])) xs
def liveOf (h : MH) : LV → Option (Nat × List LV)
  | .r n => match h[n]? with
    | some (.lst xs) => some (n, xs)
    | _ => none
  | _ => none
def itVal (x : LV) (h : MH) : Option Its := match x with
  | .v (.str a) => some ⟨a.cps.toList.map fun c => .v (.str ⟨#[c]⟩), none⟩
  | x => (seqOf h x).map fun xs => ⟨xs, liveOf h x⟩
def itRng (lo hi : LV) : Option Its := match lo, hi with
  | .v (.int a), .v (.int b) => if (-(2 ^ 62) ≤ a ∧ a < 2 ^ 62) ∧ (-(2 ^ 62) ≤ b ∧ b < 2 ^ 62) then some ⟨rangeL a (b - a).toNat, none⟩ else none
  | _, _ => none
def itEnum (x : LV) (h : MH) : Option Its := match (seqOf h x).bind pures with
  | some xs => some ⟨enumL xs, liveOf h x⟩
  | none => none

def itZip (x y : LV) : Option Its := match x, y with
  | .v (.lst xs), .v (.lst ys) => some ⟨xs.zipWith (fun a b => .v (.tup [a, b])) ys, none⟩
  | _, _ => none

def forL (g : Option (Nat × List LV)) (step : LV → ME → MH → OutS) : List LV → ME → MH → OutS
  | [], r, h => if Its.okIn g h then .nxt r h else .bad
  | x :: xs, r, h => if Its.okIn g h then (match step x r h with
    | .nxt r' h' => forL g step xs r' h'
    | .cnt r' h' => forL g step xs r' h'
    | .brk r' h' => .nxt r' h'
    | o => o) else .bad
def whileL (t : ME → MH → Out LV) (step : ME → MH → OutS) : Nat → ME → MH → OutS
  | 0, _, _ => .bad
  | k + 1, r, h => match t r h with
    | .ok (.v (.bl true)) h' => (match step r h' with
      | .nxt r' h' => whileL t step k r' h'
      | .cnt r' h' => whileL t step k r' h'
      | .brk r' h' => .nxt r' h'
      | o => o)
    | .ok (.v (.bl false)) h' => .nxt r h'
    | .exc c fs h' => .exc c fs h'
    | _ => .bad
/-- a comprehension's turns: the list so far -/
def compL (g : Option (Nat × List LV)) (step : LV → MH → Out (Option LV)) : List LV → List LV → MH → Out (List LV)
  | [], acc, h => if Its.okIn g h then .ok acc h else .bad
  | x :: xs, acc, h => if Its.okIn g h then (match step x h with
    | .ok (some y) h' => if acc.length < sizeLine then compL g step xs (acc ++ [y]) h' else .bad
    | .ok none h' => compL g step xs acc h'
    | _ => .bad) else .bad

def setFs (f : Nat) (x : LV) : List (Nat × LV) → List (Nat × LV)
  | [] => [(f, x)]
  | (g, y) :: r => if g = f then (g, x) :: r else (g, y) :: setFs f x r
def setFO (T : Tab) (f : Nat) (o x : LV) (h : MH) : Option MH := match o with
  | .r n => match h[n]? with
    | some (.ins c fs) => if fs.length < 1000 ∧ f ∈ T.lay c then some (h.set n (.ins c (setFs f x fs))) else none
    | _ => none
  | _ => none
def setIO (o i x : LV) (h : MH) : Option MH := match o, i with
  | .r n, .v (.int k) => match h[n]? with
    | some (.lst xs) => (ixN xs.length k).map fun j => h.set n (.lst (xs.set j x))
    | _ => none
  | _, _ => none
def freeze (x : LV) (h : MH) : Out LV := match x with
  | .v x => ret x h
  | .r n => match h[n]? with
    | some (.lst xs) => match pures xs with
      | some ys => ret (.lst ys) (h.set n .dead)
      | none => .bad
    | _ => .bad
def LV.below (m : Nat) : LV → Bool
  | .v _ => true
  | .r n => decide (n < m)
def MO.below (m : Nat) : MO → Bool
  | .dead => true
  | .lst xs => xs.all (LV.below m)
  | .ins _ fs => fs.all fun p => LV.below m p.2
def wfTo (m : Nat) (h : MH) : Bool := (h.take m).all (MO.below m)
def makeEnd (T : Tab) (c n : Nat) (h : MH) : Out LV :=
  if T.frozen c then (match h[n]? with
    | some (.ins d fs) => if d = c ∧ fs.map (·.1) = T.lay c ∧ h.length = n + 1 ∧ wfTo n h = true then (match pures (fs.map (·.2)) with
      | some vs => ret (.ins c vs) (h.take n)
      | none => .bad) else .bad
    | _ => .bad) else .ok (.r n) h

abbrev Phi := Nat → List LV → MH → Out LV
section
variable (T : Tab) (F : Phi)
mutual
def evE (e : CE) (r : ME) (h : MH) : Out LV := match e with
  | .var i => match r[i]? with
    | some (some x) => .ok x h
    | _ => .bad
  | .cst x => ret x h
  | .nop => ret .non h
  | .tup es => (evEs es r h).bind fun xs h => match pures xs with
    | some ys => if ys.length ≤ sizeLine then ret (.tup ys) h else .bad
    | none => .bad
  | .lst es => (evEs es r h).bind fun xs h => match pures xs with
    | some ys => if ys.length ≤ sizeLine then ret (.lst ys) h else .bad
    | none => .bad
  | .lstL es => (evEs es r h).bind fun xs h => if xs.length ≤ sizeLine then .ok (.r h.length) (h ++ [.lst xs]) else .bad
  | .bin op a b => (evE a r h).bind fun x h => (evE b r h).bind fun y h => binF op x y h
  | .neg a => (evE a r h).bind fun x h => match x with
    | .v (.int i) => ret (.int (-i)) h
    | _ => .bad
  | .not a => (evE a r h).bind fun x h => match x with
    | .v (.bl b) => ret (.bl (!b)) h
    | _ => .bad
  | .and a b => (evE a r h).bind fun x h => match x with
    | .v (.bl true) => evE b r h
    | .v (.bl false) => ret (.bl false) h
    | _ => .bad
  | .or a b => (evE a r h).bind fun x h => match x with
    | .v (.bl true) => ret (.bl true) h
    | .v (.bl false) => evE b r h
    | _ => .bad
  | .ite t a b => (evE t r h).bind fun x h => match x with
    | .v (.bl true) => evE a r h
    | .v (.bl false) => evE b r h
    | _ => .bad
  | .cmp op a b => (evE a r h).bind fun x h => (evE b r h).bind fun y h => cmpO op x y h
  | .chn o1 o2 a b c => (evE a r h).bind fun x h => (evE b r h).bind fun y h => (cmpO o1 x y h).bind fun z h => match z with
    | .v (.bl true) => (evE c r h).bind fun w h => cmpO o2 y w h
    | .v (.bl false) => ret (.bl false) h
    | _ => .bad
  | .call f es => (evEs es r h).bind fun xs h => F f xs h
  | .make c es => (evEs es r h).bind fun xs h => match T.init c with
    | some f => (F f (.r h.length :: xs) (h ++ [.ins c []])).bind fun z h' => match z with
      | .v .non => makeEnd T c h.length h'
      | _ => .bad
    | none => .bad
  | .meth m o es => (evE o r h).bind fun x h => match insOf T h x with
    | some (c, _) => match T.meth c m with
      | some f => (evEs es r h).bind fun xs h => F f (x :: xs) h
      | none => .bad
    | none => .bad
  | .attr f o => (evE o r h).bind fun x h => match insOf T h x with
    | some (c, fs) => match T.prop c f with
      | some g => noexc (F g [x] h)
      | none => if f ∈ T.lay c then (match fs.lookup f with
        | some y => .ok y h
        | none => .bad) else .bad
    | none => .bad
  | .inst o es => (evE o r h).bind fun x h => match insOf T h x with
    | some (c, _) => match T.callm c with
      | some f => (evEs es r h).bind fun xs h => match insOf T h x with
        | some (d, _) => if d = c then F f (x :: xs) h else .bad
        | none => .bad
      | none => .bad
    | none => .bad
  | .blt b es => (evEs es r h).bind fun xs h => bltF T b xs h
  | .bm m o es => (evE o r h).bind fun x h => if recvOk m x h = true then (evEs es r h).bind fun xs h => bmF m x xs h else .bad
  | .idx a b => (evE a r h).bind fun x h => (evE b r h).bind fun y h => idxF x y h
  | .slc live a lo hi => (evE a r h).bind fun x h => (if lo.isNop = true then .ok none h else (evE lo r h).bind fun y h => optI y h).bind fun l h =>
    (if hi.isNop = true then .ok none h else (evE hi r h).bind fun y h => optI y h).bind fun u h => slcF live x l u h
  | .comp live t it c e => (evI it r h).bind fun I h => (compL I.live (fun x h => match asgT t x (wipeR r (tgSlots t)) with
      | some r' => (evE c r' h).bind fun b h => match b with
        | .v (.bl true) => (evE e r' h).bind fun y h => .ok (some y) h
        | .v (.bl false) => .ok none h
        | _ => .bad
      | none => .bad) I.items [] h).bind fun ys h => if live then .ok (.r h.length) (h ++ [.lst ys]) else match pures ys with
        | some zs => ret (.lst zs) h
        | none => .bad
  | .frz e => (evE e r h).bind fun x h => freeze x h
  | .errL e => errF T (evE e r h)
  | .isx c a d x i => isxF T c a d x (r[i]?) h
  | .xat c a d f i => xatF T c a d f (r[i]?) h
  | .lenO m o => (evE o r h).bind fun x h => match insOf T h x with
    | some (c, _) => match T.meth c m with
      | some f => lenOF (F f [x] h)
      | none => .bad
    | none => .bad
  | .rev a => (evE a r h).bind fun x h => revF x h
def evEs (es : CEs) (r : ME) (h : MH) : Out (List LV) := match es with
  | .nil => .ok [] h
  | .cons e es => (evE e r h).bind fun x h => (evEs es r h).bind fun xs h => .ok (x :: xs) h
def evI (it : CI) (r : ME) (h : MH) : Out Its := match it with
  | .val e => (evE e r h).bind fun x h => match itVal x h with
    | some I => .ok I h
    | none => .bad
  | .rng e => (evE e r h).bind fun x h => match itRng (.v (.int 0)) x with
    | some I => .ok I h
    | none => .bad
  | .rng2 a b => (evE a r h).bind fun x h => (evE b r h).bind fun y h => match itRng x y with
    | some I => .ok I h
    | none => .bad
  | .enum e => (evE e r h).bind fun x h => match itEnum x h with
    | some I => .ok I h
    | none => .bad
  | .zip a b => (evE a r h).bind fun x h => (evE b r h).bind fun y h => match itZip x y with
    | some I => .ok I h
    | none => .bad
end
def raisF (c : Nat) (fs : List Nat) (o : Option (List MV)) (h : MH) : OutS := match o with
  | some ys => if ys.length = fs.length then .exc c (fs.zip ys) h else .bad
  | none => .bad
/-- an exception of the class c is caught: its fields are returned -/
def tryF (c : Nat) (gs : List Nat) (o : OutS) : OutS := match o with
  | .exc c' fs h => if c' = c ∧ fs.map (·.1) = gs then (match fs.map (·.2) with
    | [v] => .ret (.v v) h
    | [v, u] => .ret (.v (.tup [v, u])) h
    | _ => .bad) else .bad
  | o => o
def setsL : List Nat → List LV → ME → ME
  | i :: is, x :: xs, r => setsL is xs (r.set i (some x))
  | _, _, r => r
mutual
def evS (s : CS) (r : ME) (h : MH) : OutS := match s with
  | .asg t e => (evE T F e r h).thenS fun x h => match asgT t x r with
    | some r' => .nxt r' h
    | none => .bad
  | .par is es => (evEs T F es r h).thenS fun xs h => if xs.length = is.length then .nxt (setsL is xs r) h else .bad
  | .setF f o e => (evE T F e r h).thenS fun x h => (evE T F o r h).thenS fun y h => match setFO T f y x h with
    | some h' => .nxt r h'
    | none => .bad
  | .setI o i e => (evE T F e r h).thenS fun x h => (evE T F o r h).thenS fun y h => (evE T F i r h).thenS fun z h => match setIO y z x h with
    | some h' => .nxt r h'
    | none => .bad
  | .aug i op e => match r[i]? with
    | some (some x) => (evE T F e r h).thenS fun y h => (arF op x y h).thenS fun z h => .nxt (r.set i (some z)) h
    | _ => .bad
  | .augF f op o e => (evE T F o r h).thenS fun y h => match insOf T h y with
    | some (c, fs) => if f ∈ T.lay c then (match fs.lookup f with
      | some x => (evE T F e r h).thenS fun z h => (arF op x z h).thenS fun w h => match insOf T h y with
        | some (d, _) => if d = c then (match setFO T f y w h with
          | some h' => .nxt r h'
          | none => .bad) else .bad
        | none => .bad
      | none => .bad) else .bad
    | none => .bad
  | .expr e => (evE T F e r h).thenS fun _ h => .nxt r h
  | .ret e => (evE T F e r h).thenS fun x h => .ret x h
  | .pass => .nxt r h
  | .brk => .brk r h
  | .cnt => .cnt r h
  | .never => .bad
  | .rais c fs es => (evEs T F es r h).thenS fun xs h => raisF c fs (pures xs) h
  | .ife t a b => (evE T F t r h).thenS fun x h => match x with
    | .v (.bl true) => evSs a r h
    | .v (.bl false) => evSs b r h
    | _ => .bad
  | .tryR c gs body => tryF c gs (evSs body r h)
  | .forr t it body => (evI T F it r h).thenS fun I h => forL I.live (fun x r h => match asgT t x r with
    | some r' => evSs body r' h
    | none => .bad) I.items r h
  | .whil t body => whileL (fun r h => evE T F t r h) (fun r h => evSs body r h) 1000000 r h
def evSs (ss : CSs) (r : ME) (h : MH) : OutS := match ss with
  | .nil => .nxt r h
  | .cons s ss => (evS s r h).andS fun r h => evSs ss r h
end
end

structure Fn where
  np : Nat
  nl : Nat
  body : CSs
  keep : Bool
def leave (keep : Bool) (m : Nat) (x : LV) (h : MH) : Out LV :=
  if keep then .ok x h else if LV.below m x = true ∧ wfTo m h = true then .ok x (h.take m) else .bad
def finish (keep : Bool) (m : Nat) : OutS → Out LV
  | .ret x h => leave keep m x h
  | .nxt _ h => leave keep m (.v .non) h
  | .exc c fs h => if keep then .exc c fs h else if wfTo m h = true then .exc c fs (h.take m) else .bad
  | _ => .bad
def run (T : Tab) (P : Nat → Option Fn) : Nat → Phi
  | 0, _, _, _ => .bad
  | n + 1, f, as, h => match P f with
    | none => .bad
    | some fn => if as.length = fn.np then finish fn.keep h.length (evSs T (run T P n) fn.body (as.map some ++ List.replicate (fn.nl - fn.np) none) h) else .bad
end SC

set_option maxHeartbeats 2000000
/-! own exception classes that are called with keywords; their __init__ says super().__init__ and stores its parameters -/
namespace PySem
namespace ExK
open Builtin Builtin.ObjectAttr HandSPX
section
variable {M : Model} {A : Around} {E : Value → Shared → Prop} {h : Heap} {g : Array GenState} {d : Drawn} {t : Nat} {os : OsState}
variable {nm q : Str} {C N : Addr} {bs bm bmB : List Value} {hdct : Bool} {sn : List Str} {sub : List Value} {ab : Bool} {col : Option Bool} {dd : Option Addr} {k0 k1 k2 k3 k5 : Option Value} {B newId initId : String}
theorem check_new (F : ExcBaseFacts B newId initId bmB)
    (hT : ∀ X : String, bm.contains (.type X) = bmB.contains (.type X)) {kw : List (Str × Value)} {Q : Unit → Shared → Prop}
    (hC : h.get? C = some (excClassObj nm q C N bs bm hdct sn sub ab col dd k0 k1 k2 k3 k5 newId)) (hq : Q () ⟨h, g, d, t, os⟩) : wpAny M A (checkBuiltinCall newId ⟨[.ref C], kw⟩) Q E ⟨h, g, d, t, os⟩ := by
  have c1 : (Value.ref C :: bm).contains (.type B) = true := by rw [List.contains_cons, hT, F.hasB, Bool.or_true]
  have c2 := F.noStar
  simp only [checkBuiltinCall, F.newKind, F.newSplit, F.newRow]
  repeat (first
    | refine wpAny_loadPart_at hC ?_
    | (refine wpAny_isSubtype_exc hC ?_; rw [c1])
    | refine wpAny_staticBase_exc hC ?_
    | refine wpAny_madeBy_exc hC ?_
    | simp only [bne_self_eq_false, Bool.false_eq_true, if_false]
    | wp_step)
  exact hq
end
section
variable {prog : Program} {w : World} {A : Around} {E : Value → Shared → Prop} {R : Result → Shared → Prop} {h : Heap} {g : Array GenState} {d : Drawn} {t : Nat} {os : OsState}
variable {nm q : Str} {C N : Addr} {bs bm bmB : List Value} {hdct : Bool} {sn : List Str} {sub : List Value} {ab : Bool} {col : Option Bool} {dd : Option Addr} {k0 k1 k2 k3 k5 : Option Value} {B newId initId : String}
theorem new_kw (F : ExcBaseFacts B newId initId bmB)
    (hT : ∀ X : String, bm.contains (.type X) = bmB.contains (.type X)) {kw : List (Str × Value)}
    (hC : h.get? C = some (excClassObj nm q C N bs bm hdct sn sub ab col dd k0 k1 k2 k3 k5 newId))
    (hq : R (.ok (.ret (.ref (h.objs.size + 1)))) ⟨(h.push (W.kdv_tup [])).push (excO C h.objs.size), g, d, t, os⟩) :
    codeAny (model prog w) A (.builtin newId ⟨[.ref C], kw⟩) R ⟨h, g, d, t, os⟩ := by
  have e0 := F.ends
  have c1 : (Value.ref C :: bm).contains (.type B) = true := by rw [List.contains_cons, hT, F.hasB, Bool.or_true]
  have c2 : (Value.ref C :: bm).contains (.type "AttributeError") = false := by rw [List.contains_cons, hT, F.noAttr]; rfl
  have c3 : (Value.ref C :: bm).contains (.type "NameError") = false := by rw [List.contains_cons, hT, F.noName]; rfl
  refine codeAny_builtinAt F.entry ?_
  unfold Builtin.«BaseException.__new__»
  refine wpAt_bind ?_
  show wpAt _ _ _ (stack >>= _) _ _ _
  refine wpAt_bind (wpAt_stack fun p below => wpAt_of_wpAny ?_)
  wp_walk
  refine wpAt_of_wpAny ?_
  rw [F.owner]
  repeat (first
    | with_reducible refine wpAny_madeHere_exc F.canon hC ?_
    | with_reducible refine wpAny_loadPart_at hC ?_
    | (with_reducible refine wpAny_isSubtype_exc hC ?_; first | rw [c1] | rw [c2] | rw [c3])
    | wp_step)
  show R _ _
  rw [Heap.size_push]
  exact hq
theorem type_call_kw (F : ExcBaseFacts B newId initId bmB)
    (hT : ∀ X : String, bm.contains (.type X) = bmB.contains (.type X)) {kw : List (Str × Value)} {fI : Addr} {Q : Fin → Shared → Prop}
    (hC : h.get? C = some (excClassObj nm q C N bs bm hdct sn sub ab col dd k0 k1 k2 k3 k5 newId))
    (hi : W.Looks (model prog w) h (typeLookup (.ref C) "__init__") (some (.ref fI))) (hb : ∀ self, W.Looks (model prog w) h (bindSpecial (.ref fI) self) (.ref fI, [self]))
    (hq : codeAny (model prog w) A (.call (.ref fI) ⟨[.ref (h.objs.size + 1)], kw⟩)
      (fun r s' => match r with | .ok (.ret v) => v = .none ∧ Q (.done (.ret (.ref (h.objs.size + 1)))) s' | .ok _ => False | .error e => E e s')
      ⟨(h.push (W.kdv_tup [])).push (excO C h.objs.size), g, d, t, os⟩) :
    wpAny (model prog w) A (Builtin.«type.__call__» ⟨[.ref C], kw⟩) Q E ⟨h, g, d, t, os⟩ := by
  repeat (first
    | with_reducible refine wpAny_loadPart_at hC ?_
    | with_reducible refine wpAny_madeBy_exc hC ?_
    | wp_step)
  refine codeAny_call_builtin_code (Code.quiet_builtin _ F.quiet) (check_new F hT hC ?_)
  refine new_kw F hT hC ?_
  show wpAny _ _ _ _ _ _
  have k : ∀ b o, h.get? b = some o → ((h.push (W.kdv_tup [])).push (excO C h.objs.size)).get? b = some o := fun b o e => Heap.get?_push_of_some _ (Heap.get?_push_of_some _ e)
  have hC1 := k _ _ hC
  have hg1 : ((h.push (W.kdv_tup [])).push (excO C h.objs.size)).get? (h.objs.size + 1) = some (excO C h.objs.size) := by heap_get
  have cC : (Value.ref C :: bm).contains (.ref C) = true := by simp
  have i1 := hi.keeps k
  have b1 := (hb (.ref (h.objs.size + 1))).keeps k
  unfold isInstance
  repeat (first
    | with_reducible refine wpAny_loadPart_at hg1 ?_
    | (with_reducible refine wpAny_isSubtype_exc hC1 ?_; rw [cC])
    | wp_step)
  show wpAny _ _ (typeLookup (.ref C) _) _ _ _
  refine i1.at ?_
  refine wpAny_holding (wpAny_bind (b1.at ?_))
  refine wpAny_bind (wpAny_call (codeAny_mono hq fun r s' z => ?_))
  rcases r with e | (v | _ | _ | _) <;> first | exact z | exact z.elim | skip
  obtain ⟨rfl, z⟩ := z
  first
    | exact wpAny_pure (wpAny_pure z)
    | (wp_walk; exact z)
theorem call_kw (F : ExcBaseFacts B newId initId bmB)
    (hT : ∀ X : String, bm.contains (.type X) = bmB.contains (.type X)) {kw : List (Str × Value)} {fI : Addr}
    (hC : h.get? C = some (excClassObj nm q C N bs bm hdct sn sub ab col dd k0 k1 k2 k3 k5 newId))
    (hi : W.Looks (model prog w) h (typeLookup (.ref C) "__init__") (some (.ref fI))) (hb : ∀ self, W.Looks (model prog w) h (bindSpecial (.ref fI) self) (.ref fI, [self]))
    (hq : codeAny (model prog w) (A.under (.builtin "type.__call__" ⟨[.ref C], kw⟩)) (.call (.ref fI) ⟨[.ref (h.objs.size + 1)], kw⟩) (W.InitBack (h.objs.size + 1) R)
      ⟨(h.push (W.kdv_tup [])).push (excO C h.objs.size), g, d, t, os⟩) :
    codeAny (model prog w) A (.call (.ref C) ⟨[], kw⟩) R ⟨h, g, d, t, os⟩ := by
  have f1 := tc_lookup
  have f2 := tc_bind (.ref C)
  have hTy : (⟨h, g, d, t, os⟩ : Shared).TypeIs (.ref C) "type" := ⟨_, hC, rfl⟩
  refine codeAny_of_tree ?_
  show wpAny _ _ (callAny (.ref C) _) _ _ _
  repeat (any_goals (first | assumption | with_reducible refine wpAny_loadPart_at hC ?_ | wp_step))
  refine ⟨rfl, ?_⟩
  refine codeAny_call_builtin_at (Code.quiet_builtin _ (by decide +kernel)) entry_typeCall (wpAny_check_type_call_sub hC (type_call_kw F hT hC hi hb ?_))
  refine codeAny_mono hq fun r s' z => ?_
  rcases r with e | (v | _ | _ | _) <;> exact z
end
end ExK
end PySem

set_option maxHeartbeats 2000000
namespace PySem
namespace ExK
open Builtin Builtin.ObjectAttr HandSPX PySem.W
/-- what the written part says of an __init__ that says super().__init__ -/
structure IniK (prog : Program) (K : Frag) (C f cc cda : Addr) (fd : FuncData) : Prop where
  lk : ∃ oc od osl, K.lookup f = some ⟨oc, od, .func fd, osl⟩
  head : ∃ ar, (fd.params.posonlyargs ++ fd.params.args).head? = some ar ∧ ar.arg = "self"
  code : fd.code = .ref cda
  cod : ∃ oc od vs osl file tf, K.lookup cda = some ⟨oc, od, .fields vs, osl⟩ ∧ vs[2]? = some (.str file tf) ∧ ((prog.main.file : Str) == file) = true
  top : (prog.main.scope.names.lookup ("super" : Str)).isSome = false
  clo : fd.closure = [(Str.ofString "__class__", cc)]
  cell : ∃ cl cld csl, K.lookup cc = some ⟨cl, cld, .cell (some (.ref C)), csl⟩
  glob : fd.globals = mainGlobals
  blt : fd.builtins = builtinsNs
  kind : fd.scope.kind = .function
  ks : fd.scope.names.lookup ("super" : Str) = some .globalImplicit
  kc : fd.scope.names.lookup ("__class__" : Str) = some .free
  ka : fd.scope.names.lookup ("self" : Str) = some .local
/-- .. and of the class -/
structure ClsK (K : Frag) (C : Addr) : Prop where
  cls : ∃ nm q N bs bm sn sub ab col dd k0 k1 k2 k3 k5, K.lookup C = some (excClassObj nm q C N bs bm true sn sub ab col dd k0 k1 k2 k3 k5 "ValueError.__new__") ∧ refsVE bm = true
  cd : ∃ cd, clsIn K C = some cd ∧ refsVE cd.mro = true ∧ cd.hasDict = true ∧ alongIn K "__init__" ((cd.mro.dropWhile (· != .ref C)).drop 1) = some (some (.builtin "ValueError.__init__"))
  self : mroIn K C (.ref C) = some true
  sub : subIn K (.ref C) (.type "ValueError") = some true
  third : nsIn K cStatics "thirdparty.any" = some none
section
variable {prog : Program} {w : World} {A : Around} {E : Value → Shared → Prop}
theorem super_init {K : Frag} {C f cc cda L x t0 : Addr} {fd : FuncData} {body : List Stmt} {s : Shared} {m mg mb : Str → Option Value} {msg : Str} {j : Nat} {p0 p1 p2 p3 p4 p5 : Pos} {Q : Flow → Shared → Prop}
    (T : IniK prog K C f cc cda fd) (D : ClsK K C) (X : K.In s.heap) (hL : s.heap.Ns L m) (hv : m "self" = some (.ref x)) (hx : s.heap.get? x = some (excO C t0)) (hG : s.heap.Ns mainGlobals mg) (hmg : mg "super" = none) (hB : s.heap.Ns builtinsNs mb) (hb : mb "super" = some (.type "super"))
    (he : ∀ env : Env, eval (.Call (.Attribute (.Call (.Name "super" p0) [] [] p1) "__init__" p2) [.Constant (.str msg) j p3] [] p4) env = (do
      let ov ← attributeBase (.Call (.Name "super" p0) [] [] p1) "__init__" env (eval (.Call (.Name "super" p0) [] [] p1) env)
      standAt p2.atName
      let (f, first) ← holding [ov] (getMethod ov "__init__" (do return (← importBound (.Call (.Name "super" p0) [] [] p1) env).getD true))
      callWith p4 f first (backTo p4 (starEach [.Constant (.str msg) j p3] env)) []))
    (hs : ∀ env : Env, swapsWith (.Call (.Attribute (.Call (.Name "super" p0) [] [] p1) "__init__" p2) [.Constant (.str msg) j p3] [] p4) none p5.line env = pure false)
    (hq : ∀ h' t1 tk, (∀ b o, b ≠ x → s.heap.get? b = some o → h'.get? b = some o) → h'.get? x = some (excO C t1) → Q .next { s with heap := h', toks := tk }) :
    wpAt (model prog w) A (.func body (callEnv fd L f)) (exec (.Expr (.Call (.Attribute (.Call (.Name "super" p0) [] [] p1) "__init__" p2) [.Constant (.str msg) j p3] [] p4) p5) (callEnv fd L f)) Q E s := by
  obtain ⟨oc, od, osl, lk⟩ := T.lk
  obtain ⟨ar, har, hself⟩ := T.head
  obtain ⟨coc, cod, vs, cosl, file, tf, hcod, hvs, hfile⟩ := T.cod
  obtain ⟨cl, cld, csl, hcell⟩ := T.cell
  obtain ⟨nm, q, N, bs, bm, sn, sub, ab, col, dd, k0, k1, k2, k3, k5, hC, hbm⟩ := D.cls
  obtain ⟨cd, hcd, hmro, hdict, hal⟩ := D.cd
  refine ks_wpAt_Expr_any (ks_wpAt_MethodCall ?_ (he _)) (by simp [interactive, callEnv, newEnv, T.kind]) (hs _)
  obtain ⟨hp, g, d, t, os⟩ := s
  have hCo := X _ _ hC
  refine ks_wpAt_super_base (env := callEnv fd L f) T.ks T.kc (by decide) rfl (X _ _ lk) rfl har T.code (X _ _ hcod) rfl hvs hfile T.top ?_
  refine ks_loadName_global T.kind T.ks (Calls.loadGlobal_builtin (env := callEnv fd L f) (by show Heap.Ns _ fd.globals _; rw [T.glob]; exact hG) hmg (by show Heap.Ns _ fd.builtins _; rw [T.blt]; exact hB) hb ⟨rfl, ?_⟩)
  refine wpAny_loadName_free T.kind T.kc (by show (fd.closure).lookup _ = _; rw [T.clo]; rfl) ⟨_, X _ _ hcell, rfl⟩ ?_
  rw [hself]
  refine wpAny_loadName_local T.kind T.ka hL hv ?_
  refine ks_wpAny_isType_cls hCo rfl ⟨rfl, ?_⟩
  refine ks_wpAny_call_super hCo rfl hx rfl (fun c e => by cases e) (looks_mroIn X D.self) (fun h1 e1 kk1 => ?_)
  have X1 : K.In h1 := X.keeps kk1
  have hx1 := kk1 _ _ hx
  have I1 : InstAt h1 x (excO C t0) C none := ⟨hx1, rfl, rfl, trivial⟩
  have hI : Looks (model prog w) h1 (isInstance (.ref x) (.type "ValueError")) true := I1.type.andThen (looks_subIn X1 D.sub)
  refine kxs_getMethod kxs_ValueError e1 (looks_opaque X1 D.third) (l₀ := cd.mro) ?_ rfl X1 hal hI (ks_ne X1 I1 hcd) (by decide) ?_
  · exact fun A Q E s k q => wpAny_bind ((looks_clsIn X1 hcd) A _ E s k (wpAny_pure q))
  have kk2 : ∀ b o, h1.get? b = some o → (h1.push (kxs_mw "ValueError.__init__" x)).get? b = some o := fun b o e => Heap.get?_push_of_some _ e
  have hu : (h1.push (kxs_mw "ValueError.__init__" x)).get? h1.objs.size = some (kxs_mw "ValueError.__init__" x) := Heap.get?_push_at rfl rfl
  have hx2 := kk2 _ _ hx1
  have hC2 := kk2 _ _ (X1 _ _ hC)
  refine kxs_callWith (i := "ValueError.__init__") (x := x) rfl (Calls.evalArgs_plain ?_)
  show wpAny _ _ (spliced ((false, eval (.Constant (.str msg) j p3) (callEnv fd L f)) :: backTo p4 (starEach [] (callEnv fd L f)))) _ _ _
  refine Calls.spliced_cons ?_
  refine Calls.Constant_str ?_
  refine Calls.spliced_nil ⟨hu, ?_⟩
  refine wpAny_call (codeAny_of_tree ?_)
  show wpAny _ A.in1 (callAny (.ref h1.objs.size) ⟨_, []⟩) _ _ _
  simp only [callAny]
  refine wpAny_bind (wpAny_load hu ?_)
  have tw : (Value.type "method-wrapper" == Value.type "method" || Value.type "method-wrapper" == Value.type "builtin_function_or_method" || Value.type "method-wrapper" == Value.type "method-wrapper") = true := by decide
  simp only [kxs_mw, tw, if_true]
  refine KFB.if_so (by decide) ?_
  refine wpAny_bind (check_bound_init F.excBase_ValueError.toExcCallFacts hC2 hx2 rfl ?_)
  refine wpAny_bind (wpAny_pure (wpAny_pure ?_))
  refine ⟨plainId_quiet F.excBase_ValueError.init.plain _, codeAny_builtin F.excBase_ValueError.initEntry ?_⟩
  refine exc_init_tree (cls := .ref C) (t0 := t0) (dv := none) (c2 := .none) (c3 := .none) (b4 := .bool false) hx2 (by show 1 ≤ sizeLine; decide) (fun h' k1 k2 k3 => ?_)
  exact hq h' _ _ (fun b o hb e => k1 b o hb (kk2 b o (kk1 b o e))) k2
end
end ExK
end PySem

set_option maxHeartbeats 2000000
namespace PySem
namespace ExK
open Builtin Builtin.ObjectAttr HandSPX PySem.W
section
variable {prog : Program} {w : World} {A : Around} {E : Value → Shared → Prop}
/-- an exception with its own dict -/
abbrev excD (C t dx : Addr) : Obj := { cls := .ref C, dict := some dx, data := .fields #[.ref t, .none, .none, .none, .bool false, .none] }
theorem store_first {K : Frag} {C x t0 : Addr} {s : Shared} {fld : Str} {v : Value} {Q : Unit → Shared → Prop} (D : ClsK K C) (sa : findIn K (.ref C) "__setattr__" = some (some (.builtin "object.__setattr__"))) (hno : findIn K (.ref C) fld = some none) (X : K.In s.heap) (hx : s.heap.get? x = some (excO C t0))
    (hq : ∀ h' tk dx, (∀ b o, b ≠ x → s.heap.get? b = some o → h'.get? b = some o) → s.heap.objs.size ≤ dx → dx ≠ x → h'.get? x = some (excD C t0 dx) → h'.Ns1 dx (fun y => if y = fld then some v else none) → Q () { s with heap := h', toks := tk }) :
    wpAny (model prog w) A (setAttr (.ref x) fld v) Q E s := by
  obtain ⟨cd, hcd, hmro, hdict, hal⟩ := D.cd
  obtain ⟨hp, g, d, t, os⟩ := s
  refine set_plain X (ox := excO C t0) (od := none) ⟨hx, rfl, rfl, trivial⟩ sa ?_
  exact exc_osa X hx hcd hmro hdict hno fun h' tk dx k dn dne hx' hn => hq h' tk dx k dn dne hx' hn
theorem store_more {K : Frag} {C x t0 dx : Addr} {s : Shared} {fld : Str} {v : Value} {m0 : Str → Option Value} {nl : List Str} {Q : Unit → Shared → Prop} (D : ClsK K C) (sa : findIn K (.ref C) "__setattr__" = some (some (.builtin "object.__setattr__"))) (hno : findIn K (.ref C) fld = some none) (X : K.In s.heap) (hx : s.heap.get? x = some (excD C t0 dx)) (hns : s.heap.Ns1 dx m0) (hw : Within m0 nl) (hz : nl.length ≤ 1000)
    (hq : ∀ h' tk, (∀ b o, b ≠ dx → s.heap.get? b = some o → h'.get? b = some o) → h'.Ns1 dx (fun y => if y = fld then some v else m0 y) → Q () { s with heap := h', toks := tk }) :
    wpAny (model prog w) A (setAttr (.ref x) fld v) Q E s := by
  obtain ⟨cd, hcd, hmro, hdict, hal⟩ := D.cd
  obtain ⟨hp, g, d, t, os⟩ := s
  obtain ⟨oD, _, _, hoD, _, _⟩ := hns.count hw
  refine set_plain X (ox := excD C t0 dx) (od := some oD) ⟨hx, rfl, rfl, hoD⟩ sa ?_
  exact OEX.osa_old X hx hns hw hz hcd hmro hdict hno fun h' tk k hn => hq h' tk k hn
/-- self.f = f -/
theorem stmt_store {fd : FuncData} {L f x : Addr} {body : List Stmt} {s : Shared} {m : Str → Option Value} {fld : Str} {v : Value} {p1 p2 p3 p4 : Pos} {Q : Flow → Shared → Prop} (kind : fd.scope.kind = .function) (ka : fd.scope.names.lookup ("self" : Str) = some .local) (kf : fd.scope.names.lookup fld = some .local) (hL : s.heap.Ns L m) (hv : m "self" = some (.ref x)) (hf : m fld = some v) (hdb : (fld == ("__debug__" : Str)) = false)
    (hs : ∀ env : Env, swapsWith (.Name fld p3) (some (.Attribute (.Name "self" p1) fld p2)) p4.line env = pure false)
    (h : wpAny (model prog w) A (setAttr (.ref x) fld v) (fun _ => Q .next) E s) :
    wpAt (model prog w) A (.func body (callEnv fd L f)) (exec (.Assign [.Attribute (.Name "self" p1) fld p2] (.Name fld p3) p4) (callEnv fd L f)) Q E s := by
  refine ks_wpAt_Assign_Attr ?_ (hs _)
  refine wpAt_of_wpAny (wpAny_Name (wpAny_loadName_local kind kf hL hf ?_) hdb)
  exact wpAny_Name (wpAny_loadName_local kind ka hL hv h)
end
end ExK
end PySem

set_option maxHeartbeats 2000000
namespace PySem
namespace ExK
open Builtin Builtin.ObjectAttr HandSPX PySem.W
/-- the first statement of such an __init__ -/
structure SupS (st : Stmt) : Prop where
  ex : ∃ msg j p0 p1 p2 p3 p4 p5, st = .Expr (.Call (.Attribute (.Call (.Name "super" p0) [] [] p1) "__init__" p2) [.Constant (.str msg) j p3] [] p4) p5 ∧
    (∀ env : Env, eval (.Call (.Attribute (.Call (.Name "super" p0) [] [] p1) "__init__" p2) [.Constant (.str msg) j p3] [] p4) env = (do
      let ov ← attributeBase (.Call (.Name "super" p0) [] [] p1) "__init__" env (eval (.Call (.Name "super" p0) [] [] p1) env)
      standAt p2.atName
      let (f, first) ← holding [ov] (getMethod ov "__init__" (do return (← importBound (.Call (.Name "super" p0) [] [] p1) env).getD true))
      callWith p4 f first (backTo p4 (starEach [.Constant (.str msg) j p3] env)) [])) ∧
    (∀ env : Env, swapsWith (.Call (.Attribute (.Call (.Name "super" p0) [] [] p1) "__init__" p2) [.Constant (.str msg) j p3] [] p4) none p5.line env = pure false)
/-- the others -/
structure FldS (fld : Str) (st : Stmt) : Prop where
  ex : ∃ p1 p2 p3 p4, st = .Assign [.Attribute (.Name "self" p1) fld p2] (.Name fld p3) p4 ∧ ∀ env : Env, swapsWith (.Name fld p3) (some (.Attribute (.Name "self" p1) fld p2)) p4.line env = pure false
section
variable {prog : Program} {w : World} {A : Around} {E : Value → Shared → Prop}
/-- what such an __init__ leaves: the exception at x with its dict, all else as it was -/
def Left (s : Shared) (C x : Addr) (mA : Str → Option Value) (s' : Shared) : Prop := ∃ h' tk dx t1, s' = { s with heap := h', toks := tk } ∧ (∀ b o, b ≠ x → s.heap.get? b = some o → h'.get? b = some o) ∧ s.heap.get? dx = none ∧ dx ≠ x ∧ h'.get? x = some (excD C t1 dx) ∧ h'.Ns1 dx mA
theorem init1 {K : Frag} {C f cc cda x t0 : Addr} {fd : FuncData} {s : Shared} {mg mb : Str → Option Value} {s0 s1 : Stmt} {f1 : Str} {v1 : Value} {R : Result → Shared → Prop}
    (T : IniK prog K C f cc cda fd) (D : ClsK K C) (sa : findIn K (.ref C) "__setattr__" = some (some (.builtin "object.__setattr__"))) (hno : findIn K (.ref C) f1 = some none) (X : K.In s.heap) (hxK : K.lookup x = none) (hx : s.heap.get? x = some (excO C t0)) (hG : s.heap.Ns mainGlobals mg) (hmg : mg "super" = none) (hB : s.heap.Ns builtinsNs mb) (hb : mb "super" = some (.type "super"))
    (S0 : SupS s0) (S1 : FldS f1 s1) (hbody : fd.body = .stmts [s0, s1]) (kf : fd.scope.names.lookup f1 = some .local) (hne : f1 ≠ "self") (hdb : (f1 == ("__debug__" : Str)) = false) (hcell : ∀ x ∈ fd.scope.names, x.2 ≠ .cell) (hco : fd.scope.isCoroutine = false) (hgen : fd.scope.isGenerator = false)
    (hroom : A.depth < recursionLimit) (hlim : s.heap.NoLimit) (hcd : s.heap.CodeRec fd.code fd.qualname) (hbind : BindsTo s fd ⟨[.ref x], [(f1, v1)]⟩ [("self", .ref x), (f1, v1)])
    (hq : ∀ s', Left s C x (fun y => if y = f1 then some v1 else none) s' → R (.ok (.ret .none)) s') :
    codeAny (model prog w) A (.call (.ref f) ⟨[.ref x], [(f1, v1)]⟩) R s := by
  obtain ⟨oc, od, osl, lk⟩ := T.lk
  obtain ⟨msg, j, p0, p1, p2, p3, p4, p5, rfl, e1, e2⟩ := S0.ex
  obtain ⟨q1, q2, q3, q4, rfl, e3⟩ := S1.ex
  refine ks_codeAny_call_defAt hroom (X _ _ lk) rfl hlim hcd hbody hbind hcell ?_ (fun h0 hns k0 => ?_) hco hgen T.kind
  · intro y hy
    simp only [List.mem_cons, List.not_mem_nil, or_false] at hy
    rcases hy with rfl | rfl
    · exact T.ka
    · exact kf
  have m1 : ([((Str.ofString "self"), Value.ref x), (f1, v1)] : List (Str × Value)).reverse.lookup (Str.ofString "self") = some (.ref x) := by
    have : ((Str.ofString "self") == f1) = false := by simpa using Ne.symm hne
    simp [List.lookup, this]
  have m2 : ([((Str.ofString "self"), Value.ref x), (f1, v1)] : List (Str × Value)).reverse.lookup f1 = some v1 := by simp [List.lookup]
  have xL : s.heap.objs.size ≠ x := Nat.ne_of_gt (Heap.lt_size hx)
  refine ks_wpAt_execs_cons (super_init T D (X.keeps k0) hns m1 (k0 _ _ hx) (hG.keeps k0) hmg (hB.keeps k0) hb e1 e2 (fun h1 t1 tk k1 hx1 => ?_))
  have X1 : K.In h1 := fun b o e => k1 b o (fun z => by rw [z, hxK] at e; cases e) (k0 b o (X b o e))
  have hns1 : h1.Ns s.heap.objs.size (fun y => ([((Str.ofString "self"), Value.ref x), (f1, v1)] : List (Str × Value)).reverse.lookup y) := hns.at fun o e => k1 _ o xL e
  refine ks_wpAt_execs_cons (stmt_store T.kind T.ka kf hns1 m1 m2 hdb e3 (store_first D sa hno X1 hx1 (fun h2 tk2 dx k2 dn dne hx2 hn2 => ?_)))
  refine wpAt_of_wpAny (wpAny_execs_nil ?_)
  refine hq _ ⟨h2, tk2, dx, t1, rfl, fun b o hb e => k2 b o hb (k1 b o hb (k0 b o e)), ?_, dne, hx2, hn2⟩
  cases z : s.heap.get? dx with
  | none => rfl
  | some o =>
    have y := Heap.lt_size (k1 dx o dne (k0 dx o z))
    exact absurd y (Nat.not_lt.mpr dn)
theorem init2 {K : Frag} {C f cc cda x t0 : Addr} {fd : FuncData} {s : Shared} {mg mb : Str → Option Value} {s0 s1 s2 : Stmt} {f1 f2 : Str} {v1 v2 : Value} {kw : List (Str × Value)} {R : Result → Shared → Prop}
    (T : IniK prog K C f cc cda fd) (D : ClsK K C) (sa : findIn K (.ref C) "__setattr__" = some (some (.builtin "object.__setattr__"))) (hno : findIn K (.ref C) f1 = some none) (hno2 : findIn K (.ref C) f2 = some none) (X : K.In s.heap) (hxK : K.lookup x = none) (hx : s.heap.get? x = some (excO C t0)) (hG : s.heap.Ns mainGlobals mg) (hmg : mg "super" = none) (hB : s.heap.Ns builtinsNs mb) (hb : mb "super" = some (.type "super"))
    (S0 : SupS s0) (S1 : FldS f1 s1) (S2 : FldS f2 s2) (hbody : fd.body = .stmts [s0, s1, s2]) (kf : fd.scope.names.lookup f1 = some .local) (kf2 : fd.scope.names.lookup f2 = some .local) (hne : f1 ≠ "self") (hne2 : f2 ≠ "self") (h12 : f1 ≠ f2) (hdb : (f1 == ("__debug__" : Str)) = false) (hdb2 : (f2 == ("__debug__" : Str)) = false) (hcell : ∀ x ∈ fd.scope.names, x.2 ≠ .cell) (hco : fd.scope.isCoroutine = false) (hgen : fd.scope.isGenerator = false)
    (hroom : A.depth < recursionLimit) (hlim : s.heap.NoLimit) (hcd : s.heap.CodeRec fd.code fd.qualname) (hbind : BindsTo s fd ⟨[.ref x], kw⟩ [("self", .ref x), (f1, v1), (f2, v2)])
    (hq : ∀ s', Left s C x (fun y => if y = f2 then some v2 else if y = f1 then some v1 else none) s' → R (.ok (.ret .none)) s') :
    codeAny (model prog w) A (.call (.ref f) ⟨[.ref x], kw⟩) R s := by
  obtain ⟨oc, od, osl, lk⟩ := T.lk
  obtain ⟨msg, j, p0, p1, p2, p3, p4, p5, rfl, e1, e2⟩ := S0.ex
  obtain ⟨q1, q2, q3, q4, rfl, e3⟩ := S1.ex
  obtain ⟨r1, r2, r3, r4, rfl, e4⟩ := S2.ex
  refine ks_codeAny_call_defAt hroom (X _ _ lk) rfl hlim hcd hbody hbind hcell ?_ (fun h0 hns k0 => ?_) hco hgen T.kind
  · intro y hy
    simp only [List.mem_cons, List.not_mem_nil, or_false] at hy
    rcases hy with rfl | rfl | rfl
    · exact T.ka
    · exact kf
    · exact kf2
  have n1 : ((Str.ofString "self") == f1) = false := by simpa using Ne.symm hne
  have n2 : ((Str.ofString "self") == f2) = false := by simpa using Ne.symm hne2
  have n3 : (f1 == f2) = false := by simpa using h12
  have m1 : ([((Str.ofString "self"), Value.ref x), (f1, v1), (f2, v2)] : List (Str × Value)).reverse.lookup (Str.ofString "self") = some (.ref x) := by simp [List.lookup, n1, n2]
  have m2 : ([((Str.ofString "self"), Value.ref x), (f1, v1), (f2, v2)] : List (Str × Value)).reverse.lookup f1 = some v1 := by simp [List.lookup, n3]
  have m3 : ([((Str.ofString "self"), Value.ref x), (f1, v1), (f2, v2)] : List (Str × Value)).reverse.lookup f2 = some v2 := by simp [List.lookup]
  have xL : s.heap.objs.size ≠ x := Nat.ne_of_gt (Heap.lt_size hx)
  refine ks_wpAt_execs_cons (super_init T D (X.keeps k0) hns m1 (k0 _ _ hx) (hG.keeps k0) hmg (hB.keeps k0) hb e1 e2 (fun h1 t1 tk k1 hx1 => ?_))
  have X1 : K.In h1 := fun b o e => k1 b o (fun z => by rw [z, hxK] at e; cases e) (k0 b o (X b o e))
  have hns1 := hns.at (h' := h1) fun o e => k1 _ o xL e
  refine ks_wpAt_execs_cons (stmt_store T.kind T.ka kf hns1 m1 m2 hdb e3 (store_first D sa hno X1 hx1 (fun h2 tk2 dx k2 dn dne hx2 hn2 => ?_)))
  have X2 : K.In h2 := fun b o e => k2 b o (fun z => by rw [z, hxK] at e; cases e) (X1 b o e)
  have hns2 := hns1.at (h' := h2) fun o e => k2 _ o xL e
  have nd : ∀ b o, h1.get? b = some o → b ≠ dx := fun b o e z => absurd (Heap.lt_size e) (by rw [z]; exact Nat.not_lt.mpr dn)
  have wi : Within (fun y => if y = f1 then some v1 else none) [f1] := fun y hy => by
    by_cases c : y = f1
    · simp [c]
    · simp [c] at hy
  refine ks_wpAt_execs_cons (stmt_store T.kind T.ka kf2 hns2 m1 m3 hdb2 e4 (store_more (nl := [f1]) D sa hno2 X2 hx2 hn2 wi (by simp) (fun h3 tk3 k3 hn3 => ?_)))
  refine wpAt_of_wpAny (wpAny_execs_nil ?_)
  refine hq _ ⟨h3, tk3, dx, t1, rfl, fun b o hb e => k3 b o (nd b o (k1 b o hb (k0 b o e))) (k2 b o hb (k1 b o hb (k0 b o e))), ?_, dne, k3 _ _ (Ne.symm dne) hx2, hn3⟩
  cases z : s.heap.get? dx with
  | none => rfl
  | some o =>
    have y := Heap.lt_size (k1 dx o dne (k0 dx o z))
    exact absurd y (Nat.not_lt.mpr dn)
end
end ExK
end PySem

set_option maxHeartbeats 2000000
namespace L2
open PySem PySem.Spec PyProof.Rows
section
variable {X : Cx} {pins : List (Addr × Obj)} {σ : St} {H : Hp}
/-- the exception is let go, its dict stands as an exception's dict -/
theorem mk_left {Q : XK} {hp : Heap} {g : Array GenState} {dr : Drawn} {t : Nat} {os : OsState} {C : Addr} {ta : Obj} {fs : List (Str × V)} {mA : Str → Option Value} {s' : Shared} (T : Raises X (.ref C)) (I : Inv X pins σ H ⟨hp, g, dr, t, os⟩)
    (l : ExK.Left ⟨(hp.push ta).push (HandSPX.excO C hp.objs.size), g, dr, t, os⟩ C (hp.objs.size + 1) mA s') (rel : ∀ f, RelO (fs.lookup f) (mA f)) (hta : ta.isFreed = false)
    (q : ∀ d, H d = none → Q (.ref C) (some d) (upd H d (.xd fs))) : MkP X pins σ Q (.ref (hp.objs.size + 1)) s' := by
  obtain ⟨h', tk, dx, t1, rfl, k, nd, dne, hx, hns⟩ := l
  have kk : ∀ b o, hp.get? b = some o → ((hp.push ta).push (HandSPX.excO C hp.objs.size)).get? b = some o := fun b o e => Heap.get?_push_of_some _ (Heap.get?_push_of_some _ e)
  have nx : ∀ {b : Addr} {o : Obj}, hp.get? b = some o → b ≠ hp.objs.size + 1 := fun {b o} e => Nat.ne_of_lt (Nat.lt_succ_of_lt (Heap.lt_size e))
  have nd0 : hp.get? dx = none := by
    cases z : hp.get? dx with
    | none => rfl
    | some o => have y := kk dx o z; rw [nd] at y; cases y
  have hnd : H dx = none := I.hok.gone nd0
  obtain ⟨G, g1, g2⟩ := restrict h' fun b => decide (b ≠ hp.objs.size + 1)
  have gk : ∀ b, b ≠ hp.objs.size + 1 → G.get? b = h'.get? b := fun b hb => g1 b (decide_eq_true hb)
  have ge : G.get? (hp.objs.size + 1) = none := g2 _ (by simp)
  have J : Inv X pins σ (upd H dx (.xd fs)) { (⟨hp, g, dr, t, os⟩ : Shared) with heap := G, toks := tk } :=
    I.laidN (t' := tk) (a := dx) (o := .xd fs) (h' := G) (fun b u e => by rw [gk b (nx e)]; exact k b u (nx e) (kk b u e)) nd0 hnd ⟨mA, hns.at fun o y => (gk dx dne).trans y, rel⟩
  have hxn : H (hp.objs.size + 1) = none := I.hok.fresh (Nat.le_succ _)
  refine ⟨hp.objs.size + 1, _, _, _, _, .ref C, some dx, rfl, J, fun b o z => ?_, ge, hx, ⟨rfl, rfl⟩, rfl, rfl, ?_, rfl, I.bare, T, q dx hnd⟩
  · by_cases hb : b = hp.objs.size + 1
    · rw [hb, ge] at z; cases z
    · exact (gk b hb).symm.trans z
  · rw [upd_ne (Ne.symm dne)]; exact hxn
end
end L2

set_option maxHeartbeats 2000000
namespace L2
open PySem PySem.Spec PyProof.Rows
section
variable {X : Cx} {pins : List (Addr × Obj)} {σ : St} {H : Hp}
/-- the class and its __init__, of one field -/
structure Xc1 (X : Cx) (C fI : Addr) (f1 : Str) : Prop where
  D : ExK.ClsK X.K C
  sa : PySem.W.findIn X.K (.ref C) "__setattr__" = some (some (.builtin "object.__setattr__"))
  hno : PySem.W.findIn X.K (.ref C) f1 = some none
  kC : PySem.W.keepIn X.K (.ref C) = true
  iC : PySem.W.findIn X.K (.ref C) "__init__" = some (some (.ref fI))
  tI : PySem.W.typeIn X.K (.ref fI) = some (.type "function")
  exC : PySem.W.subIn X.K (.ref C) (.type "BaseException") = some true
  tyC : PySem.W.typeIn X.K (.ref C) = some (.type "type")
  ini : ∃ cc cda fd s0 s1, ExK.IniK X.prog X.K C fI cc cda fd ∧ ExK.SupS s0 ∧ ExK.FldS f1 s1 ∧ fd.body = .stmts [s0, s1] ∧ fd.scope.names.lookup f1 = some .local ∧ (∀ x ∈ fd.scope.names, x.2 ≠ .cell) ∧ fd.scope.isCoroutine = false ∧ fd.scope.isGenerator = false ∧ PySem.W.codeIn X.K fd.code fd.qualname = true ∧ ∀ (s : Shared) (x v : Value), BindsTo s fd ⟨[x], [(f1, v)]⟩ [(Str.ofString "self", x), (f1, v)]
  ne : f1 ≠ Str.ofString "self"
  db : (f1 == ("__debug__" : Str)) = false
  sup : X.mg "super" = none
theorem pmk_kw1 {x f1 : Str} {C fI : Addr} {k : Nat} {e : Expr} {te : TE} {p pos kpos : Pos} (T : Xc1 X C fI f1) (hr : Room (k + 2) X.A) (hg : Gl X x) (hm : X.mg x = some (.ref C)) (he : PE X e te)
    (hdb : (x == ("__debug__" : Str)) = false := by decide)
    (hall : (backToKw pos (keywordEach [⟨some f1, e, kpos⟩] X.env)).all (·.1.isSome) = true := by rfl) (hks : (backToKw pos (keywordEach [⟨some f1, e, kpos⟩] X.env)).filterMap (·.1) = [f1] := by rfl)
    (hpl : ((backTo pos (starEach [] X.env)).any (·.1) || (backToKw pos (keywordEach [⟨some f1, e, kpos⟩] X.env)).any (·.1.isNone)) = false := by rfl) :
    PMk X (.Call (.Name x p) [] [⟨some f1, e, kpos⟩] pos) (fun σ H Q => te σ H fun y H1 => ∀ d, H1 d = none → Q (.ref C) (some d) (upd H1 d (.xd [(f1, y)]))) := by
  intro pins s σ H Q I h
  obtain ⟨nm, q, N, bs, bm, sn, sub, ab, col, dd, k0, k1, k2, k3, k5, hC, hbm⟩ := T.D.cls
  obtain ⟨cc, cda, fd, s0, s1, T0, S0, S1, hbody, kf, hcell, hco, hgen, hcode, hbind⟩ := T.ini
  refine wpAny_Call_Name_kw (ld_glob I hg hm ?_ hdb)
  refine PySem.W.callWith_KW0 (h₀ := X.base) I.ok.mod.kin T.kC hall ?_ hpl
  refine thn ((pk_cons he pk_nil).run pos pins s σ H (fun zs H1 => match zs with | [y] => ∀ d, H1 d = none → Q (.ref C) (some d) (upd H1 d (.xd [(f1, y)])) | _ => False) I h) fun ws s2 ⟨zs, H2, I2, rz, q1⟩ => ⟨I2.kIn, ?_⟩
  obtain ⟨y, rfl, q2⟩ : ∃ y, zs = [y] ∧ ∀ d, H2 d = none → Q (.ref C) (some d) (upd H2 d (.xd [(f1, y)])) := by
    match zs, q1 with
    | [y], q1 => exact ⟨y, rfl, q1⟩
  obtain ⟨w1, rw1, hws⟩ : ∃ w1, RelV y w1 ∧ ws = [w1] := by
    cases rz with
    | cons r1 r2 => cases r2; exact ⟨_, r1, rfl⟩
  subst hws
  rw [hks]
  obtain ⟨hp, g, dr, tk, os⟩ := s2
  have kk : ∀ b o, hp.get? b = some o → ((hp.push (PySem.W.kdv_tup [])).push (HandSPX.excO C hp.objs.size)).get? b = some o := fun b o e => Heap.get?_push_of_some _ (Heap.get?_push_of_some _ e)
  have hget : ((hp.push (PySem.W.kdv_tup [])).push (HandSPX.excO C hp.objs.size)).get? (hp.objs.size + 1) = some (HandSPX.excO C hp.objs.size) := by heap_get
  have hxK : X.K.lookup (hp.objs.size + 1) = none := by
    cases z : X.K.lookup (hp.objs.size + 1) with
    | none => rfl
    | some o => exact absurd (Heap.lt_size (I2.kIn _ _ z)) (Nat.not_lt.mpr (Nat.le_succ _))
  obtain ⟨mb, hb1, hb2⟩ := I2.mod.blt
  refine wpAny_call (ExK.call_kw F.excBase_ValueError (fun Y => HandSPX.refsVE_contains Y bm hbm) (I2.kIn _ _ hC) (PySem.W.looks_findIn I2.kIn T.iC) (fun self => PySem.W.bind_fn I2.kIn self T.tI) ?_)
  refine ExK.init1 (s := ⟨(hp.push (PySem.W.kdv_tup [])).push (HandSPX.excO C hp.objs.size), g, dr, tk, os⟩) T0 T.D T.sa T.hno (I2.kIn.keeps kk) hxK hget ((I2.mod.glob.keeps I2.bk).keeps kk) T.sup ((hb1.keeps I2.bk).keeps kk) ((hb2 _ (by decide)).trans (by decide +kernel)) S0 S1 hbody kf T.ne T.db hcell hco hgen ?_ (I2.nolimit.keeps kk) ?_ (hbind _ _ _) (fun s' l => ?_)
  · exact (hr.make C [] [(f1, w1)]).depth
  · exact PySem.W.codeRec_of (I2.kIn.keeps kk) hcode
  · exact ⟨rfl, mk_left (fs := [(f1, y)]) (raises_own T.exC T.tyC) I2 l (relO_put (fs := []) rw1 fun g => True.intro) rfl q2⟩
/-- the same, of two fields -/
structure Xc2 (X : Cx) (C fI : Addr) (f1 f2 : Str) : Prop where
  D : ExK.ClsK X.K C
  sa : PySem.W.findIn X.K (.ref C) "__setattr__" = some (some (.builtin "object.__setattr__"))
  hno : PySem.W.findIn X.K (.ref C) f1 = some none
  hno2 : PySem.W.findIn X.K (.ref C) f2 = some none
  kC : PySem.W.keepIn X.K (.ref C) = true
  iC : PySem.W.findIn X.K (.ref C) "__init__" = some (some (.ref fI))
  tI : PySem.W.typeIn X.K (.ref fI) = some (.type "function")
  exC : PySem.W.subIn X.K (.ref C) (.type "BaseException") = some true
  tyC : PySem.W.typeIn X.K (.ref C) = some (.type "type")
  ini : ∃ cc cda fd s0 s1 s2, ExK.IniK X.prog X.K C fI cc cda fd ∧ ExK.SupS s0 ∧ ExK.FldS f1 s1 ∧ ExK.FldS f2 s2 ∧ fd.body = .stmts [s0, s1, s2] ∧ fd.scope.names.lookup f1 = some .local ∧ fd.scope.names.lookup f2 = some .local ∧ (∀ x ∈ fd.scope.names, x.2 ≠ .cell) ∧ fd.scope.isCoroutine = false ∧ fd.scope.isGenerator = false ∧ PySem.W.codeIn X.K fd.code fd.qualname = true ∧ ∀ (s : Shared) (x v u : Value), BindsTo s fd ⟨[x], [(f1, v), (f2, u)]⟩ [(Str.ofString "self", x), (f1, v), (f2, u)]
  ne : f1 ≠ Str.ofString "self"
  ne2 : f2 ≠ Str.ofString "self"
  n12 : f1 ≠ f2
  db : (f1 == ("__debug__" : Str)) = false
  db2 : (f2 == ("__debug__" : Str)) = false
  sup : X.mg "super" = none
theorem pmk_kw2 {x f1 f2 : Str} {C fI : Addr} {k : Nat} {e e2 : Expr} {te te2 : TE} {p pos kpos kpos2 : Pos} (T : Xc2 X C fI f1 f2) (hr : Room (k + 2) X.A) (hg : Gl X x) (hm : X.mg x = some (.ref C)) (he : PE X e te) (he2 : PE X e2 te2)
    (hdb : (x == ("__debug__" : Str)) = false := by decide)
    (hall : (backToKw pos (keywordEach [⟨some f1, e, kpos⟩, ⟨some f2, e2, kpos2⟩] X.env)).all (·.1.isSome) = true := by rfl) (hks : (backToKw pos (keywordEach [⟨some f1, e, kpos⟩, ⟨some f2, e2, kpos2⟩] X.env)).filterMap (·.1) = [f1, f2] := by rfl)
    (hpl : ((backTo pos (starEach [] X.env)).any (·.1) || (backToKw pos (keywordEach [⟨some f1, e, kpos⟩, ⟨some f2, e2, kpos2⟩] X.env)).any (·.1.isNone)) = false := by rfl) :
    PMk X (.Call (.Name x p) [] [⟨some f1, e, kpos⟩, ⟨some f2, e2, kpos2⟩] pos) (fun σ H Q => te σ H fun y H1 => te2 σ H1 fun z H2 => ∀ d, H2 d = none → Q (.ref C) (some d) (upd H2 d (.xd [(f1, y), (f2, z)]))) := by
  intro pins s σ H Q I h
  obtain ⟨nm, q, N, bs, bm, sn, sub, ab, col, dd, k0, k1, k2, k3, k5, hC, hbm⟩ := T.D.cls
  obtain ⟨cc, cda, fd, s0, s1, s2, T0, S0, S1, S2, hbody, kf, kf2, hcell, hco, hgen, hcode, hbind⟩ := T.ini
  refine wpAny_Call_Name_kw (ld_glob I hg hm ?_ hdb)
  refine PySem.W.callWith_KW0 (h₀ := X.base) I.ok.mod.kin T.kC hall ?_ hpl
  refine thn ((pk_cons he (pk_cons he2 pk_nil)).run pos pins s σ H (fun zs H1 => match zs with | [y, z] => ∀ d, H1 d = none → Q (.ref C) (some d) (upd H1 d (.xd [(f1, y), (f2, z)])) | _ => False) I h) fun ws s2 ⟨zs, H2, I2, rz, q1⟩ => ⟨I2.kIn, ?_⟩
  obtain ⟨y, z, rfl, q2⟩ : ∃ y z, zs = [y, z] ∧ ∀ d, H2 d = none → Q (.ref C) (some d) (upd H2 d (.xd [(f1, y), (f2, z)])) := by
    match zs, q1 with
    | [y, z], q1 => exact ⟨y, z, rfl, q1⟩
  obtain ⟨w1, w2, rw1, rw2, hws⟩ : ∃ w1 w2, RelV y w1 ∧ RelV z w2 ∧ ws = [w1, w2] := by
    cases rz with
    | cons r1 r2 => cases r2 with
      | cons r2 r3 => cases r3; exact ⟨_, _, r1, r2, rfl⟩
  subst hws
  rw [hks]
  obtain ⟨hp, g, dr, tk, os⟩ := s2
  have kk : ∀ b o, hp.get? b = some o → ((hp.push (PySem.W.kdv_tup [])).push (HandSPX.excO C hp.objs.size)).get? b = some o := fun b o e => Heap.get?_push_of_some _ (Heap.get?_push_of_some _ e)
  have hget : ((hp.push (PySem.W.kdv_tup [])).push (HandSPX.excO C hp.objs.size)).get? (hp.objs.size + 1) = some (HandSPX.excO C hp.objs.size) := by heap_get
  have hxK : X.K.lookup (hp.objs.size + 1) = none := by
    cases z : X.K.lookup (hp.objs.size + 1) with
    | none => rfl
    | some o => exact absurd (Heap.lt_size (I2.kIn _ _ z)) (Nat.not_lt.mpr (Nat.le_succ _))
  obtain ⟨mb, hb1, hb2⟩ := I2.mod.blt
  have rel : ∀ f, RelO ([(f1, y), (f2, z)].lookup f) (if f = f2 then some w2 else if f = f1 then some w1 else none) := by
    intro f
    by_cases c1 : f = f1
    · subst c1
      rw [if_neg T.n12, if_pos rfl]
      have e1 : [(f, y), (f2, z)].lookup f = some y := by simp [List.lookup]
      rw [e1]
      exact rw1
    · by_cases c2 : f = f2
      · subst c2
        have e1 : [(f1, y), (f, z)].lookup f = some z := by
          have : (f == f1) = false := by simpa using c1
          simp [List.lookup, this]
        rw [if_pos rfl, e1]
        exact rw2
      · have e1 : [(f1, y), (f2, z)].lookup f = none := by
          have h1 : (f == f1) = false := by simpa using c1
          have h2 : (f == f2) = false := by simpa using c2
          simp [List.lookup, h1, h2]
        rw [if_neg c2, if_neg c1, e1]
        exact True.intro
  refine wpAny_call (ExK.call_kw F.excBase_ValueError (fun Y => HandSPX.refsVE_contains Y bm hbm) (I2.kIn _ _ hC) (PySem.W.looks_findIn I2.kIn T.iC) (fun self => PySem.W.bind_fn I2.kIn self T.tI) ?_)
  refine ExK.init2 (s := ⟨(hp.push (PySem.W.kdv_tup [])).push (HandSPX.excO C hp.objs.size), g, dr, tk, os⟩) T0 T.D T.sa T.hno T.hno2 (I2.kIn.keeps kk) hxK hget ((I2.mod.glob.keeps I2.bk).keeps kk) T.sup ((hb1.keeps I2.bk).keeps kk) ((hb2 _ (by decide)).trans (by decide +kernel)) S0 S1 S2 hbody kf kf2 T.ne T.ne2 T.n12 T.db T.db2 hcell hco hgen ?_ (I2.nolimit.keeps kk) ?_ (hbind _ _ _ _) (fun s' l => ?_)
  · exact (hr.make C [] [(f1, w1), (f2, w2)]).depth
  · exact PySem.W.codeRec_of (I2.kIn.keeps kk) hcode
  · exact ⟨rfl, mk_left (fs := [(f1, y), (f2, z)]) (raises_own T.exC T.tyC) I2 l rel rfl q2⟩
end
end L2

set_option maxHeartbeats 2000000
namespace PySem
namespace ExK
open HandSPX PySem.W
/-- ClsK, decided -/
def clsKB (K : Frag) (C : Addr) : Bool := match K.lookup C with
  | some ⟨.type "type", _, .cls cd, sl⟩ => (match cd.mro, sl.toList with
    | .ref C' :: bm, [_, _, _, _, some (.builtin n), _] => (C' == C && (n == "ValueError.__new__" && (!cd.hasDel && (cd.hasDict && (refsVE bm &&
        (decide (alongIn K "__init__" ((cd.mro.dropWhile (· != .ref C)).drop 1) = some (some (.builtin "ValueError.__init__"))) &&
        (decide (mroIn K C (.ref C) = some true) && (decide (subIn K (.ref C) (.type "ValueError") = some true) && decide (nsIn K cStatics "thirdparty.any" = some none)))))))))
    | _, _ => false)
  | _ => false
theorem clsKB_ok {K : Frag} {C : Addr} (q : clsKB K C = true) : ClsK K C := by
  unfold clsKB at q
  split at q
  · rename_i dd cd sl ho
    split at q
    · rename_i C' bm k0 k1 k2 k3 n k5 hm hs
      simp only [Bool.and_eq_true, beq_iff_eq, Bool.not_eq_true', decide_eq_true_eq] at q
      obtain ⟨rfl, rfl, hdel, hdic, hbm, hal, hself, hsub, hth⟩ := q
      have hcd : clsIn K C' = some cd := by unfold clsIn; rw [ho]
      refine ⟨?_, ⟨cd, hcd, by rw [hm]; exact hbm, hdic, hal⟩, hself, hsub, hth⟩
      obtain ⟨nm, bs, mro, ns, qn, hd, sn, sub, ab, col, del⟩ := cd
      dsimp only at hm hdel hdic
      subst hm hdel hdic
      have hsl : sl = #[k0, k1, k2, k3, some (.builtin "ValueError.__new__"), k5] := by
        obtain ⟨l⟩ := sl
        simp only at hs
        rw [hs]
      subst hsl
      exact ⟨nm, qn, ns, bs, bm, sn, sub, ab, col, dd, k0, k1, k2, k3, k5, ho, hbm⟩
    · cases q
  · cases q
/-- IniK, decided: what is not the text -/
def iniB (K : Frag) (C f : Addr) (file : Str) : Bool := match K.lookup f with
  | some ⟨_, _, .func fd, _⟩ => (match fd.closure, fd.code with
    | [(x, cc)], .ref cda => x == Str.ofString "__class__" && ((match K.lookup cc with
        | some ⟨_, _, .cell (some (.ref D)), _⟩ => D == C
        | _ => false) && ((match K.lookup cda with
        | some ⟨_, _, .fields vs, _⟩ => (match (vs[2]? : Option Value) with
          | some (Value.str fl _) => file == fl
          | _ => false)
        | _ => false) && codeIn K fd.code fd.qualname))
    | _, _ => false)
  | _ => false
abbrev IV : Type := Option (Arguments × FuncBody × Scope × Addr × Value × Addr)
/-- .. and what is -/
def iniV (K : Frag) (f : Addr) : IV := match K.lookup f with
  | some ⟨_, _, .func fd, _⟩ => some (fd.params, fd.body, fd.scope, fd.globals, fd.defaults, fd.builtins)
  | _ => none
theorem iniK_of {prog : Program} {K : Frag} {C f : Addr} {file : Str} {pa : Arguments} {bd : FuncBody} {sc : Scope} (q : iniB K C f file = true) (v : iniV K f = some (pa, bd, sc, mainGlobals, .none, builtinsNs)) (hfile : ((prog.main.file : Str) == file) = true)
    (top : (prog.main.scope.names.lookup ("super" : Str)).isSome = false) (head : ∃ ar, (pa.posonlyargs ++ pa.args).head? = some ar ∧ ar.arg = "self") (kind : sc.kind = .function) (ks : sc.names.lookup ("super" : Str) = some .globalImplicit) (kc : sc.names.lookup ("__class__" : Str) = some .free) (ka : sc.names.lookup ("self" : Str) = some .local) :
    ∃ cc cda fd, IniK prog K C f cc cda fd ∧ fd.params = pa ∧ fd.body = bd ∧ fd.scope = sc ∧ fd.defaults = .none ∧ codeIn K fd.code fd.qualname = true := by
  unfold iniB at q
  unfold iniV at v
  cases lk : K.lookup f with
  | none => rw [lk] at q; cases q
  | some o =>
    obtain ⟨oc, od, dt, osl⟩ := o
    rw [lk] at q v
    cases dt with
    | func fd =>
      simp only [Option.some.injEq, Prod.mk.injEq] at q v
      obtain ⟨v1, v2, v3, v4, v5, v6⟩ := v
      split at q
      · rename_i x cc cda hcl hco
        simp only [Bool.and_eq_true, beq_iff_eq] at q
        obtain ⟨q1, q2, q3, q4⟩ := q
        split at q2
        · rename_i c1 c2 D c3 hcc
          split at q3
          · rename_i d1 d2 vs d3 hcd
            split at q3
            · rename_i fl tf hvs
              simp only [beq_iff_eq] at q2 q3
              subst q1 q2 q3
              exact ⟨cc, cda, fd, ⟨⟨oc, od, osl, lk⟩, v1 ▸ head, hco, ⟨d1, d2, vs, d3, file, tf, hcd, hvs, hfile⟩, top, hcl, ⟨c1, c2, c3, hcc⟩, v4, v6, v3 ▸ kind, v3 ▸ ks, v3 ▸ kc, v3 ▸ ka⟩, v1, v2, v3, v5, q4⟩
            · cases q3
          · cases q3
        · cases q2
      · cases q
    | _ => cases q
end ExK
end PySem

namespace SC
open PySem PySem.Spec PyProof.Rows L2
structure Gm where
  K : PySem.W.Frag
  T : Tab
  Cl : Nat → Addr
  nm : Nat → Str
  fa : Nat → Addr
  cs : List Nat
  Xc : Nat → Addr
  prog : Program
  tabs : List (Addr × Str)
  cds : List (Addr × Addr)
/-! ### the program as data; what the top must have written -/
inductive At where | glo (x : Str) | meth (C m : Str) | prop (C m : Str)
def At.ad (K : PySem.W.Frag) : At → Addr
  | .glo x => He.ga K x
  | .meth C m => He.ma K (He.ga K C) m
  | .prop C m => match PySem.W.recIn K (He.ma K (He.ga K C) m) "property" with
    | some (.ref g :: _) => g
    | _ => 0
structure Df where
  at_ : At
  name : Str
  qual : Str
  st : Stmt
abbrev FV : Type := Option (Str × Str × Arguments × FuncBody × Scope × Addr × List (Str × Addr) × Value × Addr)
def fnV (K : PySem.W.Frag) (a : At) : FV := match K.lookup (a.ad K) with
  | some ⟨_, _, .func fd, _⟩ => some (fd.name, fd.qualname, fd.params, fd.body, fd.scope, fd.globals, fd.closure, fd.defaults, fd.builtins)
  | _ => none
def Df.val (d : Df) : FV := some (d.name, d.qual, defArgs d.st, .stmts (defBody d.st), defScope d.st, mainGlobals, [], .none, builtinsNs)
def Df.ok (K : PySem.W.Frag) (d : Df) : Bool := PySem.W.keepIn K (.ref (d.at_.ad K)) && (match K.lookup (d.at_.ad K) with
  | some ⟨_, _, .func fd, _⟩ => PySem.W.codeIn K fd.code d.qual
  | _ => false)
theorem Df.fn {K : PySem.W.Frag} {d : Df} (e : fnV K d.at_ = d.val) (c : d.ok K = true) : ∃ fd, Fun K d.name d.qual d.st (d.at_.ad K) fd := by
  obtain ⟨kp, c2⟩ := He.ba c
  unfold fnV at e
  cases q : K.lookup (d.at_.ad K) with
  | none =>
    rw [q] at c2
    cases c2
  | some o =>
    obtain ⟨oc, od, dt, osl⟩ := o
    rw [q] at c2 e
    cases dt with
    | func fd =>
      obtain ⟨n1, n2, n3, n4, n5, n6, n7, n8, n9, n10, n11, n12, n13, n14, n15⟩ := fd
      have e2 : (some (n1, n2, n3, n4, n5, n6, n7, n8, n15) : FV) = some (d.name, d.qual, defArgs d.st, .stmts (defBody d.st), defScope d.st, mainGlobals, [], .none, builtinsNs) := e
      simp only [Option.some.injEq, Prod.mk.injEq] at e2
      obtain ⟨h1, h2, h3, h4, h5, h6, h7, h8, h9⟩ := e2
      subst h1 h2 h3 h4 h5 h6 h7 h8 h9
      exact ⟨_, ⟨oc, od, n9, n10, n11, n12, n13, n14, osl, rfl, q, c2⟩, kp⟩
    | _ => cases c2

/-- an exception class of the program: its name, its fields (none: it is made with a text), its __init__ -/
structure Xd where
  name : Str
  flds : List Nat
  st : Stmt
structure PD where
  prog : Program
  nms : List (Nat × Str)
  cls : List (Nat × Str)
  lays : List (Nat × List Nat)
  frz : List Nat
  props : List ((Nat × Nat) × Nat)
  meths : List ((Nat × Nat) × Nat)
  inits : List (Nat × Nat)
  callms : List (Nat × Nat)
  defs : List (Nat × Df)
  frees : List Str
  cints : List (Str × Int)
  cstrs : List (Str × Str)
  excs : List (Nat × Xd) := []
  lams : List (Nat × Str) := []
  ctups : List (Str × List Str) := []
  err : Nat → List MV → Option MV := fun _ _ => none
  court : Str := Str.empty
  errs : List Nat := []
  xts : List (Nat × Str) := []
  isxs : List ((Nat × Nat) × Bool) := []
/-- the code object of a def, and its table of code objects -/
def codeOf (K : PySem.W.Frag) (f : Addr) : Addr := match K.lookup f with
  | some ⟨_, _, .func fd, _⟩ => (match fd.code with
    | .ref c => c
    | _ => 0)
  | _ => 0
def tabOf (K : PySem.W.Frag) (f : Addr) : Addr := match K.lookup (codeOf K f) with
  | some ⟨_, _, .fields vs, _⟩ => (match (vs[11]? : Option Value) with
    | some (Value.ref P) => P
    | _ => 0)
  | _ => 0
def PD.ids (p : PD) : List Nat := p.defs.map (·.1)
def PD.tab (p : PD) : Tab where
  lay := fun c => (p.lays.lookup c).getD []
  frozen := fun c => p.frz.contains c
  prop := fun c f => p.props.lookup (c, f)
  meth := fun c f => p.meths.lookup (c, f)
  init := fun c => p.inits.lookup c
  callm := fun c => p.callms.lookup c
  err := p.err
  isx := fun c x => p.isxs.lookup (c, x)
  xlay := fun c => ((p.excs.lookup c).map (·.flds)).getD []
def faOf (defs : List (Nat × Df)) (K : PySem.W.Frag) (i : Nat) : Addr := match defs.lookup i with
  | some d => d.at_.ad K
  | none => 0
def PD.gm (p : PD) (K : PySem.W.Frag) : Gm where
  K := K
  T := p.tab
  Cl := fun c => He.ga K ((p.cls.lookup c).getD Str.empty)
  nm := fun i => (p.nms.lookup i).getD Str.empty
  fa := faOf p.defs K
  cs := p.cls.map (·.1)
  Xc := fun c => He.ga K (((p.excs.lookup c).map (·.name)).getD Str.empty)
  prog := p.prog
  tabs := p.lams.map fun q => (tabOf K (faOf p.defs K q.1), q.2)
  cds := p.lams.map fun q => (codeOf K (faOf p.defs K q.1), tabOf K (faOf p.defs K q.1))
section
variable (p : PD) (K : PySem.W.Frag)
abbrev tyNames : List String := ["int", "bool", "str", "tuple", "list", "dict"]
abbrev vlNames : List String := ["NoneType", "bool", "int", "str", "tuple", "list"]
/-- what does not look at the heap -/
def PD.statB : Bool :=
  ((p.cls.map (·.1)).all fun c => (p.tab.lay c).all fun f => (p.tab.lay c).all fun g => !(decide ((p.gm []).nm f = (p.gm []).nm g)) || decide (f = g)) &&
  (p.meths.all fun q => decide (q.2 ∈ p.ids) && (p.tab.lay q.1.1).all fun f => !(decide ((p.gm []).nm f = (p.gm []).nm q.1.2))) &&
  (p.props.all fun q => decide (q.2 ∈ p.ids)) &&
  (p.inits.all fun q => decide (q.2 ∈ p.ids)) &&
  (p.callms.all fun q => decide (q.2 ∈ p.ids)) &&
  (p.excs.all fun q => q.2.flds.all fun f => q.2.flds.all fun g => !(decide ((p.gm []).nm f = (p.gm []).nm g)) || decide (f = g))
def clsB (c : Nat) (x : Str) : Bool :=
  (He.Fa.cls x).ok K && (He.eqO (PySem.W.findIn K (.ref (He.ga K x)) "__class__") (some (some (.builtin "object.__class__"))) &&
  (decide (PySem.W.mroIn K (He.ga K x) (.type "object") = some true) &&
  ((tyNames.all fun n => decide (PySem.W.kitOne K (.ref (He.ga K x)) (.type n) = some false)) &&
  ((p.tab.lay c).all fun f => He.eqO (PySem.W.findIn K (.ref (He.ga K x)) ((p.gm K).nm f)) (some none)))))
def methB (q : (Nat × Nat) × Nat) : Bool :=
  He.eqO (PySem.W.findIn K (.ref ((p.gm K).Cl q.1.1)) ((p.gm K).nm q.1.2)) (some (some (.ref ((p.gm K).fa q.2)))) && (PySem.W.isFn K (.ref ((p.gm K).fa q.2)) && PySem.W.keepIn K (.ref ((p.gm K).fa q.2)))
def propB (q : (Nat × Nat) × Nat) : Bool :=
  He.eqO (PySem.W.findIn K (.ref ((p.gm K).Cl q.1.1)) ((p.gm K).nm q.1.2)) (some (some (.ref (He.ma K ((p.gm K).Cl q.1.1) ((p.gm K).nm q.1.2))))) &&
  (He.eqO (PySem.W.specialIn K (.ref (He.ma K ((p.gm K).Cl q.1.1) ((p.gm K).nm q.1.2))) "__get__") (some (some (.builtin "property.__get__"))) &&
  (decide (PySem.W.takesIn K (.ref (He.ma K ((p.gm K).Cl q.1.1) ((p.gm K).nm q.1.2))) = some true) &&
  (match PySem.W.recIn K (He.ma K ((p.gm K).Cl q.1.1) ((p.gm K).nm q.1.2)) "property" with
    | some (.ref g :: _) => decide (g = (p.gm K).fa q.2)
    | _ => false)))
def initB (q : Nat × Nat) : Bool :=
  PySem.W.makesIn K ((p.gm K).Cl q.1) && (He.eqO (PySem.W.findIn K (.ref ((p.gm K).Cl q.1)) "__init__") (some (some (.ref ((p.gm K).fa q.2)))) && (PySem.W.isFn K (.ref ((p.gm K).fa q.2)) && PySem.W.keepIn K (.ref ((p.gm K).Cl q.1))))
def callB (q : Nat × Nat) : Bool :=
  He.eqO (PySem.W.findIn K (.ref ((p.gm K).Cl q.1)) "__call__") (some (some (.ref ((p.gm K).fa q.2)))) && (PySem.W.isFn K (.ref ((p.gm K).fa q.2)) && PySem.W.fnIn K ((p.gm K).fa q.2))
def isiB (d : Nat) : Bool :=
  (vlNames.all fun n => decide (PySem.W.kitOne K (.type n) (.ref ((p.gm K).Cl d)) = some false)) &&
  ((p.cls.map (·.1)).all fun c => decide (PySem.W.kitOne K (.ref ((p.gm K).Cl c)) (.ref ((p.gm K).Cl d)) = some (decide (c = d))))
def gloB (d : Df) : Bool := match d.at_ with
  | .glo x => (He.Fa.glo x).ok K
  | _ => true
/-- an exception class is as it must be -/
def excB (q : Nat × Xd) : Bool :=
  (He.Fa.glo q.2.name).ok K && (PySem.W.keepIn K (.ref (He.ga K q.2.name)) && (decide (PySem.W.subIn K (.ref (He.ga K q.2.name)) (.type "BaseException") = some true) && (decide (PySem.W.typeIn K (.ref (He.ga K q.2.name)) = some (.type "type")) &&
  (match q.2.flds with
    | [] => PySem.W.excIn K (He.ga K q.2.name) HandSPX.veTail "ValueError.__new__"
    | f :: fs => ExK.clsKB K (He.ga K q.2.name) && (L2.xfB K (He.ga K q.2.name) && (decide (PySem.W.subIn K (.ref (He.ga K q.2.name)) (.ref (He.ga K q.2.name)) = some true) && (He.eqO (PySem.W.findIn K (.ref (He.ga K q.2.name)) "__setattr__") (some (some (.builtin "object.__setattr__"))) &&
      ((f :: fs).all (fun f => He.eqO (PySem.W.findIn K (.ref (He.ga K q.2.name)) ((p.gm K).nm f)) (some none)) &&
      (He.eqO (PySem.W.findIn K (.ref (He.ga K q.2.name)) "__init__") (some (some (.ref (He.ma K (He.ga K q.2.name) "__init__")))) &&
      (decide (PySem.W.typeIn K (.ref (He.ma K (He.ga K q.2.name) "__init__")) = some (.type "function")) && ExK.iniB K (He.ga K q.2.name) (He.ma K (He.ga K q.2.name) "__init__") p.prog.main.file))))))))))
/-- a tuple of texts that stands in a global name -/
def strsB : List Value → List Str → Bool
  | [], [] => true
  | .str s _ :: r, x :: l => s == x && strsB r l
  | _, _ => false
def tupB (q : Str × List Str) : Bool := (He.Fa.glo q.1).ok K && (match K.lookup (He.ga K q.1) with
  | some ⟨.type "tuple", none, .seq its _, _⟩ => decide (its.size ≤ sizeLine) && strsB its.toList q.2
  | _ => false)
/-- what the catching of errors asks: the class that is caught, those that are raised, those that are asked for -/
def xtV (x : Nat) : Value := match p.xts.lookup x with
  | some n => .ref (He.ga K n)
  | none => .type "ValueError"
def isxB (q : (Nat × Nat) × Bool) : Bool := decide (PySem.W.kitOne K (.ref ((p.gm K).Xc q.1.1)) (xtV p K q.1.2) = some q.2)
def ecB (D : Addr) : Bool := decide (PySem.W.findIn K (.ref D) "__getattribute__" = some (some (.builtin "BaseException.__getattribute__"))) && (decide (PySem.W.findIn K (.ref D) "__getattr__" = some none) && (decide (PySem.W.subIn K (.ref D) (.type "BaseException") = some true) &&
  (PySem.W.hasDictIn K D && (He.eqO (PySem.W.findIn K (.ref D) "__class__") (some (some (.builtin "object.__class__"))) && decide (PySem.W.mroIn K D (.type "object") = some true)))))
def errB (c : Nat) : Bool := ecB K ((p.gm K).Xc c) && decide (PySem.W.subIn K (.ref ((p.gm K).Xc c)) (.ref (He.ga K p.court)) = some true)
def courtB : Bool := (He.Fa.glo p.court).ok K && (PySem.W.hasDictIn K (He.ga K p.court) && (decide (PySem.W.subIn K (.ref (He.ga K p.court)) (.type "BaseException") = some true) && decide (PySem.W.typeIn K (.ref (He.ga K p.court)) = some (.type "type"))))
/-- the code object of a def with lambdas -/
def lamB (q : Addr × Addr) : Bool := decide (q.1 ≠ q.2) && ((K.lookup q.2).isNone && (match K.lookup q.1 with
  | some ⟨.type "code", _, .fields vs, _⟩ => (match (vs[11]? : Option Value), vs.getD 18 .none, vs.getD 7 .none, vs.getD 9 .none, vs.getD 10 .none with
    | some (Value.ref P), .str _ _, .int _ _, .bool _, .int _ _ => decide (P = q.2)
    | _, _, _, _, _ => false)
  | _ => false))
def PD.okE : Bool := p.errs.isEmpty || (courtB p K && (p.errs.all (errB p K) && (p.xts.all (fun q => (He.Fa.glo q.2).ok K) && (p.isxs.all (isxB p K) && ((p.gm K).cds.all (lamB K) && decide ((p.gm K).tabs.map (·.1)).Nodup)))))
def xinV (q : Nat × Xd) : ExK.IV := match q.2.flds with
  | [] => none
  | _ => ExK.iniV K (He.ma K (He.ga K q.2.name) "__init__")
def xinW (q : Nat × Xd) : ExK.IV := match q.2.flds with
  | [] => none
  | _ => some (defArgs q.2.st, .stmts (defBody q.2.st), defScope q.2.st, mainGlobals, .none, builtinsNs)
def PD.okB : Bool :=
  p.cls.all (fun q => clsB p K q.1 q.2) && (He.eqO (PySem.W.specialIn K (.builtin "object.__class__") "__get__") (some (some (.builtin "getset_descriptor.__get__"))) && (decide (PySem.W.takesIn K (.builtin "object.__class__") = some true) &&
  (p.meths.all (methB p K) && (p.props.all (propB p K) && (p.inits.all (initB p K) && (p.callms.all (callB p K) && ((p.cls.map (·.1)).all (isiB p K) &&
  (p.defs.all (fun q => gloB K q.2) && (p.cls.all (fun q => (He.Fa.glo q.2).ok K) && (p.frees.all (fun x => (He.Fa.free x).ok K) && (p.cints.all (fun q => (He.Fa.int q.1 q.2).ok K) && (p.cstrs.all (fun q => (He.Fa.str q.1 q.2).ok K) && (p.defs.all (fun q => Df.ok K q.2) && (p.excs.all (excB p K) && (p.ctups.all (tupB K) && p.okE K)))))))))))))))
abbrev Al : Type := Bool × List FV × List ExK.IV
abbrev AlT : Type := Al × List (Option Obj)
def PD.obs : Al := (p.okB K, p.defs.map fun q => fnV K q.2.at_, p.excs.map (xinV K))
def PD.val : Al := (true, p.defs.map fun q => q.2.val, p.excs.map xinW)
end
def PD.Says (p : PD) (K : PySem.W.Frag) : Prop := p.obs K = p.val
def PD.tabG (p : PD) (K : PySem.W.Frag) (g : Addr → Option Obj) : List (Option Obj) := (p.gm K).cds.map fun q => g q.2
def PD.tabV (p : PD) : List (Option Obj) := p.lams.map fun _ => some { cls := .none, data := .fields #[] }
def PD.obsG (p : PD) (as : List Addr) (g : Addr → Option Obj) : AlT := (p.obs (He.frG g as), p.tabG (He.frG g as) g)
/-- the tables are empty yet -/
def PD.Empty (p : PD) (K : PySem.W.Frag) (h : Heap) : Prop := ∀ q ∈ (p.gm K).cds, h.get? q.2 = some { cls := .none, data := .fields #[] }
theorem PD.empty_of {p : PD} {K : PySem.W.Frag} {h : Heap} (e : p.tabG K h.get? = p.tabV) : p.Empty K h := by
  intro q hq
  unfold PD.tabG PD.tabV at e
  obtain ⟨n, hn⟩ := List.getElem?_of_mem hq
  have e2 : ((p.gm K).cds.map fun q => h.get? q.2)[n]? = (p.lams.map fun _ => (some { cls := .none, data := .fields #[] } : Option Obj))[n]? := by rw [e]
  rw [List.getElem?_map, hn, List.getElem?_map] at e2
  cases z : p.lams[n]? with
  | none => rw [z] at e2; cases e2
  | some y => rw [z] at e2; exact Option.some.inj e2
def PD.hook (p : PD) (as : List Addr) : PySem.W.Hook where
  α := AlT
  obs := fun s => p.obsG as s.heap.get?
  val := fun _ => (p.val, p.tabV)
  says := fun _ h => ∃ K : PySem.W.Frag, K.In h ∧ p.Says K ∧ p.Empty K h
  of := fun _ _ e => ⟨_, He.frG_in, congrArg Prod.fst e, PD.empty_of (congrArg Prod.snd e)⟩
  keeps := fun _ _ _ ⟨K, hK, c, d⟩ k => ⟨K, PySem.W.Frag.In.keeps hK k, c, fun q hq => k _ _ (d q hq)⟩
theorem PD.obsG_eq {p : PD} {as : List Addr} {g : Addr → Option Obj} {s : Shared} (h : ∀ a, g a = s.heap.get? a) : p.obsG as g = (p.hook as).obs s := by
  have e : g = s.heap.get? := funext h
  rw [e] <;> rfl
end SC

namespace SC.B
open PySem SC
/-- is_name -/
def c_f0_is_name : CSs := (.cons (.ife (.or (.not (.blt (.isi [.str]) (.cons (.var 0) .nil))) (.not (.chn .le .le (.cst (.int 1)) (.blt .len (.cons (.var 0) .nil)) (.cst (.int 8))))) (.cons (.ret (.cst (.bl false))) .nil) .nil) (.cons (.ret (.cmp .eq (.comp false (.nm 1) (.val (.var 0)) (.cmp .notin (.var 1) (.cst (.str "abcdefghijklmnopqrstuvwxyz"))) (.var 1)) (.lst .nil))) .nil))
def f0_is_name : Fn := ⟨1, 2, c_f0_is_name, false⟩
/-- validate_facts -/
def c_f1_validate_facts : CSs := (.cons (.ife (.cmp .eq (.var 0) (.tup .nil)) (.cons .never .nil) .nil) (.cons (.forr (.tup [(.nm 1), (.nm 2)]) (.enum (.var 0)) (.cons (.ife (.or (.cmp .eq (.var 1) (.cst (.int 60))) (.or (.not (.call 0 (.cons (.var 2) .nil))) (.and (.cmp .gt (.var 1) (.cst (.int 0))) (.cmp .le (.var 2) (.idx (.var 0) (.bin .sub (.var 1) (.cst (.int 1)))))))) (.cons .never .nil) .nil) .nil)) .nil))
def f1_validate_facts : Fn := ⟨1, 3, c_f1_validate_facts, false⟩
/-- Rule.__init__ -/
def c_f2_Rule___init__ : CSs := (.cons (.ife (.not (.call 0 (.cons (.var 1) .nil))) (.cons .never .nil) .nil) (.cons (.ife (.not (.call 0 (.cons (.var 3) .nil))) (.cons .never .nil) .nil) (.cons (.setF 0 (.var 0) (.var 1)) (.cons (.setF 1 (.var 0) (.var 2)) (.cons (.setF 2 (.var 0) (.var 3)) (.cons (.setF 3 (.var 0) (.var 4)) .nil))))))
def f2_Rule___init__ : Fn := ⟨5, 5, c_f2_Rule___init__, false⟩
/-- Rule.name -/
def c_f3_Rule_name : CSs := (.cons (.ret (.attr 0 (.var 0))) .nil)
def f3_Rule_name : Fn := ⟨1, 1, c_f3_Rule_name, false⟩
/-- Rule.condition -/
def c_f4_Rule_condition : CSs := (.cons (.ret (.attr 1 (.var 0))) .nil)
def f4_Rule_condition : Fn := ⟨1, 1, c_f4_Rule_condition, false⟩
/-- Rule.ruling -/
def c_f5_Rule_ruling : CSs := (.cons (.ret (.attr 2 (.var 0))) .nil)
def f5_Rule_ruling : Fn := ⟨1, 1, c_f5_Rule_ruling, false⟩
/-- Rule.exceptions -/
def c_f6_Rule_exceptions : CSs := (.cons (.ret (.attr 3 (.var 0))) .nil)
def f6_Rule_exceptions : Fn := ⟨1, 1, c_f6_Rule_exceptions, false⟩
/-- rows_of -/
def c_f7_rows_of : CSs := (.cons (.asg (.nm 2) (.lstL .nil)) (.cons (.forr (.tup [(.nm 3), (.nm 4)]) (.enum (.var 0)) (.cons (.expr (.bm .append (.var 2) (.cons (.tup (.cons (.var 4) (.cons (.var 1) (.cons (.var 3) .nil)))) .nil))) (.cons (.expr (.bm .extend (.var 2) (.cons (.call 7 (.cons (.attr 3 (.var 4)) (.cons (.bin .add (.var 1) (.lst (.cons (.var 4) .nil))) .nil))) .nil))) .nil))) (.cons (.ret (.frz (.var 2))) .nil)))
def f7_rows_of : Fn := ⟨2, 5, c_f7_rows_of, false⟩
/-- Book.__init__ -/
def c_f8_Book___init__ : CSs := (.cons (.expr (.call 1 (.cons (.var 1) .nil))) (.cons (.setF 4 (.var 0) (.var 1)) (.cons (.setF 5 (.var 0) (.var 2)) (.cons (.setF 6 (.var 0) (.var 3)) (.cons (.setF 7 (.var 0) (.call 7 (.cons (.var 2) (.cons (.lst .nil) .nil)))) (.cons (.expr (.meth 14 (.var 0) .nil)) (.cons (.ife (.not (.call 0 (.cons (.var 3) .nil))) (.cons .never .nil) .nil) .nil)))))))
def f8_Book___init__ : Fn := ⟨4, 4, c_f8_Book___init__, false⟩
/-- Book.validate_rows -/
def c_f9_Book_validate_rows : CSs := (.cons (.asg (.nm 1) (.lstL .nil)) (.cons (.forr (.tup [(.nm 2), (.tup [(.nm 3), (.nm 4), (.nm 5)])]) (.enum (.attr 7 (.var 0))) (.cons (.ife (.cmp .isin (.attr 15 (.var 3)) (.var 1)) (.cons .never .nil) .nil) (.cons (.ife (.cmp .ne (.comp false (.nm 6) (.val (.attr 17 (.attr 16 (.var 3)))) (.cmp .notin (.var 6) (.attr 4 (.var 0))) (.var 6)) (.lst .nil)) (.cons .never .nil) .nil) (.cons (.ife (.cmp .gt (.blt .len (.cons (.var 4) .nil)) (.cst (.int 5))) (.cons .never .nil) .nil) (.cons (.ife (.or (.cmp .ge (.var 2) (.cst (.int 60))) (.and (.cmp .eq (.var 4) (.lst .nil)) (.cmp .ge (.var 5) (.cst (.int 40))))) (.cons .never .nil) .nil) (.cons (.expr (.bm .append (.var 1) (.cons (.attr 15 (.var 3)) .nil))) .nil)))))) .nil))
def f9_Book_validate_rows : Fn := ⟨1, 7, c_f9_Book_validate_rows, false⟩
/-- Book.facts -/
def c_f10_Book_facts : CSs := (.cons (.ret (.attr 4 (.var 0))) .nil)
def f10_Book_facts : Fn := ⟨1, 1, c_f10_Book_facts, false⟩
/-- Book.rules -/
def c_f11_Book_rules : CSs := (.cons (.ret (.attr 5 (.var 0))) .nil)
def f11_Book_rules : Fn := ⟨1, 1, c_f11_Book_rules, false⟩
/-- Book.ruling -/
def c_f12_Book_ruling : CSs := (.cons (.ret (.attr 6 (.var 0))) .nil)
def f12_Book_ruling : Fn := ⟨1, 1, c_f12_Book_ruling, false⟩
/-- Book.names -/
def c_f13_Book_names : CSs := (.cons (.ret (.comp false (.nm 1) (.val (.attr 7 (.var 0))) (.cst (.bl true)) (.attr 15 (.idx (.var 1) (.cst (.int 0)))))) .nil)
def f13_Book_names : Fn := ⟨1, 2, c_f13_Book_names, false⟩
/-- Condition.__init__ -/
def c_f14_Condition___init__ : CSs := (.cons (.forr (.tup [(.nm 3), (.nm 4)]) (.enum (.tup (.cons (.var 1) (.cons (.var 2) .nil)))) (.cons (.forr (.tup [(.nm 5), (.nm 6)]) (.enum (.var 4)) (.cons (.asg (.nm 7) (.and (.cmp .gt (.var 5) (.cst (.int 0))) (.and (.call 0 (.cons (.var 6) .nil)) (.cmp .le (.var 6) (.idx (.var 4) (.bin .sub (.var 5) (.cst (.int 1)))))))) (.cons (.ife (.or (.not (.call 0 (.cons (.var 6) .nil))) (.or (.var 7) (.cmp .ge (.bin .add (.bin .mul (.var 3) (.blt .len (.cons (.var 1) .nil))) (.var 5)) (.cst (.int 8))))) (.cons .never .nil) .nil) (.cons (.ife (.and (.cmp .eq (.var 3) (.cst (.int 1))) (.cmp .isin (.var 6) (.var 1))) (.cons .never .nil) .nil) .nil)))) .nil)) (.cons (.setF 8 (.var 0) (.var 1)) (.cons (.setF 9 (.var 0) (.var 2)) .nil)))
def f14_Condition___init__ : Fn := ⟨3, 8, c_f14_Condition___init__, false⟩
/-- Condition.holding -/
def c_f15_Condition_holding : CSs := (.cons (.ret (.attr 8 (.var 0))) .nil)
def f15_Condition_holding : Fn := ⟨1, 1, c_f15_Condition_holding, false⟩
/-- Condition.failing -/
def c_f16_Condition_failing : CSs := (.cons (.ret (.attr 9 (.var 0))) .nil)
def f16_Condition_failing : Fn := ⟨1, 1, c_f16_Condition_failing, false⟩
/-- Condition.names -/
def c_f17_Condition_names : CSs := (.cons (.ret (.blt .tuple (.cons (.blt .sorted (.cons (.bin .add (.attr 8 (.var 0)) (.attr 9 (.var 0))) .nil)) .nil))) .nil)
def f17_Condition_names : Fn := ⟨1, 1, c_f17_Condition_names, false⟩
/-- checksum -/
def c_f18_checksum : CSs := (.cons (.asg (.nm 1) (.cst (.int 7))) (.cons (.forr (.nm 2) (.val (.var 0)) (.cons (.asg (.nm 1) (.bin .mod (.blt .int1 (.cons (.bin .add (.bin .mul (.cst (.int 11)) (.var 1)) (.var 2)) .nil)) (.cst (.int 247)))) .nil)) (.cons (.ret (.var 1)) .nil)))
def f18_checksum : Fn := ⟨1, 3, c_f18_checksum, false⟩
/-- name_values -/
def c_f19_name_values : CSs := (.cons (.ret (.bin .add (.lst (.cons (.blt .len (.cons (.var 0) .nil)) .nil)) (.comp false (.nm 1) (.val (.var 0)) (.cst (.bl true)) (.bin .add (.bm .index (.cst (.str "abcdefghijklmnopqrstuvwxyz")) (.cons (.var 1) .nil)) (.cst (.int 1)))))) .nil)
def f19_name_values : Fn := ⟨1, 2, c_f19_name_values, false⟩
/-- side_values -/
def c_f20_side_values : CSs := (.cons (.ret (.bin .add (.lst (.cons (.blt .len (.cons (.var 0) .nil)) .nil)) (.comp false (.nm 2) (.val (.var 0)) (.cst (.bl true)) (.bm .index (.var 1) (.cons (.var 2) .nil))))) .nil)
def f20_side_values : Fn := ⟨2, 3, c_f20_side_values, false⟩
/-- rule_values -/
def c_f21_rule_values : CSs := (.cons (.asg (.nm 2) (.bin .addL (.call 19 (.cons (.attr 15 (.var 0)) .nil)) (.call 19 (.cons (.attr 21 (.var 0)) .nil)))) (.cons (.expr (.bm .extend (.var 2) (.cons (.bin .add (.call 20 (.cons (.attr 19 (.attr 16 (.var 0))) (.cons (.var 1) .nil))) (.call 20 (.cons (.attr 20 (.attr 16 (.var 0))) (.cons (.var 1) .nil)))) .nil))) (.cons (.expr (.bm .append (.var 2) (.cons (.blt .len (.cons (.attr 18 (.var 0)) .nil)) .nil))) (.cons (.forr (.nm 3) (.val (.attr 18 (.var 0))) (.cons (.expr (.bm .extend (.var 2) (.cons (.call 21 (.cons (.var 3) (.cons (.var 1) .nil))) .nil))) .nil)) (.cons (.ret (.frz (.var 2))) .nil)))))
def f21_rule_values : Fn := ⟨2, 4, c_f21_rule_values, false⟩
/-- encode_book -/
def c_f22_encode_book : CSs := (.cons (.asg (.nm 1) (.lstL (.cons (.cst (.int 66)) (.cons (.blt .len (.cons (.attr 23 (.var 0)) .nil)) .nil)))) (.cons (.forr (.nm 2) (.val (.attr 23 (.var 0))) (.cons (.expr (.bm .extend (.var 1) (.cons (.call 19 (.cons (.var 2) .nil)) .nil))) .nil)) (.cons (.expr (.bm .append (.var 1) (.cons (.blt .len (.cons (.attr 22 (.var 0)) .nil)) .nil))) (.cons (.forr (.nm 3) (.val (.attr 22 (.var 0))) (.cons (.expr (.bm .extend (.var 1) (.cons (.call 21 (.cons (.var 3) (.cons (.attr 23 (.var 0)) .nil))) .nil))) .nil)) (.cons (.expr (.bm .extend (.var 1) (.cons (.call 19 (.cons (.attr 21 (.var 0)) .nil)) .nil))) (.cons (.ret (.bin .add (.var 1) (.lst (.cons (.call 18 (.cons (.var 1) .nil)) .nil)))) .nil))))))
def f22_encode_book : Fn := ⟨1, 4, c_f22_encode_book, false⟩
/-- Source.__init__ -/
def c_f23_Source___init__ : CSs := (.cons (.setF 10 (.var 0) (.var 1)) (.cons (.setF 11 (.var 0) (.cst (.int 0))) (.cons (.setF 12 (.var 0) (.lstL .nil)) (.cons (.setF 13 (.var 0) (.cst (.int 0))) .nil))))
def f23_Source___init__ : Fn := ⟨2, 2, c_f23_Source___init__, true⟩
/-- Source.take -/
def c_f24_Source_take : CSs := (.cons (.ife (.cmp .ge (.attr 11 (.var 0)) (.blt .len (.cons (.attr 10 (.var 0)) .nil))) (.cons .never .nil) .nil) (.cons (.asg (.nm 3) (.idx (.attr 10 (.var 0)) (.attr 11 (.var 0)))) (.cons (.ife (.or (.not (.blt (.isi [.int]) (.cons (.var 3) .nil))) (.or (.blt (.isi [.bool]) (.cons (.var 3) .nil)) (.not (.chn .le .le (.var 1) (.var 3) (.var 2))))) (.cons .never .nil) .nil) (.cons (.augF 11 .add (.var 0) (.cst (.int 1))) (.cons (.ret (.var 3)) .nil)))))
def f24_Source_take : Fn := ⟨3, 4, c_f24_Source_take, false⟩
/-- Source.take_name -/
def c_f25_Source_take_name : CSs := (.cons (.ret (.bm .join (.cst (.str "")) (.cons (.comp false (.nm 1) (.rng (.meth 24 (.var 0) (.cons (.cst (.int 1)) (.cons (.cst (.int 8)) .nil)))) (.cst (.bl true)) (.idx (.cst (.str "abcdefghijklmnopqrstuvwxyz")) (.bin .sub (.meth 24 (.var 0) (.cons (.cst (.int 1)) (.cons (.blt .len (.cons (.cst (.str "abcdefghijklmnopqrstuvwxyz")) .nil)) .nil))) (.cst (.int 1))))) .nil))) .nil)
def f25_Source_take_name : Fn := ⟨1, 2, c_f25_Source_take_name, false⟩
/-- Source.take_facts -/
def c_f26_Source_take_facts : CSs := (.cons (.asg (.nm 1) (.lstL .nil)) (.cons (.forr (.nm 2) (.rng (.meth 24 (.var 0) (.cons (.cst (.int 1)) (.cons (.cst (.int 60)) .nil)))) (.cons (.par [3, 4] (.cons (.attr 11 (.var 0)) (.cons (.meth 25 (.var 0) .nil) .nil))) (.cons (.ife (.and (.cmp .ne (.var 1) (.lst .nil)) (.cmp .le (.var 4) (.idx (.var 1) (.neg (.cst (.int 1)))))) (.cons .never .nil) .nil) (.cons (.expr (.bm .append (.var 1) (.cons (.var 4) .nil))) .nil)))) (.cons (.ret (.blt .tuple (.cons (.var 1) .nil))) .nil)))
def f26_Source_take_facts : Fn := ⟨1, 5, c_f26_Source_take_facts, false⟩
/-- Source.take_side -/
def c_f27_Source_take_side : CSs := (.cons (.asg (.nm 4) (.lstL .nil)) (.cons (.forr (.nm 5) (.rng (.meth 24 (.var 0) (.cons (.cst (.int 0)) (.cons (.var 3) .nil)))) (.cons (.asg (.nm 6) (.meth 24 (.var 0) (.cons (.ite (.cmp .ne (.var 4) (.lst .nil)) (.bin .add (.bm .index (.var 1) (.cons (.idx (.var 4) (.neg (.cst (.int 1)))) .nil)) (.cst (.int 1))) (.cst (.int 0))) (.cons (.bin .sub (.blt .len (.cons (.var 1) .nil)) (.cst (.int 1))) .nil)))) (.cons (.ife (.cmp .isin (.idx (.var 1) (.var 6)) (.var 2)) (.cons .never .nil) .nil) (.cons (.expr (.bm .append (.var 4) (.cons (.idx (.var 1) (.var 6)) .nil))) .nil)))) (.cons (.ret (.blt .tuple (.cons (.var 4) .nil))) .nil)))
def f27_Source_take_side : Fn := ⟨4, 7, c_f27_Source_take_side, false⟩
/-- Source.take_count -/
def c_f28_Source_take_count : CSs := (.cons (.asg (.nm 2) (.meth 24 (.var 0) (.cons (.cst (.int 0)) (.cons (.blt .min2 (.cons (.var 1) (.cons (.bin .sub (.cst (.int 60)) (.attr 13 (.var 0))) .nil))) .nil)))) (.cons (.augF 13 .add (.var 0) (.var 2)) (.cons (.ret (.var 2)) .nil)))
def f28_Source_take_count : Fn := ⟨2, 3, c_f28_Source_take_count, false⟩
/-- Source.take_rule -/
def c_f29_Source_take_rule : CSs := (.cons (.par [3, 4] (.cons (.attr 11 (.var 0)) (.cons (.meth 25 (.var 0) .nil) .nil))) (.cons (.ife (.cmp .isin (.var 4) (.attr 12 (.var 0))) (.cons .never .nil) .nil) (.cons (.expr (.bm .append (.attr 12 (.var 0)) (.cons (.var 4) .nil))) (.cons (.asg (.nm 5) (.meth 25 (.var 0) .nil)) (.cons (.asg (.nm 6) (.meth 28 (.var 0) (.cons (.var 1) (.cons (.tup .nil) (.cons (.cst (.int 8)) .nil))))) (.cons (.asg (.nm 7) (.meth 28 (.var 0) (.cons (.var 1) (.cons (.var 6) (.cons (.bin .sub (.cst (.int 8)) (.blt .len (.cons (.var 6) .nil))) .nil))))) (.cons (.asg (.nm 8) (.meth 27 (.var 0) (.cons (.ite (.cmp .lt (.var 2) (.cst (.int 5))) (.cst (.int 60)) (.cst (.int 0))) .nil))) (.cons (.asg (.nm 9) (.comp false (.nm 10) (.rng (.var 8)) (.cst (.bl true)) (.meth 26 (.var 0) (.cons (.var 1) (.cons (.bin .add (.var 2) (.cst (.int 1))) .nil))))) (.cons (.ret (.make 0 (.cons (.var 4) (.cons (.make 2 (.cons (.var 6) (.cons (.var 7) .nil))) (.cons (.var 5) (.cons (.blt .tuple (.cons (.var 9) .nil)) .nil)))))) .nil)))))))))
def f29_Source_take_rule : Fn := ⟨3, 11, c_f29_Source_take_rule, false⟩
/-- decode_book -/
def c_f30_decode_book : CSs := (.cons (.asg (.nm 1) (.make 3 (.cons (.var 0) .nil))) (.cons (.expr (.meth 24 (.var 1) (.cons (.cst (.int 66)) (.cons (.cst (.int 66)) .nil)))) (.cons (.asg (.nm 2) (.meth 29 (.var 1) .nil)) (.cons (.asg (.nm 3) (.meth 27 (.var 1) (.cons (.cst (.int 40)) .nil))) (.cons (.asg (.nm 4) (.blt .tuple (.cons (.comp false (.nm 7) (.rng (.var 3)) (.cst (.bl true)) (.meth 26 (.var 1) (.cons (.var 2) (.cons (.cst (.int 0)) .nil)))) .nil))) (.cons (.asg (.nm 5) (.meth 25 (.var 1) .nil)) (.cons (.asg (.nm 6) (.call 18 (.cons (.slc false (.var 0) .nop (.attr 11 (.var 1))) .nil))) (.cons (.expr (.meth 24 (.var 1) (.cons (.var 6) (.cons (.var 6) .nil)))) (.cons (.ife (.cmp .lt (.attr 11 (.var 1)) (.blt .len (.cons (.var 0) .nil))) (.cons .never .nil) .nil) (.cons (.ret (.make 1 (.cons (.var 2) (.cons (.var 4) (.cons (.var 5) .nil))))) .nil))))))))))
def f30_decode_book : Fn := ⟨1, 8, c_f30_decode_book, false⟩
/-- _law_mix -/
def c_f31__law_mix : CSs := (.cons (.asg (.nm 2) (.var 1)) (.cons (.forr (.nm 3) (.val (.var 0)) (.cons (.asg (.nm 2) (.bin .mod (.blt .int1 (.cons (.bin .add (.bin .add (.bin .mul (.var 2) (.cst (.int 48271))) (.bin .mod (.blt .int1 (.cons (.var 3) .nil)) (.cst (.int 2147483629)))) (.cst (.int 1))) .nil)) (.cst (.int 2147483647)))) .nil)) (.cons (.ret (.lstL (.cons (.var 2) (.cons (.blt .listL (.cons (.var 0) .nil)) (.cons (.cst (.int 0)) .nil))))) .nil)))
def f31__law_mix : Fn := ⟨2, 4, c_f31__law_mix, true⟩
/-- _law_next -/
def c_f32__law_next : CSs := (.cons (.asg (.nm 2) (.idx (.bin .add (.idx (.var 0) (.cst (.int 1))) (.lst (.cons (.cst (.int 0)) .nil))) (.bin .mod (.blt .int1 (.cons (.idx (.var 0) (.cst (.int 2))) .nil)) (.blt .max2 (.cons (.cst (.int 1)) (.cons (.blt .len (.cons (.idx (.var 0) (.cst (.int 1))) .nil)) .nil)))))) (.cons (.ife (.cmp .ge (.var 2) (.bin .pow (.cst (.int 10)) (.cst (.int 18)))) (.cons (.setI (.idx (.var 0) (.cst (.int 1))) (.bin .mod (.blt .int1 (.cons (.idx (.var 0) (.cst (.int 2))) .nil)) (.blt .len (.cons (.idx (.var 0) (.cst (.int 1))) .nil))) (.bin .fdiv (.var 2) (.var 1))) (.cons (.ret (.bin .mod (.blt .int1 (.cons (.var 2) .nil)) (.var 1))) .nil)) .nil) (.cons (.setI (.var 0) (.cst (.int 0)) (.bin .mod (.blt .int1 (.cons (.bin .add (.bin .add (.bin .mul (.idx (.var 0) (.cst (.int 0))) (.cst (.int 48271))) (.bin .mul (.var 2) (.cst (.int 69621)))) (.cst (.int 11))) .nil)) (.cst (.int 2147483647)))) (.cons (.setI (.var 0) (.cst (.int 2)) (.bin .add (.idx (.var 0) (.cst (.int 2))) (.cst (.int 1)))) (.cons (.ret (.bin .mod (.blt .int1 (.cons (.bin .fdiv (.idx (.var 0) (.cst (.int 0))) (.cst (.int 7))) .nil)) (.var 1))) .nil)))))
def f32__law_next : Fn := ⟨2, 3, c_f32__law_next, false⟩
/-- _law_alike -/
def c_f33__law_alike : CSs := (.cons (.ife (.blt (.isi [.dict]) (.cons (.var 1) .nil)) (.cons (.ret (.and (.blt (.isi [.dict]) (.cons (.var 0) .nil)) (.and (.call 33 (.cons (.blt .sorted (.cons (.var 0) .nil)) (.cons (.blt .sorted (.cons (.var 1) .nil)) .nil))) (.cmp .eq (.var 0) (.var 1))))) .nil) .nil) (.cons (.ife (.blt (.isi [.tuple, .list]) (.cons (.var 1) .nil)) (.cons (.ife (.or (.not (.blt (.isi [.tuple, .list]) (.cons (.var 0) .nil))) (.cmp .ne (.blt (.isi [.list]) (.cons (.var 0) .nil)) (.blt (.isi [.list]) (.cons (.var 1) .nil)))) (.cons (.ret (.cst (.bl false))) .nil) .nil) (.cons (.ife (.cmp .ne (.blt .len (.cons (.var 0) .nil)) (.blt .len (.cons (.var 1) .nil))) (.cons (.ret (.cst (.bl false))) .nil) .nil) (.cons (.ret (.cmp .eq (.comp false (.nm 2) (.rng (.blt .len (.cons (.var 1) .nil))) (.not (.call 33 (.cons (.idx (.var 0) (.var 2)) (.cons (.idx (.var 1) (.var 2)) .nil)))) (.var 2)) (.lst .nil))) .nil))) .nil) (.cons (.ife (.or (.cmp .isn (.var 1) (.cst .non)) (.blt (.isi [.str]) (.cons (.var 1) .nil))) (.cons (.ret (.and (.cmp .eq (.var 0) (.var 1)) (.cmp .eq (.blt (.isi [.str]) (.cons (.var 0) .nil)) (.blt (.isi [.str]) (.cons (.var 1) .nil))))) .nil) .nil) (.cons (.ret (.and (.blt (.isi [.int]) (.cons (.var 0) .nil)) (.and (.cmp .eq (.blt (.isi [.bool]) (.cons (.var 0) .nil)) (.blt (.isi [.bool]) (.cons (.var 1) .nil))) (.cmp .eq (.var 0) (.var 1))))) .nil))))
def f33__law_alike : Fn := ⟨2, 3, c_f33__law_alike, false⟩
/-- _law_facts -/
def c_f34__law_facts : CSs := (.cons (.asg (.nm 2) (.lstL (.cons (.cst (.str "crew")) (.cons (.cst (.str "debt")) (.cons (.cst (.str "fog")) (.cons (.cst (.str "gate")) (.cons (.cst (.str "late")) (.cons (.cst (.str "mail")) (.cons (.cst (.str "noon")) (.cons (.cst (.str "paid")) (.cons (.cst (.str "rain")) (.cons (.cst (.str "warm")) .nil)))))))))))) (.cons (.asg (.nm 3) (.bin .add (.cst (.int 1)) (.call 32 (.cons (.var 0) (.cons (.var 1) .nil))))) (.cons (.whil (.cmp .gt (.blt .len (.cons (.var 2) .nil)) (.var 3)) (.cons (.expr (.bm .popAt (.var 2) (.cons (.call 32 (.cons (.var 0) (.cons (.blt .len (.cons (.var 2) .nil)) .nil))) .nil))) .nil)) (.cons (.ret (.blt .tuple (.cons (.var 2) .nil))) .nil))))
def f34__law_facts : Fn := ⟨2, 4, c_f34__law_facts, false⟩
/-- _law_sides -/
def c_f35__law_sides : CSs := (.cons (.par [3, 4, 5] (.cons (.blt .listL (.cons (.var 1) .nil)) (.cons (.lstL .nil) (.cons (.lstL .nil) .nil)))) (.cons (.forr (.nm 6) (.rng (.call 32 (.cons (.var 0) (.cons (.bin .add (.blt .min2 (.cons (.var 2) (.cons (.blt .len (.cons (.var 1) .nil)) .nil))) (.cst (.int 1))) .nil)))) (.cons (.asg (.nm 7) (.bm .popAt (.var 3) (.cons (.call 32 (.cons (.var 0) (.cons (.blt .len (.cons (.var 3) .nil)) .nil))) .nil))) (.cons (.ife (.cmp .gt (.call 32 (.cons (.var 0) (.cons (.cst (.int 3)) .nil))) (.cst (.int 0))) (.cons (.expr (.bm .append (.var 4) (.cons (.var 7) .nil))) .nil) (.cons (.expr (.bm .append (.var 5) (.cons (.var 7) .nil))) .nil)) .nil))) (.cons (.ret (.tup (.cons (.blt .tuple (.cons (.blt .sorted (.cons (.var 4) .nil)) .nil)) (.cons (.blt .tuple (.cons (.blt .sorted (.cons (.var 5) .nil)) .nil)) .nil)))) .nil)))
def f35__law_sides : Fn := ⟨3, 8, c_f35__law_sides, false⟩
/-- _law_rule -/
def c_f36__law_rule : CSs := (.cons (.par [4, 5] (.cons (.bm .popAt (.var 2) (.cons (.cst (.int 0)) .nil)) (.cons (.call 35 (.cons (.var 0) (.cons (.var 1) (.cons (.cst (.int 2)) .nil)))) .nil))) (.cons (.par [6, 7] (.cons (.idx (.lst (.cons (.cst (.str "fine")) (.cons (.cst (.str "free")) (.cons (.cst (.str "warn")) .nil)))) (.call 32 (.cons (.var 0) (.cons (.cst (.int 3)) .nil)))) (.cons (.lstL .nil) .nil))) (.cons (.forr (.nm 8) (.rng (.ite (.cmp .gt (.var 3) (.cst (.int 0))) (.call 32 (.cons (.var 0) (.cons (.cst (.int 3)) .nil))) (.cst (.int 0)))) (.cons (.ife (.cmp .ne (.var 2) (.lst .nil)) (.cons (.expr (.bm .append (.var 7) (.cons (.call 36 (.cons (.var 0) (.cons (.var 1) (.cons (.var 2) (.cons (.bin .sub (.var 3) (.cst (.int 1))) .nil))))) .nil))) .nil) .nil) .nil)) (.cons (.ret (.tup (.cons (.var 4) (.cons (.idx (.var 5) (.cst (.int 0))) (.cons (.idx (.var 5) (.cst (.int 1))) (.cons (.var 6) (.cons (.blt .tuple (.cons (.var 7) .nil)) .nil))))))) .nil))))
def f36__law_rule : Fn := ⟨4, 9, c_f36__law_rule, false⟩
/-- _law_drawn -/
def c_f37__law_drawn : CSs := (.cons (.par [3, 4] (.cons (.lstL (.cons (.cst (.str "hue")) (.cons (.cst (.str "ox")) (.cons (.cst (.str "ab")) (.cons (.cst (.str "ivy")) (.cons (.cst (.str "tar")) (.cons (.cst (.str "bay")) (.cons (.cst (.str "elm")) (.cons (.cst (.str "sun")) (.cons (.cst (.str "cat")) (.cons (.cst (.str "zed")) (.cons (.cst (.str "kin")) (.cons (.cst (.str "rye")) .nil))))))))))))) (.cons (.lstL .nil) .nil))) (.cons (.asg (.nm 3) (.slc true (.var 3) (.call 32 (.cons (.var 0) (.cons (.cst (.int 4)) .nil))) .nop)) (.cons (.forr (.nm 5) (.rng (.call 32 (.cons (.var 0) (.cons (.bin .add (.var 2) (.cst (.int 1))) .nil)))) (.cons (.ife (.cmp .ne (.var 3) (.lst .nil)) (.cons (.expr (.bm .append (.var 4) (.cons (.call 36 (.cons (.var 0) (.cons (.var 1) (.cons (.var 3) (.cons (.cst (.int 2)) .nil))))) .nil))) .nil) .nil) .nil)) (.cons (.ret (.tup (.cons (.var 1) (.cons (.blt .tuple (.cons (.var 4) .nil)) (.cons (.idx (.lst (.cons (.cst (.str "fine")) (.cons (.cst (.str "free")) (.cons (.cst (.str "warn")) .nil)))) (.call 32 (.cons (.var 0) (.cons (.cst (.int 3)) .nil)))) .nil))))) .nil))))
def f37__law_drawn : Fn := ⟨3, 6, c_f37__law_drawn, false⟩
/-- _law_made -/
def c_f38__law_made : CSs := (.cons (.asg (.nm 1) (.lstL .nil)) (.cons (.forr (.tup [(.nm 2), (.nm 3), (.nm 4), (.nm 5), (.nm 6)]) (.val (.var 0)) (.cons (.expr (.bm .append (.var 1) (.cons (.make 0 (.cons (.var 2) (.cons (.make 2 (.cons (.var 3) (.cons (.var 4) .nil))) (.cons (.var 5) (.cons (.call 38 (.cons (.var 6) .nil)) .nil))))) .nil))) .nil)) (.cons (.ret (.blt .tuple (.cons (.var 1) .nil))) .nil)))
def f38__law_made : Fn := ⟨1, 7, c_f38__law_made, false⟩
/-- _law_book -/
def c_f39__law_book : CSs := (.cons (.ret (.make 1 (.cons (.idx (.var 0) (.cst (.int 0))) (.cons (.call 38 (.cons (.idx (.var 0) (.cst (.int 1))) .nil)) (.cons (.idx (.var 0) (.cst (.int 2))) .nil))))) .nil)
def f39__law_book : Fn := ⟨1, 1, c_f39__law_book, false⟩
/-- _law_told -/
def c_f40__law_told : CSs := (.cons (.asg (.nm 1) (.lstL .nil)) (.cons (.forr (.nm 2) (.val (.var 0)) (.cons (.asg (.nm 3) (.attr 16 (.var 2))) (.cons (.expr (.bm .append (.var 1) (.cons (.tup (.cons (.attr 15 (.var 2)) (.cons (.attr 19 (.var 3)) (.cons (.attr 20 (.var 3)) (.cons (.attr 21 (.var 2)) (.cons (.call 40 (.cons (.attr 18 (.var 2)) .nil)) .nil)))))) .nil))) .nil))) (.cons (.ret (.blt .tuple (.cons (.var 1) .nil))) .nil)))
def f40__law_told : Fn := ⟨1, 4, c_f40__law_told, false⟩
/-- _law_seen -/
def c_f41__law_seen : CSs := (.cons (.ret (.tup (.cons (.attr 23 (.var 0)) (.cons (.call 40 (.cons (.attr 22 (.var 0)) .nil)) (.cons (.attr 21 (.var 0)) .nil))))) .nil)
def f41__law_seen : Fn := ⟨1, 1, c_f41__law_seen, false⟩
/-- _law_name_code -/
def c_f42__law_name_code : CSs := (.cons (.ret (.bin .add (.lst (.cons (.blt .len (.cons (.var 0) .nil)) .nil)) (.comp false (.nm 1) (.val (.var 0)) (.cst (.bl true)) (.bin .add (.bm .index (.cst (.str "abcdefghijklmnopqrstuvwxyz")) (.cons (.var 1) .nil)) (.cst (.int 1)))))) .nil)
def f42__law_name_code : Fn := ⟨1, 2, c_f42__law_name_code, false⟩
/-- _law_rules_code -/
def c_f43__law_rules_code : CSs := (.cons (.asg (.nm 2) (.lst (.cons (.blt .len (.cons (.var 0) .nil)) .nil))) (.cons (.forr (.tup [(.nm 3), (.nm 4), (.nm 5), (.nm 6), (.nm 7)]) (.val (.var 0)) (.cons (.asg (.nm 2) (.bin .add (.bin .add (.var 2) (.call 42 (.cons (.var 3) .nil))) (.call 42 (.cons (.var 6) .nil)))) (.cons (.forr (.nm 8) (.val (.tup (.cons (.var 4) (.cons (.var 5) .nil)))) (.cons (.asg (.nm 2) (.bin .add (.bin .add (.var 2) (.lst (.cons (.blt .len (.cons (.var 8) .nil)) .nil))) (.comp false (.nm 9) (.val (.var 8)) (.cst (.bl true)) (.bm .index (.var 1) (.cons (.var 9) .nil))))) .nil)) (.cons (.asg (.nm 2) (.bin .add (.var 2) (.call 43 (.cons (.var 7) (.cons (.var 1) .nil))))) .nil)))) (.cons (.ret (.var 2)) .nil)))
def f43__law_rules_code : Fn := ⟨2, 10, c_f43__law_rules_code, false⟩
/-- _law_code -/
def c_f44__law_code : CSs := (.cons (.asg (.nm 1) (.lst (.cons (.cst (.int 66)) (.cons (.blt .len (.cons (.idx (.var 0) (.cst (.int 0))) .nil)) .nil)))) (.cons (.forr (.nm 2) (.val (.idx (.var 0) (.cst (.int 0)))) (.cons (.asg (.nm 1) (.bin .add (.var 1) (.call 42 (.cons (.var 2) .nil)))) .nil)) (.cons (.ret (.bin .add (.bin .add (.var 1) (.call 43 (.cons (.idx (.var 0) (.cst (.int 1))) (.cons (.idx (.var 0) (.cst (.int 0))) .nil)))) (.call 42 (.cons (.idx (.var 0) (.cst (.int 2))) .nil)))) .nil)))
def f44__law_code : Fn := ⟨1, 3, c_f44__law_code, false⟩
/-- _law_checked -/
def c_f45__law_checked : CSs := (.cons (.asg (.nm 1) (.cst (.int 7))) (.cons (.forr (.nm 2) (.val (.var 0)) (.cons (.asg (.nm 1) (.bin .mod (.blt .int1 (.cons (.bin .add (.bin .mul (.var 1) (.cst (.int 11))) (.var 2)) .nil)) (.cst (.int 247)))) .nil)) (.cons (.ret (.var 1)) .nil)))
def f45__law_checked : Fn := ⟨1, 3, c_f45__law_checked, false⟩
/-- law -/
def c_f46_law : CSs := (.cons (.asg (.nm 1) (.call 31 (.cons (.var 0) (.cons (.cst (.int 63)) .nil)))) (.cons (.forr (.nm 2) (.rng (.cst (.int 6))) (.cons (.asg (.nm 3) (.call 37 (.cons (.var 1) (.cons (.call 34 (.cons (.var 1) (.cons (.cst (.int 10)) .nil))) (.cons (.cst (.int 5)) .nil))))) (.cons (.asg (.nm 4) (.call 44 (.cons (.var 3) .nil))) (.cons (.asg (.nm 4) (.bin .add (.var 4) (.lst (.cons (.call 45 (.cons (.var 4) .nil)) .nil)))) (.cons (.ife (.not (.call 33 (.cons (.call 22 (.cons (.call 39 (.cons (.var 3) .nil)) .nil)) (.cons (.var 4) .nil)))) (.cons (.ret (.cst (.bl false))) .nil) .nil) (.cons (.asg (.nm 5) (.call 30 (.cons (.var 4) .nil))) (.cons (.ife (.or (.not (.blt (.isi [.cls 1]) (.cons (.var 5) .nil))) (.not (.call 33 (.cons (.call 41 (.cons (.var 5) .nil)) (.cons (.var 3) .nil))))) (.cons (.ret (.cst (.bl false))) .nil) .nil) .nil))))))) (.cons (.ret (.cst (.bl true))) .nil)))
def f46_law : Fn := ⟨1, 6, c_f46_law, false⟩
/-- validate_writable -/
def c_f47_validate_writable : CSs := (.cons (.ife (.cmp .ne (.comp false (.nm 5) (.val (.attr 23 (.var 0))) (.cmp .isin (.var 5) (.cst (.tup [.str "facts", .str "is", .str "if", .str "not", .str "else"]))) (.var 5)) (.lst .nil)) (.cons (.rais 0 [30] (.cons (.neg (.cst (.int 1))) .nil)) .nil) .nil) (.cons (.forr (.tup [(.nm 1), (.tup [(.nm 2), (.nm 3), (.nm 4)])]) (.enum (.attr 7 (.var 0))) (.cons (.ife (.or (.cmp .isin (.attr 15 (.var 2)) (.cst (.tup [.str "facts", .str "is", .str "if", .str "not", .str "else"]))) (.cmp .isin (.attr 21 (.var 2)) (.cst (.tup [.str "facts", .str "is", .str "if", .str "not", .str "else"])))) (.cons (.rais 0 [30] (.cons (.var 1) .nil)) .nil) .nil) .nil)) (.cons (.ife (.cmp .isin (.attr 21 (.var 0)) (.cst (.tup [.str "facts", .str "is", .str "if", .str "not", .str "else"]))) (.cons (.rais 0 [30] (.cons (.cst (.int 60)) .nil)) .nil) .nil) .nil)))
def f47_validate_writable : Fn := ⟨1, 6, c_f47_validate_writable, false⟩
/-- rule_words -/
def c_f48_rule_words : CSs := (.cons (.asg (.nm 2) (.bin .addL (.bin .rep (.lst (.cons (.cst (.str ">")) .nil)) (.var 1)) (.lst (.cons (.attr 15 (.var 0)) (.cons (.cst (.str "is")) (.cons (.attr 21 (.var 0)) .nil)))))) (.cons (.ife (.cmp .ne (.attr 19 (.attr 16 (.var 0))) (.tup .nil)) (.cons (.expr (.bm .extend (.var 2) (.cons (.bin .add (.lst (.cons (.cst (.str "if")) .nil)) (.blt .list (.cons (.attr 19 (.attr 16 (.var 0))) .nil))) .nil))) .nil) .nil) (.cons (.ife (.cmp .ne (.attr 20 (.attr 16 (.var 0))) (.tup .nil)) (.cons (.expr (.bm .extend (.var 2) (.cons (.bin .add (.lst (.cons (.cst (.str "not")) .nil)) (.blt .list (.cons (.attr 20 (.attr 16 (.var 0))) .nil))) .nil))) .nil) .nil) (.cons (.ret (.frz (.var 2))) .nil))))
def f48_rule_words : Fn := ⟨2, 3, c_f48_rule_words, false⟩
/-- format_book -/
def c_f49_format_book : CSs := (.cons (.expr (.call 47 (.cons (.var 0) .nil))) (.cons (.asg (.nm 1) (.lstL (.cons (.bin .add (.lst (.cons (.cst (.str "facts")) .nil)) (.blt .list (.cons (.attr 23 (.var 0)) .nil))) .nil))) (.cons (.expr (.bm .extend (.var 1) (.cons (.comp false (.tup [(.nm 2), (.nm 3), (.nm 4)]) (.val (.attr 7 (.var 0))) (.cst (.bl true)) (.call 48 (.cons (.var 2) (.cons (.blt .len (.cons (.var 3) .nil)) .nil)))) .nil))) (.cons (.expr (.bm .append (.var 1) (.cons (.lst (.cons (.cst (.str "else")) (.cons (.attr 21 (.var 0)) .nil))) .nil))) (.cons (.ret (.bm .join (.cst (.str "\n")) (.cons (.comp false (.nm 5) (.val (.var 1)) (.cst (.bl true)) (.bm .join (.cst (.str " ")) (.cons (.var 5) .nil))) .nil))) .nil)))))
def f49_format_book : Fn := ⟨1, 6, c_f49_format_book, false⟩
/-- _law_all -/
def c_f50__law_all : CSs := (.cons (.asg (.nm 1) (.lst .nil)) (.cons (.forr (.nm 2) (.val (.var 0)) (.cons (.asg (.nm 1) (.bin .add (.bin .add (.var 1) (.lst (.cons (.var 2) .nil))) (.call 50 (.cons (.idx (.var 2) (.cst (.int 4))) .nil)))) .nil)) (.cons (.ret (.var 1)) .nil)))
def f50__law_all : Fn := ⟨1, 3, c_f50__law_all, false⟩
/-- _law_words -/
def c_f51__law_words : CSs := (.cons (.asg (.nm 2) (.lstL .nil)) (.cons (.forr (.tup [(.nm 3), (.nm 4), (.nm 5), (.nm 6), (.nm 7)]) (.val (.var 0)) (.cons (.asg (.nm 8) (.bin .add (.bin .rep (.lst (.cons (.cst (.str ">")) .nil)) (.var 1)) (.lst (.cons (.var 3) (.cons (.cst (.str "is")) (.cons (.var 6) .nil)))))) (.cons (.asg (.nm 8) (.bin .add (.var 8) (.ite (.cmp .ne (.var 4) (.tup .nil)) (.bin .add (.lst (.cons (.cst (.str "if")) .nil)) (.blt .list (.cons (.var 4) .nil))) (.lst .nil)))) (.cons (.expr (.bm .append (.var 2) (.cons (.bin .add (.var 8) (.ite (.cmp .ne (.var 5) (.tup .nil)) (.bin .add (.lst (.cons (.cst (.str "not")) .nil)) (.blt .list (.cons (.var 5) .nil))) (.lst .nil))) .nil))) (.cons (.asg (.nm 2) (.bin .addL (.var 2) (.call 51 (.cons (.var 7) (.cons (.bin .add (.var 1) (.cst (.int 1))) .nil))))) .nil))))) (.cons (.ret (.frz (.var 2))) .nil)))
def f51__law_words : Fn := ⟨2, 9, c_f51__law_words, false⟩
/-- _law_rows_of -/
def c_f52__law_rows_of : CSs := (.cons (.ret (.bin .add (.bin .add (.lst (.cons (.bin .add (.lst (.cons (.cst (.str "facts")) .nil)) (.blt .list (.cons (.idx (.var 0) (.cst (.int 0))) .nil))) .nil)) (.call 51 (.cons (.idx (.var 0) (.cst (.int 1))) (.cons (.cst (.int 0)) .nil)))) (.lst (.cons (.lst (.cons (.cst (.str "else")) (.cons (.idx (.var 0) (.cst (.int 2))) .nil))) .nil)))) .nil)
def f52__law_rows_of : Fn := ⟨1, 1, c_f52__law_rows_of, false⟩
/-- _law_text -/
def c_f53__law_text : CSs := (.cons (.ret (.bm .join (.cst (.str "\n")) (.cons (.comp false (.nm 1) (.val (.var 0)) (.cst (.bl true)) (.bm .join (.cst (.str " ")) (.cons (.var 1) .nil))) .nil))) .nil)
def f53__law_text : Fn := ⟨1, 2, c_f53__law_text, false⟩
/-- _law_written -/
def c_f54__law_written : CSs := (.cons (.tryR 0 [30] (.cons (.ret (.call 49 (.cons (.var 0) .nil))) .nil)) .nil)
def f54__law_written : Fn := ⟨1, 2, c_f54__law_written, false⟩
/-- _law_spoiled -/
def c_f55__law_spoiled : CSs := (.cons (.asg (.nm 3) (.lstL .nil)) (.cons (.forr (.tup [(.nm 4), (.nm 5), (.nm 6), (.nm 7), (.nm 8)]) (.val (.var 1)) (.cons (.ife (.and (.cmp .ne (.var 2) (.lst .nil)) (.cmp .eq (.call 32 (.cons (.var 0) (.cons (.cst (.int 5)) .nil))) (.cst (.int 0)))) (.cons (.asg (.nm 4) (.bm .popAt (.var 2) (.cons (.cst (.int 0)) .nil))) .nil) .nil) (.cons (.ife (.cmp .eq (.call 32 (.cons (.var 0) (.cons (.cst (.int 6)) .nil))) (.cst (.int 0))) (.cons (.asg (.nm 7) (.idx (.lst (.cons (.cst (.str "is")) (.cons (.cst (.str "not")) (.cons (.cst (.str "else")) .nil)))) (.call 32 (.cons (.var 0) (.cons (.cst (.int 3)) .nil))))) .nil) .nil) (.cons (.expr (.bm .append (.var 3) (.cons (.tup (.cons (.var 4) (.cons (.var 5) (.cons (.var 6) (.cons (.var 7) (.cons (.call 55 (.cons (.var 0) (.cons (.var 8) (.cons (.var 2) .nil)))) .nil)))))) .nil))) .nil)))) (.cons (.ret (.blt .tuple (.cons (.var 3) .nil))) .nil)))
def f55__law_spoiled : Fn := ⟨3, 9, c_f55__law_spoiled, false⟩
/-- law -/
def c_f56_law : CSs := (.cons (.asg (.nm 1) (.call 31 (.cons (.var 0) (.cons (.cst (.int 61)) .nil)))) (.cons (.forr (.nm 2) (.rng (.cst (.int 6))) (.cons (.asg (.tup [(.nm 3), (.nm 4)]) (.tup (.cons (.call 37 (.cons (.var 1) (.cons (.call 34 (.cons (.var 1) (.cons (.cst (.int 4)) .nil))) (.cons (.cst (.int 3)) .nil)))) (.cons (.lst (.cons (.cst (.str "facts")) (.cons (.cst (.str "is")) (.cons (.cst (.str "if")) (.cons (.cst (.str "not")) (.cons (.cst (.str "else")) .nil)))))) .nil)))) (.cons (.asg (.nm 3) (.tup (.cons (.idx (.var 3) (.cst (.int 0))) (.cons (.call 55 (.cons (.var 1) (.cons (.idx (.var 3) (.cst (.int 1))) (.cons (.blt .listL (.cons (.var 4) .nil)) .nil)))) (.cons (.idx (.lst (.cons (.idx (.var 3) (.cst (.int 2))) (.cons (.idx (.var 3) (.cst (.int 2))) (.cons (.cst (.str "if")) .nil)))) (.call 32 (.cons (.var 1) (.cons (.cst (.int 3)) .nil)))) .nil))))) (.cons (.ife (.cmp .eq (.call 32 (.cons (.var 1) (.cons (.cst (.int 5)) .nil))) (.cst (.int 0))) (.cons (.asg (.nm 3) (.bin .add (.tup (.cons (.blt .tuple (.cons (.blt .sorted (.cons (.bin .add (.blt .list (.cons (.idx (.var 3) (.cst (.int 0))) .nil)) (.lst (.cons (.idx (.var 4) (.call 32 (.cons (.var 1) (.cons (.cst (.int 5)) .nil)))) .nil))) .nil)) .nil)) .nil)) (.slc false (.var 3) (.cst (.int 1)) .nop))) .nil) .nil) (.cons (.asg (.nm 5) (.call 50 (.cons (.idx (.var 3) (.cst (.int 1))) .nil))) (.cons (.asg (.nm 6) (.comp false (.nm 8) (.rng (.blt .len (.cons (.var 5) .nil))) (.or (.cmp .isin (.idx (.idx (.var 5) (.var 8)) (.cst (.int 0))) (.var 4)) (.cmp .isin (.idx (.idx (.var 5) (.var 8)) (.cst (.int 3))) (.var 4))) (.var 8))) (.cons (.asg (.nm 7) (.bin .addL (.bin .rep (.lst (.cons (.bin .sub (.cst (.int 0)) (.cst (.int 1))) .nil)) (.blt .int1 (.cons (.cmp .ne (.comp false (.nm 9) (.val (.idx (.var 3) (.cst (.int 0)))) (.cmp .isin (.var 9) (.var 4)) (.var 9)) (.lst .nil)) .nil))) (.var 6))) (.cons (.asg (.nm 7) (.bin .addL (.var 7) (.bin .rep (.lst (.cons (.cst (.int 60)) .nil)) (.blt .int1 (.cons (.cmp .isin (.idx (.var 3) (.cst (.int 2))) (.var 4)) .nil))))) (.cons (.expr (.bm .append (.var 7) (.cons (.call 53 (.cons (.call 52 (.cons (.var 3) .nil)) .nil)) .nil))) (.cons (.ife (.not (.call 33 (.cons (.call 54 (.cons (.call 39 (.cons (.var 3) .nil)) .nil)) (.cons (.idx (.var 7) (.cst (.int 0))) .nil)))) (.cons (.ret (.cst (.bl false))) .nil) .nil) .nil)))))))))) (.cons (.ret (.cst (.bl true))) .nil)))
def f56_law : Fn := ⟨1, 10, c_f56_law, false⟩
end SC.B

namespace SC.B
open PySem SC
/-- is_free_name -/
def c_f57_is_free_name : CSs := (.cons (.ret (.and (.call 0 (.cons (.var 0) .nil)) (.cmp .notin (.var 0) (.cst (.tup [.str "facts", .str "is", .str "if", .str "not", .str "else"]))))) .nil)
def f57_is_free_name : Fn := ⟨1, 1, c_f57_is_free_name, false⟩
/-- rows_of_notation -/
def c_f58_rows_of_notation : CSs := (.cons (.ret (.comp false (.nm 1) (.val (.bm .split (.var 0) (.cons (.cst (.str "\n")) .nil))) (.cst (.bl true)) (.bm .split (.var 1) (.cons (.cst (.str " ")) .nil)))) .nil)
def f58_rows_of_notation : Fn := ⟨1, 2, c_f58_rows_of_notation, false⟩
/-- Row.__init__ -/
def c_f59_Row___init__ : CSs := (.cons (.setF 31 (.var 0) (.var 1)) (.cons (.setF 32 (.var 0) (.var 2)) (.cons (.setF 33 (.var 0) (.cst (.int 0))) .nil)))
def f59_Row___init__ : Fn := ⟨3, 3, c_f59_Row___init__, true⟩
/-- Row.peek -/
def c_f60_Row_peek : CSs := (.cons (.ret (.ite (.cmp .lt (.attr 33 (.var 0)) (.blt .len (.cons (.attr 32 (.var 0)) .nil))) (.idx (.attr 32 (.var 0)) (.attr 33 (.var 0))) (.cst (.str "")))) .nil)
def f60_Row_peek : Fn := ⟨1, 1, c_f60_Row_peek, false⟩
/-- Row.is_over -/
def c_f61_Row_is_over : CSs := (.cons (.ret (.cmp .eq (.attr 33 (.var 0)) (.blt .len (.cons (.attr 32 (.var 0)) .nil)))) .nil)
def f61_Row_is_over : Fn := ⟨1, 1, c_f61_Row_is_over, false⟩
/-- Row.check -/
def c_f62_Row_check : CSs := (.cons (.ife (.not (.var 1)) (.cons .never .nil) .nil) .nil)
def f62_Row_check : Fn := ⟨2, 2, c_f62_Row_check, false⟩
/-- Row.take -/
def c_f63_Row_take : CSs := (.cons (.expr (.meth 34 (.var 0) (.cons (.and (.not (.meth 35 (.var 0) .nil)) (.var 1)) .nil))) (.cons (.augF 33 .add (.var 0) (.cst (.int 1))) (.cons (.ret (.idx (.attr 32 (.var 0)) (.bin .sub (.attr 33 (.var 0)) (.cst (.int 1))))) .nil)))
def f63_Row_take : Fn := ⟨2, 2, c_f63_Row_take, false⟩
/-- Row.take_name -/
def c_f64_Row_take_name : CSs := (.cons (.ret (.meth 24 (.var 0) (.cons (.call 57 (.cons (.meth 36 (.var 0) .nil) .nil)) .nil))) .nil)
def f64_Row_take_name : Fn := ⟨1, 1, c_f64_Row_take_name, false⟩
/-- Row.end -/
def c_f65_Row_end : CSs := (.cons (.expr (.meth 34 (.var 0) (.cons (.meth 35 (.var 0) .nil) .nil))) .nil)
def f65_Row_end : Fn := ⟨1, 1, c_f65_Row_end, false⟩
/-- read_facts -/
def c_f66_read_facts : CSs := (.cons (.expr (.meth 24 (.var 0) (.cons (.cmp .eq (.meth 36 (.var 0) .nil) (.cst (.str "facts"))) .nil))) (.cons (.asg (.nm 1) (.lstL (.cons (.meth 25 (.var 0) .nil) .nil))) (.cons (.whil (.not (.meth 35 (.var 0) .nil)) (.cons (.expr (.bm .append (.var 1) (.cons (.meth 24 (.var 0) (.cons (.and (.call 57 (.cons (.meth 36 (.var 0) .nil) .nil)) (.and (.cmp .gt (.meth 36 (.var 0) .nil) (.idx (.var 1) (.neg (.cst (.int 1))))) (.cmp .lt (.blt .len (.cons (.var 1) .nil)) (.cst (.int 60))))) .nil)) .nil))) .nil)) (.cons (.ret (.blt .tuple (.cons (.var 1) .nil))) .nil))))
def f66_read_facts : Fn := ⟨1, 2, c_f66_read_facts, false⟩
/-- read_side -/
def c_f67_read_side : CSs := (.cons (.asg (.nm 4) (.lstL .nil)) (.cons (.whil (.or (.cmp .eq (.var 4) (.lst .nil)) (.and (.not (.meth 35 (.var 0) .nil)) (.cmp .ne (.meth 36 (.var 0) .nil) (.cst (.str "not"))))) (.cons (.asg (.nm 5) (.meth 36 (.var 0) .nil)) (.cons (.asg (.nm 6) (.and (.cmp .ne (.var 4) (.lst .nil)) (.cmp .le (.var 5) (.idx (.var 4) (.neg (.cst (.int 1))))))) (.cons (.expr (.bm .append (.var 4) (.cons (.meth 24 (.var 0) (.cons (.and (.cmp .isin (.var 5) (.var 1)) (.and (.not (.var 6)) (.and (.cmp .notin (.var 5) (.var 2)) (.cmp .lt (.blt .len (.cons (.var 4) .nil)) (.var 3))))) .nil)) .nil))) .nil)))) (.cons (.ret (.blt .tuple (.cons (.var 4) .nil))) .nil)))
def f67_read_side : Fn := ⟨4, 7, c_f67_read_side, false⟩
/-- read_condition -/
def c_f68_read_condition : CSs := (.cons (.asg (.tup [(.nm 2), (.nm 3)]) (.tup (.cons (.tup .nil) (.cons (.tup .nil) .nil)))) (.cons (.ife (.cmp .eq (.meth 36 (.var 0) .nil) (.cst (.str "if"))) (.cons (.expr (.meth 24 (.var 0) (.cons (.cst (.bl true)) .nil))) (.cons (.asg (.nm 2) (.call 67 (.cons (.var 0) (.cons (.var 1) (.cons (.tup .nil) (.cons (.cst (.int 8)) .nil)))))) .nil)) .nil) (.cons (.ife (.cmp .eq (.meth 36 (.var 0) .nil) (.cst (.str "not"))) (.cons (.expr (.meth 24 (.var 0) (.cons (.cst (.bl true)) .nil))) (.cons (.asg (.nm 3) (.call 67 (.cons (.var 0) (.cons (.var 1) (.cons (.var 2) (.cons (.bin .sub (.cst (.int 8)) (.blt .len (.cons (.var 2) .nil))) .nil)))))) .nil)) .nil) (.cons (.expr (.meth 37 (.var 0) .nil)) (.cons (.ret (.make 2 (.cons (.var 2) (.cons (.var 3) .nil)))) .nil)))))
def f68_read_condition : Fn := ⟨2, 4, c_f68_read_condition, false⟩
/-- read_rule -/
def c_f69_read_rule : CSs := (.cons (.asg (.nm 3) (.blt .len (.cons (.comp false (.nm 8) (.val (.var 2)) (.cmp .eq (.idx (.var 8) (.cst (.int 0))) (.cst (.int 0))) (.var 8)) .nil))) (.cons (.expr (.meth 34 (.var 0) (.cons (.and (.cmp .lt (.blt .len (.cons (.var 2) .nil)) (.cst (.int 60))) (.or (.cmp .eq (.meth 36 (.var 0) .nil) (.cst (.str ">"))) (.cmp .lt (.var 3) (.cst (.int 40))))) .nil))) (.cons (.par [4, 5] (.cons (.cst (.int 0)) (.cons (.blt .min2 (.cons (.cst (.int 5)) (.cons (.ite (.cmp .ne (.var 2) (.lst .nil)) (.bin .add (.idx (.idx (.var 2) (.neg (.cst (.int 1)))) (.cst (.int 0))) (.cst (.int 1))) (.cst (.int 0))) .nil))) .nil))) (.cons (.whil (.cmp .eq (.meth 36 (.var 0) .nil) (.cst (.str ">"))) (.cons (.expr (.meth 24 (.var 0) (.cons (.cmp .lt (.var 4) (.var 5)) .nil))) (.cons (.aug 4 .add (.cst (.int 1))) .nil))) (.cons (.asg (.nm 6) (.meth 24 (.var 0) (.cons (.and (.call 57 (.cons (.meth 36 (.var 0) .nil) .nil)) (.cmp .notin (.meth 36 (.var 0) .nil) (.comp false (.nm 8) (.val (.var 2)) (.cst (.bl true)) (.idx (.var 8) (.cst (.int 1)))))) .nil))) (.cons (.expr (.meth 24 (.var 0) (.cons (.cmp .eq (.meth 36 (.var 0) .nil) (.cst (.str "is"))) .nil))) (.cons (.asg (.nm 7) (.meth 25 (.var 0) .nil)) (.cons (.ret (.tup (.cons (.var 4) (.cons (.var 6) (.cons (.call 68 (.cons (.var 0) (.cons (.var 1) .nil))) (.cons (.var 7) .nil)))))) .nil))))))))
def f69_read_rule : Fn := ⟨3, 9, c_f69_read_rule, false⟩
/-- rules_of -/
def c_f70_rules_of : CSs := (.cons (.asg (.nm 2) (.lstL .nil)) (.cons (.asg (.nm 3) (.comp false (.tup [(.nm 10), (.nm 11)]) (.enum (.var 0)) (.cmp .eq (.idx (.var 11) (.cst (.int 0))) (.var 1)) (.var 10))) (.cons (.forr (.tup [(.nm 4), (.nm 5)]) (.zip (.var 3) (.bin .add (.slc false (.var 3) (.cst (.int 1)) .nop) (.lst (.cons (.blt .len (.cons (.var 0) .nil)) .nil)))) (.cons (.asg (.tup [(.nm 6), (.nm 7), (.nm 8), (.nm 9)]) (.idx (.var 0) (.var 4))) (.cons (.expr (.bm .append (.var 2) (.cons (.make 0 (.cons (.var 7) (.cons (.var 8) (.cons (.var 9) (.cons (.call 70 (.cons (.slc false (.var 0) (.bin .add (.var 4) (.cst (.int 1))) (.var 5)) (.cons (.bin .add (.var 1) (.cst (.int 1))) .nil))) .nil))))) .nil))) .nil))) (.cons (.ret (.blt .tuple (.cons (.var 2) .nil))) .nil))))
def f70_rules_of : Fn := ⟨2, 12, c_f70_rules_of, false⟩
/-- parse_book -/
def c_f71_parse_book : CSs := (.cons (.ret (.call 72 (.cons (.call 58 (.cons (.var 0) .nil)) .nil))) .nil)
def f71_parse_book : Fn := ⟨1, 1, c_f71_parse_book, false⟩
/-- book_of -/
def c_f72_book_of : CSs := (.cons (.par [1, 2] (.cons (.call 66 (.cons (.make 4 (.cons (.cst (.int 0)) (.cons (.idx (.var 0) (.cst (.int 0))) .nil))) .nil)) (.cons (.lstL .nil) .nil))) (.cons (.forr (.tup [(.nm 3), (.nm 4)]) (.enum (.slc false (.var 0) (.cst (.int 1)) .nop)) (.cons (.asg (.nm 5) (.make 4 (.cons (.bin .add (.var 3) (.cst (.int 1))) (.cons (.var 4) .nil)))) (.cons (.ife (.cmp .eq (.meth 36 (.var 5) .nil) (.cst (.str "else"))) (.cons (.expr (.meth 24 (.var 5) (.cons (.cst (.bl true)) .nil))) (.cons (.asg (.nm 6) (.meth 25 (.var 5) .nil)) (.cons (.expr (.meth 37 (.var 5) .nil)) (.cons (.ife (.cmp .gt (.blt .len (.cons (.var 0) .nil)) (.bin .add (.var 3) (.cst (.int 2)))) (.cons .never .nil) .nil) (.cons (.ret (.make 1 (.cons (.var 1) (.cons (.call 70 (.cons (.var 2) (.cons (.cst (.int 0)) .nil))) (.cons (.var 6) .nil))))) .nil))))) .nil) (.cons (.expr (.bm .append (.var 2) (.cons (.call 69 (.cons (.var 5) (.cons (.var 1) (.cons (.var 2) .nil)))) .nil))) .nil)))) (.cons .never .nil)))
def f72_book_of : Fn := ⟨1, 7, c_f72_book_of, false⟩
/-- law -/
def c_f73_law : CSs := (.cons (.asg (.nm 1) (.call 31 (.cons (.var 0) (.cons (.cst (.int 59)) .nil)))) (.cons (.forr (.nm 2) (.rng (.cst (.int 5))) (.cons (.asg (.nm 3) (.call 37 (.cons (.var 1) (.cons (.call 34 (.cons (.var 1) (.cons (.cst (.int 10)) .nil))) (.cons (.cst (.int 4)) .nil))))) (.cons (.ife (.cmp .eq (.call 32 (.cons (.var 1) (.cons (.cst (.int 3)) .nil))) (.cst (.int 0))) (.cons (.asg (.nm 4) (.tup .nil)) (.cons (.forr (.nm 5) (.val (.tup (.cons (.cst (.str "deepsix")) (.cons (.cst (.str "deepfive")) (.cons (.cst (.str "deepfour")) (.cons (.cst (.str "deepthre")) (.cons (.cst (.str "deeptwo")) (.cons (.cst (.str "deepone")) .nil)))))))) (.cons (.asg (.nm 6) (.call 35 (.cons (.var 1) (.cons (.idx (.var 3) (.cst (.int 0))) (.cons (.cst (.int 8)) .nil))))) (.cons (.asg (.nm 4) (.tup (.cons (.tup (.cons (.var 5) (.cons (.idx (.var 6) (.cst (.int 0))) (.cons (.idx (.var 6) (.cst (.int 1))) (.cons (.cst (.str "longruli")) (.cons (.var 4) .nil)))))) .nil))) .nil))) (.cons (.asg (.nm 3) (.tup (.cons (.idx (.var 3) (.cst (.int 0))) (.cons (.bin .add (.idx (.var 3) (.cst (.int 1))) (.var 4)) (.cons (.idx (.var 3) (.cst (.int 2))) .nil))))) .nil))) .nil) (.cons (.asg (.nm 7) (.call 53 (.cons (.call 52 (.cons (.var 3) .nil)) .nil))) (.cons (.ife (.not (.call 33 (.cons (.call 49 (.cons (.call 39 (.cons (.var 3) .nil)) .nil)) (.cons (.var 7) .nil)))) (.cons (.ret (.cst (.bl false))) .nil) .nil) (.cons (.asg (.nm 8) (.call 71 (.cons (.var 7) .nil))) (.cons (.ife (.or (.not (.blt (.isi [.cls 1]) (.cons (.var 8) .nil))) (.not (.call 33 (.cons (.call 41 (.cons (.var 8) .nil)) (.cons (.var 3) .nil))))) (.cons (.ret (.cst (.bl false))) .nil) .nil) .nil))))))) (.cons (.ret (.cst (.bl true))) .nil)))
def f73_law : Fn := ⟨1, 9, c_f73_law, false⟩
/-- Condition.__len__ -/
def c_f74_Condition___len__ : CSs := (.cons (.ret (.blt .len (.cons (.bin .add (.attr 8 (.var 0)) (.attr 9 (.var 0))) .nil))) .nil)
def f74_Condition___len__ : Fn := ⟨1, 1, c_f74_Condition___len__, false⟩
/-- _law_facts -/
def c_f77__law_facts : CSs := (.cons (.asg (.nm 2) (.lstL (.cons (.cst (.str "age")) (.cons (.cst (.str "bad")) (.cons (.cst (.str "cold")) (.cons (.cst (.str "dear")) (.cons (.cst (.str "early")) (.cons (.cst (.str "first")) (.cons (.cst (.str "good")) (.cons (.cst (.str "hot")) (.cons (.cst (.str "idle")) (.cons (.cst (.str "just")) (.cons (.cst (.str "keen")) (.cons (.cst (.str "late")) .nil)))))))))))))) (.cons (.whil (.cmp .gt (.blt .len (.cons (.var 2) .nil)) (.var 1)) (.cons (.expr (.bm .popAt (.var 2) (.cons (.call 32 (.cons (.var 0) (.cons (.blt .len (.cons (.var 2) .nil)) .nil))) .nil))) .nil)) (.cons (.ret (.blt .tuple (.cons (.var 2) .nil))) .nil)))
def f77__law_facts : Fn := ⟨2, 3, c_f77__law_facts, false⟩
/-- _law_due -/
def c_f78__law_due : CSs := (.cons (.forr (.nm 1) (.rng (.cst (.int 2))) (.cons (.forr (.nm 2) (.rng (.blt .len (.cons (.idx (.var 0) (.var 1)) .nil))) (.cons (.asg (.nm 3) (.idx (.idx (.var 0) (.var 1)) (.var 2))) (.cons (.asg (.nm 4) (.comp false (.nm 7) (.val (.var 3)) (.cmp .notin (.var 7) (.cst (.str "abcdefghijklmnopqrstuvwxyz"))) (.var 7))) (.cons (.asg (.nm 5) (.and (.cmp .gt (.var 2) (.cst (.int 0))) (.cmp .le (.var 3) (.idx (.idx (.var 0) (.var 1)) (.bin .sub (.var 2) (.cst (.int 1))))))) (.cons (.asg (.nm 6) (.cmp .gt (.bin .add (.bin .add (.var 2) (.cst (.int 1))) (.bin .mul (.var 1) (.blt .len (.cons (.idx (.var 0) (.cst (.int 0))) .nil)))) (.cst (.int 8)))) (.cons (.ife (.or (.cmp .ne (.var 4) (.lst .nil)) (.or (.not (.chn .le .le (.cst (.int 1)) (.blt .len (.cons (.var 3) .nil)) (.cst (.int 8)))) (.or (.var 5) (.or (.var 6) (.and (.cmp .eq (.var 1) (.cst (.int 1))) (.cmp .isin (.var 3) (.idx (.var 0) (.cst (.int 0))))))))) (.cons (.ret (.tup (.cons (.cst (.str "condition")) (.cons (.var 1) (.cons (.var 2) .nil))))) .nil) .nil) .nil)))))) .nil)) (.cons (.ret (.tup (.cons (.cst (.str "none")) .nil))) .nil))
def f78__law_due : Fn := ⟨1, 8, c_f78__law_due, false⟩
/-- law -/
def c_f79_law : CSs := (.cons (.asg (.nm 1) (.call 31 (.cons (.var 0) (.cons (.cst (.int 2)) .nil)))) (.cons (.forr (.nm 2) (.rng (.cst (.int 9))) (.cons (.asg (.nm 3) (.call 77 (.cons (.var 1) (.cons (.bin .add (.cst (.int 1)) (.call 32 (.cons (.var 1) (.cons (.cst (.int 12)) .nil)))) .nil)))) (.cons (.asg (.nm 4) (.lstL (.cons (.lstL .nil) (.cons (.lstL .nil) .nil)))) (.cons (.forr (.nm 5) (.val (.var 3)) (.cons (.ife (.cmp .gt (.call 32 (.cons (.var 1) (.cons (.cst (.int 3)) .nil))) (.cst (.int 0))) (.cons (.expr (.bm .append (.idx (.var 4) (.call 32 (.cons (.var 1) (.cons (.cst (.int 2)) .nil)))) (.cons (.var 5) .nil))) .nil) .nil) .nil)) (.cons (.forr (.nm 6) (.rng (.call 32 (.cons (.var 1) (.cons (.cst (.int 3)) .nil)))) (.cons (.asg (.nm 7) (.idx (.var 4) (.call 32 (.cons (.var 1) (.cons (.cst (.int 2)) .nil))))) (.cons (.asg (.nm 8) (.call 32 (.cons (.var 1) (.cons (.bin .add (.blt .len (.cons (.var 7) .nil)) (.cst (.int 1))) .nil)))) (.cons (.asg (.nm 9) (.idx (.lst (.cons (.cst (.str "")) (.cons (.cst (.str "Abc")) (.cons (.cst (.str "abcdefghi")) (.cons (.cst (.str "a1")) (.cons (.cst (.str "zz")) (.cons (.cst (.str "a")) (.cons (.cst (.str "abcdefgh")) .nil)))))))) (.call 32 (.cons (.var 1) (.cons (.cst (.int 7)) .nil))))) (.cons (.asg (.nm 10) (.call 32 (.cons (.var 1) (.cons (.cst (.int 4)) .nil)))) (.cons (.ife (.cmp .eq (.var 10) (.cst (.int 0))) (.cons (.expr (.bm .insert (.var 7) (.cons (.var 8) (.cons (.var 9) .nil)))) .nil) (.cons (.ife (.and (.cmp .eq (.var 10) (.cst (.int 1))) (.cmp .ne (.var 7) (.lst .nil))) (.cons (.expr (.bm .insert (.var 7) (.cons (.var 8) (.cons (.idx (.var 7) (.blt .min2 (.cons (.var 8) (.cons (.bin .sub (.blt .len (.cons (.var 7) .nil)) (.cst (.int 1))) .nil)))) .nil)))) .nil) (.cons (.ife (.cmp .eq (.var 10) (.cst (.int 2))) (.cons (.expr (.bm .reverse (.var 7) .nil)) .nil) (.cons (.expr (.bm .insert (.var 7) (.cons (.var 8) (.cons (.idx (.var 3) (.call 32 (.cons (.var 1) (.cons (.blt .len (.cons (.var 3) .nil)) .nil)))) .nil)))) .nil)) .nil)) .nil)) .nil)))))) (.cons (.asg (.tup [(.nm 11), (.nm 12)]) (.tup (.cons (.blt .tuple (.cons (.idx (.var 4) (.cst (.int 0))) .nil)) (.cons (.blt .tuple (.cons (.idx (.var 4) (.cst (.int 1))) .nil)) .nil)))) (.cons (.asg (.nm 13) (.call 78 (.cons (.tup (.cons (.var 11) (.cons (.var 12) .nil))) .nil))) (.cons (.ife (.cmp .ne (.errL (.make 2 (.cons (.var 11) (.cons (.var 12) .nil)))) (.var 13)) (.cons (.ret (.cst (.bl false))) .nil) .nil) (.cons (.ife (.cmp .eq (.var 13) (.tup (.cons (.cst (.str "none")) .nil))) (.cons (.asg (.nm 14) (.make 2 (.cons (.var 11) (.cons (.var 12) .nil)))) (.cons (.asg (.nm 15) (.blt .tuple (.cons (.blt .sorted (.cons (.bin .add (.idx (.var 4) (.cst (.int 0))) (.idx (.var 4) (.cst (.int 1)))) .nil)) .nil))) (.cons (.asg (.nm 16) (.lst (.cons (.attr 19 (.var 14)) (.cons (.attr 20 (.var 14)) (.cons (.attr 17 (.var 14)) (.cons (.lenO 41 (.var 14)) .nil)))))) (.cons (.ife (.not (.call 75 (.cons (.var 16) (.cons (.lst (.cons (.var 11) (.cons (.var 12) (.cons (.var 15) (.cons (.blt .len (.cons (.var 15) .nil)) .nil))))) .nil)))) (.cons (.ret (.cst (.bl false))) .nil) .nil) .nil)))) .nil) .nil))))))))) (.cons (.ret (.cst (.bl true))) .nil)))
def f79_law : Fn := ⟨1, 17, c_f79_law, false⟩
/-- Condition.__init__ -/
def c_f80_Condition___init__ : CSs := (.cons (.forr (.tup [(.nm 3), (.nm 4)]) (.enum (.tup (.cons (.var 1) (.cons (.var 2) .nil)))) (.cons (.forr (.tup [(.nm 5), (.nm 6)]) (.enum (.var 4)) (.cons (.asg (.nm 7) (.and (.cmp .gt (.var 5) (.cst (.int 0))) (.and (.call 0 (.cons (.var 6) .nil)) (.cmp .le (.var 6) (.idx (.var 4) (.bin .sub (.var 5) (.cst (.int 1)))))))) (.cons (.ife (.or (.not (.call 0 (.cons (.var 6) .nil))) (.or (.var 7) (.cmp .ge (.bin .add (.bin .mul (.var 3) (.blt .len (.cons (.var 1) .nil))) (.var 5)) (.cst (.int 8))))) (.cons (.rais 1 [38, 30] (.cons (.var 3) (.cons (.var 5) .nil))) .nil) .nil) (.cons (.ife (.and (.cmp .eq (.var 3) (.cst (.int 1))) (.cmp .isin (.var 6) (.var 1))) (.cons (.rais 1 [38, 30] (.cons (.var 3) (.cons (.var 5) .nil))) .nil) .nil) .nil)))) .nil)) (.cons (.setF 8 (.var 0) (.var 1)) (.cons (.setF 9 (.var 0) (.var 2)) .nil)))
def f80_Condition___init__ : Fn := ⟨3, 8, c_f80_Condition___init__, false⟩
/-- law -/
def c_f81_law : CSs := (.cons (.asg (.nm 1) (.call 31 (.cons (.var 0) (.cons (.cst (.int 2)) .nil)))) (.cons (.forr (.nm 2) (.rng (.cst (.int 9))) (.cons (.asg (.nm 3) (.call 77 (.cons (.var 1) (.cons (.bin .add (.cst (.int 1)) (.call 32 (.cons (.var 1) (.cons (.cst (.int 12)) .nil)))) .nil)))) (.cons (.asg (.nm 4) (.lstL (.cons (.lstL .nil) (.cons (.lstL .nil) .nil)))) (.cons (.forr (.nm 5) (.val (.var 3)) (.cons (.ife (.cmp .gt (.call 32 (.cons (.var 1) (.cons (.cst (.int 3)) .nil))) (.cst (.int 0))) (.cons (.expr (.bm .append (.idx (.var 4) (.call 32 (.cons (.var 1) (.cons (.cst (.int 2)) .nil)))) (.cons (.var 5) .nil))) .nil) .nil) .nil)) (.cons (.forr (.nm 6) (.rng (.call 32 (.cons (.var 1) (.cons (.cst (.int 3)) .nil)))) (.cons (.asg (.nm 7) (.idx (.var 4) (.call 32 (.cons (.var 1) (.cons (.cst (.int 2)) .nil))))) (.cons (.asg (.nm 8) (.call 32 (.cons (.var 1) (.cons (.bin .add (.blt .len (.cons (.var 7) .nil)) (.cst (.int 1))) .nil)))) (.cons (.asg (.nm 9) (.idx (.lst (.cons (.cst (.str "")) (.cons (.cst (.str "Abc")) (.cons (.cst (.str "abcdefghi")) (.cons (.cst (.str "a1")) (.cons (.cst (.str "zz")) (.cons (.cst (.str "a")) (.cons (.cst (.str "abcdefgh")) .nil)))))))) (.call 32 (.cons (.var 1) (.cons (.cst (.int 7)) .nil))))) (.cons (.asg (.nm 10) (.call 32 (.cons (.var 1) (.cons (.cst (.int 4)) .nil)))) (.cons (.ife (.cmp .eq (.var 10) (.cst (.int 0))) (.cons (.expr (.bm .insert (.var 7) (.cons (.var 8) (.cons (.var 9) .nil)))) .nil) (.cons (.ife (.and (.cmp .eq (.var 10) (.cst (.int 1))) (.cmp .ne (.var 7) (.lst .nil))) (.cons (.expr (.bm .insert (.var 7) (.cons (.var 8) (.cons (.idx (.var 7) (.blt .min2 (.cons (.var 8) (.cons (.bin .sub (.blt .len (.cons (.var 7) .nil)) (.cst (.int 1))) .nil)))) .nil)))) .nil) (.cons (.ife (.cmp .eq (.var 10) (.cst (.int 2))) (.cons (.expr (.bm .reverse (.var 7) .nil)) .nil) (.cons (.expr (.bm .insert (.var 7) (.cons (.var 8) (.cons (.idx (.var 3) (.call 32 (.cons (.var 1) (.cons (.blt .len (.cons (.var 3) .nil)) .nil)))) .nil)))) .nil)) .nil)) .nil)) .nil)))))) (.cons (.asg (.tup [(.nm 11), (.nm 12)]) (.tup (.cons (.blt .tuple (.cons (.idx (.var 4) (.cst (.int 0))) .nil)) (.cons (.blt .tuple (.cons (.idx (.var 4) (.cst (.int 1))) .nil)) .nil)))) (.cons (.asg (.nm 13) (.call 78 (.cons (.tup (.cons (.var 11) (.cons (.var 12) .nil))) .nil))) (.cons (.ife (.cmp .ne (.errL (.make 2 (.cons (.var 11) (.cons (.var 12) .nil)))) (.var 13)) (.cons (.ret (.cst (.bl false))) .nil) .nil) (.cons (.ife (.cmp .eq (.var 13) (.tup (.cons (.cst (.str "none")) .nil))) (.cons (.asg (.nm 14) (.make 2 (.cons (.var 11) (.cons (.var 12) .nil)))) (.cons (.asg (.nm 15) (.blt .tuple (.cons (.blt .sorted (.cons (.bin .add (.idx (.var 4) (.cst (.int 0))) (.idx (.var 4) (.cst (.int 1)))) .nil)) .nil))) (.cons (.asg (.nm 16) (.lst (.cons (.attr 19 (.var 14)) (.cons (.attr 20 (.var 14)) (.cons (.attr 17 (.var 14)) (.cons (.lenO 41 (.var 14)) .nil)))))) (.cons (.ife (.not (.call 33 (.cons (.var 16) (.cons (.lst (.cons (.var 11) (.cons (.var 12) (.cons (.var 15) (.cons (.blt .len (.cons (.var 15) .nil)) .nil))))) .nil)))) (.cons (.ret (.cst (.bl false))) .nil) .nil) .nil)))) .nil) .nil))))))))) (.cons (.ret (.cst (.bl true))) .nil)))
def f81_law : Fn := ⟨1, 17, c_f81_law, false⟩
/-- validate_case -/
def c_f82_validate_case : CSs := (.cons (.forr (.tup [(.nm 2), (.nm 3)]) (.enum (.var 1)) (.cons (.ife (.or (.cmp .notin (.var 3) (.var 0)) (.and (.cmp .gt (.var 2) (.cst (.int 0))) (.cmp .le (.var 3) (.idx (.var 1) (.bin .sub (.var 2) (.cst (.int 1))))))) (.cons (.rais 16 [30] (.cons (.var 2) .nil)) .nil) .nil) .nil)) .nil)
def f82_validate_case : Fn := ⟨2, 4, c_f82_validate_case, false⟩
/-- validate_number -/
def c_f83_validate_number : CSs := (.cons (.ife (.not (.chn .le .le (.var 1) (.var 0) (.var 2))) (.cons (.rais 15 [] .nil) .nil) .nil) .nil)
def f83_validate_number : Fn := ⟨3, 3, c_f83_validate_number, false⟩
/-- two_to -/
def c_f84_two_to : CSs := (.cons (.ret (.bin .shl (.cst (.int 1)) (.var 0))) .nil)
def f84_two_to : Fn := ⟨1, 1, c_f84_two_to, false⟩
/-- number_by -/
def c_f85_number_by : CSs := (.cons (.ret (.blt .sum (.cons (.comp false (.nm 2) (.val (.var 1)) (.cst (.bl true)) (.bin .shl (.cst (.int 1)) (.bm .index (.var 0) (.cons (.var 2) .nil)))) .nil))) .nil)
def f85_number_by : Fn := ⟨2, 3, c_f85_number_by, false⟩
/-- case_by -/
def c_f86_case_by : CSs := (.cons (.ret (.blt .tuple (.cons (.comp false (.tup [(.nm 2), (.nm 3)]) (.enum (.var 0)) (.cmp .eq (.bin .band (.bin .shr (.var 1) (.var 2)) (.cst (.int 1))) (.cst (.int 1))) (.var 3)) .nil))) .nil)
def f86_case_by : Fn := ⟨2, 4, c_f86_case_by, false⟩
/-- case_number -/
def c_f87_case_number : CSs := (.cons (.expr (.call 1 (.cons (.var 0) .nil))) (.cons (.expr (.call 82 (.cons (.var 0) (.cons (.var 1) .nil)))) (.cons (.ret (.call 85 (.cons (.var 0) (.cons (.var 1) .nil)))) .nil)))
def f87_case_number : Fn := ⟨2, 2, c_f87_case_number, false⟩
/-- case_of -/
def c_f88_case_of : CSs := (.cons (.expr (.call 1 (.cons (.var 0) .nil))) (.cons (.expr (.call 83 (.cons (.var 1) (.cons (.cst (.int 0)) (.cons (.bin .sub (.call 84 (.cons (.blt .len (.cons (.var 0) .nil)) .nil)) (.cst (.int 1))) .nil))))) (.cons (.ret (.call 86 (.cons (.var 0) (.cons (.var 1) .nil)))) .nil)))
def f88_case_of : Fn := ⟨2, 2, c_f88_case_of, false⟩
/-- _law_bad -/
def c_f89__law_bad : CSs := (.cons (.ife (.cmp .eq (.var 0) (.tup .nil)) (.cons (.ret (.cst (.int 0))) .nil) .nil) (.cons (.forr (.nm 1) (.rng (.blt .len (.cons (.var 0) .nil))) (.cons (.asg (.nm 2) (.idx (.var 0) (.var 1))) (.cons (.asg (.nm 3) (.comp false (.nm 4) (.val (.var 2)) (.cmp .notin (.var 4) (.cst (.str "abcdefghijklmnopqrstuvwxyz"))) (.var 4))) (.cons (.ife (.or (.cmp .eq (.var 1) (.cst (.int 60))) (.or (.cmp .ne (.var 3) (.lst .nil)) (.or (.not (.chn .le .le (.cst (.int 1)) (.blt .len (.cons (.var 2) .nil)) (.cst (.int 8)))) (.and (.cmp .gt (.var 1) (.cst (.int 0))) (.cmp .le (.var 2) (.idx (.var 0) (.bin .sub (.var 1) (.cst (.int 1))))))))) (.cons (.ret (.var 1)) .nil) .nil) .nil)))) (.cons (.ret (.cst .non)) .nil)))
def f89__law_bad : Fn := ⟨1, 5, c_f89__law_bad, false⟩
/-- _law_bent -/
def c_f90__law_bent : CSs := (.cons (.asg (.nm 2) (.call 32 (.cons (.var 0) (.cons (.bin .add (.blt .len (.cons (.var 1) .nil)) (.cst (.int 1))) .nil)))) (.cons (.asg (.nm 3) (.idx (.lst (.cons (.cst (.str "")) (.cons (.cst (.str "Abc")) (.cons (.cst (.str "abcdefghi")) (.cons (.cst (.str "a1")) (.cons (.cst (.str "-a")) (.cons (.cst (.str "zz")) (.cons (.cst (.str "aa")) (.cons (.cst (.str "a b")) .nil))))))))) (.call 32 (.cons (.var 0) (.cons (.cst (.int 8)) .nil))))) (.cons (.asg (.nm 4) (.lst (.cons (.bin .add (.bin .add (.slc false (.var 1) .nop (.var 2)) (.tup (.cons (.var 3) .nil))) (.slc false (.var 1) (.var 2) .nop)) (.cons (.bin .add (.slc false (.var 1) .nop (.var 2)) (.slc false (.var 1) (.bin .add (.var 2) (.cst (.int 1))) .nop)) (.cons (.rev (.var 1)) (.cons (.bin .add (.slc false (.var 1) .nop (.var 2)) (.slc false (.var 1) (.blt .max2 (.cons (.cst (.int 0)) (.cons (.bin .sub (.var 2) (.cst (.int 1))) .nil))) .nop)) .nil)))))) (.cons (.ret (.idx (.var 4) (.call 32 (.cons (.var 0) (.cons (.cst (.int 4)) .nil))))) .nil))))
def f90__law_bent : Fn := ⟨2, 5, c_f90__law_bent, false⟩
/-- law -/
def c_f91_law : CSs := (.cons (.asg (.nm 1) (.call 31 (.cons (.var 0) (.cons (.cst (.int 1)) .nil)))) (.cons (.asg (.nm 2) (.cst (.str "abcdefghijklmnopqrstuvwxyz"))) (.cons (.forr (.nm 3) (.rng (.cst (.int 6))) (.cons (.asg (.nm 4) (.call 77 (.cons (.var 1) (.cons (.bin .add (.cst (.int 1)) (.call 32 (.cons (.var 1) (.cons (.cst (.int 12)) .nil)))) .nil)))) (.cons (.ife (.cmp .eq (.call 32 (.cons (.var 1) (.cons (.cst (.int 3)) .nil))) (.cst (.int 0))) (.cons (.asg (.nm 5) (.idx (.lst (.cons (.cst (.int 59)) (.cons (.cst (.int 60)) (.cons (.cst (.int 61)) .nil)))) (.call 32 (.cons (.var 1) (.cons (.cst (.int 3)) .nil))))) (.cons (.asg (.nm 4) (.blt .tuple (.cons (.comp false (.nm 13) (.rng (.var 5)) (.cst (.bl true)) (.bin .add (.bin .add (.cst (.str "x")) (.idx (.var 2) (.bin .fdiv (.var 13) (.cst (.int 26))))) (.idx (.var 2) (.bin .sub (.var 13) (.bin .mul (.bin .fdiv (.var 13) (.cst (.int 26))) (.cst (.int 26))))))) .nil))) .nil)) .nil) (.cons (.ife (.cmp .eq (.call 32 (.cons (.var 1) (.cons (.cst (.int 2)) .nil))) (.cst (.int 0))) (.cons (.asg (.nm 4) (.call 90 (.cons (.var 1) (.cons (.var 4) .nil)))) .nil) .nil) (.cons (.asg (.nm 6) (.call 89 (.cons (.var 4) .nil))) (.cons (.ife (.cmp .notn (.var 6) (.cst .non)) (.cons (.ife (.cmp .ne (.errL (.call 87 (.cons (.var 4) (.cons (.tup (.cons (.cst (.str "q")) .nil)) .nil)))) (.tup (.cons (.cst (.str "facts")) (.cons (.var 6) .nil)))) (.cons (.ret (.cst (.bl false))) .nil) .nil) (.cons (.ife (.cmp .ne (.errL (.call 88 (.cons (.var 4) (.cons (.neg (.cst (.int 1))) .nil)))) (.tup (.cons (.cst (.str "facts")) (.cons (.var 6) .nil)))) (.cons (.ret (.cst (.bl false))) .nil) .nil) .nil)) (.cons (.asg (.nm 7) (.blt .tuple (.cons (.comp false (.nm 14) (.val (.var 4)) (.cmp .eq (.call 32 (.cons (.var 1) (.cons (.cst (.int 2)) .nil))) (.cst (.int 0))) (.var 14)) .nil))) (.cons (.asg (.nm 8) (.blt .sum (.cons (.comp false (.nm 13) (.rng (.blt .len (.cons (.var 4) .nil))) (.cmp .isin (.idx (.var 4) (.var 13)) (.var 7)) (.bin .shl (.cst (.int 1)) (.var 13))) .nil))) (.cons (.ife (.not (.call 33 (.cons (.lst (.cons (.call 87 (.cons (.var 4) (.cons (.var 7) .nil))) (.cons (.call 88 (.cons (.var 4) (.cons (.var 8) .nil))) .nil))) (.cons (.lst (.cons (.var 8) (.cons (.var 7) .nil))) .nil)))) (.cons (.ret (.cst (.bl false))) .nil) .nil) (.cons (.asg (.nm 9) (.call 90 (.cons (.var 1) (.cons (.var 7) .nil)))) (.cons (.asg (.nm 10) (.comp false (.nm 13) (.rng (.blt .len (.cons (.var 9) .nil))) (.or (.cmp .notin (.idx (.var 9) (.var 13)) (.var 4)) (.and (.cmp .gt (.var 13) (.cst (.int 0))) (.cmp .le (.idx (.var 9) (.var 13)) (.idx (.var 9) (.bin .sub (.var 13) (.cst (.int 1))))))) (.var 13))) (.cons (.asg (.nm 11) (.ite (.cmp .ne (.var 10) (.lst .nil)) (.tup (.cons (.cst (.str "case")) (.cons (.idx (.var 10) (.cst (.int 0))) .nil))) (.tup (.cons (.cst (.str "none")) .nil)))) (.cons (.ife (.cmp .ne (.errL (.call 87 (.cons (.var 4) (.cons (.var 9) .nil)))) (.var 11)) (.cons (.ret (.cst (.bl false))) .nil) .nil) (.cons (.asg (.nm 12) (.idx (.lst (.cons (.neg (.cst (.int 1))) (.cons (.bin .shl (.cst (.int 1)) (.blt .len (.cons (.var 4) .nil))) (.cons (.bin .pow (.cst (.int 10)) (.cst (.int 30))) .nil)))) (.call 32 (.cons (.var 1) (.cons (.cst (.int 3)) .nil))))) (.cons (.ife (.cmp .ne (.errL (.call 88 (.cons (.var 4) (.cons (.var 12) .nil)))) (.tup (.cons (.cst (.str "number")) .nil))) (.cons (.ret (.cst (.bl false))) .nil) .nil) (.cons (.ife (.or (.cmp .ne (.call 88 (.cons (.var 4) (.cons (.bin .sub (.bin .shl (.cst (.int 1)) (.blt .len (.cons (.var 4) .nil))) (.cst (.int 1))) .nil))) (.var 4)) (.cmp .ne (.call 88 (.cons (.var 4) (.cons (.cst (.int 0)) .nil))) (.tup .nil))) (.cons (.ret (.cst (.bl false))) .nil) .nil) .nil))))))))))) .nil)))))) (.cons (.ret (.cst (.bl true))) .nil))))
def f91_law : Fn := ⟨1, 15, c_f91_law, false⟩
/-- validate_facts -/
def c_f92_validate_facts : CSs := (.cons (.ife (.cmp .eq (.var 0) (.tup .nil)) (.cons (.rais 17 [30] (.cons (.cst (.int 0)) .nil)) .nil) .nil) (.cons (.forr (.tup [(.nm 1), (.nm 2)]) (.enum (.var 0)) (.cons (.ife (.or (.cmp .eq (.var 1) (.cst (.int 60))) (.or (.not (.call 0 (.cons (.var 2) .nil))) (.and (.cmp .gt (.var 1) (.cst (.int 0))) (.cmp .le (.var 2) (.idx (.var 0) (.bin .sub (.var 1) (.cst (.int 1)))))))) (.cons (.rais 17 [30] (.cons (.var 1) .nil)) .nil) .nil) .nil)) .nil))
def f92_validate_facts : Fn := ⟨1, 3, c_f92_validate_facts, false⟩
/-- case_number -/
def c_f93_case_number : CSs := (.cons (.expr (.call 92 (.cons (.var 0) .nil))) (.cons (.expr (.call 82 (.cons (.var 0) (.cons (.var 1) .nil)))) (.cons (.ret (.call 85 (.cons (.var 0) (.cons (.var 1) .nil)))) .nil)))
def f93_case_number : Fn := ⟨2, 2, c_f93_case_number, false⟩
/-- case_of -/
def c_f94_case_of : CSs := (.cons (.expr (.call 92 (.cons (.var 0) .nil))) (.cons (.expr (.call 83 (.cons (.var 1) (.cons (.cst (.int 0)) (.cons (.bin .sub (.call 84 (.cons (.blt .len (.cons (.var 0) .nil)) .nil)) (.cst (.int 1))) .nil))))) (.cons (.ret (.call 86 (.cons (.var 0) (.cons (.var 1) .nil)))) .nil)))
def f94_case_of : Fn := ⟨2, 2, c_f94_case_of, false⟩
/-- law -/
def c_f95_law : CSs := (.cons (.asg (.nm 1) (.call 31 (.cons (.var 0) (.cons (.cst (.int 1)) .nil)))) (.cons (.asg (.nm 2) (.cst (.str "abcdefghijklmnopqrstuvwxyz"))) (.cons (.forr (.nm 3) (.rng (.cst (.int 6))) (.cons (.asg (.nm 4) (.call 77 (.cons (.var 1) (.cons (.bin .add (.cst (.int 1)) (.call 32 (.cons (.var 1) (.cons (.cst (.int 12)) .nil)))) .nil)))) (.cons (.ife (.cmp .eq (.call 32 (.cons (.var 1) (.cons (.cst (.int 3)) .nil))) (.cst (.int 0))) (.cons (.asg (.nm 5) (.idx (.lst (.cons (.cst (.int 59)) (.cons (.cst (.int 60)) (.cons (.cst (.int 61)) .nil)))) (.call 32 (.cons (.var 1) (.cons (.cst (.int 3)) .nil))))) (.cons (.asg (.nm 4) (.blt .tuple (.cons (.comp false (.nm 13) (.rng (.var 5)) (.cst (.bl true)) (.bin .add (.bin .add (.cst (.str "x")) (.idx (.var 2) (.bin .fdiv (.var 13) (.cst (.int 26))))) (.idx (.var 2) (.bin .sub (.var 13) (.bin .mul (.bin .fdiv (.var 13) (.cst (.int 26))) (.cst (.int 26))))))) .nil))) .nil)) .nil) (.cons (.ife (.cmp .eq (.call 32 (.cons (.var 1) (.cons (.cst (.int 2)) .nil))) (.cst (.int 0))) (.cons (.asg (.nm 4) (.call 90 (.cons (.var 1) (.cons (.var 4) .nil)))) .nil) .nil) (.cons (.asg (.nm 6) (.call 89 (.cons (.var 4) .nil))) (.cons (.ife (.cmp .notn (.var 6) (.cst .non)) (.cons (.ife (.cmp .ne (.errL (.call 93 (.cons (.var 4) (.cons (.tup (.cons (.cst (.str "q")) .nil)) .nil)))) (.tup (.cons (.cst (.str "facts")) (.cons (.var 6) .nil)))) (.cons (.ret (.cst (.bl false))) .nil) .nil) (.cons (.ife (.cmp .ne (.errL (.call 94 (.cons (.var 4) (.cons (.neg (.cst (.int 1))) .nil)))) (.tup (.cons (.cst (.str "facts")) (.cons (.var 6) .nil)))) (.cons (.ret (.cst (.bl false))) .nil) .nil) .nil)) (.cons (.asg (.nm 7) (.blt .tuple (.cons (.comp false (.nm 14) (.val (.var 4)) (.cmp .eq (.call 32 (.cons (.var 1) (.cons (.cst (.int 2)) .nil))) (.cst (.int 0))) (.var 14)) .nil))) (.cons (.asg (.nm 8) (.blt .sum (.cons (.comp false (.nm 13) (.rng (.blt .len (.cons (.var 4) .nil))) (.cmp .isin (.idx (.var 4) (.var 13)) (.var 7)) (.bin .shl (.cst (.int 1)) (.var 13))) .nil))) (.cons (.ife (.not (.call 33 (.cons (.lst (.cons (.call 93 (.cons (.var 4) (.cons (.var 7) .nil))) (.cons (.call 94 (.cons (.var 4) (.cons (.var 8) .nil))) .nil))) (.cons (.lst (.cons (.var 8) (.cons (.var 7) .nil))) .nil)))) (.cons (.ret (.cst (.bl false))) .nil) .nil) (.cons (.asg (.nm 9) (.call 90 (.cons (.var 1) (.cons (.var 7) .nil)))) (.cons (.asg (.nm 10) (.comp false (.nm 13) (.rng (.blt .len (.cons (.var 9) .nil))) (.or (.cmp .notin (.idx (.var 9) (.var 13)) (.var 4)) (.and (.cmp .gt (.var 13) (.cst (.int 0))) (.cmp .le (.idx (.var 9) (.var 13)) (.idx (.var 9) (.bin .sub (.var 13) (.cst (.int 1))))))) (.var 13))) (.cons (.asg (.nm 11) (.ite (.cmp .ne (.var 10) (.lst .nil)) (.tup (.cons (.cst (.str "case")) (.cons (.idx (.var 10) (.cst (.int 0))) .nil))) (.tup (.cons (.cst (.str "none")) .nil)))) (.cons (.ife (.cmp .ne (.errL (.call 93 (.cons (.var 4) (.cons (.var 9) .nil)))) (.var 11)) (.cons (.ret (.cst (.bl false))) .nil) .nil) (.cons (.asg (.nm 12) (.idx (.lst (.cons (.neg (.cst (.int 1))) (.cons (.bin .shl (.cst (.int 1)) (.blt .len (.cons (.var 4) .nil))) (.cons (.bin .pow (.cst (.int 10)) (.cst (.int 30))) .nil)))) (.call 32 (.cons (.var 1) (.cons (.cst (.int 3)) .nil))))) (.cons (.ife (.cmp .ne (.errL (.call 94 (.cons (.var 4) (.cons (.var 12) .nil)))) (.tup (.cons (.cst (.str "number")) .nil))) (.cons (.ret (.cst (.bl false))) .nil) .nil) (.cons (.ife (.or (.cmp .ne (.call 94 (.cons (.var 4) (.cons (.bin .sub (.bin .shl (.cst (.int 1)) (.blt .len (.cons (.var 4) .nil))) (.cst (.int 1))) .nil))) (.var 4)) (.cmp .ne (.call 94 (.cons (.var 4) (.cons (.cst (.int 0)) .nil))) (.tup .nil))) (.cons (.ret (.cst (.bl false))) .nil) .nil) .nil))))))))))) .nil)))))) (.cons (.ret (.cst (.bl true))) .nil))))
def f95_law : Fn := ⟨1, 15, c_f95_law, false⟩
end SC.B

namespace K02
open PySem L2 SC
def top (i : Nat) : Stmt := PySem.Challenge.pw_smallcourt_k02_conditions_validated.main.body.getD i (.Pass ⟨0, 0, 0, 0⟩)
/-- is_name -/
abbrev s_f0_is_name : Stmt := top 23
def N_f0_is_name : List Str := ["thing", "sign"]
/-- Condition.__init__ -/
abbrev s_f80_Condition___init__ : Stmt := inClass (top 26) 0
def N_f80_Condition___init__ : List Str := ["self", "holding", "failing", "part", "names", "index", "name", "is_late"]
/-- Condition.holding -/
abbrev s_f15_Condition_holding : Stmt := inClass (top 26) 1
def N_f15_Condition_holding : List Str := ["self"]
/-- Condition.failing -/
abbrev s_f16_Condition_failing : Stmt := inClass (top 26) 2
def N_f16_Condition_failing : List Str := ["self"]
/-- Condition.names -/
abbrev s_f17_Condition_names : Stmt := inClass (top 26) 3
def N_f17_Condition_names : List Str := ["self"]
/-- Condition.__len__ -/
abbrev s_f74_Condition___len__ : Stmt := inClass (top 26) 5
def N_f74_Condition___len__ : List Str := ["self"]
/-- _law_mix -/
abbrev s_f31__law_mix : Stmt := top 28
def N_f31__law_mix : List Str := ["_law_script", "_law_seed", "_law_state", "_law_cell"]
/-- _law_next -/
abbrev s_f32__law_next : Stmt := top 29
def N_f32__law_next : List Str := ["_law_h", "_law_limit", "_law_cell"]
/-- _law_alike -/
abbrev s_f33__law_alike : Stmt := top 30
def N_f33__law_alike : List Str := ["_law_found", "_law_due_here", "_law_k"]
/-- _law_error -/
abbrev s_f76__law_error : Stmt := top 31
def N_f76__law_error : List Str := ["_law_call", "e", "_law_kinds", "_law_names", "_law_name"]
/-- _law_facts -/
abbrev s_f77__law_facts : Stmt := top 32
def N_f77__law_facts : List Str := ["_law_h", "_law_count", "_law_some"]
/-- _law_due -/
abbrev s_f78__law_due : Stmt := top 33
def N_f78__law_due : List Str := ["_law_parts", "_law_part", "_law_k", "_law_name", "_law_odd", "_law_late", "_law_many", "_law_sign"]
/-- law -/
abbrev s_f81_law : Stmt := top 34
def N_f81_law : List Str := ["_law_script", "_law_h", "_law_time", "_law_facts_here", "_law_parts", "_law_fact", "_law_fault", "_law_part", "_law_k", "_law_odd", "_law_kind", "_law_holding", "_law_failing", "_law_due_here", "_law_found", "_law_every", "_law_some"]
def nms0 : List (Nat × Str) := [(8, Str.ofString "wanted"), (9, Str.ofString "barred"), (17, Str.ofString "names"), (19, Str.ofString "holding"), (20, Str.ofString "failing"), (30, Str.ofString "index"), (38, Str.ofString "part"), (39, Str.ofString "fact"), (40, Str.ofString "word"), (41, Str.ofString "__len__")]
def nms : List (Nat × Str) := nms0
def frees0 : List (Str) := [Str.ofString "len", Str.ofString "str", Str.ofString "isinstance", Str.ofString "enumerate", Str.ofString "super", Str.ofString "tuple", Str.ofString "sorted", Str.ofString "list", Str.ofString "int", Str.ofString "max", Str.ofString "bool", Str.ofString "range"]
def frees1 : List (Str) := [Str.ofString "dict", Str.ofString "ValueError", Str.ofString "min"]
def frees : List (Str) := frees0 ++ frees1
def topN0 : List (Str) := [Str.ofString "_wall", Str.ofString "__name__", Str.ofString "CourtError", Str.ofString "InvalidFacts", Str.ofString "InvalidCase", Str.ofString "InvalidNumber", Str.ofString "InvalidCondition", Str.ofString "NeverMet", Str.ofString "InvalidRule", Str.ofString "InvalidBook", Str.ofString "UnknownRule", Str.ofString "InvalidRuling"]
def topN1 : List (Str) := [Str.ofString "UnknownFact", Str.ofString "NoReason", Str.ofString "TooMany", Str.ofString "InvalidChance", Str.ofString "OtherFacts", Str.ofString "NoNeighbor", Str.ofString "NoFacts", Str.ofString "AlreadyKnown", Str.ofString "LETTERS", Str.ofString "LONGEST", Str.ofString "is_name", Str.ofString "MAX_NAMES"]
def topN2 : List (Str) := [Str.ofString "Condition", Str.ofString "_law_mix", Str.ofString "_law_next", Str.ofString "_law_alike", Str.ofString "_law_error", Str.ofString "_law_facts", Str.ofString "_law_due"]
def topN : List (Str) := topN0 ++ topN1 ++ topN2
def defs0 : List (Nat × Df) := [(0, ⟨.glo "is_name", "is_name", "is_name", s_f0_is_name⟩), (80, ⟨.meth "Condition" "__init__", "__init__", "Condition.__init__", s_f80_Condition___init__⟩), (15, ⟨.prop "Condition" "holding", "holding", "Condition.holding", s_f15_Condition_holding⟩), (16, ⟨.prop "Condition" "failing", "failing", "Condition.failing", s_f16_Condition_failing⟩), (17, ⟨.prop "Condition" "names", "names", "Condition.names", s_f17_Condition_names⟩), (74, ⟨.meth "Condition" "__len__", "__len__", "Condition.__len__", s_f74_Condition___len__⟩)]
def defs1 : List (Nat × Df) := [(31, ⟨.glo "_law_mix", "_law_mix", "_law_mix", s_f31__law_mix⟩), (32, ⟨.glo "_law_next", "_law_next", "_law_next", s_f32__law_next⟩), (33, ⟨.glo "_law_alike", "_law_alike", "_law_alike", s_f33__law_alike⟩), (76, ⟨.glo "_law_error", "_law_error", "_law_error", s_f76__law_error⟩), (77, ⟨.glo "_law_facts", "_law_facts", "_law_facts", s_f77__law_facts⟩), (78, ⟨.glo "_law_due", "_law_due", "_law_due", s_f78__law_due⟩)]
def defs2 : List (Nat × Df) := [(81, ⟨.glo "law", "law", "law", s_f81_law⟩)]
def defs : List (Nat × Df) := defs0 ++ defs1 ++ defs2
def fns (i : Nat) : Option Fn := match i with
  | 0 => some B.f0_is_name
  | 80 => some B.f80_Condition___init__
  | 15 => some B.f15_Condition_holding
  | 16 => some B.f16_Condition_failing
  | 17 => some B.f17_Condition_names
  | 74 => some B.f74_Condition___len__
  | 31 => some B.f31__law_mix
  | 32 => some B.f32__law_next
  | 33 => some B.f33__law_alike
  | 77 => some B.f77__law_facts
  | 78 => some B.f78__law_due
  | 81 => some B.f81_law
  | _ => none
/-- the suite of the def that tells errors -/
def su (c a : Nat) (d : Option Nat) : CSs := (.cons (.asg (.nm 2) (.lstL (.cons (.isx c a d 17 1) (.cons (.isx c a d 16 1) (.cons (.isx c a d 15 1) .nil))))) (.cons (.expr (.bm .extend (.var 2) (.cons (.lst (.cons (.isx c a d 1 1) (.cons (.isx c a d 14 1) (.cons (.isx c a d 13 1) .nil)))) .nil))) (.cons (.expr (.bm .extend (.var 2) (.cons (.lst (.cons (.isx c a d 12 1) (.cons (.isx c a d 11 1) (.cons (.isx c a d 10 1) .nil)))) .nil))) (.cons (.expr (.bm .extend (.var 2) (.cons (.lst (.cons (.isx c a d 9 1) (.cons (.isx c a d 8 1) (.cons (.isx c a d 7 1) .nil)))) .nil))) (.cons (.expr (.bm .extend (.var 2) (.cons (.lst (.cons (.isx c a d 6 1) (.cons (.isx c a d 5 1) (.cons (.isx c a d 4 1) .nil)))) .nil))) (.cons (.expr (.bm .extend (.var 2) (.cons (.lst (.cons (.isx c a d 3 1) (.cons (.isx c a d 2 1) .nil))) .nil))) (.cons (.ife (.or (.cmp .ne (.bm .count (.var 2) (.cons (.cst (.bl true)) .nil)) (.cst (.int 1))) (.not (.isx c a d 1000 1))) (.cons (.ret (.tup (.cons (.cst (.str "other")) .nil))) .nil) .nil) (.cons (.asg (.nm 3) (.lst (.cons (.cst (.str "facts")) (.cons (.cst (.str "case")) (.cons (.cst (.str "number")) (.cons (.cst (.str "condition")) (.cons (.cst (.str "never")) (.cons (.cst (.str "rule")) (.cons (.cst (.str "book")) (.cons (.cst (.str "norule")) (.cons (.cst (.str "ruling")) (.cons (.cst (.str "fact")) (.cons (.cst (.str "reason")) .nil))))))))))))) (.cons (.asg (.nm 4) (.idx (.bin .add (.var 3) (.lst (.cons (.cst (.str "many")) (.cons (.cst (.str "chance")) (.cons (.cst (.str "other")) (.cons (.cst (.str "neighbor")) (.cons (.cst (.str "nofacts")) (.cons (.cst (.str "known")) .nil)))))))) (.bm .index (.var 2) (.cons (.cst (.bl true)) .nil)))) (.cons (.ife (.cmp .isin (.var 4) (.tup (.cons (.cst (.str "facts")) (.cons (.cst (.str "case")) .nil)))) (.cons (.ret (.tup (.cons (.var 4) (.cons (.xat c a d 30 1) .nil)))) .nil) .nil) (.cons (.ife (.cmp .eq (.var 4) (.cst (.str "condition"))) (.cons (.ret (.tup (.cons (.var 4) (.cons (.xat c a d 38 1) (.cons (.xat c a d 30 1) .nil))))) .nil) .nil) (.cons (.ife (.cmp .eq (.var 4) (.cst (.str "book"))) (.cons (.ret (.tup (.cons (.var 4) (.cons (.xat c a d 40 1) (.cons (.xat c a d 30 1) .nil))))) .nil) .nil) (.cons (.ife (.cmp .isin (.var 4) (.tup (.cons (.cst (.str "rule")) (.cons (.cst (.str "chance")) .nil)))) (.cons (.ret (.tup (.cons (.var 4) (.cons (.ite (.cmp .eq (.var 4) (.cst (.str "rule"))) (.xat c a d 38 1) (.xat c a d 39 1)) .nil)))) .nil) .nil) (.cons (.ret (.tup (.cons (.var 4) .nil))) .nil))))))))))))))
/-- what it tells of an error -/
def errf (c : Nat) (vs : List MV) : Option MV := match c, vs with
  | 1, [v0, v1] => some (.tup [.str "condition", v0, v1])
  | _, _ => none
def pd : PD where
  prog := PySem.Challenge.pw_smallcourt_k02_conditions_validated
  nms := nms
  cls := [(2, "Condition")]
  lays := [(2, [8, 9])]
  frz := [2]
  props := [((2, 19), 15), ((2, 20), 16), ((2, 17), 17)]
  meths := [((2, 41), 74)]
  inits := [(2, 80)]
  callms := []
  defs := defs
  frees := frees
  cints := [("LONGEST", 8), ("MAX_NAMES", 8)]
  cstrs := [("LETTERS", "abcdefghijklmnopqrstuvwxyz")]
  excs := [(1, ⟨"InvalidCondition", [38, 30], inClass (top 6) 0⟩)]
  ctups := []
  lams := [(81, (Str.ofString "law") ++ (Str.ofString ".<locals>.") ++ (Str.ofString "<lambda>"))]
  err := errf
  court := "CourtError"
  errs := [1]
  xts := [(2, "AlreadyKnown"), (3, "NoFacts"), (4, "NoNeighbor"), (5, "OtherFacts"), (6, "InvalidChance"), (7, "TooMany"), (8, "NoReason"), (9, "UnknownFact"), (10, "InvalidRuling"), (11, "UnknownRule"), (12, "InvalidBook"), (13, "InvalidRule"), (14, "NeverMet"), (1, "InvalidCondition"), (15, "InvalidNumber"), (16, "InvalidCase"), (17, "InvalidFacts")]
  isxs := [((1, 2), false), ((1, 3), false), ((1, 4), false), ((1, 5), false), ((1, 6), false), ((1, 7), false), ((1, 8), false), ((1, 9), false), ((1, 10), false), ((1, 11), false), ((1, 12), false), ((1, 13), false), ((1, 14), false), ((1, 1), true), ((1, 15), false), ((1, 16), false), ((1, 17), false), ((1, 1000), true)]
theorem stat : pd.statB = true := by decide +kernel
abbrev nF : List Nat := [0, 80, 15, 16, 17, 74, 31, 32, 33, 76, 77, 78, 81]
end K02

/-! the head's run in two parts, so that each stays small -/
namespace SC
open PySem PySem.W PySem.Calls PyProof.Rows
section
variable (p : PD) (K : PySem.W.Frag)
def PD.okA : Bool :=
  p.cls.all (fun q => clsB p K q.1 q.2) && (He.eqO (PySem.W.specialIn K (.builtin "object.__class__") "__get__") (some (some (.builtin "getset_descriptor.__get__"))) && (decide (PySem.W.takesIn K (.builtin "object.__class__") = some true) &&
  (p.meths.all (methB p K) && (p.props.all (propB p K) && (p.inits.all (initB p K) && (p.callms.all (callB p K) && (p.cls.map (·.1)).all (isiB p K)))))))
def PD.okC : Bool :=
  (p.defs.all (fun q => gloB K q.2) && (p.cls.all (fun q => (He.Fa.glo q.2).ok K) && (p.frees.all (fun x => (He.Fa.free x).ok K) && (p.cints.all (fun q => (He.Fa.int q.1 q.2).ok K) && (p.cstrs.all (fun q => (He.Fa.str q.1 q.2).ok K) && (p.defs.all (fun q => Df.ok K q.2) && (p.excs.all (excB p K) && (p.ctups.all (tupB K) && p.okE K))))))))
theorem PD.okB_of (h1 : p.okA K = true) (h2 : p.okC K = true) : p.okB K = true := by
  unfold PD.okA at h1
  unfold PD.okC at h2
  unfold PD.okB
  simp only [Bool.and_eq_true] at h1 h2 ⊢
  obtain ⟨a1, a2, a3, a4, a5, a6, a7, a8⟩ := h1
  exact ⟨a1, a2, a3, a4, a5, a6, a7, a8, h2⟩
end
def obA (p : PD) (as : List Addr) (s : SharedT) : Bool := p.okA (He.frG (HandSHeadRun.getT s) as)
def obB (p : PD) (as : List Addr) (s : SharedT) : AlT := ((p.okC (He.frG (HandSHeadRun.getT s) as), p.defs.map fun q => fnV (He.frG (HandSHeadRun.getT s) as) q.2.at_, p.excs.map (xinV (He.frG (HandSHeadRun.getT s) as))), p.tabG (He.frG (HandSHeadRun.getT s) as) (HandSHeadRun.getT s))
def RunA (r : OpenRow) (q : Program) (p : PD) (as : List Addr) (M : Nat) (loose : List PySem.Str) (w : World) : Prop := ∀ os : OsState,
  (HandSHeadRun.endF (HandSHeadRun.stepQ (HandSHeadRun.denQ HandSHeadRun.tabQ) r.prog w) M r.prog w os).map (fun s => (HandSHeadRun.looksF r.prog (boot_heap w.params) s.abs, HandSHeadRun.seenQ q loose (importedModules r.prog.main.body) (fun s => xlAt q [] s && recOk r.toRowW.records s) s.abs, obA p as s)) = some (true, openGood q loose, true)
def RunB (r : OpenRow) (p : PD) (as : List Addr) (M : Nat) (w : World) : Prop := ∀ os : OsState,
  (HandSHeadRun.endF (HandSHeadRun.stepQ (HandSHeadRun.denQ HandSHeadRun.tabQ) r.prog w) M r.prog w os).map (obB p as) = some ((true, p.defs.map fun q => q.2.val, p.excs.map xinW), p.tabV)
theorem run_join {r : OpenRow} {q : Program} {p : PD} {as : List Addr} {M : Nat} {loose : List PySem.Str} {w : World} (h1 : RunA r q p as M loose w) (h2 : RunB r p as M w) :
    HandSHeadRun.RunEq r q (p.hook as) (fun s => p.obsG as (HandSHeadRun.getT s)) M loose w := by
  intro os
  have e1 := h1 os
  have e2 := h2 os
  cases e : HandSHeadRun.endF (HandSHeadRun.stepQ (HandSHeadRun.denQ HandSHeadRun.tabQ) r.prog w) M r.prog w os with
  | none => rw [e] at e2; cases e2
  | some s =>
    rw [e] at e1 e2
    have c1 := Option.some.inj e1
    have c3 : obB p as s = ((true, p.defs.map fun q => q.2.val, p.excs.map xinW), p.tabV) := Option.some.inj e2
    have c2 : (obB p as s).1 = (true, p.defs.map fun q => q.2.val, p.excs.map xinW) := congrArg Prod.fst c3
    have c4 : (obB p as s).2 = p.tabV := congrArg Prod.snd c3
    have a1 := congrArg Prod.fst c1
    have a2 := congrArg (fun z => z.2.1) c1
    have a3 : obA p as s = true := congrArg (fun z => z.2.2) c1
    have b1 : (obB p as s).1.1 = true := congrArg Prod.fst c2
    have b2 : (obB p as s).1.2 = (p.defs.map fun q => q.2.val, p.excs.map xinW) := congrArg Prod.snd c2
    exact congrArg some (Prod.ext a1 (Prod.ext a2 (Prod.ext (Prod.ext (p.okB_of _ a3 b1) b2) c4)))
end SC

set_option maxHeartbeats 0
namespace K02
open PySem PySem.W PySem.Calls PyProof.Rows
abbrev R : OpenRow := OpenLaw.row PySem.Challenge.rw_smallcourt_k02_conditions_validated
def ads0 : List Nat := [2, 3, 6, 4, 21, 31, 53, 74, 86, 107, 119, 140, 161, 173, 185, 197, 209, 221, 242, 254, 266, 278, 290, 297, 369, 380, 387, 392, 399, 406, 411, 418, 0, 20, 30, 52, 73, 85, 106, 118]
def ads1 : List Nat := [139, 160, 172, 184, 196, 208, 220, 241, 253, 265, 277, 289, 296, 368, 379, 386, 391, 398, 405, 410, 417, 15, 16, 17, 18, 19, 29, 32, 50, 51, 71, 72, 84, 104, 105, 117, 137, 138, 158, 159]
def ads2 : List Nat := [171, 183, 195, 207, 219, 239, 240, 252, 264, 276, 288, 293, 294, 295, 311, 319, 327, 335, 340, 347, 352, 359, 366, 367, 370, 371, 374, 375, 376, 377, 378, 381, 382, 383, 384, 385, 388, 389, 390, 393]
def ads3 : List Nat := [394, 395, 396, 397, 400, 401, 402, 403, 404, 407, 408, 409, 412, 414, 415, 416, 49, 38, 70, 59, 103, 92, 136, 125, 157, 146, 238, 227, 310, 318, 326, 334, 339, 346, 351, 358, 365, 44, 45, 46]
def ads4 : List Nat := [47, 48, 65, 66, 67, 68, 69, 98, 99, 100, 101, 102, 131, 132, 133, 134, 135, 152, 153, 154, 155, 156, 233, 234, 235, 236, 237, 305, 306, 307, 308, 309, 317, 325, 333, 336, 337, 338, 341, 342]
def ads5 : List Nat := [343, 344, 345, 348, 349, 350, 353, 354, 355, 356, 357, 360, 361, 362, 363, 364, 312, 313, 314, 315, 316, 320, 321, 322, 323, 324, 328, 329, 330, 331, 332]
def ads : List Nat := ads0 ++ (ads1 ++ (ads2 ++ (ads3 ++ (ads4 ++ (ads5)))))
abbrev hk : Hook := pd.hook ads
def ob (s : SharedT) : SC.AlT := pd.obsG ads (HandSHeadRun.getT s)
theorem ob_eq (s : SharedT) : ob s = hk.obs s.abs := SC.PD.obsG_eq (HandSHeadRun.getT_eq s)
theorem headA (w : World) : SC.RunA R (view R.prog [34]) pd ads 20000 topN w := by
  intro os
  kernel_rfl
theorem headB (w : World) : SC.RunB R pd ads 20000 w := by
  intro os
  kernel_rfl
theorem headrun (w : World) : HandSHeadRun.RunEq R (view R.prog [34]) hk ob 20000 topN w := SC.run_join (headA w) (headB w)
end K02

/-! tuples whose object is known to bear no dict of its own -/
namespace SC
open PySem PySem.Spec PyProof.Rows L2
/-- a new tuple's object -/
def TupO (H : Hp) (a : Addr) (xs : List V) : Prop := ∃ o : Obj, H a = some (.frz o (.tup xs)) ∧ o.dict = none ∧ o.cls = .type "tuple"
def TupD (K : PySem.W.Frag) (H : Hp) (a : Addr) (xs : List V) : Prop := TupO H a xs ∨
  ∃ (o : Obj) (its : Array Value) (n : Nat), K.lookup a = some o ∧ o.cls = .type "tuple" ∧ o.data = .seq its n ∧ its.size ≤ sizeLine ∧ Vals xs its.toList ∧ o.dict = none
theorem TupD.sq {K : PySem.W.Frag} {H : Hp} {a : Addr} {xs : List V} (h : TupD K H a xs) : SqT K H a xs := by
  rcases h with ⟨o, h, _⟩ | ⟨o, its, n, h1, h2, h3, h4, h5, _⟩
  · exact .inl (.inr ⟨o, h⟩)
  · exact .inr ⟨o, its, n, h1, h2, h3, h4, h5⟩
theorem TupD.sub {K : PySem.W.Frag} {H H' : Hp} {a : Addr} {xs : List V} (e : ∀ b o, H b = some o → H' b = some o) (h : TupD K H a xs) : TupD K H' a xs := by
  rcases h with ⟨o, h, r⟩ | h
  · exact .inl ⟨o, e _ _ h, r⟩
  · exact .inr h
abbrev newTup (us : List Value) : Obj := { cls := .type "tuple", data := .seq us.toArray }
section
variable {X : Cx}
/-- for every new tuple -/
def NewT (xs : List V) (H : Hp) (Q : VK) : Prop := ∀ p o, H p = none → o.dict = none → o.cls = .type "tuple" → Q (.ref p) (upd H p (.frz o (.tup xs)))
theorem laidT {pins : List (Addr × Obj)} {s : Shared} {σ : L2.St} {H : Hp} {xs : List V} {us : List Value} {t' : Nat} (I : L2.Inv X pins σ H s) (r : Vals xs us) (z : xs.length ≤ sizeLine) :
    L2.Inv X pins σ (upd H s.heap.objs.size (.frz (newTup us) (.tup xs))) { s with heap := s.heap.push (newTup us), toks := t' } :=
  I.laid (t' := t') (o := .frz (newTup us) (.tup xs)) (fun b u e => Heap.get?_push_of_some _ e) (Nat.le_refl _) ⟨Heap.get?_push_size _ rfl, z, us, r, ⟨_, Heap.get?_push_size _ rfl, rfl, _, rfl⟩⟩
theorem pe_tupF {es : List Expr} {t : TA} {x1 pos} (h : PA X es t) : PE X (.Tuple es x1 pos) (fun σ H Q => t σ H fun xs H1 => xs.length ≤ sizeLine ∧ NewT xs H1 Q) := by
  refine ⟨fun pins s σ H Q I hq => ?_⟩
  refine wpAny_Tuple_spliced (thn (h.run pos pins s σ H _ I hq) fun us s1 ⟨xs, H1, I1, r, z, q⟩ => ⟨by rw [← r.length]; exact z, ?_⟩)
  exact ⟨.ref s1.heap.objs.size, _, laidT (t' := s1.toks) I1 r z, rfl, q _ _ (I1.hok.fresh (Nat.le_refl _)) rfl rfl⟩
theorem cr_tupleF : CallR X (.type "tuple") (fun xs H Q => ∃ p ys, xs = [.ref p] ∧ ((SqL X.K H p ys ∧ NewT ys H Q) ∨ (SqT X.K H p ys ∧ Q (.ref p) H))) := by
  intro pins s σ H xs us Q I r h
  obtain ⟨p, ys, rfl, h⟩ := h
  obtain ⟨u, rfl, rx⟩ := vals1 r
  cases rx
  rcases h with ⟨hq, q⟩ | ⟨hq, q⟩
  · obtain ⟨its, r', pl, hz⟩ := I.list hq
    have hlen := r'.length
    refine call_tuple_list pl.isList (fun h' kp => ?_) (by simp only [List.size_toArray] <;> omega)
    have I1 : L2.Inv X pins σ H { s with heap := h' } := I.kept (t' := s.toks) kp
    exact ⟨.ref h'.objs.size, _, laidT (t' := s.toks) I1 r' hz, rfl, q _ _ (I1.hok.fresh (Nat.le_refl _)) rfl rfl⟩
  · obtain ⟨its, r', pl, hz⟩ := I.tuple hq
    exact call_tuple_same pl ⟨.ref p, H, I, rfl, q⟩
def rCatF (K : PySem.W.Frag) : R2 := fun x y H Q => ∃ a b xs ys, x = .ref a ∧ y = .ref b ∧ SqT K H a xs ∧ SqT K H b ys ∧ xs.length + ys.length ≤ sizeLine ∧
  (xs = [] → Q (.ref b) H) ∧ (xs ≠ [] → ys = [] → Q (.ref a) H) ∧ (xs ≠ [] → ys ≠ [] → NewT (xs ++ ys) H Q)
theorem op_catF : OpR X (binaryOp .Add) (rCatF X.K) := by
  intro pins s σ H x y v u Q I rx ry h
  obtain ⟨a, b, xs, ys, rfl, rfl, ha, hb, hz, q0, q1, q2⟩ := h
  cases rx
  cases ry
  obtain ⟨its, r1, p1, _⟩ := I.tuple ha
  obtain ⟨its2, r2, p2, _⟩ := I.tuple hb
  by_cases hx : xs = []
  · subst hx
    cases r1
    exact cat_tup0 p1 p2 ⟨.ref b, H, I, rfl, q0 rfl⟩
  · refine HT.cat_tup p1 p2 (fun z => hx (r1.nil_iff.mp z)) (fun z => ⟨.ref a, H, I, rfl, q1 hx (r2.nil_iff.mp z)⟩) (fun z => ?_) (by rw [← r1.length, ← r2.length]; exact hz)
    have e : its.toArray ++ its2.toArray = (its ++ its2).toArray := by simp
    exact ⟨.ref s.heap.objs.size, _, laidT (t' := s.toks) I (r1.append r2) (by rw [List.length_append]; exact hz), rfl, q2 hx (fun w => z (r2.nil_iff.mpr w)) _ _ (I.hok.fresh (Nat.le_refl _)) rfl rfl⟩
def rSlF (K : PySem.W.Frag) : V → Option Int → Option Int → Hp → VK → Prop := fun x lo hi H Q => ∃ a xs, x = .ref a ∧ SqT K H a xs ∧
  (HT.sIx xs.length 0 lo = 0 ∧ HT.sIx xs.length xs.length hi = xs.length → Q (.ref a) H) ∧ (¬ (HT.sIx xs.length 0 lo = 0 ∧ HT.sIx xs.length xs.length hi = xs.length) → NewT (cutV xs lo hi) H Q)
theorem sl_tupF : SlR X (rSlF X.K) := by
  intro pins s σ H x v vl vu lo hi sl Q I rx hs pl pu h
  obtain ⟨a, xs, rfl, hx, q1, q2⟩ := h
  cases rx
  obtain ⟨its, r, ht, hz⟩ := I.tuple hx
  have hlen : its.toArray.size = xs.length := by rw [List.size_toArray]; exact r.length.symm
  refine ⟨"tuple", _, PyProof.Rows.slot_tuple_getitem.lookup, ht.typeIs, ?_⟩
  by_cases hw : HT.sIx xs.length 0 lo = 0 ∧ HT.sIx xs.length xs.length hi = xs.length
  · exact getItem_tuple_whole ht hs pl pu (by rw [hlen]; exact hw) ⟨.ref a, H, I, rfl, q1 hw⟩
  · refine HT.getItem_tuple_cut ht hs pl pu (by rw [hlen]; exact hw) ?_ (by rw [hlen]; exact hz)
    rw [hlen]
    exact ⟨.ref s.heap.objs.size, _, laidT (t' := s.toks) I ((r.drop (HT.sIx xs.length 0 lo)).take (HT.sIx xs.length xs.length hi - HT.sIx xs.length 0 lo)) (Nat.le_trans (cutV_length xs lo hi) hz), rfl, q2 hw _ _ (I.hok.fresh (Nat.le_refl _)) rfl rfl⟩
/-- a method of a built-in type, by what is known of the receiver -/
def tyW (K : PySem.W.Frag) (T : String) (x : V) (H : Hp) : Prop := tyV K T x H ∨ (T = "tuple" ∧ ∃ p xs, x = .ref p ∧ TupD K H p xs)
theorem tyW_is {pins : List (Addr × Obj)} {σ : L2.St} {H : Hp} {s : Shared} {T : String} {x : V} {v : Value} (I : L2.Inv X pins σ H s) (r : L2.RelV x v) (ty : tyW X.K T x H) :
    s.TypeIs v T ∧ ∀ a, v = .ref a → ∃ ob, s.heap.get? a = some ob ∧ ob.dict = none := by
  rcases ty with ty | ⟨rfl, p, xs, rfl, h⟩
  · exact tyV_is I r ty
  · cases r
    rcases h with ⟨o, h, h2, h3⟩ | ⟨o, its, n, h1, h2, h3, h4, h5, h6⟩
    · obtain ⟨e, _⟩ := (show ObjOk X.prog X.w H s.heap p (.frz o (.tup xs)) from I.hok p _ h)
      exact ⟨⟨o, e, h3⟩, fun a z => by cases z; exact ⟨o, e, h2⟩⟩
    · exact ⟨⟨o, I.kIn p o h1, h2⟩, fun a z => by cases z; exact ⟨o, I.kIn _ o h1, h6⟩⟩
def tBW (K : PySem.W.Frag) (T : String) (r : V → List V → Hp → VK → Prop) (to : TE) (t : TA) : TE := fun σ H Q => to σ H fun x H1 => tyW K T x H1 ∧ t σ H1 fun xs H2 => r x xs H2 Q
theorem pe_bmW {T : String} {id : String} {name : Str} {o e : Expr} {es : List Expr} {r : V → List V → Hp → VK → Prop} {to : TE} {t : TA} {apos cpos : Pos} (pa : PlainAttrs T) (slot : Slot T name id) (hty : typeOf (.builtin id) = pure (.type "method_descriptor")) (hm : MtR X id r) (ho : PE X o to) (ha : PA X (e :: es) t)
    (hbase : attributeBase o name X.env (eval o X.env) = eval o X.env := by rfl)
    (hfew : ((backTo cpos (starEach (e :: es) X.env)).all (fun x => !x.1) && (backToKw cpos (keywordEach [] X.env)).all (fun x => x.1.isSome)
      && decide ((e :: es).length + ([] : List Keyword).length + (if ([] : List Keyword).isEmpty then 0 else 1) < 30)) = true := by rfl)
    (hline : (apos.endLine == cpos.line) = true := by rfl) (hs : starEach (e :: es) X.env = (false, eval e X.env) :: starEach es X.env := by rfl) (hplain : (backTo cpos (starEach es X.env)).any (·.1) = false := by rfl) :
    PE X (.Call (.Attribute o name apos) (e :: es) [] cpos) (tBW X.K T r to t) := by
  refine ⟨fun pins s σ H Q I h => ?_⟩
  refine wpAny_Call_method_late hbase hfew hline rfl (thn (ho.run pins s σ H _ I h) fun v s1 ⟨x, H1, I1, r1, ty, q1⟩ => ?_)
  obtain ⟨h1, h2⟩ := tyW_is I1 r1 ty
  refine ⟨T, id, pa, slot, hty, h1, h2, ?_⟩
  have hA := ha.run cpos pins s1 σ H1 _ I1 q1
  rw [hs] at hA ⊢
  refine Calls.callWith_builtin (by show (false || (backTo cpos (starEach es X.env)).any (·.1)) = false; rw [hplain] <;> rfl) (Calls.evalArgs_plain ?_)
  exact thn hA fun us s2 ⟨vs, H2, I2, r2, q2⟩ => hm pins s2 σ H2 x vs v us Q I2 r1 r2 q2
end
end SC

/-! sorted(t) of a tuple of texts -/
namespace SC
open PySem PySem.Spec PyProof.Rows L2
section
variable {prog : Program} {w : World} {A : Around} {E : Value → Shared → Prop} {s : Shared}
theorem collect_tup {l : Addr} {vs : List Value} {Q : List Value → Shared → Prop} (hl : IsTup s.heap l vs.toArray)
    (h : Q vs { s with heap := (s.heap.push (seqObj "list" #[] 0)).update s.heap.objs.size (Obj.mapSeq (· ++ vs.toArray)) }) (hsz : vs.length ≤ sizeLine) :
    wpAny (model prog w) A (collect (.ref l)) Q E s := by
  obtain ⟨o, ho, hc, n, hd⟩ := id hl
  unfold collect
  refine wpAny_bind (wpAny_runValue (codeAny_builtin entry_proto_collect' ?_))
  show wpAny _ _ (do again (.builtin "list.__iadd__" ⟨[← newList [], .ref l], []⟩)) _ _ s
  refine wpAny_bind (wpAny_newList (wpAny_pure ⟨Code.quiet_builtin _ (by decide +kernel), codeAny_builtin entry_list_iadd' ?_⟩))
  show wpAny _ _ (Builtin.List.listExtendWith (.ref s.heap.objs.size) (.ref l) (.ref s.heap.objs.size)) _ _ { s with heap := s.heap.push (seqObj "list" #[] 0) }
  unfold Builtin.List.listExtendWith
  have ho' : (s.heap.push (seqObj "list" #[] 0)).get? l = some o := Heap.get?_push_of_some _ ho
  refine wpAny_bind (wpAny_typeOf (T := "tuple") ⟨o, ho', hc⟩ ?_)
  have ht : (Value.type "tuple" == Value.type "tuple") = true := by rfl
  rw [if_pos (by rw [ht]; simp)]
  refine wpAny_bind (listItems_at ho' hd ?_)
  refine wpAny_bind (listItems_at (xs := #[]) (n := 0) (Heap.get?_push_size _ rfl) rfl ?_)
  rw [if_neg (by simp)]
  refine wpAny_bind (listUpdate_at (xs := #[]) (n := 0) (Heap.get?_push_size _ rfl) rfl ?_ (Nat.zero_le _) (by show (#[] ++ vs.toArray).size ≤ sizeLine + 1; simp only [Array.size_append, List.size_toArray, List.length_nil]; omega))
  refine wpAny_pure ?_
  show wpAny (model prog w) A (do
      let o ← load s.heap.objs.size
      match o.data with
      | .seq xs _ => pure xs.toList
      | _ => unsupported "internal:collect") Q E { s with heap := (s.heap.push (seqObj "list" #[] 0)).update s.heap.objs.size (Obj.mapSeq (· ++ vs.toArray)) }
  refine wpAny_bind (wpAny_load (get?_update_seq (Heap.get?_push_size _ rfl) _) ?_)
  show wpAny _ _ (pure ((#[] : Array Value) ++ vs.toArray).toList) Q E _
  rw [show ((#[] : Array Value) ++ vs.toArray).toList = vs by simp]
  exact wpAny_pure h
theorem sortedKT {κ : PyProof.Rows.KeyKind} (hO : κ.OneLt) {l : Addr} {vs : List Value} {Q : Value → Shared → Prop} (hl : IsTup s.heap l vs.toArray) (h0 : KeysOf κ (pairsOf vs)) (hkk : ∀ v₁ v₂ rest, vs = v₁ :: v₂ :: rest → keyKind' (v₁ :: v₂ :: rest).toArray = pure oneType') (h64 : vs.length < 64)
    (h : ∀ st' : SortSt, (arrOf st').Perm (pairsOf vs) → SortedToK κ (arrOf st') (pairsOf vs).size → Q (.ref (s.heap.objs.size + 1)) { s with heap := sortedAll s.heap vs ((arrOf st').map (·.2)) }) :
    wpAny (model prog w) A (call (.builtin "sorted") [.ref l]) Q E s := by
  refine Calls.call_function_entry kind_sorted plain_sorted entry_sorted (args_sorted1 _) ?_
  unfold Builtin.«sorted»
  refine wpAny_bind (m := checkCount "sorted" 1 1 _) (wpAny_pure ?_)
  refine wpAny_bind (collect_tup hl ?_ (by rw [sizeLine_eq]; omega))
  refine wpAny_bind (wpAny_newList ?_)
  have hsz : ((s.heap.push (seqObj "list" #[] 0)).update s.heap.objs.size (Obj.mapSeq (· ++ vs.toArray))).objs.size = s.heap.objs.size + 1 := by
    rw [Heap.size_update, size_push']
  have hoL : (((s.heap.push (seqObj "list" #[] 0)).update s.heap.objs.size (Obj.mapSeq (· ++ vs.toArray))).push (seqObj "list" vs.toArray 0)).get? (s.heap.objs.size + 1) = some (seqObj "list" vs.toArray 0) := by
    rw [← hsz]; exact Heap.get?_push_size _ rfl
  show wpAny _ _ _ _ _ { s with heap := ((s.heap.push (seqObj "list" #[] 0)).update s.heap.objs.size (Obj.mapSeq (· ++ vs.toArray))).push (seqObj "list" vs.toArray 0) }
  rw [hsz]
  refine wpAny_bind (wpAny_holding (wpAny_call_entry slot_list_sort ⟨_, hoL, rfl⟩ entry_list_sort (list_sort_treeK hO hoL h0 hkk h64 fun st' a1 a2 => ⟨_, rfl, ?_⟩) (args_list_sort _)))
  exact wpAny_pure ⟨_, rfl, h st' a1 a2⟩
theorem sorted_strsT {l : Addr} {vs : List Value} {ss : List Str} {Q : Value → Shared → Prop} (hl : IsTup s.heap l vs.toArray) (hS : StrsAre vs ss) (h64 : vs.length < 64)
    (h : ∀ (out : Array Value) (ss' : List Str), StrsAre out.toList ss' → ss'.Perm ss → sortedS ss' = true → Q (.ref (s.heap.objs.size + 1)) { s with heap := sortedAll s.heap vs out }) :
    wpAny (model prog w) A (call (.builtin "sorted") [.ref l]) Q E s := by
  refine sortedKT strKind_oneLt hl hS.keysOf (fun v₁ v₂ rest e => keyKind_strs (by rw [← e]; exact hS)) h64 fun st' hp hs => ?_
  obtain ⟨ss', h1, h2, h3⟩ := sorted_out_str hS hp hs
  exact h _ ss' h1 h2 h3
end
section
variable {X : Cx}
def rSortedT (K : PySem.W.Frag) : List V → Hp → VK → Prop := fun vs H Q => ∃ (a : Addr) (xs : List Str), vs = [V.ref a] ∧ SqT K H a (xs.map V.str) ∧ xs.length < 64 ∧
  ∀ (ys : List Str) (p : Addr), ys.Perm xs → sortedS ys = true → H p = none → Q (.ref p) (upd H p (.lst (ys.map V.str)))
theorem cr_sortedT : CallR X (.builtin "sorted") (rSortedT X.K) := by
  intro pins s σ H vs us Q I r h
  obtain ⟨a, xs, rfl, hs, h64, q⟩ := h
  obtain ⟨its, rv, hl, _⟩ := I.tuple hs
  rw [Vals.ref1 r]
  have hlen0 := rv.length
  rw [List.length_map] at hlen0
  refine sorted_strsT hl rv.strs (by rw [← hlen0]; exact h64) fun out ys h1 h2 h3 => ?_
  obtain ⟨ep, he'⟩ := PyProof.Rows.sortedAll_at s.heap its out
  have hlen : (ys.map V.str).length ≤ sizeLine := by rw [List.length_map, h2.length_eq]; exact small64 h64
  exact ⟨.ref _, upd H (s.heap.objs.size + 1) (.lst (ys.map V.str)), I.laid (t' := s.toks) (fun _ _ => PyProof.Rows.sortedAll_old) (Nat.le_succ _) ⟨hlen, out.toList, ep, vals_of_strs h1, he'⟩, rfl, q ys _ h2 h3 (I.hok.fresh (Nat.le_succ _))⟩
end
end SC

/-! enumerate(t) of a tuple -/
namespace PySem
open PyProof.Rows
theorem meets_enumerate_newT (l : Addr) (items : Array Value) (n : Nat) (dct : Option Addr) (sl : Array (Option Value)) :
    Meets (Builtin.«enumerate.__new__» ⟨[.type "enumerate", .ref l], []⟩) (fun _ R s => s.heap.get? l = some { cls := .type "tuple", dict := dct, data := .seq items n, slots := sl } ∧
      R (.ok (.ret (.ref (s.heap.push { cls := .type "tuple_iterator", data := .fields #[.ref l, .int 0 0] }).objs.size)))
        { s with heap := (s.heap.push { cls := .type "tuple_iterator", data := .fields #[.ref l, .int 0 0] }).push { cls := .type "enumerate", data := .fields #[.none, .bool false, .ref s.heap.objs.size, rawInt 0, .none, .none] } }) :=
  .of_wp fun prog w A R s h => by
    obtain ⟨hp, g, d, tk, os⟩ := s; obtain ⟨hl, h⟩ := h
    have hsub := sub_enumerate
    have hL : Heap.IsTuple (Shared.heap ⟨hp, g, d, tk, os⟩) l items := ⟨_, hl, rfl, n, rfl⟩
    wp_walk using wpAny_loadPart' hl
    refine wpAny_stack_any fun st => wpAny_pure ?_
    split
    · rename_i c _ _ _ _ _
      cases (c == Value.type "enumerate")
      · wp_walk using wpAny_loadPart' hl, wpAny_pyIter_tuple hL
        exact ⟨_, rfl, h⟩
      · wp_walk using wpAny_loadPart' hl, wpAny_pyIter_tuple hL
        exact ⟨_, rfl, h⟩
    · wp_walk using wpAny_loadPart' hl, wpAny_pyIter_tuple hL
      exact ⟨_, rfl, h⟩
section
variable {prog : Program} {w : World} {A : Around} {E : Value → Shared → Prop} {s : Shared}
theorem call_enumerate_tup {l : Addr} {items : Array Value} {Q : Value → Shared → Prop} (hL : s.heap.IsTuple l items)
    (h : ∀ h', IsEnum h' (s.heap.objs.size + 1) s.heap.objs.size 0 .none → h'.IsTupleIter s.heap.objs.size l 0 → h'.objs.size = s.heap.objs.size + 2 →
      (∀ b o, s.heap.get? b = some o → h'.get? b = some o) → Q (.ref (s.heap.objs.size + 1)) { s with heap := h' }) :
    wpAny (model prog w) A (call (.type "enumerate") [.ref l]) Q E s := by
  obtain ⟨⟨c, dct, dt, sl⟩, hl, hc, n, hd⟩ := hL
  replace hc : c = .type "tuple" := hc
  replace hd : dt = .seq items n := hd
  subst hc hd
  refine callType_new F.called_enumerate (by decide) (F.typeCall_enumerate_1 _) (F.newCall_enumerate_1 _) (fun obj => F.args_object_init_2 obj _) F.entry_enumerate_new
    (meets_enumerate_newT l items n dct sl) ⟨hl, ?_⟩
  have hz : (s.heap.push { cls := .type "tuple_iterator", data := .fields #[.ref l, .int 0 0] }).objs.size = s.heap.objs.size + 1 := Heap.size_push ..
  show _ ∧ _
  rw [hz]
  have he : IsEnum ((s.heap.push { cls := .type "tuple_iterator", data := .fields #[.ref l, .int 0 0] }).push
      { cls := .type "enumerate", data := .fields #[.none, .bool false, .ref s.heap.objs.size, rawInt 0, .none, .none] }) (s.heap.objs.size + 1) s.heap.objs.size 0 .none := by
    have := Heap.get?_push_size (s.heap.push { cls := .type "tuple_iterator", data := .fields #[.ref l, .int 0 0] })
      (o := { cls := .type "enumerate", data := .fields #[.none, .bool false, .ref s.heap.objs.size, rawInt 0, .none, .none] }) rfl
    rw [hz] at this; exact this
  refine ⟨⟨_, he, rfl⟩, h _ he ⟨_, Heap.get?_push_of_some _ (Heap.get?_push_size _ rfl), rfl, rfl⟩ (by rw [Heap.size_push, hz]) fun b o x => Heap.get?_push_of_some _ (Heap.get?_push_of_some _ x)⟩
theorem wpAny_pyNext_enum_endT {e it l : Addr} {i : Nat} {items : Array Value} {old : Value} {Q : Option Value → Shared → Prop} (hh : A.handled = none)
    (he : IsEnum s.heap e it i old) (hit : s.heap.IsTupleIter it l i) (hl : s.heap.IsTuple l items) (hx : items[i]? = none)
    (hQ : ∀ h', Heap.ExtBut it s.heap h' → Q none { s with heap := h' }) : wpAny (model prog w) A (pyNext (.ref e)) Q E s := by
  have hT : s.TypeIs (.ref e) "enumerate" := ⟨_, he, rfl⟩
  unfold pyNext
  refine wpAny_bind (wpAny_attempt (wpAny_callSpecial?_slot (name := Str.ofString "__next__") hT F.slot_enumerate_next
    (wpAny_call_entry F.slot_enumerate_next hT F.entry_enumerate_next ?_ (F.args_enumerate_next_1 _))))
  show wpAny _ _ (field (.ref e) 2 >>= _) _ _ _
  refine wpAny_bind (wpAny_field he rfl (x := .ref it) rfl ?_)
  refine wpAny_bind (wpAny_nextOf_tuple_end hh hit hl hx fun h' x he' hx' => ?_)
  obtain ⟨o, ho, hc⟩ := hx'
  refine wpAny_bind (wpAny_isInstance (T := "StopIteration") (b := true) ⟨o, ho, hc⟩ isSubtype_stop ?_)
  exact wpAny_pure (hQ _ he')
end
end PySem
namespace SC
open PySem PySem.Spec PyProof.Rows L2
def ItE (K : PySem.W.Frag) (a : Addr) : It :=
  ⟨fun i H => ∃ (xs : List V) (x : V), SqT K H a xs ∧ xs[i]? = some x, fun i H v H' => ∃ T x, v = .ref T ∧ H T = none ∧ H' = upd H T (.tup [.int (i : Nat), x]) ∧ ∀ xs, SqT K H a xs → xs[i]? = some x, fun i H => ∃ xs : List V, SqT K H a xs ∧ xs.length ≤ i⟩
theorem turn_enumT {P : Program} {w : World} {K : PySem.W.Frag} {elts : List Expr} {kk : Nat} {tpos : Pos} (a e it : Addr) :
    Turn P w K (.Tuple elts kk tpos) (ItE K a) [e, it] e (fun i h => (∃ old, IsEnum h e it ((i : Nat) : Int) old) ∧ h.IsTupleIter it a i ∧ e ≠ it ∧ a ≠ it ∧ e ≠ a) where
  mem := by simp
  obj := fun i h st b hb => by
    obtain ⟨⟨old, he⟩, ⟨o, ho, hc, hd⟩, _⟩ := st
    have e' : b = e ∨ b = it := by simpa using hb
    rcases e' with z | z
    · rw [z]; exact ⟨_, he, fun v q => nomatch q⟩
    · rw [z]; exact ⟨o, ho, fun v q => by rw [hd] at q; cases q⟩
  keep := fun i h h' st k => let ⟨⟨old, he⟩, hi, hne⟩ := st; ⟨⟨old, k e (by simp) _ he⟩, hi.at fun o q => k it (by simp) o q, hne⟩
  item := by
    intro X hP hw hK hc i pins s σ H E I hf st hg
    subst hP hw hK
    obtain ⟨⟨old, he⟩, hit, hne, hai, hea⟩ := st
    obtain ⟨xs, x, hq, hx⟩ := hg
    obtain ⟨its, rv, p, hz⟩ := I.tuple hq
    have hel : e < s.heap.objs.size := Heap.lt_size he
    have hil : it < s.heap.objs.size := by obtain ⟨_, q, _⟩ := hit; exact Heap.lt_size q
    have hi' : i < its.toArray.size := by
      rw [List.size_toArray, ← rv.length]
      exact (List.getElem?_eq_some_iff.mp hx).1
    refine wpAny_pyNext_enum_itemD (Draws.tuple (A := X.A.in1) (I.ok.hd hc) it a hai its.toArray) he ⟨hit, p⟩ hi' hne (by simp [hne, hea]) fun u h' tk hP ho st' hT hsz hk => ?_
    obtain ⟨u2, hu2, ru⟩ := rv.get hx
    have hu : u2 = u := by
      have : its.toArray[i]? = some u := hP
      rw [← Array.getElem?_toList] at this
      have : its[i]? = some u := by simpa using this
      rw [hu2] at this
      exact Option.some.inj this
    subst hu
    refine ⟨_, rfl, wpAny_letOwnedTupleGo_enum (s := { s with heap := h', toks := tk + 1 }) ho fun h'' he' sb => ?_⟩
    have hT2 : h''.get? s.heap.objs.size = some { cls := .type "tuple", data := .seq #[.int i tk, u2] } := (sb.2 _ (Nat.ne_of_gt hel)).trans hT
    have new : ObjOk X.prog X.w (upd H s.heap.objs.size (.tup [.int (i : Nat), x])) h'' s.heap.objs.size (.tup [.int (i : Nat), x]) :=
      ⟨by show 2 ≤ sizeLine; decide, [.int i tk, u2], .cons ⟨_, rfl⟩ (.cons ru .nil), ⟨_, hT2, rfl, _, rfl⟩⟩
    have I1 : L2.Inv X pins σ (upd H s.heap.objs.size (.tup [.int (i : Nat), x])) { s with heap := h'', toks := tk + 1 } :=
      I.turnedNew (ch := [e, it]) (fun b ob hb q => (sb.2 b (fun z => hb (by simp [z]))).trans (hk b ob (fun z => hb (by simp [z])) (fun z => hb (by simp [z])) q)) hf (Nat.le_refl _) new
    refine ⟨.ref s.heap.objs.size, _, I1, rfl, ⟨_, x, rfl, I.hok.fresh (Nat.le_refl _), rfl, fun ys hy => by rw [I.tuple_inj hy hq]; exact hx⟩, ⟨⟨u2, ?_⟩, st'.1.at fun o q => (sb.2 it (Ne.symm hne)).trans q, hne, hai, hea⟩, fun b hb => ?_⟩
    · have e1 : ((i + 1 : Nat) : Int) = (i : Int) + 1 := by omega
      rw [e1]; exact he'
    · have hb' : b < s.heap.objs.size := by
        have e' : b = e ∨ b = it := by simpa using hb
        rcases e' with z | z
        · rw [z]; exact hel
        · rw [z]; exact hil
      rw [upd_ne (Nat.ne_of_lt hb')]
      exact (hf b hb).1
  done := by
    intro X hP hw hK hc i pins s σ H E I hf st hg
    subst hP hw hK
    obtain ⟨⟨old, he⟩, hit, hne, hai, hea⟩ := st
    obtain ⟨xs, hq, hx⟩ := hg
    obtain ⟨its, rv, p, hz⟩ := I.tuple hq
    obtain ⟨f0, f1, f2, f3, f4, f5⟩ := hf it (by simp)
    have hl := rv.length
    exact wpAny_pyNext_enum_endT (I.ok.hd hc) he hit p (by simp; omega) fun h' eb => ⟨rfl, I.turned (t' := s.toks) (fun b o hb q => eb b o hb q) f0 f1 f3 f4 f5⟩
  self := fun A i s Q E st h => let ⟨⟨_, he⟩, _⟩ := st; wpAny_pyIter_enum he h
def iEnumT (K : PySem.W.Frag) (ta : TA) : TI := fun σ H R => ta σ H fun vs H1 => ∃ a xs, vs = [.ref a] ∧ SqT K H1 a xs ∧ R (ItE K a) H1
theorem pi_enumT {X : Cx} {e : Expr} {ta : TA} {p pos tpos : Pos} {elts : List Expr} {kk : Nat} (hg : Gl X "enumerate") (hm : X.mg "enumerate" = none) (ha : PA X [e] ta) (hs : starEach [e] X.env = [(false, eval e X.env)] := by rfl) :
    PI X (.Tuple elts kk tpos) (.Call (.Name "enumerate" p) [e] [] pos) (iEnumT X.K ta) := by
  refine ⟨fun pins s σ H R I h => ?_⟩
  refine Call_ (ld_blt I hg hm boot_enumerate (PyProof.Rows.callWith_type1 (thn (ha.run pos pins s σ H _ I h) fun us s1 ⟨vs, H1, I1, r1, q1⟩ => ?_) hs rfl))
  obtain ⟨a, xs, ex, hq, q⟩ := q1
  subst ex
  cases r1 with
  | cons r rr =>
    cases rr
    cases r
    obtain ⟨its, rv, p', hz⟩ := I1.tuple hq
    have hal : a < s1.heap.objs.size := by obtain ⟨_, q, _⟩ := p'; exact Heap.lt_size q
    refine call_enumerate_tup p' fun h' he hit hsz hk => wpAny_pyIter_enum he ?_
    have I2 : L2.Inv X pins σ H1 { s1 with heap := h' } := I1.kept (t' := s1.toks) hk
    refine ⟨s1.heap.objs.size + 1, [s1.heap.objs.size + 1, s1.heap.objs.size], _, _, H1, rfl, I2, turn_enumT a (s1.heap.objs.size + 1) s1.heap.objs.size, ⟨⟨.none, he⟩, hit, Nat.succ_ne_self _, Nat.ne_of_lt hal, Nat.ne_of_gt (Nat.lt_succ_of_lt hal)⟩, fun b hb => ?_, q⟩
    have e' : b = s1.heap.objs.size + 1 ∨ b = s1.heap.objs.size := by simpa using hb
    have hle : s1.heap.objs.size ≤ b := by
      rcases e' with z | z
      · rw [z]; exact Nat.le_add_right _ _
      · rw [z]; exact Nat.le_refl _
    exact I1.fpOk hle (I1.hok.fresh hle)
end SC

namespace SC
open PySem L2

/-- what the top has written of a class -/
structure ClsF (G : Gm) (c : Nat) : Prop where
  cl : Cls G.K (G.Cl c)
  ha : PySem.W.findIn G.K (.ref (G.Cl c)) "__class__" = some (some (.builtin "object.__class__"))
  hn : PySem.W.specialIn G.K (.builtin "object.__class__") "__get__" = some (some (.builtin "getset_descriptor.__get__"))
  htk : PySem.W.takesIn G.K (.builtin "object.__class__") = some true
  hm : PySem.W.mroIn G.K (G.Cl c) (.type "object") = some true
  inj : ∀ f g, f ∈ G.T.lay c → g ∈ G.T.lay c → G.nm f = G.nm g → f = g
  noat : ∀ f, f ∈ G.T.lay c → NoAttr G.K (G.Cl c) (G.nm f)
  meth : ∀ m g, G.T.meth c m = some g → Meth G.K (G.Cl c) (G.nm m) (G.fa g) ∧ ∀ f, f ∈ G.T.lay c → G.nm f ≠ G.nm m
  prop : ∀ f g, G.T.prop c f = some g → ∃ p, PropOf G.K (G.Cl c) (G.nm f) p (G.fa g)
  callm : ∀ g, G.T.callm c = some g → StX.CallO G.K (G.Cl c) (G.fa g)
  lt : c ∈ G.cs
  isT : ∀ n, n ∈ ["int", "bool", "str", "tuple", "list", "dict"] → PySem.W.kitOne G.K (.ref (G.Cl c)) (.type n) = some false

mutual
inductive RepV (G : Gm) (F : Hp) : MV → V → Prop
  | non : RepV G F .non .non
  | bl (b : Bool) : RepV G F (.bl b) (.bl b)
  | int (i : Int) : RepV G F (.int i) (.int i)
  | str (s : Str) : RepV G F (.str s) (.str s)
  | tup {a : Addr} {xs : List MV} {ws : List V} : TupD G.K F a ws → RepVs G F xs ws → RepV G F (.tup xs) (.ref a)
  | lst {a : Addr} {xs : List MV} {ws : List V} : F a = some (.lst ws) → RepVs G F xs ws → RepV G F (.lst xs) (.ref a)
  | scr {a : Addr} {xs : List MV} {ws : List V} : SqL G.K F a ws → RepVs G F xs ws → RepV G F (.scr xs) (.ref a)
  | ins {a : Addr} {c : Nat} {dx : Addr} {vs : List MV} {fs : List (Str × V)} : ClsF G c → F a = some (.ins (G.Cl c) dx fs) → fs.map (·.1) = (G.T.lay c).map G.nm → RepVs G F vs (fs.map (·.2)) → RepV G F (.ins c vs) (.ref a)
  | exo {a : Addr} {c : Nat} : RepV G F (.exo c a none []) (.ref a)
  | exod {a dd : Addr} {c : Nat} {vs : List MV} {fs : List (Str × V)} : F dd = some (.xd fs) → fs.map (·.1) = (G.T.xlay c).map G.nm → RepVs G F vs (fs.map (·.2)) → RepV G F (.exo c a (some dd) vs) (.ref a)
inductive RepVs (G : Gm) (F : Hp) : List MV → List V → Prop
  | nil : RepVs G F [] []
  | cons {x : MV} {v : V} {xs : List MV} {vs : List V} : RepV G F x v → RepVs G F xs vs → RepVs G F (x :: xs) (v :: vs)
end

/-- all that stands in F stands in F' -/
abbrev Sub (F F' : Hp) : Prop := ∀ a o, F a = some o → F' a = some o
theorem Sub.sqT {K : PySem.W.Frag} {H H' : Hp} {a : Addr} {xs : List V} (e : Sub H H') (h : SqT K H a xs) : SqT K H' a xs := by
  rcases h with (h | ⟨o, h⟩) | h
  · exact .inl (.inl (e _ _ h))
  · exact .inl (.inr ⟨o, e _ _ h⟩)
  · exact .inr h
theorem Sub.sqL {K : PySem.W.Frag} {H H' : Hp} {a : Addr} {xs : List V} (e : Sub H H') (h : SqL K H a xs) : SqL K H' a xs := by
  rcases h with (h | ⟨o, h⟩) | h
  · exact .inl (.inl (e _ _ h))
  · exact .inl (.inr ⟨o, e _ _ h⟩)
  · exact .inr h
mutual
theorem RepV.mono {G : Gm} {F F' : Hp} (s : Sub F F') : ∀ {x : MV} {v : V}, RepV G F x v → RepV G F' x v
  | _, _, .non => .non
  | _, _, .bl b => .bl b
  | _, _, .int b => .int b
  | _, _, .str b => .str b
  | _, _, .tup h r => .tup (h.sub s) (r.mono s)
  | _, _, .lst h r => .lst (s _ _ h) (r.mono s)
  | _, _, .scr h r => .scr (s.sqL h) (r.mono s)
  | _, _, .ins k h e r => .ins k (s _ _ h) e (r.mono s)
  | _, _, .exo => .exo
  | _, _, .exod h e r => .exod (s _ _ h) e (r.mono s)
theorem RepVs.mono {G : Gm} {F F' : Hp} (s : Sub F F') : ∀ {x : List MV} {v : List V}, RepVs G F x v → RepVs G F' x v
  | _, _, .nil => .nil
  | _, _, .cons h r => .cons (h.mono s) (r.mono s)
end

structure Wd where
  p : Nat → Addr
  F : Hp
  h : MH
  H : Hp

inductive RepL (G : Gm) (w : Wd) : LV → V → Prop
  | v {x : MV} {y : V} : RepV G w.F x y → RepL G w (.v x) y
  | r {n : Nat} : n < w.h.length → RepL G w (.r n) (.ref (w.p n))
inductive RepLs (G : Gm) (w : Wd) : List LV → List V → Prop
  | nil : RepLs G w [] []
  | cons {x : LV} {v : V} {xs : List LV} {vs : List V} : RepL G w x v → RepLs G w xs vs → RepLs G w (x :: xs) (v :: vs)

def CellR (G : Gm) (w : Wd) (a : Addr) : MO → HO → Prop
  | .dead, _ => True
  | .lst xs, o => ∃ ws, o = .lst ws ∧ RepLs G w xs ws ∧ w.F a = none
  | .ins c fs, o => ∃ dx fs', o = .ins (G.Cl c) dx fs' ∧ fs'.map (·.1) = (fs.map (·.1)).map G.nm ∧ RepLs G w (fs.map (·.2)) (fs'.map (·.2)) ∧ w.F a = none ∧ ClsF G c ∧ ∀ p ∈ fs, p.1 ∈ G.T.lay c

/-- a table of code objects, and those that it tells -/
structure TabOk (w : Wd) (P : Addr) (q : Str) : Prop where
  tbl : ∃ ps : Array Value, w.H P = some (.tbl ps) ∧ TriplesOk ps.toList ∧ ∀ (pos : Pos) (cv : Value), codeAmong pos ps.toList = some cv → ∃ c, cv = .ref c ∧ w.F c = some (LamX.CodeO c q)
  out : ∀ n, n < w.h.length → w.p n ≠ P
  free : w.F P = none
theorem TabOk.step {w w' : Wd} {P : Addr} {q : Str} (t : TabOk w P q) (hH : w'.H P = w.H P) (hF : Sub w.F w'.F) (hp : ∀ n, n < w'.h.length → w'.p n ≠ P) (hf : w'.F P = none) : TabOk w' P q where
  tbl := by
    obtain ⟨ps, a, b, c⟩ := t.tbl
    refine ⟨ps, hH.trans a, b, fun pos cv e => ?_⟩
    obtain ⟨c0, e1, e2⟩ := c pos cv e
    exact ⟨c0, e1, hF _ _ e2⟩
  out := hp
  free := hf
theorem TabOk.ne {w : Wd} {P : Addr} {q : Str} (t : TabOk w P q) {a : Addr} (h : w.H a = none) : P ≠ a := by
  obtain ⟨ps, e, _⟩ := t.tbl
  exact ne_of_none e h
structure Wd.Ok (G : Gm) (w : Wd) : Prop where
  le : Sub w.F w.H
  cell : ∀ n o, w.h[n]? = some o → ∃ o', w.H (w.p n) = some o' ∧ CellR G w (w.p n) o o'
  inj : ∀ n m, n < w.h.length → m < w.h.length → w.p n = w.p m → n = m
  tabs : ∀ p ∈ G.tabs, TabOk w p.1 p.2

structure Ext (w w' : Wd) : Prop where
  len : w.h.length ≤ w'.h.length
  phi : ∀ n, n < w.h.length → w'.p n = w.p n
  mono : Sub w.F w'.F
  frame : ∀ a o, w.H a = some o → (∀ n, n < w.h.length → w.p n ≠ a) → (∀ ps, o ≠ .tbl ps) → w'.H a = some o
  tk : ∀ a ps, w.H a = some (.tbl ps) → (∀ n, n < w.h.length → w.p n ≠ a) → ∃ ps', w'.H a = some (.tbl ps')
  newF : ∀ a o, w'.F a = some o → w.F a = some o ∨ w.H a = none ∨ ∃ n, n < w.h.length ∧ w.p n = a
  newP : ∀ n, w.h.length ≤ n → n < w'.h.length → w.H (w'.p n) = none
  keep : ∀ n, n < w.h.length → ∃ o, w'.H (w.p n) = some o

theorem Wd.Ok.there {G : Gm} {w : Wd} (k : w.Ok G) : ∀ n, n < w.h.length → ∃ o, w.H (w.p n) = some o := fun n hn => by
  obtain ⟨o', e, _⟩ := k.cell n _ (List.getElem?_eq_getElem hn)
  exact ⟨o', e⟩
theorem Ext.refl {G : Gm} {w : Wd} (k : w.Ok G) : Ext w w := ⟨Nat.le_refl _, fun _ _ => rfl, fun _ _ h => h, fun _ _ h _ _ => h, fun _ ps h _ => ⟨ps, h⟩, fun _ _ h => .inl h, fun n h1 h2 => absurd h2 (Nat.not_lt.mpr h1), k.there⟩
/-- what stands stays, in some form -/
theorem Ext.stand {w w' : Wd} (e : Ext w w') {a : Addr} {o : HO} (h : w.H a = some o) (hn : ∀ n, n < w.h.length → w.p n ≠ a) : ∃ o', w'.H a = some o' := by
  by_cases hx : ∃ ps, o = .tbl ps
  · obtain ⟨ps, rfl⟩ := hx
    obtain ⟨ps', q⟩ := e.tk a ps h hn
    exact ⟨_, q⟩
  · exact ⟨o, e.frame a o h hn fun ps z => hx ⟨ps, z⟩⟩
theorem Ext.out {w w1 : Wd} (a : Ext w w1) {c : Addr} {o : HO} (h : w.H c = some o) (hn : ∀ n, n < w.h.length → w.p n ≠ c) : ∀ n, n < w1.h.length → w1.p n ≠ c := fun n hl e => by
  by_cases hw : n < w.h.length
  · rw [a.phi n hw] at e; exact hn n hw e
  · have z := a.newP n (Nat.le_of_not_lt hw) hl
    rw [e, h] at z; cases z
theorem Ext.trans {w w1 w2 : Wd} (a : Ext w w1) (b : Ext w1 w2) : Ext w w2 where
  len := Nat.le_trans a.len b.len
  phi := fun n hn => by rw [b.phi n (Nat.lt_of_lt_of_le hn a.len), a.phi n hn]
  mono := fun c o h => b.mono c o (a.mono c o h)
  frame := fun c o h hn ht => b.frame c o (a.frame c o h hn ht) (a.out h hn) ht
  tk := fun c ps h hn => by
    obtain ⟨ps', q⟩ := a.tk c ps h hn
    exact b.tk c ps' q (a.out h hn)
  newF := fun c o h => by
    rcases b.newF c o h with h1 | h1 | ⟨n, hn, e⟩
    · exact a.newF c o h1
    · cases q : w.H c with
      | none => exact .inr (.inl rfl)
      | some o' =>
        by_cases hx : ∃ n, n < w.h.length ∧ w.p n = c
        · exact .inr (.inr hx)
        · obtain ⟨o2, z⟩ := a.stand q (fun n hn e => hx ⟨n, hn, e⟩)
          rw [h1] at z; cases z
    · by_cases hw : n < w.h.length
      · rw [a.phi n hw] at e; exact .inr (.inr ⟨n, hw, e⟩)
      · have z := a.newP n (Nat.le_of_not_lt hw) hn
        rw [e] at z; exact .inr (.inl z)
  newP := fun n h1 h2 => by
    by_cases hw : n < w1.h.length
    · rw [b.phi n hw]; exact a.newP n h1 hw
    · have z := b.newP n (Nat.le_of_not_lt hw) h2
      cases q : w.H (w2.p n) with
      | none => rfl
      | some o' =>
        by_cases hx : ∃ m, m < w.h.length ∧ w.p m = w2.p n
        · obtain ⟨m, hm, e⟩ := hx
          obtain ⟨o2, z2⟩ := a.keep m hm
          rw [e, z] at z2; cases z2
        · obtain ⟨o2, z'⟩ := a.stand q (fun n hn e => hx ⟨n, hn, e⟩)
          rw [z] at z'; cases z'
  keep := fun n hn => by
    have z := b.keep n (Nat.lt_of_lt_of_le hn a.len)
    rw [a.phi n hn] at z
    exact z

theorem RepL.ext {G : Gm} {w w' : Wd} (e : Ext w w') {x : LV} {v : V} (h : RepL G w x v) : RepL G w' x v := by
  cases h with
  | v h => exact .v (h.mono e.mono)
  | r h => rw [← e.phi _ h]; exact .r (Nat.lt_of_lt_of_le h e.len)
theorem RepLs.ext {G : Gm} {w w' : Wd} (e : Ext w w') : ∀ {x : List LV} {v : List V}, RepLs G w x v → RepLs G w' x v
  | _, _, .nil => .nil
  | _, _, .cons h r => .cons (h.ext e) (RepLs.ext e r)

/-- what is wanted of an outcome -/
def ExcR (G : Gm) (w : Wd) (c : Nat) (fs : List (Nat × MV)) (cls : Value) (d : Option Addr) : Prop :=
  cls = .ref (G.Xc c) ∧ (fs = [] → d = none) ∧ (fs ≠ [] → ∃ dd fs', d = some dd ∧ w.F dd = some (.xd fs') ∧ fs'.map (·.1) = (fs.map (·.1)).map G.nm ∧ RepVs G w.F (fs.map (·.2)) (fs'.map (·.2)))
def Good (G : Gm) {α β : Type} (R : Wd → α → β → Prop) (E : XK) (w : Wd) (Q : β → Hp → Prop) : Out α → Prop
  | .ok x h => ∀ w', Ext w w' → w'.Ok G → w'.h = h → ∀ v, R w' x v → Q v w'.H
  | .exc c fs h => ∀ w', Ext w w' → w'.Ok G → w'.h = h → ∀ cls d, ExcR G w' c fs cls d → E cls d w'.H
  | .bad => False

section
variable {G : Gm} {α β γ δ : Type} {R : Wd → α → β → Prop} {R1 : Wd → γ → δ → Prop} {E : XK} {w : Wd}
theorem Good.mono {Q Q' : β → Hp → Prop} {o : Out α} (h : Good G R E w Q o) (k : ∀ b H, Q b H → Q' b H) : Good G R E w Q' o := by
  cases o with
  | ok x h' => exact fun w' e ok eh v r => k _ _ (h w' e ok eh v r)
  | exc c fs h' => exact h
  | bad => exact h
theorem Good.from {Q : β → Hp → Prop} {o : Out α} {w' : Wd} (e : Ext w w') (h : Good G R E w Q o) : Good G R E w' Q o := by
  cases o with
  | ok x h' => exact fun w2 e2 => h w2 (e.trans e2)
  | exc c fs h' => exact fun w2 e2 => h w2 (e.trans e2)
  | bad => exact h
/-- what remains behind the first part -/
def Then (G : Gm) (R1 : Wd → γ → δ → Prop) (R : Wd → α → β → Prop) (E : XK) (w : Wd) (Q : β → Hp → Prop) (o : Out γ) (f : γ → MH → Out α) (b : δ) (H1 : Hp) : Prop :=
  ∃ w' a, Ext w w' ∧ w'.Ok G ∧ w'.H = H1 ∧ R1 w' a b ∧ o = .ok a w'.h ∧ Good G R E w' Q (f a w'.h)
theorem Good.bind {Q : β → Hp → Prop} {o : Out γ} {f : γ → MH → Out α} (h : Good G R E w Q (o.bind f)) : Good G R1 E w (Then G R1 R E w Q o f) o := by
  cases o with
  | ok x h' =>
    intro w' e ok eh v r
    subst eh
    exact ⟨w', x, e, ok, rfl, r, rfl, Good.from e h⟩
  | exc c fs h' => exact h
  | bad => exact h
theorem Good.ok {Q : β → Hp → Prop} {x : α} {v : β} (k : w.Ok G) (r : R w x v) (h : Good G R E w Q (.ok x w.h)) : Q v w.H := h w (Ext.refl k) k rfl v r
end

/-! ### environments -/
def RepE (G : Gm) (w : Wd) (r : ME) (σ : St) : Prop := r.length = σ.length ∧ ∀ (i : Nat) (l : LV), r[i]? = some (some l) → ∃ x, σ[i]? = some (some x) ∧ RepL G w l x
theorem RepE.ext {G : Gm} {w w' : Wd} (e : Ext w w') {r : ME} {σ : St} (h : RepE G w r σ) : RepE G w' r σ := ⟨h.1, fun i l q => let ⟨x, a, b⟩ := h.2 i l q; ⟨x, a, b.ext e⟩⟩
theorem RepE.set {G : Gm} {w : Wd} {r : ME} {σ : St} (h : RepE G w r σ) {i : Nat} {l : LV} {x : V} (hl : RepL G w l x) : RepE G w (r.set i (some l)) (σ.set i (some x)) := by
  refine ⟨by simp [h.1], fun j m q => ?_⟩
  by_cases hj : i = j
  · subst hj
    by_cases hi : i < r.length
    · rw [List.getElem?_set_self hi] at q
      cases q
      exact ⟨x, List.getElem?_set_self (h.1 ▸ hi), hl⟩
    · rw [List.getElem?_eq_none (by simp; omega)] at q; cases q
  · rw [List.getElem?_set_ne hj] at q
    rw [List.getElem?_set_ne hj]
    exact h.2 j m q

/-! ### transformers -/
def tM (G : Gm) (E : XK) (m : ME → MH → Out LV) : TE := fun σ H Q => ∃ w r, w.H = H ∧ w.Ok G ∧ RepE G w r σ ∧ Good G (RepL G) E w Q (m r w.h)
def tMs (G : Gm) (E : XK) (m : ME → MH → Out (List LV)) : TA := fun σ H Q => ∃ w r, w.H = H ∧ w.Ok G ∧ RepE G w r σ ∧ Good G (RepLs G) E w Q (m r w.h)
def RB (G : Gm) (w : Wd) (x : LV) (b : Bool) : Prop := x = .v (.bl b)
def tMb (G : Gm) (E : XK) (m : ME → MH → Out LV) : TT := fun σ H Q => ∃ w r, w.H = H ∧ w.Ok G ∧ RepE G w r σ ∧ Good G (RB G) E w Q (m r w.h) ∧ (∀ x h, m r w.h = .ok x h → ∃ b, x = .v (.bl b))
def GoodS (G : Gm) (E : XK) (w : Wd) (D : Ends) : OutS → Prop
  | .nxt r h => ∀ w', Ext w w' → w'.Ok G → w'.h = h → ∀ σ, RepE G w' r σ → D.nx σ w'.H
  | .brk r h => ∀ w', Ext w w' → w'.Ok G → w'.h = h → ∀ σ, RepE G w' r σ → D.bk σ w'.H
  | .cnt r h => ∀ w', Ext w w' → w'.Ok G → w'.h = h → ∀ σ, RepE G w' r σ → D.ct σ w'.H
  | .ret x h => ∀ w', Ext w w' → w'.Ok G → w'.h = h → ∀ v, RepL G w' x v → D.rt v w'.H
  | .exc c fs h => ∀ w', Ext w w' → w'.Ok G → w'.h = h → ∀ cls d, ExcR G w' c fs cls d → E cls d w'.H
  | .bad => False
def tMS (G : Gm) (E : XK) (m : ME → MH → OutS) : TS := fun D σ H => ∃ w r, w.H = H ∧ w.Ok G ∧ RepE G w r σ ∧ GoodS G E w D (m r w.h)
theorem GoodS.from {G : Gm} {E : XK} {w w' : Wd} {D : Ends} {o : OutS} (e : Ext w w') (h : GoodS G E w D o) : GoodS G E w' D o := by
  cases o with
  | bad => exact h
  | _ => exact fun w2 e2 => h w2 (e.trans e2)

theorem PE.weaken {X : Cx} {e : Expr} {t t' : TE} (h : PE X e t) (k : ∀ σ H Q, t' σ H Q → t σ H Q) : PE X e t' := ⟨fun pins s σ H Q I q => h.run pins s σ H Q I (k σ H Q q)⟩
theorem PT.weaken {X : Cx} {e : Expr} {t t' : TT} (h : PT X e t) (k : ∀ σ H Q, t' σ H Q → t σ H Q) : PT X e t' := ⟨fun pins s σ H Q I q => h.run pins s σ H Q I (k σ H Q q)⟩
theorem PA.weaken {X : Cx} {e : List Expr} {t t' : TA} (h : PA X e t) (k : ∀ σ H Q, t' σ H Q → t σ H Q) : PA X e t' := ⟨fun pos pins s σ H Q I q => h.run pos pins s σ H Q I (k σ H Q q)⟩
theorem PS.weaken {X : Cx} {e : Stmt} {t t' : TS} (h : PS X e t) (k : ∀ D σ H, t' D σ H → t D σ H) : PS X e t' := ⟨fun pins s σ H D I q => h.run pins s σ H D I (k D σ H q)⟩
theorem PSs.weaken {X : Cx} {e : List Stmt} {t t' : TS} (h : PSs X e t) (k : ∀ D σ H, t' D σ H → t D σ H) : PSs X e t' := ⟨fun pins s σ H D I q => h.run pins s σ H D I (k D σ H q)⟩
end SC

namespace SC
open PySem L2

/-! ### lists of values -/
theorem RepVs.length {G : Gm} {F : Hp} : ∀ {x : List MV} {v : List V}, RepVs G F x v → x.length = v.length
  | _, _, .nil => rfl
  | _, _, .cons _ r => by simp [RepVs.length r]
theorem RepLs.length {G : Gm} {w : Wd} : ∀ {x : List LV} {v : List V}, RepLs G w x v → x.length = v.length
  | _, _, .nil => rfl
  | _, _, .cons _ r => by simp [RepLs.length r]
theorem RepVs.append {G : Gm} {F : Hp} : ∀ {x y : List MV} {v u : List V}, RepVs G F x v → RepVs G F y u → RepVs G F (x ++ y) (v ++ u)
  | _, _, _, _, .nil, s => s
  | _, _, _, _, .cons h r, s => .cons h (r.append s)
theorem RepLs.append {G : Gm} {w : Wd} : ∀ {x y : List LV} {v u : List V}, RepLs G w x v → RepLs G w y u → RepLs G w (x ++ y) (v ++ u)
  | _, _, _, _, .nil, s => s
  | _, _, _, _, .cons h r, s => .cons h (r.append s)
theorem RepVs.toL {G : Gm} {w : Wd} : ∀ {x : List MV} {v : List V}, RepVs G w.F x v → RepLs G w (x.map .v) v
  | _, _, .nil => .nil
  | _, _, .cons h r => .cons (.v h) r.toL
theorem RepLs.pure {G : Gm} {w : Wd} : ∀ {x : List LV} {v : List V} {y : List MV}, RepLs G w x v → pures x = some y → RepVs G w.F y v
  | _, _, _, .nil, e => by simp only [pures, Option.some.injEq] at e; subst e; exact .nil
  | _, _, _, .cons (.v h) r, e => by
    simp only [pures, Option.map_eq_some_iff] at e
    obtain ⟨ys, e, rfl⟩ := e
    exact .cons h (r.pure e)
  | _, _, _, .cons (.r h) r, e => by simp [pures] at e
theorem RepLs.get {G : Gm} {w : Wd} : ∀ {x : List LV} {v : List V} {i : Nat} {a : LV}, RepLs G w x v → x[i]? = some a → ∃ u, v[i]? = some u ∧ RepL G w a u
  | _, _, _, _, .nil, e => by simp at e
  | _, _, 0, _, .cons h r, e => by simp at e; subst e; exact ⟨_, rfl, h⟩
  | _, _, i + 1, _, .cons h r, e => by simpa using r.get (i := i) (by simpa using e)
theorem RepVs.get {G : Gm} {F : Hp} : ∀ {x : List MV} {v : List V} {i : Nat} {a : MV}, RepVs G F x v → x[i]? = some a → ∃ u, v[i]? = some u ∧ RepV G F a u
  | _, _, _, _, .nil, e => by simp at e
  | _, _, 0, _, .cons h r, e => by simp at e; subst e; exact ⟨_, rfl, h⟩
  | _, _, i + 1, _, .cons h r, e => by simpa using r.get (i := i) (by simpa using e)
theorem RepLs.set {G : Gm} {w : Wd} {a : LV} {u : V} (q : RepL G w a u) : ∀ {x : List LV} {v : List V} (i : Nat), RepLs G w x v → RepLs G w (x.set i a) (v.set i u)
  | _, _, _, .nil => .nil
  | _, _, 0, .cons h r => .cons q r
  | _, _, i + 1, .cons h r => .cons h (r.set q i)
theorem RepLs.take {G : Gm} {w : Wd} : ∀ {x : List LV} {v : List V} (i : Nat), RepLs G w x v → RepLs G w (x.take i) (v.take i)
  | _, _, _, .nil => by simp; exact .nil
  | _, _, 0, .cons h r => .nil
  | _, _, i + 1, .cons h r => .cons h (r.take i)
theorem RepLs.drop {G : Gm} {w : Wd} : ∀ {x : List LV} {v : List V} (i : Nat), RepLs G w x v → RepLs G w (x.drop i) (v.drop i)
  | _, _, _, .nil => by simp; exact .nil
  | _, _, 0, .cons h r => .cons h r
  | _, _, i + 1, .cons h r => r.drop i
theorem RepVs.take {G : Gm} {F : Hp} : ∀ {x : List MV} {v : List V} (i : Nat), RepVs G F x v → RepVs G F (x.take i) (v.take i)
  | _, _, _, .nil => by simp; exact .nil
  | _, _, 0, .cons h r => .nil
  | _, _, i + 1, .cons h r => .cons h (r.take i)
theorem RepVs.drop {G : Gm} {F : Hp} : ∀ {x : List MV} {v : List V} (i : Nat), RepVs G F x v → RepVs G F (x.drop i) (v.drop i)
  | _, _, _, .nil => by simp; exact .nil
  | _, _, 0, .cons h r => .cons h r
  | _, _, i + 1, .cons h r => r.drop i
theorem RepLs.erase {G : Gm} {w : Wd} : ∀ {x : List LV} {v : List V} (i : Nat), RepLs G w x v → RepLs G w (x.eraseIdx i) (v.eraseIdx i)
  | _, _, _, .nil => by simp; exact .nil
  | _, _, 0, .cons h r => r
  | _, _, i + 1, .cons h r => .cons h (r.erase i)
theorem RepLs.dropLast {G : Gm} {w : Wd} {x : List LV} {v : List V} (h : RepLs G w x v) : RepLs G w x.dropLast v.dropLast := by
  rw [List.dropLast_eq_take, List.dropLast_eq_take, ← h.length]
  exact h.take _
theorem strs_rep {G : Gm} {w : Wd} : ∀ {x : List LV} {v : List V} {ys : List Str}, RepLs G w x v → strsL x = some ys → v = ys.map V.str
  | _, _, _, .nil, e => by simp only [strsL, Option.some.injEq] at e; subst e; rfl
  | _, _, _, .cons (.v (.str s)) r, e => by
    simp only [strsL, Option.map_eq_some_iff] at e
    obtain ⟨zs, e, rfl⟩ := e
    rw [strs_rep r e]; rfl
  | _, _, _, .cons (.v .non) r, e => by simp [strsL] at e
  | _, _, _, .cons (.v (.bl _)) r, e => by simp [strsL] at e
  | _, _, _, .cons (.v (.int _)) r, e => by simp [strsL] at e
  | _, _, _, .cons (.v (.tup _ _)) r, e => by simp [strsL] at e
  | _, _, _, .cons (.v (.lst _ _)) r, e => by simp [strsL] at e
  | _, _, _, .cons (.v (.scr _ _)) r, e => by simp [strsL] at e
  | _, _, _, .cons (.v (.ins _ _ _ _)) r, e => by simp [strsL] at e
  | _, _, _, .cons (.r h) r, e => by simp [strsL] at e
theorem ints_rep {G : Gm} {w : Wd} : ∀ {x : List LV} {v : List V} {ys : List Int}, RepLs G w x v → intsL x = some ys → v = ys.map V.int
  | _, _, _, .nil, e => by simp only [intsL, Option.some.injEq] at e; subst e; rfl
  | _, _, _, .cons (.v (.int s)) r, e => by
    simp only [intsL, Option.map_eq_some_iff] at e
    obtain ⟨zs, e, rfl⟩ := e
    rw [ints_rep r e]; rfl
  | _, _, _, .cons (.v .non) r, e => by simp [intsL] at e
  | _, _, _, .cons (.v (.bl _)) r, e => by simp [intsL] at e
  | _, _, _, .cons (.v (.str _)) r, e => by simp [intsL] at e
  | _, _, _, .cons (.v (.tup _ _)) r, e => by simp [intsL] at e
  | _, _, _, .cons (.v (.lst _ _)) r, e => by simp [intsL] at e
  | _, _, _, .cons (.v (.scr _ _)) r, e => by simp [intsL] at e
  | _, _, _, .cons (.v (.ins _ _ _ _)) r, e => by simp [intsL] at e
  | _, _, _, .cons (.r h) r, e => by simp [intsL] at e
theorem strs_repV {G : Gm} {F : Hp} : ∀ (ys : List Str), RepVs G F (ys.map .str) (ys.map V.str)
  | [] => .nil
  | y :: r => .cons (.str y) (strs_repV r)
theorem ints_repV {G : Gm} {F : Hp} : ∀ (ys : List Int), RepVs G F (ys.map .int) (ys.map V.int)
  | [] => .nil
  | y :: r => .cons (.int y) (ints_repV r)

/-! ### worlds -/
section
variable {G : Gm} {w : Wd}
/-- a live cell is not frozen ground, and stands -/
theorem CellR.mono {w w' : Wd} (e : ∀ x v, RepL G w x v → RepL G w' x v) {a : Addr} (hF : w.F a = none → w'.F a = none) {o : MO} {o' : HO} (h : CellR G w a o o') : CellR G w' a o o' := by
  have el : ∀ xs vs, RepLs G w xs vs → RepLs G w' xs vs := fun xs vs r => by
    induction r with
    | nil => exact .nil
    | cons h _ ih => exact .cons (e _ _ h) ih
  cases o with
  | dead => trivial
  | lst xs => obtain ⟨ws, a, b, c⟩ := h; exact ⟨ws, a, el _ _ b, hF c⟩
  | ins c fs => obtain ⟨dx, fs', a, b, d, c⟩ := h; exact ⟨dx, fs', a, b, el _ _ d, hF c.1, c.2⟩
/-- a new frozen object -/
def Wd.lay (w : Wd) (a : Addr) (o : HO) : Wd := { w with F := upd w.F a o, H := upd w.H a o }
theorem Wd.Ok.free {a : Addr} (k : w.Ok G) (h : w.H a = none) : w.F a = none := by
  cases q : w.F a with
  | none => rfl
  | some o => rw [k.le a o q] at h; cases h
theorem sub_upd {F : Hp} {a : Addr} {o : HO} (h : F a = none) : Sub F (upd F a o) := fun b u e => by rw [upd_ne (ne_of_none e h)]; exact e
theorem Wd.lay_ext {a : Addr} {o : HO} (k : w.Ok G) (h : w.H a = none) : Ext w (w.lay a o) where
  len := Nat.le_refl _
  phi := fun _ _ => rfl
  mono := sub_upd (k.free h)
  frame := fun b u e _ _ => sub_upd h b u e
  tk := fun b ps e _ => ⟨ps, sub_upd h b _ e⟩
  newF := fun b u e => by
    by_cases hb : b = a
    · subst hb; exact .inr (.inl h)
    · have e' : upd w.F a o b = some u := e
      rw [upd_ne hb] at e'; exact .inl e'
  newP := fun n h1 h2 => absurd h2 (Nat.not_lt.mpr h1)
  keep := fun n hn => by
    obtain ⟨u, e⟩ := k.there n hn
    exact ⟨u, sub_upd h _ _ e⟩
theorem Wd.lay_ok {a : Addr} {o : HO} (k : w.Ok G) (h : w.H a = none) : (w.lay a o).Ok G where
  le := fun b u e => by
    by_cases hb : b = a
    · subst hb
      have e' : upd w.F b o b = some u := e
      rw [upd_same] at e'
      show upd w.H b o b = some u
      rw [upd_same]; exact e'
    · have e' : upd w.F a o b = some u := e
      rw [upd_ne hb] at e'
      show upd w.H a o b = some u
      rw [upd_ne hb]; exact k.le b u e'
  cell := fun n c e => by
    obtain ⟨o', h1, h2⟩ := k.cell n c e
    have ne : w.p n ≠ a := ne_of_none h1 h
    refine ⟨o', sub_upd h _ _ h1, CellR.mono (fun x v r => r.ext (w.lay_ext k h)) (fun z => ?_) h2⟩
    show upd w.F a o (w.p n) = none
    rw [upd_ne ne]; exact z
  inj := k.inj
  tabs := fun p hp => by
    have t := k.tabs p hp
    have ne : p.1 ≠ a := t.ne h
    exact t.step (by show upd w.H a o p.1 = _; rw [upd_ne ne]) (sub_upd (k.free h)) t.out (by show upd w.F a o p.1 = none; rw [upd_ne ne]; exact t.free)
/-- a new live object -/
def Wd.push (w : Wd) (a : Addr) (c : MO) (o : HO) : Wd := { p := fun n => if n = w.h.length then a else w.p n, F := w.F, h := w.h ++ [c], H := upd w.H a o }
theorem Wd.push_ext {a : Addr} {c : MO} {o : HO} (k : w.Ok G) (h : w.H a = none) : Ext w (w.push a c o) where
  len := by simp [Wd.push]
  phi := fun n hn => by simp [Wd.push, Nat.ne_of_lt hn]
  mono := fun _ _ e => e
  frame := fun b u e _ _ => sub_upd h b u e
  tk := fun b ps e _ => ⟨ps, sub_upd h b _ e⟩
  newF := fun b u e => .inl e
  newP := fun n h1 h2 => by
    simp [Wd.push] at h2
    have : n = w.h.length := by omega
    simp [Wd.push, this, h]
  keep := fun n hn => by
    obtain ⟨u, e⟩ := k.there n hn
    exact ⟨u, sub_upd h _ _ e⟩
theorem Wd.push_at {a : Addr} {c : MO} {o : HO} : (w.push a c o).p w.h.length = a := by simp [Wd.push]
theorem Wd.push_ok {a : Addr} {c : MO} {o : HO} (k : w.Ok G) (h : w.H a = none) (hc : CellR G (w.push a c o) a c o) : (w.push a c o).Ok G where
  le := fun b u e => sub_upd h b u (k.le b u e)
  cell := fun n d e => by
    by_cases hn : n < w.h.length
    · have e' : w.h[n]? = some d := by
        have : (w.h ++ [c])[n]? = some d := e
        rwa [List.getElem?_append_left hn] at this
      obtain ⟨o', h1, h2⟩ := k.cell n d e'
      have ep : (w.push a c o).p n = w.p n := (w.push_ext k h).phi n hn
      rw [ep]
      exact ⟨o', sub_upd h _ _ h1, CellR.mono (fun x v r => r.ext (w.push_ext k h)) (fun z => z) h2⟩
    · have hl : n < (w.h ++ [c]).length := by
        have : (w.h ++ [c])[n]? = some d := e
        exact (List.getElem?_eq_some_iff.mp this).1
      have en : n = w.h.length := by simp at hl; omega
      subst en
      have : (w.h ++ [c])[w.h.length]? = some d := e
      rw [List.getElem?_append_right (Nat.le_refl _)] at this
      simp at this
      subst this
      rw [Wd.push_at]
      exact ⟨o, upd_same, hc⟩
  inj := fun n m hn hm e => by
    simp [Wd.push] at hn hm
    have na : ∀ n, n < w.h.length → w.p n ≠ a := fun n hn => by
      obtain ⟨u, q⟩ := k.there n hn
      exact ne_of_none q h
    simp only [Wd.push] at e
    by_cases h1 : n = w.h.length
    · by_cases h2 : m = w.h.length
      · omega
      · rw [if_pos h1, if_neg h2] at e
        exact absurd e.symm (na m (by omega))
    · by_cases h2 : m = w.h.length
      · rw [if_neg h1, if_pos h2] at e
        exact absurd e (na n (by omega))
      · rw [if_neg h1, if_neg h2] at e
        exact k.inj n m (by omega) (by omega) e
  tabs := fun p hp => by
    have t := k.tabs p hp
    have ne : p.1 ≠ a := t.ne h
    refine t.step (by show upd w.H a o p.1 = _; rw [upd_ne ne]) (fun _ _ e => e) (fun n hn z => ?_) t.free
    simp only [Wd.push] at hn z
    split at z
    · exact ne z.symm
    · exact t.out n (by simp at hn; omega) z
/-- a live object is changed -/
def Wd.put (w : Wd) (n : Nat) (c : MO) (o : HO) : Wd := { w with h := w.h.set n c, H := upd w.H (w.p n) o }
theorem Wd.put_ext {n : Nat} {c : MO} {o : HO} (k : w.Ok G) (hn : n < w.h.length) : Ext w (w.put n c o) where
  len := by simp [Wd.put]
  phi := fun _ _ => rfl
  mono := fun _ _ e => e
  frame := fun b u e hb _ => by
    show upd w.H (w.p n) o b = some u
    rw [upd_ne (Ne.symm (hb n hn))]; exact e
  tk := fun b ps e hb => ⟨ps, by
    show upd w.H (w.p n) o b = _
    rw [upd_ne (Ne.symm (hb n hn))]; exact e⟩
  newF := fun b u e => .inl e
  newP := fun m h1 h2 => by simp [Wd.put] at h2; omega
  keep := fun m hm => by
    show ∃ u, upd w.H (w.p n) o (w.p m) = some u
    by_cases e : w.p m = w.p n
    · rw [e]; exact ⟨o, upd_same⟩
    · rw [upd_ne e]; exact k.there m hm
theorem Wd.put_ok {n : Nat} {c : MO} {o : HO} (k : w.Ok G) (hn : n < w.h.length) (hF : w.F (w.p n) = none) (hc : CellR G (w.put n c o) (w.p n) c o) : (w.put n c o).Ok G where
  le := fun b u e => by
    show upd w.H (w.p n) o b = some u
    rw [upd_ne (ne_of_none e hF)]; exact k.le b u e
  cell := fun m d e => by
    have e : (w.h.set n c)[m]? = some d := e
    by_cases hm : n = m
    · subst hm
      rw [List.getElem?_set_self hn] at e
      cases e
      exact ⟨o, upd_same, hc⟩
    · rw [List.getElem?_set_ne hm] at e
      obtain ⟨o', h1, h2⟩ := k.cell m d e
      have hml : m < w.h.length := (List.getElem?_eq_some_iff.mp e).1
      have ne : w.p m ≠ w.p n := fun z => hm (k.inj n m hn hml z.symm)
      refine ⟨o', ?_, CellR.mono (fun x v r => r.ext (w.put_ext k hn)) (fun z => z) h2⟩
      show upd w.H (w.p n) o (w.p m) = some o'
      rw [upd_ne ne]; exact h1
  inj := fun a b ha hb => by
    simp [Wd.put] at ha hb
    exact k.inj a b ha hb
  tabs := fun p hp => by
    have t := k.tabs p hp
    have ne : p.1 ≠ w.p n := Ne.symm (t.out n hn)
    exact t.step (by show upd w.H (w.p n) o p.1 = _; rw [upd_ne ne]) (fun _ _ e => e) (fun m hm => t.out m (by simpa [Wd.put] using hm)) t.free
/-- a live list becomes frozen -/
def Wd.freeze (w : Wd) (n : Nat) (o : HO) : Wd := { w with h := w.h.set n .dead, F := upd w.F (w.p n) o }
theorem Wd.freeze_ext {n : Nat} {o : HO} (k : w.Ok G) (hn : n < w.h.length) (hF : w.F (w.p n) = none) : Ext w (w.freeze n o) where
  len := by simp [Wd.freeze]
  phi := fun _ _ => rfl
  mono := sub_upd hF
  frame := fun b u e _ _ => e
  tk := fun b ps e _ => ⟨ps, e⟩
  newF := fun b u e => by
    have e : upd w.F (w.p n) o b = some u := e
    by_cases hb : b = w.p n
    · exact .inr (.inr ⟨n, hn, hb.symm⟩)
    · rw [upd_ne hb] at e; exact .inl e
  newP := fun m h1 h2 => by simp [Wd.freeze] at h2; omega
  keep := fun m hm => k.there m hm
theorem Wd.freeze_ok {n : Nat} {o : HO} (k : w.Ok G) (hn : n < w.h.length) (hF : w.F (w.p n) = none) (hH : w.H (w.p n) = some o) : (w.freeze n o).Ok G where
  le := fun b u e => by
    have e : upd w.F (w.p n) o b = some u := e
    by_cases hb : b = w.p n
    · subst hb; rw [upd_same] at e; cases e; exact hH
    · rw [upd_ne hb] at e; exact k.le b u e
  cell := fun m d e => by
    have e : (w.h.set n .dead)[m]? = some d := e
    by_cases hm : n = m
    · subst hm
      rw [List.getElem?_set_self hn] at e
      cases e
      exact ⟨o, hH, trivial⟩
    · rw [List.getElem?_set_ne hm] at e
      obtain ⟨o', h1, h2⟩ := k.cell m d e
      have hml : m < w.h.length := (List.getElem?_eq_some_iff.mp e).1
      have ne : w.p m ≠ w.p n := fun z => hm (k.inj n m hn hml z.symm)
      refine ⟨o', h1, CellR.mono (fun x v r => r.ext (w.freeze_ext k hn hF)) (fun z => ?_) h2⟩
      show upd w.F (w.p n) o (w.p m) = none
      rw [upd_ne ne]; exact z
  inj := fun a b ha hb => by
    simp [Wd.freeze] at ha hb
    exact k.inj a b ha hb
  tabs := fun p hp => by
    have t := k.tabs p hp
    have ne : p.1 ≠ w.p n := Ne.symm (t.out n hn)
    exact t.step rfl (sub_upd hF) (fun m hm => t.out m (by simpa [Wd.freeze] using hm)) (by show upd w.F (w.p n) o p.1 = none; rw [upd_ne ne]; exact t.free)
/-- the cells from m on are dropped -/
def Wd.cut (w : Wd) (m : Nat) : Wd := { w with h := w.h.take m }
end
end SC

namespace SC
open PySem L2

section
variable {G : Gm} {E : XK} {X : Cx}

theorem Ext.cut {w w' : Wd} (e : Ext w w') : Ext w (w'.cut w.h.length) where
  len := by have := e.len; simp [Wd.cut]; omega
  phi := e.phi
  mono := e.mono
  frame := e.frame
  tk := e.tk
  newF := e.newF
  newP := fun n h1 h2 => by simp [Wd.cut] at h2; omega
  keep := e.keep
theorem RepL.cut {w : Wd} {m : Nat} {x : LV} {v : V} (h : RepL G w x v) (hm : m ≤ w.h.length) (hb : LV.below m x = true) : RepL G (w.cut m) x v := by
  cases h with
  | v h => exact .v h
  | r h =>
    have : _ < m := of_decide_eq_true hb
    exact .r (by simp [Wd.cut]; omega)
theorem RepLs.cut {w : Wd} {m : Nat} (hm : m ≤ w.h.length) : ∀ {x : List LV} {v : List V}, RepLs G w x v → x.all (LV.below m) = true → RepLs G (w.cut m) x v
  | _, _, .nil, _ => .nil
  | _, _, .cons h r, q => by
    simp only [List.all_cons, Bool.and_eq_true] at q
    exact .cons (h.cut hm q.1) (r.cut hm q.2)
theorem Wd.Ok.cut {w : Wd} {m : Nat} (k : w.Ok G) (hm : m ≤ w.h.length) (hw : wfTo m w.h = true) : (w.cut m).Ok G where
  le := k.le
  cell := fun n o e => by
    have e : (w.h.take m)[n]? = some o := e
    have hn : n < m := by
      have := (List.getElem?_eq_some_iff.mp e).1
      simp at this; omega
    have e' : w.h[n]? = some o := by rwa [List.getElem?_take_of_lt hn] at e
    obtain ⟨o', h1, h2⟩ := k.cell n o e'
    refine ⟨o', h1, ?_⟩
    have hb : MO.below m o = true := List.all_eq_true.mp hw o (List.mem_of_getElem? e)
    cases o with
    | dead => trivial
    | lst xs => obtain ⟨ws, a, b, c⟩ := h2; exact ⟨ws, a, b.cut hm hb, c⟩
    | ins c fs =>
      obtain ⟨dx, fs', a, b, d, c⟩ := h2
      refine ⟨dx, fs', a, b, d.cut hm ?_, c⟩
      simpa [MO.below, List.all_map, Function.comp_def] using hb
  inj := fun a b ha hb => by
    simp [Wd.cut] at ha hb
    exact k.inj a b (by omega) (by omega)
  tabs := fun p hp => by
    have t := k.tabs p hp
    exact t.step rfl (fun _ _ e => e) (fun n hn => t.out n (by simp [Wd.cut] at hn; omega)) t.free

/-! ### names, constants -/
theorem fe_var {i : Nat} {e : Expr} (h : PE X e (tVar i)) : PE X e (tM G E (evE G.T F (.var i))) := by
  refine PE.weaken h fun σ H Q ⟨w, r, hH, ok, re, g⟩ => ?_
  subst hH
  cases q : r[i]? with
  | none => simp [evE, q, Good] at g
  | some o =>
    cases o with
    | none => simp [evE, q, Good] at g
    | some l =>
      simp only [evE, q] at g
      obtain ⟨x, e1, e2⟩ := re.2 i l q
      exact ⟨x, e1, g.ok ok e2⟩
/-- an expression that gives a constant -/
theorem fe_cst {x : MV} {v : V} {e : Expr} (h : PE X e (tC v)) (r : ∀ F, RepV G F x v) : PE X e (tM G E (evE G.T F (.cst x))) := by
  refine PE.weaken h fun σ H Q ⟨w, _, hH, ok, re, g⟩ => ?_
  subst hH
  exact Good.ok ok (.v (r _)) g

/-! ### argument lists, displays -/
theorem fa_nil : PA X [] (tMs G E (evEs G.T F .nil)) := by
  refine PA.weaken pa_nil fun σ H Q ⟨w, r, hH, ok, re, g⟩ => ?_
  subst hH
  exact Good.ok ok .nil g
theorem fa_cons {e : Expr} {es : List Expr} {c : CE} {cs : CEs} (h1 : PE X e (tM G E (evE G.T F c))) (h2 : PA X es (tMs G E (evEs G.T F cs)))
    (hs : starEach (e :: es) X.env = (false, eval e X.env) :: starEach es X.env := by rfl) : PA X (e :: es) (tMs G E (evEs G.T F (.cons c cs))) := by
  refine PA.weaken (pa_cons h1 h2 hs) fun σ H Q ⟨w, r, hH, ok, re, g⟩ => ?_
  simp only [evEs] at g
  refine ⟨w, r, hH, ok, re, (Good.bind (R1 := RepL G) g).mono fun x H1 ⟨w1, a, e1, k1, hH1, ra, _, g1⟩ => ?_⟩
  refine ⟨w1, r, hH1, k1, re.ext e1, (Good.bind (R1 := RepLs G) g1).mono fun xs H2 ⟨w2, as, e2, k2, hH2, ras, _, g2⟩ => ?_⟩
  subst hH2
  exact Good.ok k2 (.cons (ra.ext e2) ras) g2
theorem fe_tup {es : List Expr} {cs : CEs} {k pos} (h : PA X es (tMs G E (evEs G.T F cs))) : PE X (.Tuple es k pos) (tM G E (evE G.T F (.tup cs))) := by
  refine PE.weaken (pe_tupF h) fun σ H Q ⟨w, r, hH, ok, re, g⟩ => ?_
  simp only [evE] at g
  refine ⟨w, r, hH, ok, re, (Good.bind (R1 := RepLs G) g).mono fun vs H1 ⟨w1, xs, e1, k1, hH1, ra, _, g1⟩ => ?_⟩
  subst hH1
  cases q : pures xs with
  | none => simp [q, Good] at g1
  | some ys =>
    simp only [q] at g1
    by_cases hl : ys.length ≤ sizeLine
    · rw [if_pos hl] at g1
      have rv := ra.pure q
      refine ⟨by rw [← rv.length]; exact hl, fun p o hp hd hc => ?_⟩
      exact g1 (w1.lay p (.frz o (.tup vs))) (w1.lay_ext k1 hp) (w1.lay_ok k1 hp) rfl _ (.v (.tup (.inl ⟨o, upd_same, hd, hc⟩) (rv.mono (w1.lay_ext (G := G) k1 hp).mono)))
    · rw [if_neg hl] at g1; exact g1.elim
theorem fe_lst {es : List Expr} {cs : CEs} {pos} (h : PA X es (tMs G E (evEs G.T F cs))) : PE X (.List es pos) (tM G E (evE G.T F (.lst cs))) := by
  refine PE.weaken (pe_lst h) fun σ H Q ⟨w, r, hH, ok, re, g⟩ => ?_
  simp only [evE] at g
  refine ⟨w, r, hH, ok, re, (Good.bind (R1 := RepLs G) g).mono fun vs H1 ⟨w1, xs, e1, k1, hH1, ra, _, g1⟩ => ?_⟩
  subst hH1
  cases q : pures xs with
  | none => simp [q, Good] at g1
  | some ys =>
    simp only [q] at g1
    by_cases hl : ys.length ≤ sizeLine
    · rw [if_pos hl] at g1
      have rv := ra.pure q
      refine ⟨by rw [← rv.length]; exact hl, fun p hp => ?_⟩
      exact g1 (w1.lay p (.lst vs)) (w1.lay_ext k1 hp) (w1.lay_ok k1 hp) rfl _ (.v (.lst upd_same (rv.mono (w1.lay_ext (G := G) k1 hp).mono)))
    · rw [if_neg hl] at g1; exact g1.elim
/-- a new live list -/
theorem push_lst {w : Wd} {p : Addr} {xs : List LV} {vs : List V} (k : w.Ok G) (hp : w.H p = none) (r : RepLs G w xs vs) : (w.push p (.lst xs) (.lst vs)).Ok G :=
  w.push_ok k hp ⟨vs, rfl, r.ext (w.push_ext k hp), k.free hp⟩
theorem push_ref {w : Wd} {p : Addr} {c : MO} {o : HO} : RepL G (w.push p c o) (.r w.h.length) (.ref p) := by
  have := RepL.r (G := G) (w := w.push p c o) (n := w.h.length) (by simp [Wd.push])
  rwa [Wd.push_at] at this
theorem fe_lstL {es : List Expr} {cs : CEs} {pos} (h : PA X es (tMs G E (evEs G.T F cs))) : PE X (.List es pos) (tM G E (evE G.T F (.lstL cs))) := by
  refine PE.weaken (pe_lst h) fun σ H Q ⟨w, r, hH, ok, re, g⟩ => ?_
  simp only [evE] at g
  refine ⟨w, r, hH, ok, re, (Good.bind (R1 := RepLs G) g).mono fun vs H1 ⟨w1, xs, e1, k1, hH1, ra, _, g1⟩ => ?_⟩
  subst hH1
  dsimp only at g1
  by_cases hl : xs.length ≤ sizeLine
  · rw [if_pos hl] at g1
    refine ⟨by rw [← ra.length]; exact hl, fun p hp => ?_⟩
    exact g1 (w1.push p (.lst xs) (.lst vs)) (w1.push_ext k1 hp) (push_lst k1 hp ra) rfl _ push_ref
  · rw [if_neg hl] at g1; exact g1.elim

/-! ### operators -/
def R2M (G : Gm) (E : XK) (g : LV → LV → MH → Out LV) : R2 := fun x y H Q => ∃ w a b, w.H = H ∧ w.Ok G ∧ RepL G w a x ∧ RepL G w b y ∧ Good G (RepL G) E w Q (g a b w.h)
theorem tOp_of {ma mb : ME → MH → Out LV} {g : LV → LV → MH → Out LV} {σ : St} {H : Hp} {Q : VK} (h : tM G E (fun r h => (ma r h).bind fun x h => (mb r h).bind fun y h => g x y h) σ H Q) :
    tOp (R2M G E g) (tM G E ma) (tM G E mb) σ H Q := by
  obtain ⟨w, r, hH, ok, re, g⟩ := h
  refine ⟨w, r, hH, ok, re, (Good.bind (R1 := RepL G) g).mono fun x H1 ⟨w1, a, e1, k1, hH1, ra, _, g1⟩ => ?_⟩
  refine ⟨w1, r, hH1, k1, re.ext e1, (Good.bind (R1 := RepL G) g1).mono fun y H2 ⟨w2, b, e2, k2, hH2, rb, _, g2⟩ => ?_⟩
  exact ⟨w2, a, b, hH2, k2, ra.ext e2, rb, g2⟩
theorem fe_op {a b : Expr} {ca cb : CE} {op : Operator} {o : BOp} {pos} (ho : OpR X (binaryOp op) (R2M G E (binF o))) (ha : PE X a (tM G E (evE G.T F ca))) (hb : PE X b (tM G E (evE G.T F cb))) :
    PE X (.BinOp a op b pos) (tM G E (evE G.T F (.bin o ca cb))) :=
  PE.weaken (pe_op ho ha hb) fun σ H Q h => tOp_of (by simpa only [evE] using h)
theorem fe_cmp {a b : Expr} {ca cb : CE} {op : CmpOp} {o : COp} {pos} (ho : OpR X (compareOp op) (R2M G E (cmpO o))) (ha : PE X a (tM G E (evE G.T F ca))) (hb : PE X b (tM G E (evE G.T F cb))) (hm : behindInMarks op b = false) :
    PE X (.Compare a [op] [b] pos) (tM G E (evE G.T F (.cmp o ca cb))) :=
  PE.weaken (pe_cmpR ho ha hb hm) fun σ H Q h => tOp_of (by simpa only [evE] using h)
theorem fe_chn {a b c : Expr} {ca cb cc : CE} {op op' : CmpOp} {o o' : COp} {pos} (ho : OpR X (compareOp op) (R2M G E (cmpO o))) (ho' : OpR X (compareOp op') (R2M G E (cmpO o'))) (ha : PE X a (tM G E (evE G.T F ca))) (hb : PE X b (tM G E (evE G.T F cb)))
    (hc : PE X c (tM G E (evE G.T F cc))) (hm : lastMarks [op, op'] [b, c] = false := by with_unfolding_all rfl) : PE X (.Compare a [op, op'] [b, c] pos) (tM G E (evE G.T F (.chn o o' ca cb cc))) := by
  refine PE.weaken (pe_chain ho ho' ha hb hc hm) fun σ H Q ⟨w, r, hH, ok, re, g⟩ => ?_
  simp only [evE] at g
  refine ⟨w, r, hH, ok, re, (Good.bind (R1 := RepL G) g).mono fun x H1 ⟨w1, a, e1, k1, hH1, ra, _, g1⟩ => ?_⟩
  refine ⟨w1, r, hH1, k1, re.ext e1, (Good.bind (R1 := RepL G) g1).mono fun y H2 ⟨w2, b, e2, k2, hH2, rb, _, g2⟩ => ?_⟩
  refine ⟨w2, a, b, hH2, k2, ra.ext e2, rb, (Good.bind (R1 := RepL G) g2).mono fun z H3 ⟨w3, d, e3, k3, hH3, rd, _, g3⟩ => ?_⟩
  cases rd with
  | r _ => exact g3.elim
  | v rd =>
    cases rd with
    | bl q =>
      refine ⟨q, rfl, ?_⟩
      cases q with
      | false =>
        subst hH3
        exact iteF (Good.ok k3 (.v (.bl false)) g3)
      | true =>
        refine iteT ?_
        refine ⟨w3, r, hH3, k3, ((re.ext e1).ext e2).ext e3, (Good.bind (R1 := RepL G) g3).mono fun y' H4 ⟨w4, b', e4, k4, hH4, rb', _, g4⟩ => ?_⟩
        exact ⟨w4, b, b', hH4, k4, (rb.ext e3).ext e4, rb', g4⟩
    | _ => exact g3.elim
theorem fe_neg {a : Expr} {ca : CE} {pos} (ha : PE X a (tM G E (evE G.T F ca))) : PE X (.UnaryOp .USub a pos) (tM G E (evE G.T F (.neg ca))) := by
  refine PE.weaken (pe_un un_neg ha) fun σ H Q ⟨w, r, hH, ok, re, g⟩ => ?_
  simp only [evE] at g
  refine ⟨w, r, hH, ok, re, (Good.bind (R1 := RepL G) g).mono fun x H1 ⟨w1, a, e1, k1, hH1, ra, _, g1⟩ => ?_⟩
  subst hH1
  cases ra with
  | r _ => exact g1.elim
  | v ra =>
    cases ra with
    | int i => exact ⟨i, rfl, Good.ok k1 (.v (.int _)) g1⟩
    | _ => exact g1.elim
theorem fe_not {a : Expr} {ca : CE} {pos} (ha : PE X a (tM G E (evE G.T F ca))) : PE X (.UnaryOp .Not a pos) (tM G E (evE G.T F (.not ca))) := by
  refine PE.weaken (pe_not ha) fun σ H Q ⟨w, r, hH, ok, re, g⟩ => ?_
  simp only [evE] at g
  refine ⟨w, r, hH, ok, re, (Good.bind (R1 := RepL G) g).mono fun x H1 ⟨w1, a, e1, k1, hH1, ra, _, g1⟩ => ?_⟩
  subst hH1
  cases ra with
  | r _ => exact g1.elim
  | v ra =>
    cases ra with
    | bl i => exact ⟨i, rfl, Good.ok k1 (.v (.bl _)) g1⟩
    | _ => exact g1.elim
theorem fe_and {a b : Expr} {rest : List Expr} {ca cb : CE} {pos} (ha : PE X a (tM G E (evE G.T F ca))) (hb : PE X (.BoolOp .And (b :: rest) pos) (tM G E (evE G.T F cb))) : PE X (.BoolOp .And (a :: b :: rest) pos) (tM G E (evE G.T F (.and ca cb))) := by
  refine PE.weaken (pe_and ha hb) fun σ H Q ⟨w, r, hH, ok, re, g⟩ => ?_
  simp only [evE] at g
  refine ⟨w, r, hH, ok, re, (Good.bind (R1 := RepL G) g).mono fun x H1 ⟨w1, a, e1, k1, hH1, ra, _, g1⟩ => ?_⟩
  cases ra with
  | r _ => exact g1.elim
  | v ra =>
    cases ra with
    | bl i =>
      refine ⟨i, rfl, ?_⟩
      cases i with
      | true => exact iteT ⟨w1, r, hH1, k1, re.ext e1, g1⟩
      | false => subst hH1; exact iteF (Good.ok k1 (.v (.bl _)) g1)
    | _ => exact g1.elim
theorem fe_or {a b : Expr} {rest : List Expr} {ca cb : CE} {pos} (ha : PE X a (tM G E (evE G.T F ca))) (hb : PE X (.BoolOp .Or (b :: rest) pos) (tM G E (evE G.T F cb))) : PE X (.BoolOp .Or (a :: b :: rest) pos) (tM G E (evE G.T F (.or ca cb))) := by
  refine PE.weaken (pe_or ha hb) fun σ H Q ⟨w, r, hH, ok, re, g⟩ => ?_
  simp only [evE] at g
  refine ⟨w, r, hH, ok, re, (Good.bind (R1 := RepL G) g).mono fun x H1 ⟨w1, a, e1, k1, hH1, ra, _, g1⟩ => ?_⟩
  cases ra with
  | r _ => exact g1.elim
  | v ra =>
    cases ra with
    | bl i =>
      refine ⟨i, rfl, ?_⟩
      cases i with
      | true => subst hH1; exact iteT (Good.ok k1 (.v (.bl _)) g1)
      | false => exact iteF ⟨w1, r, hH1, k1, re.ext e1, g1⟩
    | _ => exact g1.elim
theorem fe_one {a : Expr} {op : BoolOp} {pos} {m : TE} (ha : PE X a m) : PE X (.BoolOp op [a] pos) m := pe_one ha

/-! ### tests -/
theorem tMb_of {m : ME → MH → Out LV} {σ : St} {H : Hp} {Q : Bool → Hp → Prop} (h : tMb G E m σ H Q) : tM G E m σ H (fun x H1 => ∃ c, x = .bl c ∧ Q c H1) := by
  obtain ⟨w, r, hH, ok, re, g, hb⟩ := h
  refine ⟨w, r, hH, ok, re, ?_⟩
  cases q : m r w.h with
  | bad => rw [q] at g; exact g
  | exc c fs h' => rw [q] at g; exact g
  | ok x h' =>
    rw [q] at g
    obtain ⟨b, rfl⟩ := hb x h' q
    intro w' e k eh v rv
    cases rv with
    | v rv => cases rv; exact ⟨b, rfl, g w' e k eh b rfl⟩
theorem ft_val {e : Expr} {m : ME → MH → Out LV} (h : PE X e (tM G E m)) (he : ∀ whole, isTrue e X.env whole = (do let v ← whole; standAt e.pos; holding [v] (truthy v)) := by intro _; rfl) : PT X e (tMb G E m) :=
  PT.weaken (pt_val h he) fun σ H Q h => tMb_of h
theorem ft_cmp {a b : Expr} {ca cb : CE} {op : CmpOp} {o : COp} {pos} (ho : OpR X (compareOp op) (R2M G E (cmpO o))) (ha : PE X a (tM G E (evE G.T F ca))) (hb : PE X b (tM G E (evE G.T F cb))) (hm : behindInMarks op b = false) :
    PT X (.Compare a [op] [b] pos) (tMb G E (evE G.T F (.cmp o ca cb))) :=
  PT.weaken (pt_cmpR ho ha hb hm) fun σ H Q h => tOp_of (by simpa only [evE] using tMb_of h)
theorem tMb_bind {m : ME → MH → Out LV} {f : ME → LV → MH → Out LV} {σ : St} {H : Hp} {Q : Bool → Hp → Prop} (h : tMb G E (fun r h => (m r h).bind (f r)) σ H Q)
    (hf : ∀ r x h, (∀ b, x ≠ .v (.bl b)) → f r x h = .bad) :
    tMb G E m σ H (fun b H1 => ∃ w r, w.H = H1 ∧ w.Ok G ∧ RepE G w r σ ∧ Good G (RB G) E w Q (f r (.v (.bl b)) w.h) ∧ ∀ x h, f r (.v (.bl b)) w.h = .ok x h → ∃ b, x = .v (.bl b)) := by
  obtain ⟨w, r, hH, ok, re, g, hb⟩ := h
  refine ⟨w, r, hH, ok, re, ?_, fun x h' q => ?_⟩
  · cases q : m r w.h with
    | bad => simp only [q, Out.bind] at g; exact g
    | exc c fs h' => simp only [q, Out.bind] at g; exact g
    | ok x h' =>
      simp only [q, Out.bind] at g
      intro w' e k eh v rv
      cases rv
      subst eh
      exact ⟨w', r, rfl, k, re.ext e, Good.from e g, fun x h q2 => hb x h (by simp only [q, Out.bind]; exact q2)⟩
  · refine Classical.byContradiction fun hn => ?_
    have := hf r x h' fun b e => hn ⟨b, e⟩
    simp only [q, Out.bind, this, Good] at g
theorem ft_not {a : Expr} {ca : CE} {pos} (ha : PT X a (tMb G E (evE G.T F ca))) : PT X (.UnaryOp .Not a pos) (tMb G E (evE G.T F (.not ca))) := by
  refine PT.weaken (pt_not ha) fun σ H Q h => ?_
  have h := tMb_bind (m := evE G.T F ca) (f := fun _ x h => match x with
    | .v (.bl b) => ret (.bl (!b)) h
    | _ => .bad) h (fun r x h hx => by
      split
      · exact absurd rfl (hx _)
      · rfl)
  obtain ⟨w, r, hH, ok, re, g, hb⟩ := h
  exact ⟨w, r, hH, ok, re, g.mono fun b H1 ⟨w1, r1, hH1, k1, re1, g1, _⟩ => by subst hH1; exact Good.ok k1 rfl g1, hb⟩
theorem ft_and {a b : Expr} {rest : List Expr} {ca cb : CE} {pos} (ha : PT X a (tMb G E (evE G.T F ca))) (hb : PW X (.BoolOp .And (b :: rest) pos) (tMb G E (evE G.T F cb))) : PW X (.BoolOp .And (a :: b :: rest) pos) (tMb G E (evE G.T F (.and ca cb))) := by
  refine ⟨fun whole pins s σ H Q I h => (pw_and ha hb).run whole pins s σ H Q I ?_⟩
  have h := tMb_bind (m := evE G.T F ca) (f := fun r x h => match x with
    | .v (.bl true) => evE G.T F cb r h
    | .v (.bl false) => ret (.bl false) h
    | _ => .bad) h (fun r x h hx => by
      split
      · exact absurd rfl (hx _)
      · exact absurd rfl (hx _)
      · rfl)
  obtain ⟨w, r, hH, ok, re, g, hb⟩ := h
  refine ⟨w, r, hH, ok, re, g.mono fun b H1 ⟨w1, r1, hH1, k1, re1, g1, hb1⟩ => ?_, hb⟩
  cases b with
  | true => exact iteT ⟨w1, r1, hH1, k1, re1, g1, hb1⟩
  | false => subst hH1; exact iteF (Good.ok k1 rfl g1)
theorem ft_or {a b : Expr} {rest : List Expr} {ca cb : CE} {pos} (ha : PT X a (tMb G E (evE G.T F ca))) (hb : PW X (.BoolOp .Or (b :: rest) pos) (tMb G E (evE G.T F cb))) : PW X (.BoolOp .Or (a :: b :: rest) pos) (tMb G E (evE G.T F (.or ca cb))) := by
  refine ⟨fun whole pins s σ H Q I h => (pw_or ha hb).run whole pins s σ H Q I ?_⟩
  have h := tMb_bind (m := evE G.T F ca) (f := fun r x h => match x with
    | .v (.bl true) => ret (.bl true) h
    | .v (.bl false) => evE G.T F cb r h
    | _ => .bad) h (fun r x h hx => by
      split
      · exact absurd rfl (hx _)
      · exact absurd rfl (hx _)
      · rfl)
  obtain ⟨w, r, hH, ok, re, g, hb⟩ := h
  refine ⟨w, r, hH, ok, re, g.mono fun b H1 ⟨w1, r1, hH1, k1, re1, g1, hb1⟩ => ?_, hb⟩
  cases b with
  | true => subst hH1; exact iteT (Good.ok k1 rfl g1)
  | false => exact iteF ⟨w1, r1, hH1, k1, re1, g1, hb1⟩
theorem ft_chn {a b c : Expr} {ca cb cc : CE} {op op' : CmpOp} {o o' : COp} {pos} (ho : OpR X (compareOp op) (R2M G E (cmpO o))) (ho' : OpR X (compareOp op') (R2M G E (cmpO o'))) (ha : PE X a (tM G E (evE G.T F ca))) (hb : PE X b (tM G E (evE G.T F cb)))
    (hc : PE X c (tM G E (evE G.T F cc))) (hm : lastMarks [op, op'] [b, c] = false := by with_unfolding_all rfl) : PT X (.Compare a [op, op'] [b, c] pos) (tMb G E (evE G.T F (.chn o o' ca cb cc))) := by
  refine PT.weaken (pt_chain ho ho' ha hb hc hm) fun σ H Q h => ?_
  obtain ⟨w, r, hH, ok, re, g⟩ := tMb_of h
  simp only [evE] at g
  refine ⟨w, r, hH, ok, re, (Good.bind (R1 := RepL G) g).mono fun x H1 ⟨w1, a, e1, k1, hH1, ra, _, g1⟩ => ?_⟩
  refine ⟨w1, r, hH1, k1, re.ext e1, (Good.bind (R1 := RepL G) g1).mono fun y H2 ⟨w2, b, e2, k2, hH2, rb, _, g2⟩ => ?_⟩
  refine ⟨w2, a, b, hH2, k2, ra.ext e2, rb, (Good.bind (R1 := RepL G) g2).mono fun z H3 ⟨w3, d, e3, k3, hH3, rd, _, g3⟩ => ?_⟩
  cases rd with
  | r _ => exact g3.elim
  | v rd =>
    cases rd with
    | bl q =>
      refine ⟨q, rfl, ?_⟩
      cases q with
      | false =>
        subst hH3
        exact iteF (Good.ok k3 (.v (.bl false)) g3)
      | true =>
        refine iteT ?_
        refine ⟨w3, r, hH3, k3, ((re.ext e1).ext e2).ext e3, (Good.bind (R1 := RepL G) g3).mono fun y' H4 ⟨w4, b', e4, k4, hH4, rb', _, g4⟩ => ?_⟩
        exact ⟨w4, b, b', hH4, k4, (rb.ext e3).ext e4, rb', g4⟩
    | _ => exact g3.elim
theorem fe_ite {c a b : Expr} {cc ca cb : CE} {pos} (hc : PT X c (tMb G E (evE G.T F cc))) (ha : PE X a (tM G E (evE G.T F ca))) (hb : PE X b (tM G E (evE G.T F cb))) : PE X (.IfExp c a b pos) (tM G E (evE G.T F (.ite cc ca cb))) := by
  refine PE.weaken (pe_ifExp hc ha hb) fun σ H Q ⟨w, r, hH, ok, re, g⟩ => ?_
  simp only [evE] at g
  refine ⟨w, r, hH, ok, re, ?_, ?_⟩
  · cases q : evE G.T F cc r w.h with
    | bad => simp only [q, Out.bind] at g; exact g
    | exc c fs h' => simp only [q, Out.bind] at g; exact g
    | ok x h' =>
      simp only [q, Out.bind] at g
      intro w' e k eh v rv
      cases rv
      subst eh
      cases v with
      | true => exact iteT ⟨w', r, rfl, k, re.ext e, Good.from e g⟩
      | false => exact iteF ⟨w', r, rfl, k, re.ext e, Good.from e g⟩
  · intro x h' q
    simp only [q, Out.bind] at g
    split at g
    · exact ⟨_, rfl⟩
    · exact ⟨_, rfl⟩
    · exact g.elim
/-- freezing: a word of ours alone -/
theorem fe_frz {e : Expr} {c : CE} (h : PE X e (tM G E (evE G.T F c))) : PE X e (tM G E (evE G.T F (.frz c))) := by
  refine PE.weaken h fun σ H Q ⟨w, r, hH, ok, re, g⟩ => ?_
  simp only [evE] at g
  refine ⟨w, r, hH, ok, re, (Good.bind (R1 := RepL G) g).mono fun x H1 ⟨w1, a, e1, k1, hH1, ra, _, g1⟩ => ?_⟩
  subst hH1
  cases ra with
  | v ra => exact Good.ok k1 (.v ra) g1
  | @r n hn =>
    simp only [freeze] at g1
    cases q : w1.h[n]? with
    | none => simp [q, Good] at g1
    | some o =>
      cases o with
      | dead => simp [q, Good] at g1
      | ins c fs => simp [q, Good] at g1
      | lst xs =>
        cases q2 : pures xs with
        | none => simp [q, q2, Good] at g1
        | some ys =>
          simp only [q, q2] at g1
          obtain ⟨o', h1, ws, rfl, rw', hF⟩ := k1.cell n _ q
          exact g1 (w1.freeze n (.lst ws)) (w1.freeze_ext k1 hn hF) (w1.freeze_ok k1 hn hF h1) rfl _ (.v (.lst upd_same ((rw'.pure q2).mono (w1.freeze_ext (G := G) k1 hn hF).mono)))
end
end SC

namespace SC
open PySem L2

section
variable {G : Gm} {E : XK} {X : Cx} {w : Wd}
theorem lstOf_rep {x : LV} {v : V} {xs : List LV} (k : w.Ok G) (r : RepL G w x v) (h : lstOf w.h x = some xs) : ∃ a ws, v = .ref a ∧ w.H a = some (.lst ws) ∧ RepLs G w xs ws := by
  cases r with
  | v r =>
    cases r with
    | lst e rs => simp only [lstOf, Option.some.injEq] at h; subst h; exact ⟨_, _, rfl, k.le _ _ e, rs.toL⟩
    | _ => simp [lstOf] at h
  | @r n hn =>
    simp only [lstOf] at h
    cases q : w.h[n]? with
    | none => simp [q] at h
    | some o =>
      cases o with
      | lst ys =>
        simp only [q, Option.some.injEq] at h; subst h
        obtain ⟨o', h1, ws, rfl, rw', hF⟩ := k.cell n _ q
        exact ⟨_, ws, rfl, h1, rw'⟩
      | _ => simp [q] at h
theorem seqOf_rep {x : LV} {v : V} {xs : List LV} (k : w.Ok G) (r : RepL G w x v) (h : seqOf w.h x = some xs) : ∃ a ws, v = .ref a ∧ (SqL G.K w.H a ws ∨ SqT G.K w.H a ws) ∧ RepLs G w xs ws := by
  cases r with
  | v r =>
    cases r with
    | lst e rs => simp only [seqOf, Option.some.injEq] at h; subst h; exact ⟨_, _, rfl, .inl (.inl (.inl (k.le _ _ e))), rs.toL⟩
    | scr e rs => simp only [seqOf, Option.some.injEq] at h; subst h; exact ⟨_, _, rfl, .inl (Sub.sqL k.le e), rs.toL⟩
    | tup e rs => simp only [seqOf, Option.some.injEq] at h; subst h; exact ⟨_, _, rfl, .inr (Sub.sqT k.le e.sq), rs.toL⟩
    | _ => simp [seqOf] at h
  | @r n hn =>
    simp only [seqOf] at h
    cases q : w.h[n]? with
    | none => simp [q] at h
    | some o =>
      cases o with
      | lst ys =>
        simp only [q, Option.some.injEq] at h; subst h
        obtain ⟨o', h1, ws, rfl, rw', hF⟩ := k.cell n _ q
        exact ⟨_, ws, rfl, .inl (.inl (.inl h1)), rw'⟩
      | _ => simp [q] at h
mutual
theorem dp_of (k : Sub F H) : ∀ {x : MV} {v : V} {d : PyData}, RepV G F x v → toD x = some d → Dp G.K H v d
  | _, _, _, .non, e => by simp only [toD, Option.some.injEq] at e; subst e; exact .non
  | _, _, _, .bl b, e => by simp only [toD, Option.some.injEq] at e; subst e; exact .bl b
  | _, _, _, .int b, e => by simp only [toD, Option.some.injEq] at e; subst e; exact .int b
  | _, _, _, .str b, e => by simp only [toD, Option.some.injEq] at e; subst e; exact .str b
  | _, _, _, .tup h r, e => by
    simp only [toD, Option.map_eq_some_iff] at e
    obtain ⟨ds, e, rfl⟩ := e
    exact .tup (Sub.sqT k h.sq) (dps_of k r e)
  | _, _, _, .lst h r, e => by
    simp only [toD, Option.map_eq_some_iff] at e
    obtain ⟨ds, e, rfl⟩ := e
    exact .lst (.inl (.inl (k _ _ h))) (dps_of k r e)
  | _, _, _, .scr h r, e => by simp [toD] at e
  | _, _, _, .ins _ h _ r, e => by simp [toD] at e
theorem dps_of (k : Sub F H) : ∀ {x : List MV} {v : List V} {d : List PyData}, RepVs G F x v → toDs x = some d → DpAll G.K H v d
  | _, _, _, .nil, e => by simp only [toDs, Option.some.injEq] at e; subst e; exact .nil
  | _, _, _, .cons (x := x) (xs := xs) h r, e => by
    simp only [toDs] at e
    cases q : toD x with
    | none => simp [q] at e
    | some d =>
      cases q2 : toDs xs with
      | none => simp [q, q2] at e
      | some ds =>
        simp only [q, q2, Option.some.injEq] at e
        subst e
        exact .cons (dp_of k h q) (dps_of k r q2)
end
theorem valOf_dp {x : LV} {v : V} {m : MV} {d : PyData} (k : w.Ok G) (r : RepL G w x v) (h : valOf w.h x = some m) (hd : toD m = some d) : Dp G.K w.H v d := by
  cases r with
  | v r => simp only [valOf, Option.some.injEq] at h; subst h; exact dp_of k.le r hd
  | @r n hn =>
    simp only [valOf] at h
    cases q : w.h[n]? with
    | none => simp [q] at h
    | some o =>
      cases o with
      | lst ys =>
        simp only [q, Option.map_eq_some_iff] at h
        obtain ⟨zs, e, rfl⟩ := h
        obtain ⟨o', h1, ws, rfl, rw', hF⟩ := k.cell n _ q
        simp only [toD, Option.map_eq_some_iff] at hd
        obtain ⟨ds, e2, rfl⟩ := hd
        exact .lst (.inl (.inl h1)) (dps_of k.le (rw'.pure e) e2)
      | _ => simp [q] at h

/-- the model's operator is the layer's on ints -/
theorem op_int {op : Operator} {o : BOp} {C : Int → Int → Prop} {g : Int → Int → Int} (ho : OpR X (binaryOp op) (rI C fun i j => .int (g i j)))
    (hs : ∀ i j, (C i j ∧ arith o i j = some (g i j)) ∨ arith o i j = none) : OpR X (binaryOp op) (R2M G E (arF o)) := by
  intro pins s σ H x y v u Q I rx ry ⟨w, a, b, hH, ok, ra, rb, g⟩
  unfold arF at g
  split at g
  · rename_i i j
    cases ra with
    | v ra =>
      cases ra
      cases rb with
      | v rb =>
        cases rb
        subst hH
        rcases hs i j with ⟨hc, e⟩ | e
        · rw [e] at g
          exact ho pins s σ _ _ _ v u Q I rx ry ⟨i, j, rfl, rfl, hc, Good.ok ok (.v (.int _)) g⟩
        · rw [e] at g; exact g.elim
  · exact g.elim
theorem opM_sub : OpR X (binaryOp .Sub) (R2M G E (binF .sub)) := op_int (G := G) (E := E) (o := .sub) (C := fun _ _ => True) (g := fun i j => i - j)
  (fun pins s σ H x y v u Q I rx ry ⟨i, j, a, b, _, q⟩ => op_sub pins s σ H x y v u Q I rx ry ⟨i, j, a, b, q⟩) (fun i j => .inl ⟨trivial, rfl⟩)
theorem opM_mul : OpR X (binaryOp .Mult) (R2M G E (binF .mul)) := op_int op_mul fun i j => by
  by_cases c : CMul i j
  · exact .inl ⟨c, if_pos c⟩
  · exact .inr (if_neg c)
theorem opM_fdiv : OpR X (binaryOp .FloorDiv) (R2M G E (binF .fdiv)) := op_int op_fdivN fun i j => by
  by_cases c : CDivN i j
  · exact .inl ⟨c, if_pos c⟩
  · exact .inr (if_neg c)
theorem opM_mod : OpR X (binaryOp .Mod) (R2M G E (binF .mod)) := op_int op_modN fun i j => by
  by_cases c : j ≠ 0
  · exact .inl ⟨c, if_pos c⟩
  · exact .inr (if_neg c)
theorem opM_pow : OpR X (binaryOp .Pow) (R2M G E (binF .pow)) := op_int op_pow fun i j => by
  by_cases c : CPow i j
  · exact .inl ⟨c, if_pos c⟩
  · exact .inr (if_neg c)
theorem opM_shl : OpR X (binaryOp .LShift) (R2M G E (binF .shl)) := op_int op_shl fun i j => by
  by_cases c : CPow i j
  · exact .inl ⟨c, if_pos c⟩
  · exact .inr (if_neg c)
theorem opM_shr : OpR X (binaryOp .RShift) (R2M G E (binF .shr)) := op_int op_shr fun i j => by
  by_cases c : 0 ≤ j
  · exact .inl ⟨c, if_pos c⟩
  · exact .inr (if_neg c)
theorem opM_band : OpR X (binaryOp .BitAnd) (R2M G E (binF .band)) := op_int (G := G) (E := E) (o := .band) (C := fun _ _ => True) (g := fun i j => Builtin.bitAnd i j)
  (fun pins s σ H x y v u Q I rx ry ⟨i, j, a, b, _, q⟩ => op_and pins s σ H x y v u Q I rx ry ⟨i, j, a, b, q⟩) (fun i j => .inl ⟨trivial, rfl⟩)

theorem opM_addL (hK : X.K = G.K) : OpR X (binaryOp .Add) (R2M G E (binF .addL)) := by
  intro pins s σ H x y v u Q I rx ry ⟨w, a, b, hH, ok, ra, rb, g⟩
  subst hH
  unfold binF addLF at g
  dsimp only at g
  cases e1 : lstOf w.h a with
  | none => simp only [e1] at g; exact g.elim
  | some xs =>
    cases e3 : lstOf w.h b with
    | none => simp only [e1, e3] at g; exact g.elim
    | some ys =>
      simp only [e1, e3] at g
      obtain ⟨p, ws, rfl, hp, r1⟩ := lstOf_rep ok ra e1
      obtain ⟨q, zs, rfl, hq, r2⟩ := lstOf_rep ok rb e3
      have l1 := r1.length
      have l2 := r2.length
      by_cases hz : xs.length + ys.length ≤ sizeLine
      · rw [if_pos hz] at g
        refine op_cat pins s σ _ _ _ v u Q I rx ry ⟨p, q, ws, zs, rfl, rfl, hp, hq, by omega, fun n hn => ?_⟩
        exact g (w.push n _ _) (w.push_ext ok hn) (push_lst ok hn (r1.append r2)) rfl _ push_ref
      · rw [if_neg hz] at g; exact g.elim
theorem opM_add (hK : X.K = G.K) : OpR X (binaryOp .Add) (R2M G E (binF .add)) := by
  intro pins s σ H x y v u Q I rx ry ⟨w, a, b, hH, ok, ra, rb, g⟩
  subst hH
  have lists : ∀ xs ys, (lstOf w.h a).bind pures = some xs → (lstOf w.h b).bind pures = some ys → Good G (RepL G) E w Q (if xs.length + ys.length ≤ sizeLine then ret (.lst (xs ++ ys)) w.h else .bad) → wpAny (model X.prog X.w) X.A (binaryOp .Add v u) (EP X pins σ Q) X.xe s := by
    intro xs ys h1 h2 g
    obtain ⟨ls, e1, e2⟩ := Option.bind_eq_some_iff.mp h1
    obtain ⟨ms, e3, e4⟩ := Option.bind_eq_some_iff.mp h2
    obtain ⟨p, ws, rfl, hp, r1⟩ := lstOf_rep ok ra e1
    obtain ⟨q, zs, rfl, hq, r2⟩ := lstOf_rep ok rb e3
    by_cases hz : xs.length + ys.length ≤ sizeLine
    · rw [if_pos hz] at g
      have rv := (r1.pure e2).append (r2.pure e4)
      have l1 := (r1.pure e2).length
      have l2 := (r2.pure e4).length
      refine op_cat pins s σ _ _ _ v u Q I rx ry ⟨p, q, ws, zs, rfl, rfl, hp, hq, by omega, fun n hn => ?_⟩
      exact g (w.lay n _) (w.lay_ext ok hn) (w.lay_ok ok hn) rfl _ (.v (.lst upd_same (rv.mono (w.lay_ext (G := G) ok hn).mono)))
    · rw [if_neg hz] at g; exact g.elim
  have gen : Good G (RepL G) E w Q (match (lstOf w.h a).bind pures, (lstOf w.h b).bind pures with
    | some xs, some ys => if xs.length + ys.length ≤ sizeLine then ret (.lst (xs ++ ys)) w.h else .bad
    | _, _ => .bad) → wpAny (model X.prog X.w) X.A (binaryOp .Add v u) (EP X pins σ Q) X.xe s := by
    intro g
    cases q1 : (lstOf w.h a).bind pures with
    | none => simp only [q1] at g; exact g.elim
    | some xs =>
      cases q2 : (lstOf w.h b).bind pures with
      | none => simp only [q1, q2] at g; exact g.elim
      | some ys => simp only [q1, q2] at g; exact lists xs ys q1 q2 g
  have lift : ∀ {r : R2}, OpR X (binaryOp .Add) r → r x y w.H Q → wpAny (model X.prog X.w) X.A (binaryOp .Add v u) (EP X pins σ Q) X.xe s := fun ho hr => ho pins s σ _ _ _ v u Q I rx ry hr
  unfold binF addF at g
  dsimp only at g
  split at g
  · cases ra with | v ra => cases ra; cases rb with | v rb => cases rb; exact lift op_add ⟨_, _, rfl, rfl, Good.ok ok (.v (.int _)) g⟩
  · rename_i p q
    cases ra with | v ra => cases ra; cases rb with | v rb =>
                                        cases rb
                                        by_cases hz : p.length + q.length ≤ sizeLine
                                        · rw [if_pos hz] at g; exact lift op_add_str ⟨_, _, rfl, rfl, hz, Good.ok ok (.v (.str _)) g⟩
                                        · rw [if_neg hz] at g; exact g.elim
  · rename_i xs ys
    cases ra with
    | v ra =>
      cases ra with
      | @tup p _ ws hp r1 =>
        cases rb with
        | v rb =>
          cases rb with
          | @tup q _ zs hq r2 =>
            by_cases hz : xs.length + ys.length ≤ sizeLine
            · rw [if_pos hz] at g
              have l1 := r1.length
              have l2 := r2.length
              have rv := r1.append r2
              refine lift op_catF ⟨p, q, ws, zs, rfl, rfl, hK ▸ Sub.sqT ok.le hp.sq, hK ▸ Sub.sqT ok.le hq.sq, by omega, fun e => ?_, fun _ e => ?_, fun _ _ n o hn hd hc => ?_⟩
              · subst e
                cases r1
                exact Good.ok ok (.v (.tup hq r2)) g
              · subst e
                cases r2
                rw [List.append_nil] at g
                exact Good.ok ok (.v (.tup hp r1)) g
              · exact g (w.lay n _) (w.lay_ext ok hn) (w.lay_ok ok hn) rfl _ (.v (.tup (.inl ⟨o, upd_same, hd, hc⟩) (rv.mono (w.lay_ext (G := G) ok hn).mono)))
            · rw [if_neg hz] at g; exact g.elim
  · exact gen g
end
end SC

namespace SC
open PySem PySem.Spec PyProof.Rows L2

section
variable {G : Gm} {E : XK} {X : Cx} {w : Wd}
def fv : LV → V
  | .v (.bl b) => .bl b
  | .v (.int i) => .int i
  | .v (.str s) => .str s
  | _ => .non
theorem fv_rep {x : LV} {v : V} (r : RepL G w x v) (h : flat x = true) : v = fv x ∧ flatV v = true := by
  cases r with
  | r _ => simp [flat] at h
  | v r => cases r <;> simp_all [flat, fv, flatV]
theorem fvs_rep : ∀ {x : List LV} {v : List V}, RepLs G w x v → x.all flat = true → v = x.map fv ∧ v.all flatV = true
  | _, _, .nil, _ => ⟨rfl, rfl⟩
  | _, _, .cons h r, q => by
    simp only [List.all_cons, Bool.and_eq_true] at q
    obtain ⟨a, b⟩ := fv_rep h q.1
    obtain ⟨c, d⟩ := fvs_rep r q.2
    exact ⟨by rw [a, c]; rfl, by simp [b, d]⟩
theorem eq_fv {x y : LV} (h1 : flat x = true) (h2 : flat y = true) : eqV (fv x) (fv y) = eqL x y := by
  cases x with
  | r _ => simp [flat] at h1
  | v x =>
    cases y with
    | r _ => simp [flat] at h2
    | v y => cases x <;> cases y <;> simp_all [flat, fv, eqV, eqL, eqM]
theorem in_fv {x : LV} : ∀ {xs : List LV}, flat x = true → xs.all flat = true → inV (fv x) (xs.map fv) = xs.any fun z => eqL z x
  | [], _, _ => rfl
  | y :: ys, h1, h2 => by
    simp only [List.all_cons, Bool.and_eq_true] at h2
    have ih := in_fv (xs := ys) h1 h2.2
    simp only [inV] at ih ⊢
    rw [List.map_cons, List.any_cons, List.any_cons, ih, eq_fv h2.1 h1]
/-- from the layer's comparison to the model's -/
theorem cmp_of {op : CmpOp} {o : COp} (h : ∀ (w : Wd) (a b : LV) (x y : V) (k : Bool), w.Ok G → RepL G w a x → RepL G w b y → cmpF o a b w.h = some k → ∀ Q : VK, Q (.bl k) w.H → ∃ r : R2, OpR X (compareOp op) r ∧ r x y w.H Q) :
    OpR X (compareOp op) (R2M G E (cmpO o)) := by
  intro pins s σ H x y v u Q I rx ry ⟨w, a, b, hH, ok, ra, rb, g⟩
  subst hH
  unfold cmpO at g
  cases q : cmpF o a b w.h with
  | none => rw [q] at g; exact g.elim
  | some k =>
    rw [q] at g
    obtain ⟨r, ho, hr⟩ := h w a b x y k ok ra rb q Q (Good.ok ok (.v (.bl k)) g)
    exact ho pins s σ _ _ _ v u Q I rx ry hr
theorem eqD_rep {a b : LV} {x y : V} {k : Bool} (ok : w.Ok G) (ra : RepL G w a x) (rb : RepL G w b y) (q : eqD a b w.h = some k) : ∃ d e, Dp G.K w.H x d ∧ Dp G.K w.H y e ∧ SeqAt.shaped d = true ∧ SeqAt.shaped e = true ∧ k = PyData.eqv d e := by
  unfold eqD at q
  cases q1 : (valOf w.h a).bind toD with
  | none => simp [q1] at q
  | some d =>
    cases q2 : (valOf w.h b).bind toD with
    | none => simp [q1, q2] at q
    | some e =>
      simp only [q1, q2] at q
      split at q
      · rename_i hs
        obtain ⟨m1, e1, e2⟩ := Option.bind_eq_some_iff.mp q1
        obtain ⟨m2, e3, e4⟩ := Option.bind_eq_some_iff.mp q2
        exact ⟨d, e, valOf_dp ok ra e1 e2, valOf_dp ok rb e3 e4, hs.1, hs.2, (Option.some.inj q).symm⟩
      · cases q
def rEqLen (k : Bool) : R2 := fun x y H Q => ∃ l b xs zs, x = .ref l ∧ y = .ref b ∧ H l = some (.lst xs) ∧ H b = some (.lst zs) ∧ xs.length ≠ zs.length ∧ Q (.bl k) H
theorem op_eqLen (hu : X.A.units + 64 < cLine) : OpR X (compareOp .Eq) (rEqLen false) := by
  intro pins s σ H x y v u Q I rx ry h
  obtain ⟨l, b, xs, zs, rfl, rfl, hH, hB, hz, q⟩ := h
  cases rx
  cases ry
  obtain ⟨z, its, n, r, hl, e⟩ := I.lstM hH
  obtain ⟨z2, its2, n2, r2, hl2, e2⟩ := I.lstM hB
  refine SeqAt.RcAt.lists_lengths (PySem.IsL.isList e) (PySem.IsL.isList e2) ?_ (by omega) X.prog X.w X.xe _ ⟨.bl false, H, I, rfl, q⟩
  simp only [List.size_toArray, bne_iff_ne]
  omega
theorem op_neLen (hu : X.A.units + 64 < cLine) : OpR X (compareOp .NotEq) (rEqLen true) := by
  intro pins s σ H x y v u Q I rx ry h
  obtain ⟨l, b, xs, zs, rfl, rfl, hH, hB, hz, q⟩ := h
  cases rx
  cases ry
  obtain ⟨z, its, n, r, hl, e⟩ := I.lstM hH
  obtain ⟨z2, its2, n2, r2, hl2, e2⟩ := I.lstM hB
  refine SeqAt.RcNeAt.lists_lengths (PySem.IsL.isList e) (PySem.IsL.isList e2) ?_ (by omega) X.prog X.w X.xe _ ⟨.bl true, H, I, rfl, q⟩
  simp only [List.size_toArray, bne_iff_ne]
  omega
theorem eqN_rep {a b : LV} {x y : V} {k : Bool} (ok : w.Ok G) (ra : RepL G w a x) (rb : RepL G w b y) (q : eqN a b w.h = some k) : k = false ∧ ∃ l b xs zs, x = .ref l ∧ y = .ref b ∧ w.H l = some (.lst xs) ∧ w.H b = some (.lst zs) ∧ xs.length ≠ zs.length := by
  unfold eqN at q
  split at q
  · rename_i xs ys e1 e2
    split at q
    · cases q
    · rename_i hl
      obtain ⟨a1, ws, rfl, g1, r1⟩ := lstOf_rep ok ra e1
      obtain ⟨a2, us, rfl, g2, r2⟩ := lstOf_rep ok rb e2
      exact ⟨(Option.some.inj q).symm, a1, a2, ws, us, rfl, rfl, g1, g2, by rw [← r1.length, ← r2.length]; exact hl⟩
  · cases q
theorem opC_eq (hK : X.K = G.K) (hu : X.A.units + 64 < cLine) : OpR X (compareOp .Eq) (R2M G E (cmpO .eq)) := cmp_of fun w a b x y k ok ra rb q Q hq => by
  simp only [cmpF, eqF] at q
  split at q
  · rename_i k' q1
    cases q
    obtain ⟨d, e, h1, h2, h3, h4, rfl⟩ := eqD_rep ok ra rb q1
    exact ⟨_, op_eqD hu, d, e, hK ▸ h1, hK ▸ h2, h3, h4, hq⟩
  · obtain ⟨rfl, l, b, xs, zs, h1, h2, h3, h4, h5⟩ := eqN_rep ok ra rb q
    exact ⟨_, op_eqLen hu, l, b, xs, zs, h1, h2, h3, h4, h5, hq⟩
theorem opC_ne (hK : X.K = G.K) (hu : X.A.units + 64 < cLine) : OpR X (compareOp .NotEq) (R2M G E (cmpO .ne)) := cmp_of fun w a b x y k ok ra rb q Q hq => by
  simp only [cmpF, Option.map_eq_some_iff] at q
  obtain ⟨k', q, rfl⟩ := q
  simp only [eqF] at q
  split at q
  · rename_i k2 q1
    cases q
    obtain ⟨d, e, h1, h2, h3, h4, rfl⟩ := eqD_rep ok ra rb q1
    exact ⟨_, op_neD hu, d, e, hK ▸ h1, hK ▸ h2, h3, h4, hq⟩
  · obtain ⟨rfl, l, b, xs, zs, h1, h2, h3, h4, h5⟩ := eqN_rep ok ra rb q
    exact ⟨_, op_neLen hu, l, b, xs, zs, h1, h2, h3, h4, h5, hq⟩
theorem opC_isn : OpR X (compareOp .Is) (R2M G E (cmpO .isn)) := cmp_of fun w a b x y k ok ra rb q Q hq => by
  simp only [cmpF] at q
  split at q
  · cases rb with
    | v rb =>
      cases rb
      cases q
      refine ⟨_, op_isN, rfl, ?_⟩
      cases ra with
      | v ra => cases ra <;> exact hq
      | r _ => exact hq
  · cases q
theorem opC_notn : OpR X (compareOp .IsNot) (R2M G E (cmpO .notn)) := cmp_of fun w a b x y k ok ra rb q Q hq => by
  simp only [cmpF] at q
  split at q
  · cases rb with
    | v rb =>
      cases rb
      cases q
      refine ⟨_, op_notN, rfl, ?_⟩
      cases ra with
      | v ra => cases ra <;> exact hq
      | r _ => exact hq
  · cases q
theorem inF_rep (hK : X.K = G.K) {a b : LV} {x y : V} {k : Bool} (ok : w.Ok G) (ra : RepL G w a x) (rb : RepL G w b y) (q : inF a b w.h = some k) :
    (∃ i j, x = .str i ∧ y = .str j ∧ k = !(Builtin.Str.occurrences j i 0 j.length 1).isEmpty) ∨ (∃ p xs, y = .ref p ∧ (SqL X.K w.H p xs ∨ SqT X.K w.H p xs) ∧ flatV x = true ∧ xs.all flatV = true ∧ k = inV x xs) := by
  unfold inF at q
  split at q
  · cases ra with | v ra => cases ra; cases rb with | v rb => cases rb; exact .inl ⟨_, _, rfl, rfl, (Option.some.inj q).symm⟩
  · split at q
    · rename_i ys e
      split at q
      · rename_i hf
        obtain ⟨p, ws, rfl, hs, r⟩ := seqOf_rep ok rb e
        obtain ⟨e1, e2⟩ := fv_rep ra hf.1
        obtain ⟨e3, e4⟩ := fvs_rep r hf.2
        refine .inr ⟨p, ws, rfl, hK ▸ hs, e2, e4, ?_⟩
        rw [e1, e3, in_fv hf.1 hf.2]
        exact (Option.some.inj q).symm
      · cases q
    · cases q
theorem opC_in (hK : X.K = G.K) : OpR X (compareOp .In) (R2M G E (cmpO .isin)) := cmp_of fun w a b x y k ok ra rb q Q hq => by
  rcases inF_rep hK ok ra rb q with ⟨i, j, rfl, rfl, rfl⟩ | ⟨p, xs, rfl, hs, h1, h2, rfl⟩
  · exact ⟨_, op_in_str, i, j, rfl, rfl, hq⟩
  · exact ⟨_, op_in_seq, p, xs, rfl, hs, h1, h2, hq⟩
theorem opC_notin (hK : X.K = G.K) : OpR X (compareOp .NotIn) (R2M G E (cmpO .notin)) := cmp_of fun w a b x y k ok ra rb q Q hq => by
  simp only [cmpF, Option.map_eq_some_iff] at q
  obtain ⟨k', q, rfl⟩ := q
  rcases inF_rep hK ok ra rb q with ⟨i, j, rfl, rfl, rfl⟩ | ⟨p, xs, rfl, hs, h1, h2, rfl⟩
  · exact ⟨_, op_notin_str, i, j, rfl, rfl, hq⟩
  · exact ⟨_, op_notIn_seq, p, xs, rfl, hs, h1, h2, hq⟩
theorem opC_lt : OpR X (compareOp .Lt) (R2M G E (cmpO .lt)) := cmp_of fun w a b x y k ok ra rb q Q hq => by
  simp only [cmpF] at q
  split at q
  · cases ra with | v ra => cases ra; cases rb with | v rb => cases rb; cases q; exact ⟨_, op_lt, _, _, rfl, rfl, hq⟩
  · cases ra with | v ra => cases ra; cases rb with | v rb => cases rb; cases q; exact ⟨_, op_lt_str, _, _, rfl, rfl, hq⟩
  · cases q
theorem opC_le : OpR X (compareOp .LtE) (R2M G E (cmpO .le)) := cmp_of fun w a b x y k ok ra rb q Q hq => by
  simp only [cmpF] at q
  split at q
  · cases ra with | v ra => cases ra; cases rb with | v rb => cases rb; cases q; exact ⟨_, op_le, _, _, rfl, rfl, hq⟩
  · cases ra with | v ra => cases ra; cases rb with | v rb => cases rb; cases q; exact ⟨_, op_le_str, _, _, rfl, rfl, hq⟩
  · cases q
theorem opC_gt : OpR X (compareOp .Gt) (R2M G E (cmpO .gt)) := cmp_of fun w a b x y k ok ra rb q Q hq => by
  simp only [cmpF] at q
  split at q
  · cases ra with | v ra => cases ra; cases rb with | v rb => cases rb; cases q; exact ⟨_, op_gt, _, _, rfl, rfl, hq⟩
  · cases ra with | v ra => cases ra; cases rb with | v rb => cases rb; cases q; exact ⟨_, op_gt_str, _, _, rfl, rfl, hq⟩
  · cases q
theorem opC_ge : OpR X (compareOp .GtE) (R2M G E (cmpO .ge)) := cmp_of fun w a b x y k ok ra rb q Q hq => by
  simp only [cmpF] at q
  split at q
  · cases ra with | v ra => cases ra; cases rb with | v rb => cases rb; cases q; exact ⟨_, op_ge, _, _, rfl, rfl, hq⟩
  · cases ra with | v ra => cases ra; cases rb with | v rb => cases rb; cases q; exact ⟨_, op_ge_str, _, _, rfl, rfl, hq⟩
  · cases q

/-! ### subscripts, slices -/
theorem at_map {xs : List LV} {ws : List V} {i : Int} {a : LV} (r : RepLs G w xs ws) (h : atI xs i = some a) : ∃ u, atI ws i = some u ∧ RepL G w a u := by
  unfold atI at h ⊢
  rw [← r.length]
  obtain ⟨j, h1, h2⟩ := Option.bind_eq_some_iff.mp h
  obtain ⟨u, e1, e2⟩ := r.get h2
  exact ⟨u, by rw [h1]; exact e1, e2⟩
theorem ixM (hK : X.K = G.K) : IxR X (R2M G E idxF) := by
  intro value slice pins s σ H x y v u Q I rx ry ⟨w, a, b, hH, ok, ra, rb, g⟩ hs
  subst hH
  have lift : ∀ {r : R2}, IxR X r → r x y w.H Q → wpAny (model X.prog X.w) X.A (subscriptTail value slice v u) (EP X pins σ Q) X.xe s := fun ho hr => ho value slice pins s σ _ _ _ v u Q I rx ry hr hs
  unfold idxF at g
  split at g
  · rename_i z i
    split at g
    · rename_i c e
      split at g
      · rename_i hz
        cases ra with | v ra => cases ra; cases rb with | v rb => cases rb; exact lift ix_str ⟨_, _, c, rfl, rfl, hz, e, Good.ok ok (.v (.str _)) g⟩
      · exact g.elim
    · exact g.elim
  · rename_i i _
    split at g
    · rename_i z e
      obtain ⟨xs, e1, e2⟩ := Option.bind_eq_some_iff.mp e
      obtain ⟨p, ws, rfl, hsq, r⟩ := seqOf_rep ok ra e1
      obtain ⟨u', e3, e4⟩ := at_map r e2
      cases rb with
      | v rb =>
        cases rb
        rcases hsq with hsq | hsq
        · exact lift ix_list ⟨p, ws, i, u', rfl, rfl, hK ▸ hsq, e3, Good.ok ok e4 g⟩
        · exact lift ix_tup ⟨p, ws, i, u', rfl, rfl, hK ▸ hsq, e3, Good.ok ok e4 g⟩
    · exact g.elim
  · exact g.elim
theorem fe_idx {a b : Expr} {ca cb : CE} {pos} (hK : X.K = G.K) (ha : PE X a (tM G E (evE G.T F ca))) (hb : PE X b (tM G E (evE G.T F cb))) (hs : PlainIx b) : PE X (.Subscript a b pos) (tM G E (evE G.T F (.idx ca cb))) :=
  PE.weaken (pe_ix (ixM hK) ha hb hs) fun σ H Q h => tOp_of (by simpa only [evE] using h)
end
end SC

namespace SC
open PySem PySem.Spec PyProof.Rows L2

/-- a def's promise: what the model gives -/
def spM (G : Gm) (f : List LV → MH → Out LV) : Sp := fun vs H Q E => ∃ w ls, w.H = H ∧ w.Ok G ∧ RepLs G w ls vs ∧ Good G (RepL G) E w Q (f ls w.h)
/-- a def that may be called -/
structure FnC (G : Gm) (P : Program) (wd : World) (mg : Str → Option Value) (base : Heap) (k : Nat) (F : Phi) (f : Nat) : Prop where
  ex : ∃ fd ps, FnOk P wd G.K mg base (L2.CX P wd) k (G.fa f) fd ps (spM G (F f)) ∧ Binds G.K fd ps []
  kp : PySem.W.keepIn G.K (.ref (G.fa f)) = true

section
variable {G : Gm} {E : XK} {X : Cx} {F : Phi} {k : Nat}
theorem Good.noexc {w : Wd} {Q : VK} {E E' : XK} {o : Out LV} (h : Good G (RepL G) E w Q (noexc o)) : Good G (RepL G) E' w Q o := by
  cases o with
  | ok x h' => exact h
  | exc c fs h' => exact h.elim
  | bad => exact h.elim
theorem fe_call {x : Str} {f : Nat} {e : Expr} {es : List Expr} {cs : CEs} {p pos : Pos} (hK : X.K = G.K) (C : FnC G X.prog X.w X.mg X.base k F f) (hr : Room k X.A) (hx : Passes (L2.CX X.prog X.w) X E) (hm : X.mg x = some (.ref (G.fa f))) (hg : Gl X x)
    (ha : PA X (e :: es) (tMs G E (evEs G.T F cs))) (hdb : (x == ("__debug__" : Str)) = false := by decide) (he : starEach (e :: es) X.env = (false, eval e X.env) :: starEach es X.env := by rfl) (hpl : (backTo pos (starEach es X.env)).any (·.1) = false := by rfl) :
    PE X (.Call (.Name x p) (e :: es) [] pos) (tM G E (evE G.T F (.call f cs))) := by
  obtain ⟨⟨fd, ps, Fn, hb⟩, kp⟩ := C
  rw [← hK] at Fn hb kp
  refine PE.weaken (pe_call Fn hr hg hm kp hb .nil hx ha hdb he hpl) fun σ H Q ⟨w, r, hH, ok, re, g⟩ => ?_
  simp only [evE] at g
  refine ⟨w, r, hH, ok, re, (Good.bind (R1 := RepLs G) g).mono fun vs H1 ⟨w1, ls, e1, k1, hH1, ra, _, g1⟩ => ?_⟩
  exact ⟨w1, ls, hH1, k1, by rw [List.append_nil]; exact ra, g1⟩
theorem insOf_rep {w : Wd} {x : LV} {v : V} {c : Nat} {fs : List (Nat × LV)} (ok : w.Ok G) (r : RepL G w x v) (h : insOf G.T w.h x = some (c, fs)) :
    ∃ a dx fs', v = .ref a ∧ w.H a = some (.ins (G.Cl c) dx fs') ∧ fs'.map (·.1) = (fs.map (·.1)).map G.nm ∧ RepLs G w (fs.map (·.2)) (fs'.map (·.2)) ∧ ClsF G c ∧ ∀ p ∈ fs, p.1 ∈ G.T.lay c := by
  cases r with
  | v r =>
    cases r with
    | @ins a c' dx vs fs' kc e hn rv =>
      simp only [insOf, Option.some.injEq, Prod.mk.injEq] at h
      obtain ⟨rfl, rfl⟩ := h
      have hl : (G.T.lay c').length = (vs.map LV.v).length := by
        have := congrArg List.length hn
        have l2 := rv.length
        simp at this l2 ⊢
        omega
      refine ⟨a, dx, fs', rfl, ok.le _ _ e, ?_, ?_, kc, fun p hp => (List.of_mem_zip hp).1⟩
      · rw [List.map_fst_zip (Nat.le_of_eq hl)]; exact hn
      · rw [List.map_snd_zip (Nat.le_of_eq hl.symm)]; exact rv.toL
    | _ => simp [insOf] at h
  | @r n hn =>
    simp only [insOf] at h
    cases q : w.h[n]? with
    | none => simp [q] at h
    | some o =>
      cases o with
      | ins d gs =>
        simp only [q, Option.some.injEq, Prod.mk.injEq] at h
        obtain ⟨rfl, rfl⟩ := h
        obtain ⟨o', h1, dx, fs', rfl, e1, e2, e3, e4, e5⟩ := ok.cell n _ q
        exact ⟨_, dx, fs', rfl, h1, e1, e2, e4, e5⟩
      | _ => simp [q] at h
theorem look_rep {w : Wd} {nm : Nat → Str} {L : List Nat} (inj : ∀ f g, f ∈ L → g ∈ L → nm f = nm g → f = g) {f : Nat} (hf : f ∈ L) : ∀ {fs : List (Nat × LV)} {fs' : List (Str × V)}, fs'.map (·.1) = (fs.map (·.1)).map nm → RepLs G w (fs.map (·.2)) (fs'.map (·.2)) → (∀ p ∈ fs, p.1 ∈ L) →
    ∀ {y : LV}, fs.lookup f = some y → ∃ v, fs'.lookup (nm f) = some v ∧ RepL G w y v
  | [], fs', h1, h2, hL, y, e => by simp at e
  | (g, z) :: fs, [], h1, h2, hL, y, e => by simp at h1
  | (g, z) :: fs, (g', z') :: fs', h1, h2, hL, y, e => by
    simp only [List.map_cons, List.cons.injEq] at h1
    obtain ⟨rfl, h1⟩ := h1
    cases h2 with
    | cons r h2 =>
      by_cases hg : f = g
      · subst hg
        simp only [List.lookup, beq_self_eq_true, Option.some.injEq] at e ⊢
        subst e
        exact ⟨z', rfl, r⟩
      · have hn : nm f ≠ nm g := fun e0 => hg (inj f g hf (hL (g, z) List.mem_cons_self) e0)
        have b1 : (f == g) = false := by simpa using hg
        have b2 : (nm f == nm g) = false := by simpa using hn
        simp only [List.lookup, b1, b2] at e ⊢
        exact look_rep inj hf h1 h2 (fun p hp => hL p (List.mem_cons_of_mem _ hp)) e
theorem look_none {nm : Nat → Str} {m : Nat} : ∀ {fs : List (Nat × LV)} {fs' : List (Str × V)}, fs'.map (·.1) = (fs.map (·.1)).map nm → (∀ p ∈ fs, nm p.1 ≠ nm m) → fs'.lookup (nm m) = none
  | [], [], h1, hL => rfl
  | [], _ :: _, h1, hL => by simp at h1
  | _ :: _, [], h1, hL => by simp at h1
  | (g, z) :: fs, (g', z') :: fs', h1, hL => by
    simp only [List.map_cons, List.cons.injEq] at h1
    obtain ⟨rfl, h1⟩ := h1
    have b2 : (nm m == nm g) = false := by
      have := hL (g, z) List.mem_cons_self
      simpa using fun e => this e.symm
    simp only [List.lookup, b2]
    exact look_none h1 fun p hp => hL p (List.mem_cons_of_mem _ hp)
/-- o.f: a field, or a property -/
theorem fe_attr {o : Expr} {co : CE} {f : Nat} {x : Str} {pos : Pos} (hx : x = G.nm f) (hK : X.K = G.K) (C : ∀ c g, G.T.prop c f = some g → FnC G X.prog X.w X.mg X.base k F g) (hr : Room (k + 1) X.A) (ho : PE X o (tM G E (evE G.T F co)))
    (hab : attributeBase o x X.env (eval o X.env) = eval o X.env := by rfl) : PE X (.Attribute o x pos) (tM G E (evE G.T F (.attr f co))) := by
  subst hx
  refine ⟨fun pins s σ H Q I h => ?_⟩
  obtain ⟨w, r, hH, ok, re, g⟩ := id h
  simp only [evE] at g
  cases q : evE G.T F co r w.h with
  | bad => simp only [q, Out.bind] at g; exact g.elim
  | exc c fs h' =>
    simp only [q, Out.bind] at g
    refine (pe_fld ho hab).run pins s σ H Q I ⟨w, r, hH, ok, re, ?_⟩
    rw [q]; exact g
  | ok l h' =>
    simp only [q, Out.bind] at g
    cases q2 : insOf G.T h' l with
    | none => simp only [q2] at g; exact g.elim
    | some cf =>
      obtain ⟨c, fs⟩ := cf
      simp only [q2] at g
      cases q3 : G.T.prop c f with
      | none =>
        simp only [q3] at g
        split at g
        · rename_i hf
          refine (pe_fld ho hab).run pins s σ H Q I ⟨w, r, hH, ok, re, ?_⟩
          rw [q]
          intro w1 e1 k1 eh v rv
          subst eh
          obtain ⟨a, dx, fs', rfl, h1, h2, h3, kc, hL⟩ := insOf_rep k1 rv q2
          split at g
          · rename_i y hy
            obtain ⟨u, h4, h5⟩ := look_rep kc.inj hf h2 h3 hL hy
            exact ⟨a, _, dx, fs', u, rfl, h1, hK ▸ kc.cl, hK ▸ kc.noat f hf, h4, Good.ok k1 h5 (Good.from e1 g)⟩
          · exact g.elim
        · exact g.elim
      | some gt =>
        simp only [q3] at g
        obtain ⟨⟨fd, ps, Fn, hb⟩, kp⟩ := C c gt q3
        rw [← hK] at Fn hb
        -- the class of what stands there
        by_cases kc : ClsF G c
        · obtain ⟨p, hp⟩ := kc.prop f gt q3
          refine (pe_prop (C := G.Cl c) (E := E0) ho (hK ▸ kc.cl) (hK ▸ hp) Fn hr hb .nil passL hab).run pins s σ H Q I ⟨w, r, hH, ok, re, ?_⟩
          rw [q]
          intro w1 e1 k1 eh v rv
          subst eh
          obtain ⟨a, dx, fs', rfl, h1, h2, h3, _, hL⟩ := insOf_rep k1 rv q2
          exact ⟨a, dx, fs', rfl, h1, w1, [l], rfl, k1, .cons rv .nil, Good.from e1 g.noexc⟩
        · refine (pe_fld ho hab).run pins s σ H Q I ⟨w, r, hH, ok, re, ?_⟩
          rw [q]
          intro w1 e1 k1 eh v rv
          subst eh
          obtain ⟨a, dx, fs', rfl, h1, h2, h3, z, hL⟩ := insOf_rep k1 rv q2
          exact absurd z kc
end
end SC

namespace SC
open PySem PySem.Spec PyProof.Rows L2

section
variable {G : Gm} {E : XK} {X : Cx} {F : Phi} {k : Nat}
/-- the receiver's class is known ahead: the model runs alike -/
theorem by_class {co : CE} {σ : L2.St} {H : Hp} {Q : VK} {K1 : Nat → LV → MH → ME → Out LV} {m : ME → MH → Out LV}
    (hm : ∀ r h, m r h = (evE G.T F co r h).bind fun x h => match insOf G.T h x with
      | some (c, _) => K1 c x h r
      | none => .bad) (h : tM G E m σ H Q) :
    (∃ w r, w.H = H ∧ w.Ok G ∧ RepE G w r σ ∧ (∀ Q' : VK, Good G (RepL G) E w Q' (evE G.T F co r w.h))) ∨
    ∃ c, ClsF G c ∧ tM G E (evE G.T F co) σ H (fun x H1 => ∃ w r l a dx fs fs', w.H = H1 ∧ w.Ok G ∧ RepE G w r σ ∧ RepL G w l x ∧ x = .ref a ∧ H1 a = some (.ins (G.Cl c) dx fs') ∧ insOf G.T w.h l = some (c, fs) ∧ fs'.map (·.1) = (fs.map (·.1)).map G.nm ∧ (∀ p ∈ fs, p.1 ∈ G.T.lay c) ∧
      Good G (RepL G) E w Q (K1 c l w.h r)) := by
  obtain ⟨w, r, hH, ok, re, g⟩ := h
  rw [hm] at g
  cases q : evE G.T F co r w.h with
  | bad => simp only [q, Out.bind] at g; exact g.elim
  | exc c fs h' =>
    simp only [q, Out.bind] at g
    exact .inl ⟨w, r, hH, ok, re, fun Q' => by rw [q]; exact g⟩
  | ok l h' =>
    simp only [q, Out.bind] at g
    cases q2 : insOf G.T h' l with
    | none => simp only [q2] at g; exact g.elim
    | some cf =>
      obtain ⟨c, fs⟩ := cf
      simp only [q2] at g
      by_cases kc : ClsF G c
      · refine .inr ⟨c, kc, w, r, hH, ok, re, ?_⟩
        rw [q]
        intro w1 e1 k1 eh v rv
        subst eh
        obtain ⟨a, dx, fs', rfl, h1, h2, h3, _, hL⟩ := insOf_rep k1 rv q2
        exact ⟨w1, r, l, a, dx, fs, fs', rfl, k1, re.ext e1, rv, rfl, h1, q2, h2, hL, Good.from e1 g⟩
      · refine .inl ⟨w, r, hH, ok, re, fun Q' => ?_⟩
        rw [q]
        intro w1 e1 k1 eh v rv
        subst eh
        obtain ⟨a, dx, fs', rfl, h1, h2, h3, z, hL⟩ := insOf_rep k1 rv q2
        exact absurd z kc
/-- o.m(e, ..) -/
theorem fe_meth {o e : Expr} {es : List Expr} {co : CE} {cs : CEs} {m : Nat} {x : Str} {apos pos : Pos} {pl : Sem Bool} (hx : x = G.nm m) (hK : X.K = G.K) (C : ∀ c g, G.T.meth c m = some g → FnC G X.prog X.w X.mg X.base k F g) (hr : Room k X.A)
    (hp : Passes (L2.CX X.prog X.w) X E) (ho : PE X o (tM G E (evE G.T F co))) (ha : PA X (e :: es) (tMs G E (evEs G.T F cs)))
    (hst : starEach (e :: es) X.env = (false, eval e X.env) :: starEach es X.env := by rfl) (hpl : (backTo pos (starEach es X.env)).any (·.1) = false := by rfl)
    (ht : eval (.Call (.Attribute o x apos) (e :: es) [] pos) X.env = (do
      let ov ← eval o X.env
      standAt apos.atName
      let (f, first) ← holding [ov] (getMethod ov x pl)
      callWith pos f first (backTo pos (starEach (e :: es) X.env)) (backToKw pos (keywordEach [] X.env))) := by rfl) :
    PE X (.Call (.Attribute o x apos) (e :: es) [] pos) (tM G E (evE G.T F (.meth m co cs))) := by
  subst hx
  refine ⟨fun pins s σ H Q I h => ?_⟩
  rcases by_class (co := co) (m := evE G.T F (.meth m co cs)) (K1 := fun c x h r => match G.T.meth c m with
      | some f => (evEs G.T F cs r h).bind fun xs h => F f (x :: xs) h
      | none => .bad) (fun r h => rfl) h with ⟨w, r, hH, ok, re, g⟩ | ⟨c, kc, w, r, hH, ok, re, g⟩
  · -- what ends ahead: any class will do
    exact methcall_of (pl := pl) ho I ⟨w, r, hH, ok, re, g _⟩ ht
  · cases q : G.T.meth c m with
    | none =>
      refine methcall_of (pl := pl) ho I ⟨w, r, hH, ok, re, g.mono fun x H1 ⟨w1, r1, l, a, dx, fs, fs', _, _, _, _, _, _, _, _, _, g1⟩ => ?_⟩ ht
      simp only [q] at g1
      exact g1.elim
    | some f =>
      obtain ⟨⟨fd, ps, Fn, hb⟩, kp⟩ := C c f q
      rw [← hK] at Fn hb
      obtain ⟨hm, hne⟩ := kc.meth m f q
      refine (pe_meth (pl := pl) ho (hK ▸ kc.cl) (hK ▸ hm) Fn hr hb .nil hp ha hst hpl ht).run pins s σ H Q I ⟨w, r, hH, ok, re, g.mono fun x H1 ⟨w1, r1, l, a, dx, fs, fs', hH1, k1, re1, rl, ex, ea, ei, en, eL, g1⟩ => ?_⟩
      simp only [q] at g1
      refine ⟨a, dx, fs', ex, ea, look_none en (fun p hp => hne p.1 (eL p hp)), w1, r1, hH1, k1, re1, (Good.bind (R1 := RepLs G) g1).mono fun vs H2 ⟨w2, ls, e2, k2, hH2, rls, _, g2⟩ => ?_⟩
      exact ⟨w2, l :: ls, hH2, k2, by rw [List.append_nil]; exact .cons (rl.ext e2) rls, g2⟩
/-- o.m() -/
theorem fe_meth0 {o : Expr} {co : CE} {m : Nat} {x : Str} {apos pos : Pos} {pl : Sem Bool} (hx : x = G.nm m) (hK : X.K = G.K) (C : ∀ c g, G.T.meth c m = some g → FnC G X.prog X.w X.mg X.base k F g) (hr : Room k X.A)
    (hp : Passes (L2.CX X.prog X.w) X E) (ho : PE X o (tM G E (evE G.T F co)))
    (ht : eval (.Call (.Attribute o x apos) [] [] pos) X.env = (do
      let ov ← eval o X.env
      standAt apos.atName
      let (f, first) ← holding [ov] (getMethod ov x pl)
      callWith pos f first (backTo pos (starEach [] X.env)) (backToKw pos (keywordEach [] X.env))) := by rfl) :
    PE X (.Call (.Attribute o x apos) [] [] pos) (tM G E (evE G.T F (.meth m co .nil))) := by
  subst hx
  refine ⟨fun pins s σ H Q I h => ?_⟩
  rcases by_class (co := co) (m := evE G.T F (.meth m co .nil)) (K1 := fun c x h r => match G.T.meth c m with
      | some f => (evEs G.T F .nil r h).bind fun xs h => F f (x :: xs) h
      | none => .bad) (fun r h => rfl) h with ⟨w, r, hH, ok, re, g⟩ | ⟨c, kc, w, r, hH, ok, re, g⟩
  · exact methcall_of (pl := pl) ho I ⟨w, r, hH, ok, re, g _⟩ ht
  · cases q : G.T.meth c m with
    | none =>
      refine methcall_of (pl := pl) ho I ⟨w, r, hH, ok, re, g.mono fun x H1 ⟨w1, r1, l, a, dx, fs, fs', _, _, _, _, _, _, _, _, _, g1⟩ => ?_⟩ ht
      simp only [q] at g1
      exact g1.elim
    | some f =>
      obtain ⟨⟨fd, ps, Fn, hb⟩, kp⟩ := C c f q
      rw [← hK] at Fn hb
      obtain ⟨hm, hne⟩ := kc.meth m f q
      refine (pe_meth0 (pl := pl) ho (hK ▸ kc.cl) (hK ▸ hm) Fn hr hb .nil hp ht).run pins s σ H Q I ⟨w, r, hH, ok, re, g.mono fun x H1 ⟨w1, r1, l, a, dx, fs, fs', hH1, k1, re1, rl, ex, ea, ei, en, eL, g1⟩ => ?_⟩
      simp only [q] at g1
      refine ⟨a, dx, fs', ex, ea, look_none en (fun p hp => hne p.1 (eL p hp)), ?_⟩
      exact ⟨w1, [l], hH1, k1, .cons rl .nil, g1⟩
/-- o(e, ..) by __call__ -/
theorem fe_inst {o e : Expr} {es : List Expr} {co : CE} {cs : CEs} {pos : Pos} (hK : X.K = G.K) (C : ∀ c g, G.T.callm c = some g → FnC G X.prog X.w X.mg X.base k F g) (hr : Room k X.A)
    (hp : Passes (L2.CX X.prog X.w) X E) (ho : PE X o (tM G E (evE G.T F co))) (ha : PA X (e :: es) (tMs G E (evEs G.T F cs)))
    (ht : eval (.Call o (e :: es) [] pos) X.env = (do callWith pos (← eval o X.env) [] (backTo pos (starEach (e :: es) X.env)) (backToKw pos (keywordEach [] X.env))) := by rfl)
    (he : starEach (e :: es) X.env = (false, eval e X.env) :: starEach es X.env := by rfl) (hpl : (backTo pos (starEach es X.env)).any (·.1) = false := by rfl) :
    PE X (.Call o (e :: es) [] pos) (tM G E (evE G.T F (.inst co cs))) := by
  refine ⟨fun pins s σ H Q I h => ?_⟩
  have ahead : ∀ {Q' : VK}, tM G E (evE G.T F co) σ H (fun _ _ => False) → wpAny (model X.prog X.w) X.A (eval (.Call o (e :: es) [] pos) X.env) (EP X pins σ Q) X.xe s := fun z => by
    rw [ht]
    exact wpAny_bind (thn (ho.run pins s σ H _ I z) fun u s1 ⟨_, _, _, _, z⟩ => z.elim)
  rcases by_class (co := co) (m := evE G.T F (.inst co cs)) (K1 := fun c x h r => match G.T.callm c with
      | some f => (evEs G.T F cs r h).bind fun xs h => match insOf G.T h x with
        | some (d, _) => if d = c then F f (x :: xs) h else .bad
        | none => .bad
      | none => .bad) (fun r h => rfl) h with ⟨w, r, hH, ok, re, g⟩ | ⟨c, kc, w, r, hH, ok, re, g⟩
  · exact ahead (Q' := Q) ⟨w, r, hH, ok, re, g _⟩
  · cases q : G.T.callm c with
    | none =>
      refine ahead (Q' := Q) ⟨w, r, hH, ok, re, g.mono fun x H1 ⟨w1, r1, l, a, dx, fs, fs', _, _, _, _, _, _, _, _, _, g1⟩ => ?_⟩
      simp only [q] at g1
      exact g1.elim
    | some f =>
      obtain ⟨⟨fd, ps, Fn, hb⟩, kp⟩ := C c f q
      rw [← hK] at Fn hb
      have hc := kc.callm f q
      refine (StX.pe_callO ho (hK ▸ hc) (Fn.raw hb .nil) hr hp ha ht he hpl).run pins s σ H Q I ⟨w, r, hH, ok, re, g.mono fun x H1 ⟨w1, r1, l, a, dx, fs, fs', hH1, k1, re1, rl, ex, ea, ei, en, eL, g1⟩ => ?_⟩
      simp only [q] at g1
      refine ⟨a, ex, w1, r1, hH1, k1, re1, (Good.bind (R1 := RepLs G) g1).mono fun vs H2 ⟨w2, ls, e2, k2, hH2, rls, em, g2⟩ => ?_⟩
      cases q5 : insOf G.T w2.h l with
      | none => simp only [q5] at g2; exact g2.elim
      | some df =>
        obtain ⟨d, fs2⟩ := df
        simp only [q5] at g2
        split at g2
        · rename_i hd
          subst hd
          obtain ⟨a2, dx2, fs2', ea2, h1, _, _, _, _⟩ := insOf_rep k2 (rl.ext e2) q5
          rw [ex] at ea2
          cases ea2
          exact ⟨.inr ⟨dx2, fs2', hH2 ▸ h1⟩, w2, l :: ls, hH2, k2, by rw [List.append_nil]; exact .cons (ex ▸ rl.ext e2) rls, g2⟩
        · exact g2.elim
end
end SC

namespace SC
open PySem PySem.Spec PyProof.Rows L2

/-- something beside the model: tracked, but neither frozen nor live -/
def Wd.aux (w : Wd) (a : Addr) (o : HO) : Wd := { w with H := upd w.H a o }
section
variable {G : Gm} {w : Wd}
theorem Wd.aux_ext {a : Addr} {o : HO} (k : w.Ok G) (h : w.H a = none) : Ext w (w.aux a o) where
  len := Nat.le_refl _
  phi := fun _ _ => rfl
  mono := fun _ _ e => e
  frame := fun b u e _ _ => sub_upd h b u e
  tk := fun b ps e _ => ⟨ps, sub_upd h b _ e⟩
  newF := fun b u e => .inl e
  newP := fun n h1 h2 => absurd h2 (Nat.not_lt.mpr h1)
  keep := fun n hn => by
    obtain ⟨u, e⟩ := k.there n hn
    exact ⟨u, sub_upd h _ _ e⟩
theorem Wd.aux_ok {a : Addr} {o : HO} (k : w.Ok G) (h : w.H a = none) : (w.aux a o).Ok G where
  le := fun b u e => sub_upd h b u (k.le b u e)
  cell := fun n c e => by
    obtain ⟨o', h1, h2⟩ := k.cell n c e
    exact ⟨o', sub_upd h _ _ h1, CellR.mono (fun x v r => r.ext (w.aux_ext k h)) (fun z => z) h2⟩
  inj := k.inj
  tabs := fun p hp => by
    have t := k.tabs p hp
    exact t.step (by show upd w.H a o p.1 = _; rw [upd_ne (t.ne h)]) (fun _ _ e => e) t.out t.free
end
section
variable {G : Gm} {E : XK} {X : Cx} {F : Phi} {k : Nat}
/-- C(e, ..) -/
theorem make_reads {c f : Nat} {w1 : Wd} {ls : List LV} {vs : List V} {Q : VK} (kc : ClsF G c) (k1 : w1.Ok G) (rls : RepLs G w1 ls vs)
    (g1 : Good G (RepL G) E w1 Q ((F f (.r w1.h.length :: ls) (w1.h ++ [.ins c []])).bind fun z h' => match z with
      | .v .non => makeEnd G.T c w1.h.length h'
      | _ => .bad)) :
    ∀ x dx, w1.H x = none → w1.H dx = none → dx ≠ x → spM G (F f) (.ref x :: vs) (upd (upd w1.H dx (.own x)) x (.ins (G.Cl c) dx [])) (fun v H2 => v = .non ∧ Q (.ref x) H2) E := by
  intro x dx hx hdx hne
  have ka := w1.aux_ok (o := .own x) k1 hdx
  have ea := w1.aux_ext (o := .own x) k1 hdx
  have hx' : (w1.aux dx (.own x)).H x = none := by
    show upd w1.H dx (.own x) x = none
    rw [upd_ne (Ne.symm hne)]; exact hx
  have ep := (w1.aux dx (.own x)).push_ext (c := .ins c []) (o := .ins (G.Cl c) dx []) ka hx'
  have kp := (w1.aux dx (.own x)).push_ok (c := .ins c []) (o := .ins (G.Cl c) dx []) ka hx' ⟨dx, [], rfl, rfl, .nil, ka.free hx', kc, by simp⟩
  have e2 := ea.trans ep
  refine ⟨(w1.aux dx (.own x)).push x (.ins c []) (.ins (G.Cl c) dx []), .r w1.h.length :: ls, rfl, kp, .cons push_ref (rls.ext e2), ?_⟩
  show Good G (RepL G) E _ _ (F f (.r w1.h.length :: ls) (w1.h ++ [.ins c []]))
  refine (Good.bind (R1 := RepL G) (Good.from e2 g1)).mono fun v H2 ⟨w3, z, e3, k3, hH3, rz, em, _⟩ => ?_
  subst hH3
  rw [em] at g1
  simp only [Out.bind] at g1
  cases rz with
  | r _ => exact g1.elim
  | v rz =>
    cases rz with
    | non =>
      refine ⟨rfl, ?_⟩
      dsimp only at g1
      have hp : w3.p w1.h.length = x := by
        rw [e3.phi _ (by simp [Wd.push, Wd.aux])]
        exact Wd.push_at
      have hlen : w1.h.length < w3.h.length := by
        have := e3.len
        simp [Wd.push, Wd.aux] at this
        omega
      simp only [makeEnd] at g1
      split at g1
      · cases q : w3.h[w1.h.length]? with
        | none => simp only [q] at g1; exact g1.elim
        | some o =>
          cases o with
          | dead => simp only [q] at g1; exact g1.elim
          | lst _ => simp only [q] at g1; exact g1.elim
          | ins d fs =>
            simp only [q] at g1
            split at g1
            · rename_i hc
              obtain ⟨rfl, hl, hlen3, hwf⟩ := hc
              cases q2 : pures (fs.map (·.2)) with
              | none => simp only [q2] at g1; exact g1.elim
              | some ys =>
                simp only [q2] at g1
                obtain ⟨o', h1, dx', fs', rfl, h2, h3, h4, h5, h6⟩ := k3.cell _ _ q
                have ef := w3.freeze_ext k3 hlen h4 (o := .ins (G.Cl d) dx' fs')
                have kf := w3.freeze_ok k3 hlen h4 h1
                have ec := ((e2.trans e3).trans ef).cut
                have et : (w3.h.set w1.h.length .dead).take w1.h.length = w3.h.take w1.h.length := by rw [List.take_set_of_le (Nat.le_refl _)]
                have hwf2 : wfTo w1.h.length (w3.freeze w1.h.length (.ins (G.Cl d) dx' fs')).h = true := by
                  show ((w3.h.set w1.h.length .dead).take w1.h.length).all _ = true
                  rw [et]
                  exact hwf
                have kcut := kf.cut (m := w1.h.length) (by simp [Wd.freeze]; omega) hwf2
                have rv : RepV G ((w3.freeze w1.h.length (.ins (G.Cl d) dx' fs')).cut w1.h.length).F (.ins d ys) (.ref x) := by
                  refine .ins (dx := dx') (fs := fs') h5 ?_ ?_ ((h3.pure q2).mono ef.mono)
                  · show upd w3.F (w3.p w1.h.length) _ x = _
                    rw [hp]; exact upd_same
                  · rw [h2, hl]
                exact g1 _ ec kcut et _ (.v rv)
            · exact g1.elim
      · have g2 := Good.ok (R := RepL G) k3 (.r hlen) (Good.from (e2.trans e3) g1)
        rwa [hp] at g2
    | _ => exact g1.elim
theorem fe_make {x : Str} {c f : Nat} {e : Expr} {es : List Expr} {cs : CEs} {p pos : Pos} (hK : X.K = G.K) (kc : ClsF G c) (hi : G.T.init c = some f) (M : Mk G.K (G.Cl c) (G.fa f)) (C : FnC G X.prog X.w X.mg X.base k F f) (hr : Room (k + 1) X.A)
    (hx : Passes (L2.CX X.prog X.w) X E) (hm : X.mg x = some (.ref (G.Cl c))) (hg : Gl X x)
    (ha : PA X (e :: es) (tMs G E (evEs G.T F cs))) (hdb : (x == ("__debug__" : Str)) = false := by decide) (he : starEach (e :: es) X.env = (false, eval e X.env) :: starEach es X.env := by rfl) (hpl : (backTo pos (starEach es X.env)).any (·.1) = false := by rfl) :
    PE X (.Call (.Name x p) (e :: es) [] pos) (tM G E (evE G.T F (.make c cs))) := by
  obtain ⟨⟨fd, ps, Fn, hb⟩, kp⟩ := C
  rw [← hK] at Fn hb kp
  refine PE.weaken (pe_make (hK ▸ M) Fn hr hg hm hb .nil hx ha hdb he hpl) fun σ H Q ⟨w, r, hH, ok, re, g⟩ => ?_
  simp only [evE] at g
  refine ⟨w, r, hH, ok, re, (Good.bind (R1 := RepLs G) g).mono fun vs H1 ⟨w1, ls, e1, k1, hH1, ra, _, g1⟩ => ?_⟩
  simp only [hi] at g1
  subst hH1
  rw [List.append_nil]
  exact make_reads kc k1 ra g1
end
end SC

namespace SC
open PySem PySem.Spec PyProof.Rows L2

/-! ### sorting texts -/
theorem ltS_irrefl (a : Str) : ltS a a = false := by simp [ltS, List.lt_irrefl]
theorem str_ext {a b : Str} (h : a.cps.toList = b.cps.toList) : a = b := by
  cases a; cases b
  simp at h
  rw [h]
theorem leS_antisymm {a b : Str} (h1 : leS a b = true) (h2 : leS b a = true) : a = b := by
  simp only [leS, ltS, Bool.not_eq_true', decide_eq_false_iff_not] at h1 h2
  exact str_ext (List.le_antisymm (List.not_lt.mp h1) (List.not_lt.mp h2))
theorem leS_trans {a b c : Str} (h1 : leS a b = true) (h2 : leS b c = true) : leS a c = true := by
  simp only [leS, ltS, Bool.not_eq_true', decide_eq_false_iff_not] at h1 h2 ⊢
  exact List.not_lt.mpr (List.le_trans (List.not_lt.mp h1) (List.not_lt.mp h2))
theorem leS_total (a b : Str) : leS a b = true ∨ leS b a = true := by
  simp only [leS, ltS, Bool.not_eq_true', decide_eq_false_iff_not]
  rcases List.le_total a.cps.toList b.cps.toList with h | h
  · exact .inl (List.not_lt.mpr h)
  · exact .inr (List.not_lt.mpr h)
theorem insS_perm (x : Str) : ∀ l : List Str, (insS x l).Perm (x :: l)
  | [] => .refl _
  | y :: r => by
    simp only [insS]
    split
    · exact .refl _
    · exact ((insS_perm x r).cons y).trans (.swap x y r)
theorem sortS_perm : ∀ l : List Str, (sortS l).Perm l
  | [] => .refl _
  | x :: r => (insS_perm x _).trans ((sortS_perm r).cons x)
theorem insS_sorted (x : Str) : ∀ l : List Str, l.Pairwise (fun a b => leS a b = true) → (insS x l).Pairwise (fun a b => leS a b = true)
  | [], _ => by simp [insS]
  | y :: r, h => by
    have h' := List.pairwise_cons.mp h
    simp only [insS]
    split
    · rename_i hxy
      refine List.pairwise_cons.mpr ⟨fun z hz => ?_, h⟩
      rcases List.mem_cons.mp hz with rfl | hz
      · exact hxy
      · exact leS_trans hxy (h'.1 z hz)
    · rename_i hxy
      refine List.pairwise_cons.mpr ⟨fun z hz => ?_, insS_sorted x r h'.2⟩
      rcases List.mem_cons.mp ((insS_perm x r).mem_iff.mp hz) with rfl | hz
      · exact (leS_total y z).resolve_right hxy
      · exact h'.1 z hz
theorem sortS_sorted : ∀ l : List Str, (sortS l).Pairwise (fun a b => leS a b = true)
  | [] => .nil
  | x :: r => insS_sorted x _ (sortS_sorted r)
theorem sortedS_pairwise : ∀ {l : List Str}, sortedS l = true → l.Pairwise (fun a b => leS a b = true)
  | [], _ => .nil
  | x :: r, h => by
    have go : ∀ (p : Str) (l : List Str), risingS p l = true → (p :: l).Pairwise (fun a b => leS a b = true) := by
      intro p l
      induction l generalizing p with
      | nil => intro _; simp
      | cons y r ih =>
        intro h
        simp only [risingS, Bool.and_eq_true, Bool.not_eq_true', ltCps_eq, decide_eq_false_iff_not] at h
        have h2 := ih y h.2
        have hpy : leS p y = true := by simp only [leS, ltS, Bool.not_eq_true', decide_eq_false_iff_not]; exact h.1
        refine List.pairwise_cons.mpr ⟨fun z hz => ?_, h2⟩
        rcases List.mem_cons.mp hz with rfl | hz
        · exact hpy
        · exact leS_trans hpy ((List.pairwise_cons.mp h2).1 z hz)
    exact go x r h
theorem sorted_unique : ∀ {l m : List Str}, l.Perm m → l.Pairwise (fun a b => leS a b = true) → m.Pairwise (fun a b => leS a b = true) → l = m := fun p a b =>
  p.eq_of_pairwise (fun x y _ _ h1 h2 => leS_antisymm h1 h2) a b
theorem sortS_unique {l m : List Str} (p : l.Perm m) (h : sortedS l = true) : l = sortS m :=
  sorted_unique (p.trans (sortS_perm m).symm) (sortedS_pairwise h) (sortS_sorted m)

section
variable {G : Gm} {E : XK} {X : Cx} {F : Phi}
def RcM (G : Gm) (E : XK) (b : Blt) : List V → Hp → VK → Prop := fun vs H Q => ∃ w ls, w.H = H ∧ w.Ok G ∧ RepLs G w ls vs ∧ Good G (RepL G) E w Q (bltF G.T b ls w.h)
theorem call_of {f : Value} {b : Blt} (h : ∀ (w : Wd) (ls : List LV) (vs : List V) (Q : VK), w.Ok G → RepLs G w ls vs → Good G (RepL G) E w Q (bltF G.T b ls w.h) → ∃ r, CallR X f r ∧ r vs w.H Q) : CallR X f (RcM G E b) := by
  intro pins s σ H vs us Q I r ⟨w, ls, hH, ok, rl, g⟩
  subst hH
  obtain ⟨r', hc, hr⟩ := h w ls vs Q ok rl g
  exact hc pins s σ _ vs us Q I r hr
theorem rep1 {w : Wd} {x : LV} {vs : List V} (r : RepLs G w [x] vs) : ∃ v, vs = [v] ∧ RepL G w x v := by
  cases r with
  | cons h t => cases t; exact ⟨_, rfl, h⟩
theorem rep2 {w : Wd} {x y : LV} {vs : List V} (r : RepLs G w [x, y] vs) : ∃ v u, vs = [v, u] ∧ RepL G w x v ∧ RepL G w y u := by
  cases r with
  | cons h t =>
    obtain ⟨u, rfl, h2⟩ := rep1 t
    exact ⟨_, u, rfl, h, h2⟩
theorem seqOf_repL {w : Wd} {x : LV} {v : V} {xs : List LV} (k : w.Ok G) (r : RepL G w x v) (h : seqOf w.h x = some xs) (hn : ∀ ys, x ≠ .v (.tup ys)) : ∃ a ws, v = .ref a ∧ SqL G.K w.H a ws ∧ RepLs G w xs ws := by
  cases r with
  | v r =>
    cases r with
    | lst e rs => simp only [seqOf, Option.some.injEq] at h; subst h; exact ⟨_, _, rfl, .inl (.inl (k.le _ _ e)), rs.toL⟩
    | scr e rs => simp only [seqOf, Option.some.injEq] at h; subst h; exact ⟨_, _, rfl, Sub.sqL k.le e, rs.toL⟩
    | tup e rs => exact absurd rfl (hn _)
    | _ => simp [seqOf] at h
  | @r n hn =>
    simp only [seqOf] at h
    cases q : w.h[n]? with
    | none => simp [q] at h
    | some o =>
      cases o with
      | lst ys =>
        simp only [q, Option.some.injEq] at h; subst h
        obtain ⟨o', h1, ws, rfl, rw', hF⟩ := k.cell n _ q
        exact ⟨_, ws, rfl, .inl (.inl h1), rw'⟩
      | _ => simp [q] at h
theorem pures_map : ∀ ys : List MV, pures (ys.map .v) = some ys
  | [] => rfl
  | y :: r => by simp [pures, pures_map r]
theorem un1_of {w : Wd} {Q : VK} {f : LV → MH → Out LV} {ls : List LV} {h : MH} (g : Good G (RepL G) E w Q (un1 f ls h)) : ∃ x, ls = [x] ∧ Good G (RepL G) E w Q (f x h) := by
  unfold un1 at g
  split at g
  · exact ⟨_, rfl, g⟩
  · exact g.elim
theorem un2_of {w : Wd} {Q : VK} {f : LV → LV → MH → Out LV} {ls : List LV} {h : MH} (g : Good G (RepL G) E w Q (un2 f ls h)) : ∃ x y, ls = [x, y] ∧ Good G (RepL G) E w Q (f x y h) := by
  unfold un2 at g
  split at g
  · exact ⟨_, _, rfl, g⟩
  · exact g.elim
theorem un0_of {w : Wd} {Q : VK} {f : MH → Out LV} {ls : List LV} {h : MH} (g : Good G (RepL G) E w Q (un0 f ls h)) : ls = [] ∧ Good G (RepL G) E w Q (f h) := by
  unfold un0 at g
  split at g
  · exact ⟨rfl, g⟩
  · exact g.elim
theorem call1_of {f : Value} {b : Blt} {k : LV → MH → Out LV} (hb : ∀ ls h, bltF G.T b ls h = un1 k ls h) (h : ∀ (w : Wd) (x : LV) (v : V) (Q : VK), w.Ok G → RepL G w x v → Good G (RepL G) E w Q (k x w.h) → ∃ r, CallR X f r ∧ r [v] w.H Q) : CallR X f (RcM G E b) :=
  call_of fun w ls vs Q ok rl g => by
    rw [hb] at g
    obtain ⟨x, rfl, g⟩ := un1_of g
    obtain ⟨v, rfl, rv⟩ := rep1 rl
    exact h w x v Q ok rv g
theorem crM_len (hK : X.K = G.K) : CallR X (.builtin "len") (RcM G E .len) := call1_of (k := lenF) (fun _ _ => rfl) fun w x v Q ok rv g => by
  refine ⟨_, call_len, v, ?_⟩
  unfold lenF at g
  split at g
  · rename_i a
    split at g
    · rename_i hz
      cases rv with | v rv => cases rv; exact ⟨_, rfl, ⟨hz, rfl⟩, Good.ok ok (.v (.int _)) g⟩
    · exact g.elim
  · split at g
    · rename_i xs e
      obtain ⟨a, ws, rfl, hs, r⟩ := seqOf_rep ok rv e
      refine ⟨ws.length, rfl, ?_, ?_⟩
      · rcases hs with hs | hs
        · exact .inl ⟨ws, hK ▸ hs, rfl⟩
        · exact .inr ⟨ws, hK ▸ hs, rfl⟩
      · rw [← r.length]; exact Good.ok ok (.v (.int _)) g
    · exact g.elim
theorem crM_int : CallR X (.type "int") (RcM G E .int1) := call1_of (k := intF) (fun _ _ => rfl) fun w x v Q ok rv g => by
  refine ⟨_, call_int1, ?_⟩
  unfold intF at g
  split at g
  · cases rv with | v rv => cases rv; exact .inl ⟨_, rfl, Good.ok ok (.v (.int _)) g⟩
  · cases rv with | v rv => cases rv; exact .inr ⟨_, rfl, Good.ok ok (.v (.int _)) g⟩
  · exact g.elim
theorem crM_max2 (hc : X.calm = true) : CallR X (.builtin "max") (RcM G E .max2) := call_of fun w ls vs Q ok rl g => by
  obtain ⟨x, y, rfl, g1⟩ := un2_of (f := maxF) g
  clear g
  have g := g1
  obtain ⟨v, u, rfl, r1, r2⟩ := rep2 rl
  refine ⟨_, call_max2 hc, ?_⟩
  unfold maxF at g
  split at g
  · cases r1 with | v r1 => cases r1; cases r2 with | v r2 => cases r2; exact ⟨_, _, rfl, Good.ok ok (.v (.int _)) g⟩
  · exact g.elim
theorem crM_min2 (hc : X.calm = true) : CallR X (.builtin "min") (RcM G E .min2) := call_of fun w ls vs Q ok rl g => by
  obtain ⟨x, y, rfl, g1⟩ := un2_of (f := minF) g
  clear g
  have g := g1
  obtain ⟨v, u, rfl, r1, r2⟩ := rep2 rl
  refine ⟨_, call_min2 hc, ?_⟩
  unfold minF at g
  split at g
  · cases r1 with | v r1 => cases r1; cases r2 with | v r2 => cases r2; exact ⟨_, _, rfl, Good.ok ok (.v (.int _)) g⟩
  · exact g.elim
theorem crM_list (hK : X.K = G.K) : CallR X (.type "list") (RcM G E .list) := call1_of (k := listF) (fun _ _ => rfl) fun w x v Q ok rv g => by
  unfold listF at g
  split at g
  · rename_i xs e
    obtain ⟨ls, e1, e2⟩ := Option.bind_eq_some_iff.mp e
    obtain ⟨a, ws, rfl, hs, r⟩ := seqOf_rep ok rv e1
    refine ⟨_, call_list_of, a, ws, rfl, hK ▸ hs, fun n hn => ?_⟩
    exact g (w.lay n _) (w.lay_ext ok hn) (w.lay_ok ok hn) rfl _ (.v (.lst upd_same ((r.pure e2).mono (w.lay_ext (G := G) ok hn).mono)))
  · exact g.elim
theorem crM_listL (hK : X.K = G.K) : CallR X (.type "list") (RcM G E .listL) := call1_of (k := listLF) (fun _ _ => rfl) fun w x v Q ok rv g => by
  unfold listLF at g
  split at g
  · rename_i xs e1
    obtain ⟨a, ws, rfl, hs, r⟩ := seqOf_rep ok rv e1
    refine ⟨_, call_list_of, a, ws, rfl, hK ▸ hs, fun n hn => ?_⟩
    exact g (w.push n (.lst xs) (.lst ws)) (w.push_ext ok hn) (push_lst ok hn r) rfl _ push_ref
  · exact g.elim
theorem crM_tuple (hK : X.K = G.K) : CallR X (.type "tuple") (RcM G E .tuple) := call1_of (k := tupleF) (fun _ _ => rfl) fun w x v Q ok rv g => by
  unfold tupleF at g
  split at g
  · rename_i xs e
    obtain ⟨ls, e1, e2⟩ := Option.bind_eq_some_iff.mp e
    refine ⟨_, cr_tupleF, ?_⟩
    by_cases ht : ∃ ys, x = .v (.tup ys)
    · obtain ⟨ys, rfl⟩ := ht
      have : xs = ys := by
        simp only [seqOf, Option.some.injEq] at e1
        subst e1
        rw [pures_map] at e2
        exact (Option.some.inj e2).symm
      subst this
      cases rv with
      | v rv =>
        cases rv with
        | @tup a _ ws h r => exact ⟨a, ws, rfl, .inr ⟨hK ▸ Sub.sqT ok.le h.sq, Good.ok ok (.v (.tup h r)) g⟩⟩
    · obtain ⟨a, ws, rfl, hs, r⟩ := seqOf_repL ok rv e1 (fun ys z => ht ⟨ys, z⟩)
      refine ⟨a, ws, rfl, .inl ⟨hK ▸ hs, fun n o hn hd hc => ?_⟩⟩
      exact g (w.lay n _) (w.lay_ext ok hn) (w.lay_ok ok hn) rfl _ (.v (.tup (.inl ⟨o, upd_same, hd, hc⟩) ((r.pure e2).mono (w.lay_ext (G := G) ok hn).mono)))
  · exact g.elim
end
end SC

namespace SC
open PySem PySem.Spec PyProof.Rows L2
section
variable {G : Gm} {E : XK} {X : Cx} {F : Phi}
theorem crM_sorted (hK : X.K = G.K) : CallR X (.builtin "sorted") (RcM G E .sorted) := call1_of (k := sortedF) (fun _ _ => rfl) fun w x v Q ok rv g => by
  unfold sortedF at g
  split at g
  · rename_i xs e
    split at g
    · rename_i h64
      obtain ⟨ls, e1, e2⟩ := Option.bind_eq_some_iff.mp e
      obtain ⟨a, ws, rfl, hs, r⟩ := seqOf_rep ok rv e1
      have ew := strs_rep r e2
      subst ew
      have fin : ∀ (ys : List Str) (p : Addr), ys.Perm xs → sortedS ys = true → w.H p = none → Q (.ref p) (upd w.H p (.lst (ys.map V.str))) := fun ys p h1 h2 hp => by
        rw [sortS_unique h1 h2]
        exact g (w.lay p _) (w.lay_ext ok hp) (w.lay_ok ok hp) rfl _ (.v (.lst upd_same (strs_repV _)))
      rcases hs with hs | hs
      · exact ⟨_, cr_sortedS, a, xs, rfl, hK ▸ hs, h64, fin⟩
      · exact ⟨_, cr_sortedT, a, xs, rfl, hK ▸ hs, h64, fin⟩
    · exact g.elim
  · exact g.elim
theorem crM_sum (hK : X.K = G.K) (hc : X.calm = true) : CallR X (.builtin "sum") (RcM G E .sum) := call1_of (k := sumF) (fun _ _ => rfl) fun w x v Q ok rv g => by
  unfold sumF at g
  split at g
  · rename_i xs e
    obtain ⟨ls, e1, e2⟩ := Option.bind_eq_some_iff.mp e
    obtain ⟨a, ws, rfl, hs, r⟩ := lstOf_rep ok rv e1
    have ew := ints_rep r e2
    subst ew
    exact ⟨_, cr_sum hc, a, xs, rfl, .inl (.inl hs), Good.ok ok (.v (.int _)) g⟩
  · exact g.elim
theorem maxI_spec : ∀ {l : List Int} {m : Int}, maxI l = some m → m ∈ l ∧ ∀ y ∈ l, y ≤ m
  | [], m, h => by simp [maxI] at h
  | x :: r, m, h => by
    simp only [maxI] at h
    cases q : maxI r with
    | none =>
      simp only [q, Option.some.injEq] at h
      subst h
      cases r with
      | nil => simp
      | cons y s =>
        simp only [maxI] at q
        split at q <;> cases q
    | some k =>
      simp only [q, Option.some.injEq] at h
      obtain ⟨h1, h2⟩ := maxI_spec q
      subst h
      split
      · refine ⟨by simp, fun y hy => ?_⟩
        rcases List.mem_cons.mp hy with rfl | hy
        · omega
        · have := h2 y hy; omega
      · refine ⟨by simp [h1], fun y hy => ?_⟩
        rcases List.mem_cons.mp hy with rfl | hy
        · omega
        · exact h2 y hy
theorem crM_maxL (hK : X.K = G.K) (hc : X.calm = true) : CallR X (.builtin "max") (RcM G E .maxL) := call1_of (k := maxLF) (fun _ _ => rfl) fun w x v Q ok rv g => by
  unfold maxLF at g
  split at g
  · rename_i m e
    obtain ⟨xs, e0, e3⟩ := Option.bind_eq_some_iff.mp e
    obtain ⟨ls, e1, e2⟩ := Option.bind_eq_some_iff.mp e0
    obtain ⟨a, ws, rfl, hs, r⟩ := lstOf_rep ok rv e1
    have ew := ints_rep r e2
    subst ew
    obtain ⟨h1, h2⟩ := maxI_spec e3
    refine ⟨_, cr_max hc, a, xs, rfl, .inl (.inl hs), List.length_pos_of_mem h1, fun k k1 k2 => ?_⟩
    have : k = m := Int.le_antisymm (h2 k k1) (k2 m h1)
    subst this
    exact Good.ok ok (.v (.int _)) g
  · exact g.elim
/-- f(e, ..), f a built-in by its name -/
theorem fe_blt {b : Blt} {x : Str} {id : String} {e : Expr} {es : List Expr} {cs : CEs} {p pos : Pos} (hc : CallR X (.builtin id) (RcM G E b)) (hv : bootBuiltins x = some (.builtin id)) (hm : X.mg x = none) (hg : Gl X x) (ha : PA X (e :: es) (tMs G E (evEs G.T F cs)))
    (hn : x ≠ "__name__" := by decide) (hdb : (x == ("__debug__" : Str)) = false := by decide)
    (h : PE X (.Call (.Name x p) (e :: es) [] pos) (tCB (RcM G E b) (tMs G E (evEs G.T F cs))) := by exact pe_callB hc hg hm hv ha hn hdb) : PE X (.Call (.Name x p) (e :: es) [] pos) (tM G E (evE G.T F (.blt b cs))) := by
  refine PE.weaken h fun σ H Q ⟨w, r, hH, ok, re, g⟩ => ?_
  simp only [evE] at g
  refine ⟨w, r, hH, ok, re, (Good.bind (R1 := RepLs G) g).mono fun vs H1 ⟨w1, ls, e1, k1, hH1, ra, _, g1⟩ => ?_⟩
  exact ⟨w1, ls, hH1, k1, ra, g1⟩
theorem fe_bltT {b : Blt} {x : Str} {id : String} {e : Expr} {es : List Expr} {cs : CEs} {p pos : Pos} (hc : CallR X (.type id) (RcM G E b)) (hv : bootBuiltins x = some (.type id)) (hm : X.mg x = none) (hg : Gl X x) (ha : PA X (e :: es) (tMs G E (evEs G.T F cs)))
    (hn : x ≠ "__name__" := by decide) (hdb : (x == ("__debug__" : Str)) = false := by decide)
    (h : PE X (.Call (.Name x p) (e :: es) [] pos) (tCB (RcM G E b) (tMs G E (evEs G.T F cs))) := by exact pe_callTy hc hg hm hv ha hn hdb) : PE X (.Call (.Name x p) (e :: es) [] pos) (tM G E (evE G.T F (.blt b cs))) := by
  refine PE.weaken h fun σ H Q ⟨w, r, hH, ok, re, g⟩ => ?_
  simp only [evE] at g
  refine ⟨w, r, hH, ok, re, (Good.bind (R1 := RepLs G) g).mono fun vs H1 ⟨w1, ls, e1, k1, hH1, ra, _, g1⟩ => ?_⟩
  exact ⟨w1, ls, hH1, k1, ra, g1⟩

/-! ### methods of built-in types -/
def RmM (G : Gm) (E : XK) (m : BMt) : V → List V → Hp → VK → Prop := fun v vs H Q => ∃ w l ls, w.H = H ∧ w.Ok G ∧ RepL G w l v ∧ RepLs G w ls vs ∧ Good G (RepL G) E w Q (bmF m l ls w.h)
theorem mtM_append : MtR X "list.append" (RmM G E .append) := by
  intro pins s σ H x xs v us Q I rx rs ⟨w, l, ls, hH, ok, rl, rls, g⟩
  obtain ⟨z, rfl, g1⟩ := un1_of (f := appendF l) g
  clear g
  have g := g1
  obtain ⟨u, rfl, ru⟩ := rep1 rls
  subst hH
  unfold appendF at g
  cases rl with
  | v _ => exact g.elim
  | @r n hn =>
    dsimp only at g
    cases q : w.h[n]? with
    | none => simp only [q] at g; exact g.elim
    | some o =>
      cases o with
      | lst ys =>
        simp only [q] at g
        split at g
        · rename_i hz
          obtain ⟨o', h1, ws, rfl, rw', hF⟩ := ok.cell n _ q
          have ex := w.put_ext (c := .lst (ys ++ [z])) (o := .lst (ws ++ [u])) ok hn
          refine mt_append pins s σ _ _ _ v us Q I rx rs ⟨_, ws, u, rfl, rfl, h1, by rw [← rw'.length]; exact hz, ?_⟩
          exact g (w.put n (.lst (ys ++ [z])) (.lst (ws ++ [u]))) ex (w.put_ok ok hn hF ⟨_, rfl, (rw'.append (.cons ru .nil)).ext ex, hF⟩) rfl _ (.v .non)
        · exact g.elim
      | _ => simp only [q] at g; exact g.elim
theorem mtM_extend : MtR X "list.extend" (RmM G E .extend) := by
  intro pins s σ H x xs v us Q I rx rs ⟨w, l, ls, hH, ok, rl, rls, g⟩
  obtain ⟨z, rfl, g1⟩ := un1_of (f := extendF l) g
  clear g
  have g := g1
  obtain ⟨u, rfl, ru⟩ := rep1 rls
  subst hH
  unfold extendF at g
  cases rl with
  | v _ => exact g.elim
  | @r n hn =>
    cases q0 : lstOf w.h z with
    | none => simp only [q0] at g; exact g.elim
    | some zs =>
      simp only [q0] at g
      obtain ⟨b, bs, rfl, hb, rb⟩ := lstOf_rep ok ru q0
      cases q : w.h[n]? with
      | none => simp only [q] at g; exact g.elim
      | some o =>
        cases o with
        | lst ys =>
          simp only [q] at g
          split at g
          · rename_i hz
            obtain ⟨o', h1, ws, rfl, rw', hF⟩ := ok.cell n _ q
            have ex := w.put_ext (c := .lst (ys ++ zs)) (o := .lst (ws ++ bs)) ok hn
            refine mt_extend pins s σ _ _ _ v us Q I rx rs ⟨_, b, ws, bs, rfl, rfl, h1, hb, by rw [← rw'.length, ← rb.length]; exact hz, ?_⟩
            exact g (w.put n (.lst (ys ++ zs)) (.lst (ws ++ bs))) ex (w.put_ok ok hn hF ⟨_, rfl, (rw'.append rb).ext ex, hF⟩) rfl _ (.v .non)
          · exact g.elim
        | _ => simp only [q] at g; exact g.elim
theorem mtM_popAt : MtR X "list.pop" (RmM G E .popAt) := by
  intro pins s σ H x xs v us Q I rx rs ⟨w, l, ls, hH, ok, rl, rls, g⟩
  obtain ⟨z, rfl, g1⟩ := un1_of (f := popAtF l) g
  clear g
  have g := g1
  obtain ⟨u, rfl, ru⟩ := rep1 rls
  subst hH
  unfold popAtF at g
  split at g
  · rename_i n i
    cases rl with
    | r hn =>
      cases ru with
      | v ru =>
        cases ru
        cases q : w.h[n]? with
        | none => simp only [q] at g; exact g.elim
        | some o =>
          cases o with
          | lst ys =>
            simp only [q] at g
            split at g
            · rename_i k hk
              split at g
              · rename_i z hz
                split at g
                · rename_i hb
                  obtain ⟨o', h1, ws, rfl, rw', hF⟩ := ok.cell n _ q
                  obtain ⟨u, hu, ru⟩ := rw'.get hz
                  have ex := w.put_ext (c := .lst (ys.eraseIdx k)) (o := .lst (ws.eraseIdx k)) ok hn
                  refine mt_popAt pins s σ _ _ _ v us Q I rx rs ⟨_, ws, i, k, u, rfl, rfl, h1, hb.1, hb.2, by rw [← rw'.length]; exact hk, hu, ?_⟩
                  exact g (w.put n (.lst (ys.eraseIdx k)) (.lst (ws.eraseIdx k))) ex (w.put_ok ok hn hF ⟨_, rfl, (rw'.erase k).ext ex, hF⟩) rfl _ (ru.ext ex)
                · exact g.elim
              · exact g.elim
            · exact g.elim
          | _ => simp only [q] at g; exact g.elim
  · exact g.elim
theorem mtM_popLast : MtR X "list.pop" (RmM G E .popLast) := by
  intro pins s σ H x xs v us Q I rx rs ⟨w, l, ls, hH, ok, rl, rls, g⟩
  obtain ⟨rfl, g1⟩ := un0_of (f := popLastF l) g
  clear g
  have g := g1
  cases rls
  subst hH
  unfold popLastF at g
  cases rl with
  | v _ => exact g.elim
  | @r n hn =>
    dsimp only at g
    cases q : w.h[n]? with
    | none => simp only [q] at g; exact g.elim
    | some o =>
      cases o with
      | lst ys =>
        simp only [q] at g
        split at g
        · rename_i z hz
          obtain ⟨o', h1, ws, rfl, rw', hF⟩ := ok.cell n _ q
          obtain ⟨u, hu, ru⟩ := rw'.get hz
          have ex := w.put_ext (c := .lst ys.dropLast) (o := .lst ws.dropLast) ok hn
          refine mt_pop pins s σ _ _ _ v us Q I rx rs ⟨_, ws, u, rfl, rfl, h1, by rw [← rw'.length]; exact hu, ?_⟩
          exact g (w.put n (.lst ys.dropLast) (.lst ws.dropLast)) ex (w.put_ok ok hn hF ⟨_, rfl, rw'.dropLast.ext ex, hF⟩) rfl _ (ru.ext ex)
        · exact g.elim
      | _ => simp only [q] at g; exact g.elim
theorem findIdx_spec {α : Type} {p : α → Bool} : ∀ {l : List α} {j : Nat}, l.findIdx? p = some j → ∃ x, l[j]? = some x ∧ p x = true ∧ ∀ m y, m < j → l[m]? = some y → p y = false := fun {l j} h => by
  rw [List.findIdx?_eq_some_iff_getElem] at h
  obtain ⟨hj, hp, hn⟩ := h
  refine ⟨l[j], List.getElem?_eq_getElem hj, hp, fun m y hm hy => ?_⟩
  have := hn m hm
  rw [List.getElem?_eq_getElem (by omega)] at hy
  cases hy
  simpa using this
theorem mtM_indexS : MtR X "str.index" (fun x xs H Q => (∃ a, x = .str a) ∧ RmM G E .index x xs H Q) := by
  rintro pins s σ H x xs v us Q I rx rs ⟨⟨a, rfl⟩, w, l, ls, hH, ok, rl, rls, g⟩
  obtain ⟨z, rfl, g1⟩ := un1_of (f := indexF l) g
  clear g
  obtain ⟨u, rfl, ru⟩ := rep1 rls
  subst hH
  cases rl with
  | v rl =>
    cases rl with
    | str =>
      simp only [indexF] at g1
      split at g1
      · split at g1
        · rename_i i rest e
          cases ru with | v ru => cases ru; exact mt_sindex pins s σ _ _ _ v us Q I rx rs ⟨a, _, i, rest, rfl, rfl, e, Good.ok ok (.v (.int _)) g1⟩
        · exact g1.elim
      · exact g1.elim
theorem mtM_indexT (hK : X.K = G.K) : MtR X "tuple.index" (fun x xs H Q => ∃ w ys ls, w.H = H ∧ w.Ok G ∧ RepL G w (.v (.tup ys)) x ∧ RepLs G w ls xs ∧ Good G (RepL G) E w Q (bmF .index (.v (.tup ys)) ls w.h)) := by
  rintro pins s σ H x xs v us Q I rx rs ⟨w, ys, ls, hH, ok, rl, rls, g⟩
  obtain ⟨z, rfl, g1⟩ := un1_of (f := indexF (.v (.tup ys))) g
  clear g
  obtain ⟨u, rfl, ru⟩ := rep1 rls
  subst hH
  cases rl with
  | v rl =>
    cases rl with
    | @tup a _ ws h r =>
      simp only [indexF] at g1
      split at g1
      · rename_i b zs e
        split at g1
        · rename_i j hj
          cases ru with
          | v ru =>
            cases ru
            have ew := strs_rep (w := w) r.toL e
            subst ew
            obtain ⟨y, h1, h2, h3⟩ := findIdx_spec hj
            have h2 : y = b := by simpa using h2
            subst h2
            refine mt_tup_index pins s σ _ _ _ v us Q I rx rs ⟨a, zs, y, j, rfl, rfl, hK ▸ Sub.sqT ok.le h.sq, h1, fun m hm hy => ?_, Good.ok ok (.v (.int _)) g1⟩
            have := h3 m y hm hy
            simp at this
        · exact g1.elim
      · exact g1.elim
theorem mtM_indexL (hK : X.K = G.K) : MtR X "list.index" (fun x xs H Q => ∃ w l ys ls, w.H = H ∧ w.Ok G ∧ RepL G w l x ∧ lstOf w.h l = some ys ∧ RepLs G w ls xs ∧ Good G (RepL G) E w Q (bmF .index l ls w.h)) := by
  rintro pins s σ H x xs v us Q I rx rs ⟨w, l, ys, ls, hH, ok, rl, hl, rls, g⟩
  obtain ⟨z, rfl, g1⟩ := un1_of (f := indexF l) g
  clear g
  obtain ⟨u, rfl, ru⟩ := rep1 rls
  subst hH
  have g2 : Good G (RepL G) E w Q (match lstOf w.h l with
    | some ys => if flat z = true ∧ ys.all flat = true then (match ys.findIdx? (fun y => eqL y z) with
      | some j => ret (.int (j : Nat)) w.h
      | none => .bad) else .bad
    | none => .bad) := by
    unfold indexF at g1
    split at g1
    · simp [lstOf] at hl
    · simp [lstOf] at hl
    · exact g1
  rw [hl] at g2
  dsimp only at g2
  obtain ⟨a, ws, rfl, hs, r⟩ := lstOf_rep ok rl hl
  split at g2
  · rename_i hf
    split at g2
    · rename_i j hj
      obtain ⟨y, h1, h2, h3⟩ := findIdx_spec hj
      obtain ⟨e1, e2⟩ := fv_rep ru hf.1
      obtain ⟨e3, e4⟩ := fvs_rep r hf.2
      subst e3
      subst e1
      have fl : ∀ m y, ys[m]? = some y → flat y = true := fun m y hy => List.all_eq_true.mp hf.2 y (List.mem_of_getElem? hy)
      refine mt_index pins s σ _ _ _ v us Q I rx rs ⟨a, ys.map fv, fv z, j, fv y, rfl, rfl, .inl (.inl hs), e2, e4, by rw [List.getElem?_map, h1] <;> rfl, by rw [eq_fv (fl j y h1) hf.1]; exact h2, fun m z' hm hz => ?_, Good.ok ok (.v (.int _)) g2⟩
      rw [List.getElem?_map] at hz
      obtain ⟨y', hy', rfl⟩ := Option.map_eq_some_iff.mp hz
      rw [eq_fv (fl m y' hy') hf.1]
      exact h3 m y' hm hy'
    · exact g2.elim
  · exact g2.elim
theorem mtM_join (hK : X.K = G.K) : MtR X "str.join" (RmM G E .join) := by
  intro pins s σ H x xs v us Q I rx rs ⟨w, l, ls, hH, ok, rl, rls, g⟩
  obtain ⟨z, rfl, g1⟩ := un1_of (f := joinF l) g
  clear g
  obtain ⟨u, rfl, ru⟩ := rep1 rls
  subst hH
  unfold joinF at g1
  split at g1
  · rename_i a ys e
    split at g1
    · rename_i hz
      obtain ⟨zs, e1, e2⟩ := Option.bind_eq_some_iff.mp e
      obtain ⟨p, ws, rfl, hs, r⟩ := seqOf_rep ok ru e1
      have ew := strs_rep r e2
      subst ew
      cases rl with | v rl => cases rl; exact mt_join pins s σ _ _ _ v us Q I rx rs ⟨a, p, ys, rfl, rfl, hK ▸ hs, hz, Good.ok ok (.v (.str _)) g1⟩
    · exact g1.elim
  · exact g1.elim
/-- the receiver ahead of the rest -/
theorem bm_reads {m : BMt} {co : CE} {cs : CEs} {σ : L2.St} {H : Hp} {Q : VK} (h : tM G E (evE G.T F (.bm m co cs)) σ H Q) :
    tM G E (evE G.T F co) σ H (fun x H1 => ∃ w r l, w.H = H1 ∧ w.Ok G ∧ RepE G w r σ ∧ RepL G w l x ∧ recvOk m l w.h = true ∧ Good G (RepL G) E w Q ((evEs G.T F cs r w.h).bind fun xs h => bmF m l xs h)) := by
  obtain ⟨w, r, hH, ok, re, g⟩ := h
  simp only [evE] at g
  refine ⟨w, r, hH, ok, re, (Good.bind (R1 := RepL G) g).mono fun x H1 ⟨w1, l, e1, k1, hH1, rl, _, g1⟩ => ?_⟩
  dsimp only at g1
  split at g1
  · rename_i hr
    exact ⟨w1, r, l, hH1, k1, re.ext e1, rl, hr, g1⟩
  · exact g1.elim
theorem lst_ty {w : Wd} {l : LV} {x : V} (hK : X.K = G.K) (ok : w.Ok G) (rl : RepL G w l x) (h : (lstOf w.h l).isSome = true) : tyV X.K "list" x w.H := by
  obtain ⟨ys, e⟩ := Option.isSome_iff_exists.mp h
  obtain ⟨a, ws, rfl, hs, r⟩ := lstOf_rep ok rl e
  exact .inl ⟨rfl, ws, .inl (.inl hs)⟩
theorem fe_bmL {m : BMt} {id : String} {name : Str} {o e : Expr} {es : List Expr} {co : CE} {cs : CEs} {apos cpos : Pos} (hK : X.K = G.K) (hm : ∀ x h, recvOk m x h = (lstOf h x).isSome) (slot : Slot "list" name id) (hty : typeOf (.builtin id) = pure (.type "method_descriptor")) (hr : MtR X id (RmM G E m))
    (ho : PE X o (tM G E (evE G.T F co))) (ha : PA X (e :: es) (tMs G E (evEs G.T F cs)))
    (h : PE X (.Call (.Attribute o name apos) (e :: es) [] cpos) (tBM X.K "list" (RmM G E m) (tM G E (evE G.T F co)) (tMs G E (evEs G.T F cs))) := by exact pe_bm PySem.F.plainAttrs_list slot hty hr ho ha) :
    PE X (.Call (.Attribute o name apos) (e :: es) [] cpos) (tM G E (evE G.T F (.bm m co cs))) := by
  refine PE.weaken h fun σ H Q hq => ?_
  obtain ⟨w, r, hH, ok, re, g⟩ := bm_reads hq
  refine ⟨w, r, hH, ok, re, g.mono fun x H1 ⟨w1, r1, l, hH1, k1, re1, rl, hrc, g1⟩ => ?_⟩
  subst hH1
  refine ⟨lst_ty hK k1 rl (by rw [← hm]; exact hrc), w1, r1, rfl, k1, re1, (Good.bind (R1 := RepLs G) g1).mono fun vs H2 ⟨w2, ls, e2, k2, hH2, rls, _, g2⟩ => ?_⟩
  exact ⟨w2, l, ls, hH2, k2, rl.ext e2, rls, g2⟩
theorem fe_bmL0 {m : BMt} {id : String} {name : Str} {o : Expr} {co : CE} {apos cpos : Pos} (hK : X.K = G.K) (hm : ∀ x h, recvOk m x h = (lstOf h x).isSome) (slot : Slot "list" name id) (hty : typeOf (.builtin id) = pure (.type "method_descriptor")) (hr : MtR X id (RmM G E m))
    (ho : PE X o (tM G E (evE G.T F co)))
    (h : PE X (.Call (.Attribute o name apos) [] [] cpos) (tBM0 X.K "list" (RmM G E m) (tM G E (evE G.T F co))) := by exact pe_bm0 PySem.F.plainAttrs_list slot hty hr ho) :
    PE X (.Call (.Attribute o name apos) [] [] cpos) (tM G E (evE G.T F (.bm m co .nil))) := by
  refine PE.weaken h fun σ H Q hq => ?_
  obtain ⟨w, r, hH, ok, re, g⟩ := bm_reads hq
  refine ⟨w, r, hH, ok, re, g.mono fun x H1 ⟨w1, r1, l, hH1, k1, re1, rl, hrc, g1⟩ => ?_⟩
  subst hH1
  exact ⟨lst_ty hK k1 rl (by rw [← hm]; exact hrc), w1, l, [], rfl, k1, rl, .nil, g1⟩
theorem fe_join {o e : Expr} {es : List Expr} {co : CE} {cs : CEs} {apos cpos : Pos} (hK : X.K = G.K) (ho : PE X o (tM G E (evE G.T F co))) (ha : PA X (e :: es) (tMs G E (evEs G.T F cs)))
    (h : PE X (.Call (.Attribute o "join" apos) (e :: es) [] cpos) (tBM X.K "str" (RmM G E .join) (tM G E (evE G.T F co)) (tMs G E (evEs G.T F cs))) := by exact pe_bm PySem.F.plainAttrs_str PySem.F.slot_str_join PySem.F.type_str_join (mtM_join hK) ho ha) :
    PE X (.Call (.Attribute o "join" apos) (e :: es) [] cpos) (tM G E (evE G.T F (.bm .join co cs))) := by
  refine PE.weaken h fun σ H Q hq => ?_
  obtain ⟨w, r, hH, ok, re, g⟩ := bm_reads hq
  refine ⟨w, r, hH, ok, re, g.mono fun x H1 ⟨w1, r1, l, hH1, k1, re1, rl, hrc, g1⟩ => ?_⟩
  subst hH1
  have ty : tyV X.K "str" x w1.H := by
    unfold recvOk at hrc
    dsimp only at hrc
    split at hrc
    · cases rl with | v rl => cases rl; rfl
    · cases hrc
  refine ⟨ty, w1, r1, rfl, k1, re1, (Good.bind (R1 := RepLs G) g1).mono fun vs H2 ⟨w2, ls, e2, k2, hH2, rls, _, g2⟩ => ?_⟩
  exact ⟨w2, l, ls, hH2, k2, rl.ext e2, rls, g2⟩
end
end SC

namespace SC
open PySem PySem.Spec PyProof.Rows L2
section
variable {G : Gm} {E : XK} {X : Cx} {F : Phi}
/-- o.index(e): by the receiver, which the model knows ahead -/
theorem fe_index {o e : Expr} {es : List Expr} {co : CE} {cs : CEs} {apos cpos : Pos} (hK : X.K = G.K) (ho : PE X o (tM G E (evE G.T F co))) (ha : PA X (e :: es) (tMs G E (evEs G.T F cs)))
    (hbase : attributeBase o "index" X.env (eval o X.env) = eval o X.env := by rfl)
    (hfew : ((backTo cpos (starEach (e :: es) X.env)).all (fun x => !x.1) && (backToKw cpos (keywordEach [] X.env)).all (fun x => x.1.isSome)
      && decide ((e :: es).length + ([] : List Keyword).length + (if ([] : List Keyword).isEmpty then 0 else 1) < 30)) = true := by rfl)
    (hline : (apos.endLine == cpos.line) = true := by rfl) (hs : starEach (e :: es) X.env = (false, eval e X.env) :: starEach es X.env := by rfl) (hplain : (backTo cpos (starEach es X.env)).any (·.1) = false := by rfl) :
    PE X (.Call (.Attribute o "index" apos) (e :: es) [] cpos) (tM G E (evE G.T F (.bm .index co cs))) := by
  refine ⟨fun pins s σ H Q I hq => ?_⟩
  obtain ⟨w, r, hH, ok, re, g⟩ := hq
  simp only [evE] at g
  cases q : evE G.T F co r w.h with
  | bad => simp only [q, Out.bind] at g; exact g.elim
  | exc c fs h' =>
    simp only [q, Out.bind] at g
    refine (pe_bmW (T := "list") PySem.F.plainAttrs_list PySem.F.slot_list_index PySem.F.type_list_index (mtM_indexL (E := E) hK) ho ha hbase hfew hline hs hplain).run pins s σ H Q I ⟨w, r, hH, ok, re, ?_⟩
    rw [q]
    exact g
  | ok l h' =>
    simp only [q, Out.bind] at g
    split at g
    · rename_i hrc
      by_cases h1 : ∃ a, l = .v (.str a)
      · obtain ⟨a, rfl⟩ := h1
        refine (pe_bmW (T := "str") PySem.F.plainAttrs_str PySem.F.slot_str_index PySem.F.type_str_index (mtM_indexS (E := E) (G := G)) ho ha hbase hfew hline hs hplain).run pins s σ H Q I ⟨w, r, hH, ok, re, ?_⟩
        rw [q]
        intro w1 e1 k1 eh v rv
        subst eh
        have rv0 := rv
        cases rv with
        | v rv =>
          cases rv
          refine ⟨.inl rfl, w1, r, rfl, k1, re.ext e1, (Good.bind (R1 := RepLs G) (Good.from e1 g)).mono fun vs H2 ⟨w2, ls, e2, k2, hH2, rls, _, g2⟩ => ?_⟩
          exact ⟨⟨a, rfl⟩, w2, _, ls, hH2, k2, rv0.ext e2, rls, g2⟩
      · by_cases h2 : ∃ ys, l = .v (.tup ys)
        · obtain ⟨ys, rfl⟩ := h2
          refine (pe_bmW (T := "tuple") PySem.F.plainAttrs_tuple PySem.F.slot_tuple_index PySem.F.type_tuple_index (mtM_indexT (E := E) hK) ho ha hbase hfew hline hs hplain).run pins s σ H Q I ⟨w, r, hH, ok, re, ?_⟩
          rw [q]
          intro w1 e1 k1 eh v rv
          subst eh
          have rv0 := rv
          cases rv with
          | v rv =>
            cases rv with
            | @tup a _ ws h rr =>
              refine ⟨.inr ⟨rfl, a, ws, rfl, hK ▸ h.sub k1.le⟩, w1, r, rfl, k1, re.ext e1, (Good.bind (R1 := RepLs G) (Good.from e1 g)).mono fun vs H2 ⟨w2, ls, e2, k2, hH2, rls, _, g2⟩ => ?_⟩
              exact ⟨w2, ys, ls, hH2, k2, rv0.ext e2, rls, g2⟩
        · have hl : (lstOf h' l).isSome = true := by
            unfold recvOk at hrc
            dsimp only at hrc
            split at hrc
            · exact absurd ⟨_, rfl⟩ h1
            · exact absurd ⟨_, rfl⟩ h2
            · exact hrc
          -- a list: it stands while the argument is reckoned
          refine (pe_bmW (T := "list") PySem.F.plainAttrs_list PySem.F.slot_list_index PySem.F.type_list_index (mtM_indexL (E := E) hK) ho ha hbase hfew hline hs hplain).run pins s σ H Q I ⟨w, r, hH, ok, re, ?_⟩
          rw [q]
          intro w1 e1 k1 eh v rv
          subst eh
          refine ⟨.inl (lst_ty hK k1 rv hl), w1, r, rfl, k1, re.ext e1, (Good.bind (R1 := RepLs G) (Good.from e1 g)).mono fun vs H2 ⟨w2, ls, e2, k2, hH2, rls, _, g2⟩ => ?_⟩
          have hl2 : ∃ ys, lstOf w2.h l = some ys := by
            refine Classical.byContradiction fun hn => ?_
            have e0 : lstOf w2.h l = none := by
              cases q2 : lstOf w2.h l with
              | none => rfl
              | some ys => exact absurd ⟨ys, q2⟩ hn
            have : bmF .index l ls w2.h = .bad := by
              show un1 (indexF l) ls w2.h = .bad
              unfold un1
              split
              · unfold indexF
                split
                · exact absurd ⟨_, rfl⟩ h1
                · exact absurd ⟨_, rfl⟩ h2
                · rw [e0]
              · rfl
            rw [this] at g2
            exact g2.elim
          obtain ⟨ys, hy⟩ := hl2
          exact ⟨w2, l, ys, ls, hH2, k2, rv.ext e2, hy, rls, g2⟩
    · exact g.elim

/-! ### slices -/
def RsM (G : Gm) (E : XK) (live : Bool) : V → Option Int → Option Int → Hp → VK → Prop := fun x lo hi H Q => ∃ w l, w.H = H ∧ w.Ok G ∧ RepL G w l x ∧ Good G (RepL G) E w Q (slcF live l lo hi w.h)
theorem cut_rep {F : Hp} {xs : List MV} {ws : List V} {lo hi : Option Int} (r : RepVs G F xs ws) : RepVs G F (cutM xs lo hi) (cutV ws lo hi) := by
  unfold cutM cutV
  rw [r.length]
  exact (r.drop _).take _
theorem cut_repL {w : Wd} {xs : List LV} {ws : List V} {lo hi : Option Int} (r : RepLs G w xs ws) : RepLs G w (cutM xs lo hi) (cutV ws lo hi) := by
  unfold cutM cutV
  rw [r.length]
  exact (r.drop _).take _
theorem slM (live : Bool) (hK : X.K = G.K) : SlR X (RsM G E live) := by
  intro pins s σ H x v vl vu lo hi sl Q I rx hs pl pu ⟨w, l, hH, ok, rl, g⟩
  subst hH
  unfold slcF at g
  split at g
  · rename_i a
    split at g
    · rename_i hz
      cases rl with | v rl => cases rl; exact sl_str pins s σ _ _ v vl vu lo hi sl Q I rx hs pl pu ⟨a, rfl, hz, Good.ok ok (.v (.str _)) g⟩
    · exact g.elim
  · rename_i xs
    cases rl with
    | v rl =>
      cases rl with
      | @tup p _ ws h r =>
        refine sl_tupF pins s σ _ _ v vl vu lo hi sl Q I rx hs pl pu ⟨p, ws, rfl, hK ▸ Sub.sqT ok.le h.sq, fun hw => ?_, fun _ n o hn hd hc => ?_⟩
        · have e : cutM xs lo hi = xs := by
            unfold cutM
            rw [r.length, hw.1, hw.2]
            simp [← r.length]
          rw [e] at g
          exact Good.ok ok (.v (.tup h r)) g
        · exact g (w.lay n _) (w.lay_ext ok hn) (w.lay_ok ok hn) rfl _ (.v (.tup (.inl ⟨o, upd_same, hd, hc⟩) ((cut_rep r).mono (w.lay_ext (G := G) ok hn).mono)))
  · split at g
    · split at g
      · rename_i xs e1
        obtain ⟨a, ws, rfl, hh, r⟩ := lstOf_rep ok rl e1
        refine sl_list pins s σ _ _ v vl vu lo hi sl Q I rx hs pl pu ⟨a, ws, rfl, .inl (.inl hh), fun n hn => ?_⟩
        exact g (w.push n _ _) (w.push_ext ok hn) (push_lst ok hn (cut_repL r)) rfl _ push_ref
      · exact g.elim
    split at g
    · rename_i xs e
      obtain ⟨ls, e1, e2⟩ := Option.bind_eq_some_iff.mp e
      obtain ⟨a, ws, rfl, hh, r⟩ := lstOf_rep ok rl e1
      refine sl_list pins s σ _ _ v vl vu lo hi sl Q I rx hs pl pu ⟨a, ws, rfl, .inl (.inl hh), fun n hn => ?_⟩
      exact g (w.lay n _) (w.lay_ext ok hn) (w.lay_ok ok hn) rfl _ (.v (.lst upd_same ((cut_rep (r.pure e2)).mono (w.lay_ext (G := G) ok hn).mono)))
    · exact g.elim
/-- a slice's part -/
structure PM (G : Gm) (E : XK) (X : Cx) (F : Phi) (e : Option Expr) (c : CE) : Prop where
  run : ∃ t, PO X e t ∧ ∀ σ H Q, (∃ w r, w.H = H ∧ w.Ok G ∧ RepE G w r σ ∧ Good G (fun _ a b => a = b) E w Q (if c.isNop = true then .ok none w.h else (evE G.T F c r w.h).bind fun y h => optI y h)) → t σ H Q
theorem pm_none : PM G E X F none .nop := ⟨_, po_none, fun σ H Q ⟨w, r, hH, ok, re, g⟩ => by
  subst hH
  exact Good.ok (R := fun _ a b => a = b) ok rfl g⟩
theorem pm_some {e : Expr} {c : CE} (hn : c.isNop = false) (h : PE X e (tM G E (evE G.T F c))) : PM G E X F (some e) c := ⟨_, po_some h, fun σ H Q ⟨w, r, hH, ok, re, g⟩ => by
  rw [hn] at g
  simp only [Bool.false_eq_true, if_false] at g
  refine ⟨w, r, hH, ok, re, (Good.bind (R1 := RepL G) g).mono fun x H1 ⟨w1, a, e1, k1, hH1, ra, _, g1⟩ => ?_⟩
  subst hH1
  unfold optI at g1
  dsimp only at g1
  split at g1
  · cases ra with | v ra => cases ra; exact ⟨_, rfl, Good.ok (R := fun _ a b => a = b) k1 rfl g1⟩
  · exact g1.elim⟩
theorem fe_slc (live : Bool) {e : Expr} {lo hi : Option Expr} {c cl ch : CE} {p2 pos : Pos} (hK : X.K = G.K) (he : PE X e (tM G E (evE G.T F c))) (hl : PM G E X F lo cl) (hh : PM G E X F hi ch) :
    PE X (.Subscript e (.Slice lo hi none p2) pos) (tM G E (evE G.T F (.slc live c cl ch))) := by
  obtain ⟨tl, pl, kl⟩ := hl.run
  obtain ⟨th, ph, kh⟩ := hh.run
  refine PE.weaken (pe_slice (slM (E := E) live hK) he pl ph) fun σ H Q ⟨w, r, hH, ok, re, g⟩ => ?_
  simp only [evE] at g
  refine ⟨w, r, hH, ok, re, (Good.bind (R1 := RepL G) g).mono fun x H1 ⟨w1, a, e1, k1, hH1, ra, _, g1⟩ => ?_⟩
  refine kl σ H1 _ ⟨w1, r, hH1, k1, re.ext e1, (Good.bind (R1 := fun _ a b => a = b) g1).mono fun l H2 ⟨w2, b, e2, k2, hH2, rb, _, g2⟩ => ?_⟩
  subst rb
  refine kh σ H2 _ ⟨w2, r, hH2, k2, (re.ext e1).ext e2, (Good.bind (R1 := fun _ a b => a = b) g2).mono fun u H3 ⟨w3, d, e3, k3, hH3, rd, _, g3⟩ => ?_⟩
  subst rd
  exact ⟨w3, a, hH3, k3, (ra.ext e2).ext e3, g3⟩
end
end SC

namespace SC
open PySem PySem.Spec PyProof.Rows L2
/-- what an iterator hands out: a value, or a tuple that is taken apart at once -/
inductive RepI (G : Gm) (w : Wd) : LV → V → Prop
  | of {x : LV} {v : V} : RepL G w x v → RepI G w x v
  | tup {a : Addr} {xs : List MV} {ws : List V} : SqT G.K w.H a ws → RepVs G w.F xs ws → RepI G w (.v (.tup xs)) (.ref a)
/-- the layer's walk J hands out the items -/
def RepIt (G : Gm) (Rl : Wd → LV → V → Prop) (w : Wd) (I : Its) (J : It) : Prop := ∀ w2, Ext w w2 → w2.Ok G → Its.okIn I.live w2.h = true → ∀ i,
  (I.items[i]? = none → J.stop i w2.H) ∧ ∀ x, I.items[i]? = some x → J.go i w2.H ∧ ∀ v H', J.yld i w2.H v H' → ∃ w3, Ext w2 w3 ∧ w3.Ok G ∧ w3.h = w2.h ∧ w3.H = H' ∧ Rl w3 x v
def tIM (G : Gm) (E : XK) (Rl : Wd → LV → V → Prop) (m : ME → MH → Out Its) : TI := fun σ H R => ∃ w r, w.H = H ∧ w.Ok G ∧ RepE G w r σ ∧ Good G (RepIt G Rl) E w R (m r w.h)
theorem PI.weaken {X : Cx} {tg e : Expr} {t t' : TI} (h : PI X tg e t) (k : ∀ σ H Q, t' σ H Q → t σ H Q) : PI X tg e t' := ⟨fun pins s σ H Q I q => h.run pins s σ H Q I (k σ H Q q)⟩
section
variable {G : Gm} {E : XK} {X : Cx} {F : Phi}
theorem liveOf_ok {w2 : Wd} {n : Nat} {xs : List LV} (h : Its.okIn (some (n, xs)) w2.h = true) : w2.h[n]? = some (.lst xs) := by
  simp only [Its.okIn] at h
  split at h
  · rename_i ys e
    rw [e, of_decide_eq_true h]
  · cases h
/-- the list that a value is, at every later state -/
theorem list_later {w : Wd} {x : LV} {v : V} {xs : List LV} (ok : w.Ok G) (rv : RepL G w x v) (hl : seqOf w.h x = some xs) (hn : ∀ ys, x ≠ .v (.tup ys)) :
    ∃ a, v = .ref a ∧ ∀ w2, Ext w w2 → w2.Ok G → Its.okIn (liveOf w.h x) w2.h = true → ∃ ws, SqL G.K w2.H a ws ∧ RepLs G w2 xs ws := by
  cases rv with
  | v rv =>
    cases rv with
    | lst e rs => simp only [seqOf, Option.some.injEq] at hl; subst hl; exact ⟨_, rfl, fun w2 e2 k2 _ => ⟨_, .inl (.inl (k2.le _ _ (e2.mono _ _ e))), (rs.mono e2.mono).toL⟩⟩
    | scr e rs => simp only [seqOf, Option.some.injEq] at hl; subst hl; exact ⟨_, rfl, fun w2 e2 k2 _ => ⟨_, Sub.sqL k2.le (Sub.sqL e2.mono e), (rs.mono e2.mono).toL⟩⟩
    | tup e rs => exact absurd rfl (hn _)
    | _ => simp [seqOf] at hl
  | @r n hn' =>
    simp only [seqOf] at hl
    cases q : w.h[n]? with
    | none => simp [q] at hl
    | some o =>
      cases o with
      | lst ys =>
        simp only [q, Option.some.injEq] at hl; subst hl
        refine ⟨_, rfl, fun w2 e2 k2 hk => ?_⟩
        simp only [liveOf, q] at hk
        have h2 := liveOf_ok hk
        obtain ⟨o', h1, ws, rfl, rw', hF⟩ := k2.cell n _ h2
        rw [e2.phi n hn'] at h1
        exact ⟨ws, .inl (.inl h1), rw'⟩
      | _ => simp [q] at hl
theorem getNone {xs : List LV} {w : Wd} {ws : List V} {i : Nat} (r : RepLs G w xs ws) (h : xs[i]? = none) : ws.length ≤ i := by
  rw [← r.length]
  exact List.getElem?_eq_none_iff.mp h
theorem it_list {w : Wd} {x : LV} {v : V} {xs : List LV} (ok : w.Ok G) (rv : RepL G w x v) (hl : seqOf w.h x = some xs) (hn : ∀ ys, x ≠ .v (.tup ys)) :
    ∃ a, v = .ref a ∧ (∃ ws, SqL G.K w.H a ws) ∧ RepIt G (RepL G) w ⟨xs, liveOf w.h x⟩ (Itl G.K a) := by
  obtain ⟨a, rfl, h⟩ := list_later ok rv hl hn
  obtain ⟨b, ws, e, hs, _⟩ := seqOf_repL ok rv hl hn
  cases e
  refine ⟨a, rfl, ⟨ws, hs⟩, fun w2 e2 k2 hg i => ?_⟩
  obtain ⟨ws, h1, h2⟩ := h w2 e2 k2 hg
  refine ⟨fun hi => ⟨ws, h1, getNone h2 hi⟩, fun y hy => ?_⟩
  obtain ⟨u, e1, e3⟩ := h2.get hy
  refine ⟨⟨ws, u, h1, e1⟩, fun v H' hv => ?_⟩
  obtain ⟨rfl, hq⟩ := hv
  have := hq ws h1
  rw [e1] at this
  cases this
  exact ⟨w2, Ext.refl k2, k2, rfl, rfl, e3⟩
theorem it_tup {w : Wd} {ys : List MV} {v : V} (ok : w.Ok G) (rv : RepL G w (.v (.tup ys)) v) :
    ∃ a, v = .ref a ∧ (∃ ws, SqT G.K w.H a ws) ∧ RepIt G (RepL G) w ⟨ys.map .v, none⟩ (Itt G.K a) := by
  cases rv with
  | v rv =>
    cases rv with
    | @tup a _ ws h r =>
      refine ⟨a, rfl, ⟨ws, Sub.sqT ok.le h.sq⟩, fun w2 e2 k2 _ i => ?_⟩
      have h1 : SqT G.K w2.H a ws := Sub.sqT k2.le (Sub.sqT e2.mono h.sq)
      have h2 : RepLs G w2 (ys.map .v) ws := (r.mono e2.mono).toL
      refine ⟨fun hi => ⟨ws, h1, getNone h2 hi⟩, fun y hy => ?_⟩
      obtain ⟨u, e1, e3⟩ := h2.get hy
      refine ⟨⟨ws, u, h1, e1⟩, fun v H' hv => ?_⟩
      obtain ⟨rfl, hq⟩ := hv
      have := hq ws h1
      rw [e1] at this
      cases this
      exact ⟨w2, Ext.refl k2, k2, rfl, rfl, e3⟩
/-- for x in e -/
theorem fi_val {tg e : Expr} {c : CE} (he : PE X e (tM G E (evE G.T F c))) (hK : X.K = G.K) : PI X tg e (tIM G E (RepL G) (evI G.T F (.val c))) := by
  refine ⟨fun pins s σ H R I h => ?_⟩
  obtain ⟨w, r, hH, ok, re, g⟩ := h
  simp only [evI] at g
  cases q : evE G.T F c r w.h with
  | bad => simp only [q, Out.bind] at g; exact g.elim
  | exc d fs h' =>
    simp only [q, Out.bind] at g
    refine (pi_list he).run pins s σ H R I ⟨w, r, hH, ok, re, ?_⟩
    rw [q]; exact g
  | ok l h' =>
    simp only [q, Out.bind] at g
    by_cases h1 : ∃ a, l = .v (.str a)
    · obtain ⟨a, rfl⟩ := h1
      simp only [itVal] at g
      refine (pi_str he).run pins s σ H R I ⟨w, r, hH, ok, re, ?_⟩
      rw [q]
      intro w1 e1 k1 eh v rv
      subst eh
      cases rv with
      | v rv =>
        cases rv
        refine ⟨a, rfl, g w1 e1 k1 rfl _ fun w2 e2 k2 _ i => ⟨fun hi => ?_, fun x hx => ?_⟩⟩
        · simp at hi
          exact hi
        · simp only [List.getElem?_map, Option.map_eq_some_iff] at hx
          obtain ⟨c, hc, rfl⟩ := hx
          have hc' : a.cps[i]? = some c := by rw [← Array.getElem?_toList]; exact hc
          refine ⟨(Array.getElem?_eq_some_iff.mp hc').1, fun v H' hv => ?_⟩
          obtain ⟨rfl, c', h3, rfl⟩ := hv
          rw [hc'] at h3
          cases h3
          exact ⟨w2, Ext.refl k2, k2, rfl, rfl, .v (.str _)⟩
    · by_cases h2 : ∃ ys, l = .v (.tup ys)
      · obtain ⟨ys, rfl⟩ := h2
        simp only [itVal, seqOf, liveOf, Option.map_some] at g
        refine (pi_tup he).run pins s σ H R I ⟨w, r, hH, ok, re, ?_⟩
        rw [q]
        intro w1 e1 k1 eh v rv
        subst eh
        obtain ⟨a, rfl, ⟨ws, hs⟩, hit⟩ := it_tup k1 rv
        exact ⟨a, rfl, ⟨ws, hK ▸ hs⟩, hK ▸ g w1 e1 k1 rfl _ hit⟩
      · have e0 : itVal l h' = (seqOf h' l).map fun xs => ⟨xs, liveOf h' l⟩ := by
          unfold itVal
          split
          · exact absurd ⟨_, rfl⟩ h1
          · rfl
        rw [e0] at g
        cases q2 : seqOf h' l with
        | none => simp only [q2, Option.map_none] at g; exact g.elim
        | some xs =>
          simp only [q2, Option.map_some] at g
          refine (pi_list he).run pins s σ H R I ⟨w, r, hH, ok, re, ?_⟩
          rw [q]
          intro w1 e1 k1 eh v rv
          subst eh
          obtain ⟨a, rfl, ⟨ws, hs⟩, hit⟩ := it_list k1 rv q2 (fun ys z => h2 ⟨ys, z⟩)
          exact ⟨a, rfl, ⟨ws, hK ▸ hs⟩, hK ▸ g w1 e1 k1 rfl _ hit⟩
theorem it_rng {w : Wd} {a b : Int} : RepIt G (RepL G) w ⟨rangeL a (b - a).toNat, none⟩ (Itr a (b - a).toNat) := fun w2 e2 k2 _ i => by
  refine ⟨fun hi => ?_, fun x hx => ?_⟩
  · simp [rangeL] at hi
    show (b - a).toNat ≤ i
    omega
  · simp only [rangeL, List.getElem?_map, Option.map_eq_some_iff] at hx
    obtain ⟨j, hj, rfl⟩ := hx
    obtain ⟨h1, h2⟩ := List.getElem?_eq_some_iff.mp hj
    simp at h1 h2
    subst h2
    refine ⟨show _ < (b - a).toNat by omega, fun v H' hv => ?_⟩
    obtain ⟨rfl, rfl⟩ := hv
    exact ⟨w2, Ext.refl k2, k2, rfl, rfl, .v (.int _)⟩
theorem fi_rng {tg a : Expr} {c : CE} {p pos : Pos} (ha : PE X a (tM G E (evE G.T F c))) (hm : X.mg "range" = none) (hg : Gl X "range") (hs : starEach [a] X.env = [(false, eval a X.env)] := by rfl) :
    PI X tg (.Call (.Name "range" p) [a] [] pos) (tIM G E (RepL G) (evI G.T F (.rng c))) := by
  refine PI.weaken (pi_range1 hg hm (pa_cons ha pa_nil hs) hs) fun σ H R ⟨w, r, hH, ok, re, g⟩ => ?_
  simp only [evI] at g
  refine ⟨w, r, hH, ok, re, (Good.bind (R1 := RepL G) g).mono fun x H1 ⟨w1, l, e1, k1, hH1, rl, _, g1⟩ => ?_⟩
  subst hH1
  dsimp only at g1
  unfold itRng at g1
  split at g1
  · rename_i I e
    split at e
    · rename_i a' b h1 h2
      cases h1
      split at e
      · rename_i hb
        cases e
        cases rl with
        | v rl =>
          cases rl
          refine ⟨b, rfl, hb.2.1, hb.2.2, ?_⟩
          have z : (b - 0).toNat = b.toNat := by simp
          have := g1 w1 (Ext.refl k1) k1 rfl (Itr 0 b.toNat) (by rw [← z]; exact it_rng)
          exact this
      · cases e
    · cases e
  · exact g1.elim
theorem fi_rng2 {tg a b : Expr} {ca cb : CE} {p pos : Pos} (ha : PE X a (tM G E (evE G.T F ca))) (hb : PE X b (tM G E (evE G.T F cb))) (hm : X.mg "range" = none) (hg : Gl X "range")
    (hs : starEach [a, b] X.env = [(false, eval a X.env), (false, eval b X.env)] := by rfl) (hs2 : starEach [b] X.env = [(false, eval b X.env)] := by rfl) :
    PI X tg (.Call (.Name "range" p) [a, b] [] pos) (tIM G E (RepL G) (evI G.T F (.rng2 ca cb))) := by
  refine PI.weaken (pi_range2 hg hm (pa_cons ha (pa_cons hb pa_nil hs2) (by rw [hs, hs2])) hs hs2) fun σ H R ⟨w, r, hH, ok, re, g⟩ => ?_
  simp only [evI] at g
  refine ⟨w, r, hH, ok, re, (Good.bind (R1 := RepL G) g).mono fun x H1 ⟨w1, l, e1, k1, hH1, rl, _, g1⟩ => ?_⟩
  refine ⟨w1, r, hH1, k1, re.ext e1, (Good.bind (R1 := RepL G) g1).mono fun y H2 ⟨w2, m, e2, k2, hH2, rm, _, g2⟩ => ?_⟩
  subst hH2
  have rl := rl.ext e2
  dsimp only at g2
  unfold itRng at g2
  split at g2
  · rename_i I e
    split at e
    · split at e
      · rename_i hbb
        cases e
        cases rl with
        | v rl =>
          cases rl
          cases rm with
          | v rm =>
            cases rm
            exact ⟨_, _, rfl, ⟨hbb.1.1, hbb.1.2, hbb.2.1, hbb.2.2⟩, g2 w2 (Ext.refl k2) k2 rfl _ it_rng⟩
      · cases e
    · cases e
  · exact g2.elim
theorem enumL_get {xs : List MV} {i : Nat} : (enumL xs)[i]? = (xs[i]?).map fun x => .v (.tup [.int (i : Int), x]) := by
  unfold enumL
  rw [List.getElem?_zipWith]
  cases h : xs[i]? with
  | none =>
    have : xs.length ≤ i := List.getElem?_eq_none_iff.mp h
    simp [h, List.getElem?_eq_none_iff.mpr (show (List.range xs.length).length ≤ i by simpa using this)]
  | some x =>
    have : i < xs.length := (List.getElem?_eq_some_iff.mp h).1
    simp [h, List.getElem?_range this]
theorem aux_item {w2 : Wd} {T : Addr} {i : Nat} {x : MV} {u : V} (k2 : w2.Ok G) (hT : w2.H T = none) (ru : RepV G w2.F x u) : ∃ w3, Ext w2 w3 ∧ w3.Ok G ∧ w3.h = w2.h ∧ w3.H = upd w2.H T (.tup [.int (i : Nat), u]) ∧ RepI G w3 (.v (.tup [.int (i : Int), x])) (.ref T) :=
  ⟨w2.aux T (.tup [.int (i : Nat), u]), w2.aux_ext k2 hT, w2.aux_ok k2 hT, rfl, rfl, .tup (.inl (.inl upd_same)) (.cons (.int _) (.cons ru .nil))⟩
/-- for i, x in enumerate(e) -/
theorem fi_enum {e : Expr} {c : CE} {p pos tpos : Pos} {elts : List Expr} {kk : Nat} (he : PE X e (tM G E (evE G.T F c))) (hK : X.K = G.K) (hm : X.mg "enumerate" = none) (hg : Gl X "enumerate") (hs : starEach [e] X.env = [(false, eval e X.env)] := by rfl) :
    PI X (.Tuple elts kk tpos) (.Call (.Name "enumerate" p) [e] [] pos) (tIM G E (RepI G) (evI G.T F (.enum c))) := by
  refine ⟨fun pins s σ H R I h => ?_⟩
  obtain ⟨w, r, hH, ok, re, g⟩ := h
  simp only [evI] at g
  have pa : PA X [e] (tCons (tM G E (evE G.T F c)) tNil) := pa_cons he pa_nil hs
  cases q : evE G.T F c r w.h with
  | bad => simp only [q, Out.bind] at g; exact g.elim
  | exc d fs h' =>
    simp only [q, Out.bind] at g
    refine (pi_enum hg hm pa hs).run pins s σ H R I ⟨w, r, hH, ok, re, ?_⟩
    rw [q]; exact g
  | ok l h' =>
    simp only [q, Out.bind, itEnum] at g
    cases q1 : (seqOf h' l).bind pures with
    | none => simp only [q1] at g; exact g.elim
    | some xs =>
      simp only [q1] at g
      obtain ⟨ls, e1, e2⟩ := Option.bind_eq_some_iff.mp q1
      by_cases h2 : ∃ ys, l = .v (.tup ys)
      · obtain ⟨ys, rfl⟩ := h2
        simp only [seqOf, Option.some.injEq] at e1
        subst e1
        rw [pures_map] at e2
        cases e2
        simp only [liveOf] at g
        refine (pi_enumT hg hm pa hs).run pins s σ H R I ⟨w, r, hH, ok, re, ?_⟩
        rw [q]
        intro w1 e1 k1 eh v rv
        subst eh
        cases rv with
        | v rv =>
          cases rv with
          | @tup a _ ws h rr =>
            refine ⟨a, ws, rfl, hK ▸ Sub.sqT k1.le h.sq, hK ▸ g w1 e1 k1 rfl (ItE G.K a) fun w2 e2 k2 _ i => ?_⟩
            have h1 : SqT G.K w2.H a ws := Sub.sqT k2.le (Sub.sqT e2.mono h.sq)
            have h2 := rr.mono e2.mono
            refine ⟨fun hi => ⟨ws, h1, ?_⟩, fun y hy => ?_⟩
            · rw [enumL_get, Option.map_eq_none_iff] at hi
              rw [← h2.length]
              exact List.getElem?_eq_none_iff.mp hi
            · rw [enumL_get] at hy
              obtain ⟨z, hz, rfl⟩ := Option.map_eq_some_iff.mp hy
              obtain ⟨u, hu, ru⟩ := h2.get hz
              refine ⟨⟨ws, u, h1, hu⟩, fun v H' hv => ?_⟩
              obtain ⟨T, x, rfl, hT, rfl, hx⟩ := hv
              have := hx ws h1
              rw [hu] at this
              cases this
              exact aux_item k2 hT ru
      · refine (pi_enum hg hm pa hs).run pins s σ H R I ⟨w, r, hH, ok, re, ?_⟩
        rw [q]
        intro w1 e3 k1 eh v rv
        subst eh
        have hn : ∀ ys, l ≠ .v (.tup ys) := fun ys z => h2 ⟨ys, z⟩
        obtain ⟨a, rfl, hl⟩ := list_later k1 rv e1 hn
        obtain ⟨b, ws, e, hsq, _⟩ := seqOf_repL k1 rv e1 hn
        cases e
        refine ⟨a, ws, rfl, hK ▸ hsq, hK ▸ g w1 e3 k1 rfl (Ite G.K a) fun w2 e4 k2 hgd i => ?_⟩
        obtain ⟨ws, h1, h2⟩ := hl w2 e4 k2 hgd
        have h2 := h2.pure e2
        refine ⟨fun hi => ⟨ws, h1, ?_⟩, fun y hy => ?_⟩
        · rw [enumL_get, Option.map_eq_none_iff] at hi
          rw [← h2.length]
          exact List.getElem?_eq_none_iff.mp hi
        · rw [enumL_get] at hy
          obtain ⟨z, hz, rfl⟩ := Option.map_eq_some_iff.mp hy
          obtain ⟨u, hu, ru⟩ := h2.get hz
          refine ⟨⟨ws, u, h1, hu⟩, fun v H' hv => ?_⟩
          obtain ⟨T, x, rfl, hT, rfl, hx⟩ := hv
          have := hx ws h1
          rw [hu] at this
          cases this
          exact aux_item k2 hT ru

/-! ### targets -/
/-- the layer's target takes what the model's takes -/
structure PGM (G : Gm) (Rl : Wd → LV → V → Prop) (X : Cx) (tg : Expr) (t : Tg) (g : TG) : Prop where
  pg : PG X tg g
  reads : ∀ (w : Wd) (r r' : ME) (σ : L2.St) (l : LV) (v : V) (Q : L2.St → Hp → Prop), w.Ok G → RepE G w r σ → Rl w l v → asgT t l r = some r' → (∀ σ', RepE G w r' σ' → (∀ i, i ∉ tgSlots t → σ'[i]? = σ[i]?) → σ'.length = σ.length → Q σ' w.H) → g v σ w.H Q
structure PGMs (G : Gm) (X : Cx) (es : List Expr) (ts : List Tg) (g : TGs) : Prop where
  pg : PGs X es g
  reads : ∀ (w : Wd) (r r' : ME) (σ : L2.St) (ls : List MV) (vs : List V) (Q : L2.St → Hp → Prop), w.Ok G → RepE G w r σ → RepVs G w.F ls vs → asgT.asgTs ts ls r = some r' → (∀ σ', RepE G w r' σ' → (∀ i, i ∉ tgSlotss ts → σ'[i]? = σ[i]?) → σ'.length = σ.length → Q σ' w.H) → g vs σ w.H Q
theorem PGM.l {tg : Expr} {t : Tg} {g : TG} (h : PGM G (RepI G) X tg t g) : PGM G (RepL G) X tg t g := ⟨h.pg, fun w r r' σ l v Q k re rl => h.reads w r r' σ l v Q k re (.of rl)⟩
theorem fg_name {i : Nat} {x : Str} {pos : Pos} (h : PG X (.Name x pos) (gName i)) : PGM G (RepL G) X (.Name x pos) (.nm i) (gName i) := ⟨h, fun w r r' σ l v Q k re rl ha hq => by
  simp only [asgT, Option.some.injEq] at ha
  subst ha
  exact hq _ (re.set rl) (fun j hj => by
    simp [tgSlots] at hj
    exact List.getElem?_set_ne (Ne.symm hj)) (by simp)⟩
theorem fgs_nil : PGMs G X [] [] gNil := ⟨pgs_nil, fun w r r' σ ls vs Q k re rl ha hq => by
  cases rl with
  | nil =>
    simp only [asgT.asgTs, Option.some.injEq] at ha
    subst ha
    exact ⟨rfl, hq _ re (fun _ _ => rfl) rfl⟩
  | cons _ _ => simp [asgT.asgTs] at ha⟩
theorem fgs_cons {e : Expr} {es : List Expr} {t : Tg} {ts : List Tg} {g : TG} {gs : TGs} (h1 : PGM G (RepL G) X e t g) (h2 : PGMs G X es ts gs)
    (hs : (assignEach (e :: es) X.env).map (·.2) = assign e X.env :: (assignEach es X.env).map (·.2) := by rfl) : PGMs G X (e :: es) (t :: ts) (gCons g gs) := ⟨pgs_cons h1.pg h2.pg hs, fun w r r' σ ls vs Q k re rl ha hq => by
  simp only [asgT.asgTs] at ha
  cases rl with
  | nil => cases ha
  | cons rv rs =>
    simp only at ha
    obtain ⟨r1, e1, e2⟩ := Option.bind_eq_some_iff.mp ha
    refine ⟨_, _, rfl, h1.reads w r r1 σ _ _ _ k re (.v rv) e1 fun σ1 re1 hu1 hl1 => ?_⟩
    refine h2.reads w r1 r' σ1 _ _ _ k re1 rs e2 fun σ2 re2 hu2 hl2 => ?_
    refine hq σ2 re2 (fun i hi => ?_) (hl2.trans hl1)
    simp [tgSlotss] at hi
    rw [hu2 i hi.2, hu1 i hi.1]⟩
theorem asgTs_len : ∀ {ts : List Tg} {xs : List MV} {r r' : ME}, asgT.asgTs ts xs r = some r' → ts.length ≤ xs.length
  | [], _, _, _, _ => Nat.zero_le _
  | t :: ts, [], _, _, h => by simp [asgT.asgTs] at h
  | t :: ts, x :: xs, _, _, h => by
    simp only [asgT.asgTs] at h
    obtain ⟨_, _, h⟩ := Option.bind_eq_some_iff.mp h
    have := asgTs_len h
    simp; omega
theorem fg_tup {es : List Expr} {ts : List Tg} {gs : TGs} {k : Nat} {pos : Pos} (hc : X.calm = true) (hK : X.K = G.K) (h : PGMs G X es ts gs)
    (hn : (assignEach es X.env).length = ts.length := by rfl) (hst : (assignEach es X.env).findIdx? (·.1) = none := by rfl) : PGM G (RepI G) X (.Tuple es k pos) (.tup ts) (gTup G.K ts.length gs) := ⟨hK ▸ pg_tup hc h.pg hn hst, fun w r r' σ l v Q kk re rl ha hq => by
  have key : ∀ (a : Addr) (xs : List MV) (ws : List V), SqT G.K w.H a ws → RepVs G w.F xs ws → xs.length = ts.length → asgT.asgTs ts xs r = some r' → gTup G.K ts.length gs (.ref a) σ w.H Q := fun a xs ws hs rv hl ha => by
    refine ⟨a, ws, rfl, hs, by rw [← rv.length]; exact hl, h.reads w r r' σ xs ws Q kk re rv ha hq⟩
  cases l with
  | r _ => simp [asgT] at ha
  | v x =>
    cases x with
    | tup xs =>
      simp only [asgT] at ha
      split at ha
      · rename_i hl
        cases rl with
        | of rl =>
          cases rl with
          | v rl =>
            cases rl with
            | tup hs rv => exact key _ _ _ (Sub.sqT kk.le hs.sq) rv hl ha
        | tup hs rv => exact key _ _ _ hs rv hl ha
      · cases ha
    | _ => simp [asgT] at ha⟩
end
end SC

namespace SC
open PySem PySem.Spec PyProof.Rows L2
section
variable {G : Gm} {E : XK} {X : Cx} {F : Phi}
/-- behind an expression -/
theorem GoodS.then {α β : Type} {R1 : Wd → α → β → Prop} {w : Wd} {D : Ends} {o : Out α} {f : α → MH → OutS} (h : GoodS G E w D (o.thenS f)) :
    Good G R1 E w (fun b H1 => ∃ w' a, Ext w w' ∧ w'.Ok G ∧ w'.H = H1 ∧ R1 w' a b ∧ o = .ok a w'.h ∧ GoodS G E w' D (f a w'.h)) o := by
  cases o with
  | ok x h' =>
    intro w' e ok eh v r
    subst eh
    exact ⟨w', x, e, ok, rfl, r, rfl, GoodS.from e h⟩
  | exc c fs h' => exact h
  | bad => exact h
theorem GoodS.nx {w : Wd} {D : Ends} {r : ME} {σ : L2.St} (k : w.Ok G) (re : RepE G w r σ) (h : GoodS G E w D (.nxt r w.h)) : D.nx σ w.H := h w (Ext.refl k) k rfl σ re
theorem fs_expr {e : Expr} {c : CE} {pos : Pos} (he : PE X e (tM G E (evE G.T F c))) (hs : swapsWith e none pos.line X.env = pure false := by rfl) : PS X (.Expr e pos) (tMS G E (evS G.T F (.expr c))) := by
  refine PS.weaken (ps_expr he hs) fun D σ H ⟨w, r, hH, ok, re, g⟩ => ?_
  simp only [evS] at g
  refine ⟨w, r, hH, ok, re, (GoodS.then (R1 := RepL G) g).mono fun x H1 ⟨w1, a, e1, k1, hH1, ra, _, g1⟩ => ?_⟩
  subst hH1
  exact GoodS.nx k1 (re.ext e1) g1
theorem fs_ret {e : Expr} {c : CE} {pos : Pos} (he : PE X e (tM G E (evE G.T F c))) : PS X (.Return (some e) pos) (tMS G E (evS G.T F (.ret c))) := by
  refine PS.weaken (ps_ret he) fun D σ H ⟨w, r, hH, ok, re, g⟩ => ?_
  simp only [evS] at g
  refine ⟨w, r, hH, ok, re, (GoodS.then (R1 := RepL G) g).mono fun x H1 ⟨w1, a, e1, k1, hH1, ra, _, g1⟩ => ?_⟩
  subst hH1
  exact g1 w1 (Ext.refl k1) k1 rfl _ ra
theorem fs_retN {pos : Pos} : PS X (.Return none pos) (tMS G E (evS G.T F (.ret (.cst .non)))) := by
  refine PS.weaken ps_retN fun D σ H ⟨w, r, hH, ok, re, g⟩ => ?_
  subst hH
  exact g w (Ext.refl ok) ok rfl _ (.v .non)
theorem fs_pass {pos : Pos} : PS X (.Pass pos) (tMS G E (evS G.T F .pass)) := by
  refine PS.weaken ps_pass fun D σ H ⟨w, r, hH, ok, re, g⟩ => ?_
  subst hH
  exact GoodS.nx ok re g
theorem fs_brk {pos : Pos} : PS X (.Break pos) (tMS G E (evS G.T F .brk)) := by
  refine PS.weaken ps_break fun D σ H ⟨w, r, hH, ok, re, g⟩ => ?_
  subst hH
  exact g w (Ext.refl ok) ok rfl σ re
theorem fs_cnt {pos : Pos} : PS X (.Continue pos) (tMS G E (evS G.T F .cnt)) := by
  refine PS.weaken ps_continue fun D σ H ⟨w, r, hH, ok, re, g⟩ => ?_
  subst hH
  exact g w (Ext.refl ok) ok rfl σ re
theorem fs_never {st : Stmt} : PS X st (tMS G E (evS G.T F .never)) := ⟨fun pins s σ H D I ⟨w, r, hH, ok, re, g⟩ => g.elim⟩
theorem fss_nil : PSs X [] (tMS G E (evSs G.T F .nil)) := by
  refine PSs.weaken pss_nil fun D σ H ⟨w, r, hH, ok, re, g⟩ => ?_
  subst hH
  exact GoodS.nx ok re g
theorem fss_cons {st : Stmt} {rest : List Stmt} {c : CS} {cs : CSs} (h1 : PS X st (tMS G E (evS G.T F c))) (h2 : PSs X rest (tMS G E (evSs G.T F cs))) : PSs X (st :: rest) (tMS G E (evSs G.T F (.cons c cs))) := by
  refine PSs.weaken (pss_cons h1 h2) fun D σ H ⟨w, r, hH, ok, re, g⟩ => ?_
  simp only [evSs] at g
  refine ⟨w, r, hH, ok, re, ?_⟩
  cases q : evS G.T F c r w.h with
  | nxt r1 h1 =>
    simp only [q, OutS.andS] at g
    intro w1 e1 k1 eh σ1 re1
    subst eh
    exact ⟨w1, r1, rfl, k1, re1, GoodS.from e1 g⟩
  | ret x h1 => simp only [q, OutS.andS] at g; exact g
  | brk r1 h1 => simp only [q, OutS.andS] at g; exact g
  | cnt r1 h1 => simp only [q, OutS.andS] at g; exact g
  | exc c fs h1 => simp only [q, OutS.andS] at g; exact g
  | bad => simp only [q, OutS.andS] at g; exact g
theorem fs_ife {c : Expr} {a b : List Stmt} {cc : CE} {ca cb : CSs} {pos : Pos} (hc : PT X c (tMb G E (evE G.T F cc))) (ha : PSs X a (tMS G E (evSs G.T F ca))) (hb : PSs X b (tMS G E (evSs G.T F cb))) : PS X (.If c a b pos) (tMS G E (evS G.T F (.ife cc ca cb))) := by
  refine PS.weaken (ps_if hc ha hb) fun D σ H ⟨w, r, hH, ok, re, g⟩ => ?_
  simp only [evS] at g
  refine ⟨w, r, hH, ok, re, ?_, ?_⟩
  · cases q : evE G.T F cc r w.h with
    | bad => simp only [q, Out.thenS] at g; exact g
    | exc c fs h' => simp only [q, Out.thenS] at g; exact g
    | ok x h' =>
      simp only [q, Out.thenS] at g
      intro w' e k eh v rv
      cases rv
      subst eh
      cases v with
      | true => exact iteT ⟨w', r, rfl, k, re.ext e, GoodS.from e g⟩
      | false => exact iteF ⟨w', r, rfl, k, re.ext e, GoodS.from e g⟩
  · intro x h' q
    simp only [q, Out.thenS] at g
    split at g
    · exact ⟨_, rfl⟩
    · exact ⟨_, rfl⟩
    · exact g.elim
theorem fs_asg {tg e : Expr} {c : CE} {t : Tg} {gt : TG} {pos : Pos} (he : PE X e (tM G E (evE G.T F c))) (hg : PGM G (RepL G) X tg t gt) (hs : swapsWithSole [tg] e pos.line X.env = pure false := by rfl) (hw : swappedStores [tg] e X.env = pure none := by rfl)
    (h : PS X (.Assign [tg] e pos) (tAsg (tM G E (evE G.T F c)) gt) := by exact ps_asg he hg.pg hs hw) : PS X (.Assign [tg] e pos) (tMS G E (evS G.T F (.asg t c))) := by
  refine PS.weaken h fun D σ H ⟨w, r, hH, ok, re, g⟩ => ?_
  simp only [evS] at g
  refine ⟨w, r, hH, ok, re, (GoodS.then (R1 := RepL G) g).mono fun x H1 ⟨w1, a, e1, k1, hH1, ra, _, g1⟩ => ?_⟩
  subst hH1
  split at g1
  · rename_i r' ha
    exact hg.reads w1 r r' σ a x D.nx k1 (re.ext e1) ra ha fun σ' re' _ _ => GoodS.nx k1 re' g1
  · exact g1.elim
theorem par_reads {i : Nat} {is : List Nat} {w : Wd} {r : ME} {σ : L2.St} {l : LV} {v : V} (re : RepE G w r σ) (rl : RepL G w l v) : RepE G w (r.set i (some l)) (σ.set i (some v)) := re.set rl
theorem fs_par2 {i j : Nat} {es : List Expr} {cs : CEs} {st : Stmt} (h : PS X st (fun D σ H => tMs G E (evEs G.T F cs) σ H fun vs H1 => ∃ v w, vs = [v, w] ∧ D.nx ((σ.set i (some v)).set j (some w)) H1)) : PS X st (tMS G E (evS G.T F (.par [i, j] cs))) := by
  refine PS.weaken h fun D σ H ⟨w, r, hH, ok, re, g⟩ => ?_
  simp only [evS] at g
  refine ⟨w, r, hH, ok, re, (GoodS.then (R1 := RepLs G) g).mono fun vs H1 ⟨w1, ls, e1, k1, hH1, rls, _, g1⟩ => ?_⟩
  subst hH1
  split at g1
  · rename_i hl
    cases rls with
    | nil => simp at hl
    | cons r1 t1 =>
      cases t1 with
      | nil => simp at hl
      | cons r2 t2 =>
        cases t2 with
        | nil => exact ⟨_, _, rfl, GoodS.nx k1 (((re.ext e1).set r1).set r2) g1⟩
        | cons _ _ => simp at hl
  · exact g1.elim
theorem fs_par3 {i j k : Nat} {cs : CEs} {st : Stmt} (h : PS X st (fun D σ H => tMs G E (evEs G.T F cs) σ H fun vs H1 => ∃ v w u, vs = [v, w, u] ∧ D.nx (((σ.set i (some v)).set j (some w)).set k (some u)) H1)) : PS X st (tMS G E (evS G.T F (.par [i, j, k] cs))) := by
  refine PS.weaken h fun D σ H ⟨w, r, hH, ok, re, g⟩ => ?_
  simp only [evS] at g
  refine ⟨w, r, hH, ok, re, (GoodS.then (R1 := RepLs G) g).mono fun vs H1 ⟨w1, ls, e1, k1, hH1, rls, _, g1⟩ => ?_⟩
  subst hH1
  split at g1
  · rename_i hl
    cases rls with
    | nil => simp at hl
    | cons r1 t1 =>
      cases t1 with
      | nil => simp at hl
      | cons r2 t2 =>
        cases t2 with
        | nil => simp at hl
        | cons r3 t3 =>
          cases t3 with
          | nil => exact ⟨_, _, _, rfl, GoodS.nx k1 ((((re.ext e1).set r1).set r2).set r3) g1⟩
          | cons _ _ => simp at hl
  · exact g1.elim
/-! ### loops -/
theorem fs_for {tg iter : Expr} {body : List Stmt} {t : Tg} {gt : TG} {it : CI} {cb : CSs} {pos : Pos} {Rl : Wd → LV → V → Prop} (hp : PassesOwn (model X.prog X.w) X.A X.env X.xe) (hc : X.calm = true) (hi : PI X tg iter (tIM G E Rl (evI G.T F it))) (hg : PGM G Rl X tg t gt)
    (hb : PSs X body (tMS G E (evSs G.T F cb))) (hs : ∀ x, foldedSetIterable iter X.env x = pure x := by intro _; rfl) : PS X (.For tg iter body [] pos) (tMS G E (evS G.T F (.forr t it cb))) := by
  refine PS.weaken (ps_for hp hc hi hg.pg hb hs) fun D σ H ⟨w, r, hH, ok, re, g⟩ => ?_
  simp only [evS] at g
  refine ⟨w, r, hH, ok, re, (GoodS.then (R1 := RepIt G Rl) g).mono fun J H1 ⟨w1, I, e1, k1, hH1, rI, _, g1⟩ => ?_⟩
  subst hH1
  -- the invariant: what is left of the model's loop is good
  refine ⟨fun i m σ H => m = I.items.length - i ∧ i ≤ I.items.length ∧ ∃ w2 r2, Ext w1 w2 ∧ w2.Ok G ∧ w2.H = H ∧ RepE G w2 r2 σ ∧ GoodS G E w2 D (forL I.live (fun x r h => match asgT t x r with
    | some r' => evSs G.T F cb r' h
    | none => .bad) (I.items.drop i) r2 w2.h), ⟨_, rfl, Nat.zero_le _, w1, r, Ext.refl k1, k1, rfl, re.ext e1, g1⟩, ?_⟩
  rintro i m σ2 H2 ⟨rfl, hi', w2, r2, e2, k2, rfl, re2, g2⟩
  by_cases hlt : i < I.items.length
  · have hd : I.items.drop i = I.items[i] :: I.items.drop (i + 1) := (List.drop_eq_getElem_cons hlt)
    rw [hd] at g2
    simp only [forL] at g2
    split at g2
    · rename_i hgd
      obtain ⟨hgo, hy⟩ := (rI w2 e2 k2 hgd i).2 I.items[i] (List.getElem?_eq_getElem hlt)
      refine .inr ⟨hgo, fun σ' H' => ∃ w3 r3, Ext w1 w3 ∧ w3.Ok G ∧ w3.H = H' ∧ RepE G w3 r3 σ' ∧ GoodS G E w3 D (forL I.live (fun x r h => match asgT t x r with
        | some r' => evSs G.T F cb r' h
        | none => .bad) (I.items.drop (i + 1)) r3 w3.h), fun σ' H' ⟨w3, r3, a1, a2, a3, a4, a5⟩ => ⟨_, by omega, rfl, by omega, w3, r3, a1, a2, a3, a4, a5⟩, fun v H' hv => ?_⟩
      obtain ⟨w3, e3, k3, hh3, rfl, rv⟩ := hy v H' hv
      cases qa : asgT t I.items[i] r2 with
      | none => simp only [qa] at g2; exact g2.elim
      | some r' =>
        simp only [qa] at g2
        refine hg.reads w3 r2 r' σ2 _ _ _ k3 (re2.ext e3) rv qa fun σ3 re3 _ _ => ?_
        refine ⟨w3, r', rfl, k3, re3, ?_⟩
        rw [hh3]
        have fin : ∀ (r1 : ME) (h1 : MH), GoodS G E w2 D (forL I.live (fun x r h => match asgT t x r with
            | some r' => evSs G.T F cb r' h
            | none => .bad) (I.items.drop (i + 1)) r1 h1) → ∀ w4, Ext w3 w4 → w4.Ok G → w4.h = h1 → ∀ σ4, RepE G w4 r1 σ4 → ∃ w3 r3, Ext w1 w3 ∧ w3.Ok G ∧ w3.H = w4.H ∧ RepE G w3 r3 σ4 ∧ GoodS G E w3 D (forL I.live (fun x r h => match asgT t x r with
            | some r' => evSs G.T F cb r' h
            | none => .bad) (I.items.drop (i + 1)) r3 w3.h) := by
          intro r1 h1 hg4 w4 e4 k4 eh σ4 re4
          subst eh
          exact ⟨w4, r1, (e2.trans e3).trans e4, k4, rfl, re4, GoodS.from (e3.trans e4) hg4⟩
        cases qb : evSs G.T F cb r' w2.h with
        | nxt r1 h1 => simp only [qb] at g2; exact fin r1 h1 g2
        | cnt r1 h1 => simp only [qb] at g2; exact fin r1 h1 g2
        | brk r1 h1 => simp only [qb] at g2; exact GoodS.from e3 g2
        | ret x h1 => simp only [qb] at g2; exact GoodS.from e3 g2
        | exc c fs h1 => simp only [qb] at g2; exact GoodS.from e3 g2
        | bad => simp only [qb] at g2; exact g2
    · exact g2.elim
  · have hd : I.items.drop i = [] := List.drop_eq_nil_of_le (by omega)
    rw [hd] at g2
    simp only [forL] at g2
    split at g2
    · rename_i hgd
      exact .inl ⟨(rI w2 e2 k2 hgd i).1 (List.getElem?_eq_none_iff.mpr (by omega)), GoodS.nx k2 re2 g2⟩
    · exact g2.elim
theorem fs_whil {c : Expr} {body : List Stmt} {cc : CE} {cb : CSs} {pos : Pos} (hp : PassesOwn (model X.prog X.w) X.A X.env X.xe) (hc : PT X c (tMb G E (evE G.T F cc))) (hb : PSs X body (tMS G E (evSs G.T F cb))) : PS X (.While c body [] pos) (tMS G E (evS G.T F (.whil cc cb))) := by
  refine PS.weaken (ps_while hp hc hb) fun D σ H ⟨w, r, hH, ok, re, g⟩ => ?_
  simp only [evS] at g
  subst hH
  refine ⟨fun m σ H => ∃ w2 r2, Ext w w2 ∧ w2.Ok G ∧ w2.H = H ∧ RepE G w2 r2 σ ∧ GoodS G E w2 D (whileL (fun r h => evE G.T F cc r h) (fun r h => evSs G.T F cb r h) m r2 w2.h), ⟨_, w, r, Ext.refl ok, ok, rfl, re, g⟩, ?_⟩
  rintro m σ2 H2 ⟨w2, r2, e2, k2, rfl, re2, g2⟩
  cases m with
  | zero => exact g2.elim
  | succ m =>
    simp only [whileL] at g2
    refine ⟨w2, r2, rfl, k2, re2, ?_, ?_⟩
    · cases q : evE G.T F cc r2 w2.h with
      | bad => simp only [q] at g2; exact g2
      | exc c fs h' => simp only [q] at g2; exact g2
      | ok x h' =>
        intro w3 e3 k3 eh v rv
        cases rv
        subst eh
        simp only [q] at g2
        cases v with
        | false => exact iteF (GoodS.nx k3 (re2.ext e3) (GoodS.from e3 g2))
        | true =>
          refine iteT ⟨fun σ' H' => ∃ w4 r4, Ext w w4 ∧ w4.Ok G ∧ w4.H = H' ∧ RepE G w4 r4 σ' ∧ GoodS G E w4 D (whileL (fun r h => evE G.T F cc r h) (fun r h => evSs G.T F cb r h) m r4 w4.h), fun σ' H' h => ⟨m, Nat.lt_succ_self m, h⟩, w3, r2, rfl, k3, re2.ext e3, ?_⟩
          have fin : ∀ (r1 : ME) (h1 : MH), GoodS G E w2 D (whileL (fun r h => evE G.T F cc r h) (fun r h => evSs G.T F cb r h) m r1 h1) → ∀ w4, Ext w3 w4 → w4.Ok G → w4.h = h1 → ∀ σ4, RepE G w4 r1 σ4 → ∃ w5 r5, Ext w w5 ∧ w5.Ok G ∧ w5.H = w4.H ∧ RepE G w5 r5 σ4 ∧ GoodS G E w5 D (whileL (fun r h => evE G.T F cc r h) (fun r h => evSs G.T F cb r h) m r5 w5.h) := by
            intro r1 h1 hg4 w4 e4 k4 eh σ4 re4
            subst eh
            exact ⟨w4, r1, (e2.trans e3).trans e4, k4, rfl, re4, GoodS.from (e3.trans e4) hg4⟩
          cases qb : evSs G.T F cb r2 w3.h with
          | nxt r1 h1 => simp only [qb] at g2; exact fin r1 h1 g2
          | cnt r1 h1 => simp only [qb] at g2; exact fin r1 h1 g2
          | brk r1 h1 => simp only [qb] at g2; exact GoodS.from e3 g2
          | ret x h1 => simp only [qb] at g2; exact GoodS.from e3 g2
          | exc c fs h1 => simp only [qb] at g2; exact GoodS.from e3 g2
          | bad => simp only [qb] at g2; exact g2
    · intro x h' q
      simp only [q] at g2
      split at g2
      · rename_i e; cases e; exact ⟨_, rfl⟩
      · rename_i e; cases e; exact ⟨_, rfl⟩
      · rename_i e; cases e
      · exact g2.elim
end
end SC

namespace SC
open PySem PySem.Spec PyProof.Rows L2
theorem wipe_len (σ : L2.St) : ∀ vs, (wipe σ vs).length = σ.length
  | [] => rfl
  | v :: vs => by simp [wipe, wipe_len σ vs]
theorem wipe_get (σ : L2.St) : ∀ (vs : List Nat) (i : Nat), (wipe σ vs)[i]? = if i ∈ vs ∧ i < σ.length then some none else σ[i]?
  | [], i => by simp [wipe]
  | v :: vs, i => by
    simp only [wipe]
    by_cases h : v = i
    · subst h
      by_cases hl : v < σ.length
      · rw [List.getElem?_set_self (by rw [wipe_len]; exact hl)]
        simp [hl]
      · rw [List.getElem?_eq_none (by simp [wipe_len]; omega), if_neg (by omega), List.getElem?_eq_none (by omega)]
    · rw [List.getElem?_set_ne h, wipe_get σ vs i]
      simp [Ne.symm h]
theorem wipeR_len (r : ME) : ∀ vs, (wipeR r vs).length = r.length
  | [] => rfl
  | v :: vs => by simp [wipeR, wipeR_len r vs]
theorem wipeR_get (r : ME) : ∀ (vs : List Nat) (i : Nat), (wipeR r vs)[i]? = if i ∈ vs ∧ i < r.length then some none else r[i]?
  | [], i => by simp [wipeR]
  | v :: vs, i => by
    simp only [wipeR]
    by_cases h : v = i
    · subst h
      by_cases hl : v < r.length
      · rw [List.getElem?_set_self (by rw [wipeR_len]; exact hl)]
        simp [hl]
      · rw [List.getElem?_eq_none (by simp [wipeR_len]; omega), if_neg (by omega), List.getElem?_eq_none (by omega)]
    · rw [List.getElem?_set_ne h, wipeR_get r vs i]
      simp [Ne.symm h]
section
variable {G : Gm}
theorem RepE.wipe {w : Wd} {r : ME} {σ : L2.St} (h : RepE G w r σ) (vs : List Nat) : RepE G w (wipeR r vs) (L2.wipe σ vs) := by
  refine ⟨by rw [wipeR_len, wipe_len]; exact h.1, fun i l q => ?_⟩
  rw [wipeR_get] at q
  split at q
  · cases q
  · rename_i hn
    obtain ⟨x, h1, h2⟩ := h.2 i l q
    refine ⟨x, ?_, h2⟩
    rw [wipe_get, if_neg (by rw [← h.1]; exact hn)]
    exact h1
theorem wipe_back {σ σ2 : L2.St} {vs : List Nat} (h : ∀ i, i ∉ vs → σ2[i]? = (wipe σ vs)[i]?) (hl : σ2.length = (wipe σ vs).length) : wipe σ2 vs = wipe σ vs := by
  refine List.ext_getElem? fun i => ?_
  rw [wipe_len] at hl
  rw [wipe_get, hl]
  by_cases hi : i ∈ vs
  · by_cases hs : i < σ.length
    · rw [if_pos ⟨hi, hs⟩, wipe_get, if_pos ⟨hi, hs⟩]
    · rw [if_neg (by omega), List.getElem?_eq_none (by omega), List.getElem?_eq_none (by rw [wipe_len]; omega)]
  · rw [if_neg (by simp [hi]), h i hi]
/-- D stands beside the model: no one reaches it -/
structure Ghost (w : Wd) (D : Addr) (ws : List V) : Prop where
  at_ : w.H D = some (.lst ws)
  free : w.F D = none
  out : ∀ n, n < w.h.length → w.p n ≠ D
theorem Ghost.ext {w w' : Wd} {D : Addr} {ws : List V} (g : Ghost w D ws) (e : Ext w w') : Ghost w' D ws where
  at_ := e.frame D _ g.at_ g.out (fun _ z => nomatch z)
  free := by
    cases q : w'.F D with
    | none => rfl
    | some o =>
      rcases e.newF D o q with h | h | ⟨n, hn, h⟩
      · rw [g.free] at h; cases h
      · rw [g.at_] at h; cases h
      · exact absurd h (g.out n hn)
  out := fun n hn z => by
    by_cases h : n < w.h.length
    · rw [e.phi n h] at z; exact g.out n h z
    · have := e.newP n (Nat.le_of_not_lt h) hn
      rw [z, g.at_] at this; cases this
theorem Ghost.nt {w : Wd} {D : Addr} {ws : List V} (g : Ghost w D ws) {P : Addr} {q : Str} (t : TabOk w P q) : P ≠ D := fun z => by
  obtain ⟨ps, e, _⟩ := t.tbl
  rw [z, g.at_] at e
  cases e
/-- D is written -/
def Wd.gput (w : Wd) (D : Addr) (o : HO) : Wd := { w with H := upd w.H D o }
theorem gput_ok {w : Wd} {D : Addr} {ws : List V} {o : HO} (k : w.Ok G) (g : Ghost w D ws) : (w.gput D o).Ok G where
  le := fun b u e => by
    show upd w.H D o b = some u
    rw [upd_ne (ne_of_none e g.free)]; exact k.le b u e
  cell := fun n c e => by
    obtain ⟨o', h1, h2⟩ := k.cell n c e
    have hn : n < w.h.length := (List.getElem?_eq_some_iff.mp e).1
    refine ⟨o', ?_, CellR.mono (w := w) (w' := w.gput D o) (fun x v r => ?_) (fun z => z) h2⟩
    · show upd w.H D o (w.p n) = some o'
      rw [upd_ne (g.out n hn)]; exact h1
    · cases r with
      | v r => exact .v r
      | r h => exact RepL.r (w := w.gput D o) h
  inj := k.inj
  tabs := fun p hp => by
    have t := k.tabs p hp
    have ne : p.1 ≠ D := g.nt t
    exact t.step (by show upd w.H D o p.1 = _; rw [upd_ne ne]) (fun _ _ e => e) t.out t.free
theorem gput_rep {w : Wd} {D : Addr} {o : HO} {x : LV} {v : V} (r : RepL G w x v) : RepL G (w.gput D o) x v := by
  cases r with
  | v r => exact .v r
  | r h => exact RepL.r (w := w.gput D o) h
theorem gput_reps {w : Wd} {D : Addr} {o : HO} : ∀ {x : List LV} {v : List V}, RepLs G w x v → RepLs G (w.gput D o) x v
  | _, _, .nil => .nil
  | _, _, .cons h t => .cons (gput_rep h) (gput_reps t)
theorem gput_repE {w : Wd} {D : Addr} {o : HO} {r : ME} {σ : L2.St} (h : RepE G w r σ) : RepE G (w.gput D o) r σ := ⟨h.1, fun i l q => let ⟨x, a, b⟩ := h.2 i l q; ⟨x, a, gput_rep b⟩⟩
theorem gput_ext {w1 w : Wd} {D : Addr} {o : HO} (e : Ext w1 w) (h : w1.H D = none) (k1 : w1.Ok G) : Ext w1 (w.gput D o) where
  len := e.len
  phi := e.phi
  mono := e.mono
  frame := fun b u q hb ht => by
    show upd w.H D o b = some u
    rw [upd_ne (ne_of_none q h)]; exact e.frame b u q hb ht
  tk := fun b ps q hb => by
    obtain ⟨ps', z⟩ := e.tk b ps q hb
    exact ⟨ps', by show upd w.H D o b = _; rw [upd_ne (ne_of_none q h)]; exact z⟩
  newF := e.newF
  newP := e.newP
  keep := fun n hn => by
    obtain ⟨u, q⟩ := k1.there n hn
    show ∃ u, upd w.H D o (w1.p n) = some u
    rw [upd_ne (ne_of_none q h)]
    exact e.keep n hn
/-- D becomes a live list of the model; a frozen one -/
def Wd.glive (w : Wd) (D : Addr) (c : MO) : Wd := { p := fun n => if n = w.h.length then D else w.p n, F := w.F, h := w.h ++ [c], H := w.H }
def Wd.gfrz (w : Wd) (D : Addr) (o : HO) : Wd := { w with F := upd w.F D o }
theorem glive_rep {w : Wd} {D : Addr} {c : MO} {x : LV} {v : V} (r : RepL G w x v) : RepL G (w.glive D c) x v := by
  cases r with
  | v r => exact .v r
  | @r n h =>
    have := RepL.r (G := G) (w := w.glive D c) (n := n) (by simp [Wd.glive]; omega)
    have e : (w.glive D c).p n = w.p n := by simp [Wd.glive, Nat.ne_of_lt h]
    rwa [e] at this
theorem glive_reps {w : Wd} {D : Addr} {c : MO} : ∀ {x : List LV} {v : List V}, RepLs G w x v → RepLs G (w.glive D c) x v
  | _, _, .nil => .nil
  | _, _, .cons h t => .cons (glive_rep h) (glive_reps t)
theorem glive_ok {w : Wd} {D : Addr} {ws : List V} {xs : List LV} (k : w.Ok G) (g : Ghost w D ws) (r : RepLs G w xs ws) : (w.glive D (.lst xs)).Ok G where
  le := k.le
  cell := fun n c e => by
    by_cases hn : n < w.h.length
    · have e' : w.h[n]? = some c := by
        have : (w.h ++ [.lst xs])[n]? = some c := e
        rwa [List.getElem?_append_left hn] at this
      obtain ⟨o', h1, h2⟩ := k.cell n c e'
      have ep : (w.glive D (.lst xs)).p n = w.p n := by simp [Wd.glive, Nat.ne_of_lt hn]
      rw [ep]
      exact ⟨o', h1, CellR.mono (fun x v r => glive_rep r) (fun z => z) h2⟩
    · have hl : n < (w.h ++ [MO.lst xs]).length := by
        have : (w.h ++ [.lst xs])[n]? = some c := e
        exact (List.getElem?_eq_some_iff.mp this).1
      have en : n = w.h.length := by simp at hl; omega
      subst en
      have : (w.h ++ [.lst xs])[w.h.length]? = some c := e
      rw [List.getElem?_append_right (Nat.le_refl _)] at this
      simp at this
      subst this
      have ep : (w.glive D (.lst xs)).p w.h.length = D := by simp [Wd.glive]
      rw [ep]
      exact ⟨.lst ws, g.at_, ws, rfl, glive_reps r, g.free⟩
  inj := fun n m hn hm e => by
    simp [Wd.glive] at hn hm
    simp only [Wd.glive] at e
    by_cases h1 : n = w.h.length
    · by_cases h2 : m = w.h.length
      · omega
      · rw [if_pos h1, if_neg h2] at e
        exact absurd e.symm (g.out m (by omega))
    · by_cases h2 : m = w.h.length
      · rw [if_neg h1, if_pos h2] at e
        exact absurd e (g.out n (by omega))
      · rw [if_neg h1, if_neg h2] at e
        exact k.inj n m (by omega) (by omega) e
  tabs := fun p hp => by
    have t := k.tabs p hp
    have ne : p.1 ≠ D := g.nt t
    refine t.step rfl (fun _ _ e => e) (fun n hn z => ?_) t.free
    simp only [Wd.glive] at hn z
    split at z
    · exact ne z.symm
    · exact t.out n (by simp at hn; omega) z
theorem glive_ext {w1 w : Wd} {D : Addr} {c : MO} (e : Ext w1 w) (h : w1.H D = none) : Ext w1 (w.glive D c) where
  len := by have := e.len; simp [Wd.glive]; omega
  phi := fun n hn => by
    have := e.len
    have e2 : (w.glive D c).p n = w.p n := by simp [Wd.glive, Nat.ne_of_lt (Nat.lt_of_lt_of_le hn this)]
    rw [e2]; exact e.phi n hn
  mono := e.mono
  frame := e.frame
  tk := e.tk
  newF := e.newF
  newP := fun n h1 h2 => by
    simp [Wd.glive] at h2
    by_cases hn : n = w.h.length
    · simp [Wd.glive, hn, h]
    · have e2 : (w.glive D c).p n = w.p n := by simp [Wd.glive, hn]
      rw [e2]; exact e.newP n h1 (by omega)
  keep := e.keep
theorem gfrz_ok {w : Wd} {D : Addr} {ws : List V} (k : w.Ok G) (g : Ghost w D ws) : (w.gfrz D (.lst ws)).Ok G where
  le := fun b u e => by
    have e : upd w.F D (.lst ws) b = some u := e
    by_cases hb : b = D
    · subst hb; rw [upd_same] at e; cases e; exact g.at_
    · rw [upd_ne hb] at e; exact k.le b u e
  cell := fun n c e => by
    obtain ⟨o', h1, h2⟩ := k.cell n c e
    have hn : n < w.h.length := (List.getElem?_eq_some_iff.mp e).1
    refine ⟨o', h1, CellR.mono (w := w) (w' := w.gfrz D (.lst ws)) (fun x v r => ?_) (fun z => ?_) h2⟩
    · cases r with
      | v r => exact .v (r.mono (sub_upd g.free))
      | r h => exact RepL.r (w := w.gfrz D (.lst ws)) h
    · show upd w.F D (.lst ws) (w.p n) = none
      rw [upd_ne (g.out n hn)]; exact z
  inj := k.inj
  tabs := fun p hp => by
    have t := k.tabs p hp
    have ne : p.1 ≠ D := g.nt t
    exact t.step rfl (sub_upd g.free) t.out (by show upd w.F D (.lst ws) p.1 = none; rw [upd_ne ne]; exact t.free)
theorem gfrz_ext {w1 w : Wd} {D : Addr} {ws : List V} (e : Ext w1 w) (h : w1.H D = none) (g : Ghost w D ws) : Ext w1 (w.gfrz D (.lst ws)) where
  len := e.len
  phi := e.phi
  mono := fun a o q => sub_upd g.free a o (e.mono a o q)
  frame := e.frame
  tk := e.tk
  newF := fun a o q => by
    have q : upd w.F D (.lst ws) a = some o := q
    by_cases ha : a = D
    · subst ha; exact .inr (.inl h)
    · rw [upd_ne ha] at q; exact e.newF a o q
  newP := e.newP
  keep := e.keep
theorem gput_ghost {w : Wd} {D : Addr} {ws ws' : List V} (g : Ghost w D ws) : Ghost (w.gput D (.lst ws')) D ws' := ⟨upd_same, g.free, g.out⟩
end
section
variable {G : Gm} {E : XK} {X : Cx} {F : Phi}
/-- [e for t in it if c] -/
theorem comp_reads {live : Bool} {vs : List Nat} {t : Tg} {gt : TG} {it : CI} {cc ce : CE} {Rl : Wd → LV → V → Prop}
    (hi : tgSlots t = vs)
    (hg : ∃ Y tg, PGM G Rl Y tg t gt) (σ : L2.St) (H : Hp) (Q : VK) (hq : tM G E (evE G.T F (.comp live t it cc ce)) σ H Q) :
    tLc (tIM G E Rl (evI G.T F it)) gt (tMb G E0 (evE G.T F cc)) (tM G E0 (evE G.T F ce)) vs σ H Q := by
  obtain ⟨w, r, hH, ok, re, g⟩ := hq
  simp only [evE] at g
  refine ⟨w, r, hH, ok, re, (Good.bind (R1 := RepIt G Rl) g).mono fun J H1 ⟨w1, I, e1, k1, hH1, rI, _, g1⟩ => ?_⟩
  subst hH1
  intro D hD
  have re1 := re.ext e1
  generalize hstep : (fun (x : LV) (h : MH) => match asgT t x (wipeR r (tgSlots t)) with
      | some r' => (evE G.T F cc r' h).bind fun b h => match b with
        | .v (.bl true) => (evE G.T F ce r' h).bind fun y h => .ok (some y) h
        | .v (.bl false) => .ok none h
        | _ => .bad
      | none => (.bad : Out (Option LV))) = step at g1
  have hs : ∀ x h, step x h = (match asgT t x (wipeR r (tgSlots t)) with
      | some r' => (evE G.T F cc r' h).bind fun b h => match b with
        | .v (.bl true) => (evE G.T F ce r' h).bind fun y h => .ok (some y) h
        | .v (.bl false) => .ok none h
        | _ => .bad
      | none => (.bad : Out (Option LV))) := fun x h => by rw [← hstep]
  clear hstep
  have ea := w1.aux_ext (o := .lst []) k1 hD
  have ka := w1.aux_ok (o := .lst []) k1 hD
  have ga : Ghost (w1.aux D (.lst [])) D [] := ⟨upd_same, k1.free hD, fun n hn z => by
    obtain ⟨u, q⟩ := k1.there n hn
    have z : w1.p n = D := z
    rw [z, hD] at q; cases q⟩
  refine ⟨fun i m H => m = I.items.length - i ∧ i ≤ I.items.length ∧ ∃ w2 acc ws, Ext w1 w2 ∧ w2.Ok G ∧ w2.H = H ∧ Ghost w2 D ws ∧ RepLs G w2 acc ws ∧
    Good G (RepL G) E w1 Q ((compL I.live step (I.items.drop i) acc w2.h).bind fun ys h => if live = true then .ok (.r h.length) (h ++ [.lst ys]) else match pures ys with
        | some zs => ret (.lst zs) h
        | none => .bad), ⟨_, rfl, Nat.zero_le _, w1.aux D (.lst []), [], [], ea, ka, rfl, ga, .nil, g1⟩, ?_⟩
  rintro i m H2 ⟨rfl, hi', w2, acc, ws, e2, k2, rfl, gh, rac, g2⟩
  by_cases hlt : i < I.items.length
  · have hd : I.items.drop i = I.items[i] :: I.items.drop (i + 1) := List.drop_eq_getElem_cons hlt
    rw [hd] at g2
    simp only [compL] at g2
    split at g2
    · rename_i hgd
      obtain ⟨hgo, hy⟩ := (rI w2 e2 k2 hgd i).2 I.items[i] (List.getElem?_eq_getElem hlt)
      refine .inr ⟨hgo, fun H' => ∃ w3 acc ws, Ext w1 w3 ∧ w3.Ok G ∧ w3.H = H' ∧ Ghost w3 D ws ∧ RepLs G w3 acc ws ∧
        Good G (RepL G) E w1 Q ((compL I.live step (I.items.drop (i + 1)) acc w3.h).bind fun ys h => if live = true then .ok (.r h.length) (h ++ [.lst ys]) else match pures ys with
          | some zs => ret (.lst zs) h
          | none => .bad), fun H' ⟨w3, a1, a2, a3, a4, a5, a6, a7⟩ => ⟨_, by omega, rfl, by omega, w3, a1, a2, a3, a4, a5, a6, a7⟩, fun v H' hv => ?_⟩
      obtain ⟨w3, e3, k3, hh3, rfl, rv⟩ := hy v H' hv
      rw [hs] at g2
      cases qa : asgT t I.items[i] (wipeR r (tgSlots t)) with
      | none => simp only [qa, Out.bind] at g2; exact g2.elim
      | some r' =>
        simp only [qa] at g2
        rw [← hi]
        obtain ⟨Y, tg, hg⟩ := hg
        refine hg.reads w3 (wipeR r (tgSlots t)) r' (wipe σ (tgSlots t)) _ _ _ k3 (((re1.ext e2).ext e3).wipe (tgSlots t)) rv qa fun σ3 re3 hu hl => ?_
        refine ⟨wipe_back hu hl, w3, r', rfl, k3, re3, ?_, ?_⟩
        · rw [hh3]
          cases qc : evE G.T F cc r' w2.h with
          | bad => simp only [qc, Out.bind] at g2; exact g2.elim
          | exc c fs h' => simp only [qc, Out.bind] at g2; exact g2.elim
          | ok b h' =>
            simp only [qc, Out.bind] at g2
            intro w4 e4 k4 eh bv rb
            cases rb
            subst eh
            have gh4 := (gh.ext e3).ext e4
            have ra4 := (rac.ext e3).ext e4
            have e14 := (e2.trans e3).trans e4
            cases bv with
            | false =>
              refine iteF ⟨w4, acc, ws, e14, k4, rfl, gh4, ra4, ?_⟩
              exact g2
            | true =>
              refine iteT ⟨w4, r', rfl, k4, re3.ext e4, ?_⟩
              dsimp only at g2
              cases qe : evE G.T F ce r' w4.h with
              | bad => simp only [qe, Out.bind] at g2; exact g2.elim
              | exc c fs h' => simp only [qe, Out.bind] at g2; exact g2.elim
              | ok y h' =>
                simp only [qe, Out.bind] at g2
                intro w5 e5 k5 eh v5 rv5
                subst eh
                have gh5 := gh4.ext e5
                by_cases hz : acc.length < sizeLine
                · rw [if_pos hz] at g2
                  refine ⟨ws, gh5.at_, by rw [← rac.length]; exact hz, w5.gput D (.lst (ws ++ [v5])), acc ++ [y], ws ++ [v5], gput_ext (e14.trans e5) hD k1, gput_ok k5 gh5, rfl, gput_ghost gh5, gput_reps ((ra4.ext e5).append (.cons rv5 .nil)), ?_⟩
                  exact g2
                · rw [if_neg hz] at g2
                  exact g2.elim
        · rw [hh3]
          intro x h' qc
          rw [qc] at g2
          cases x with
          | r n => exact False.elim g2
          | v m =>
            cases m with
            | bl b => exact ⟨b, rfl⟩
            | _ => exact False.elim g2
    · exact g2.elim
  · have hd : I.items.drop i = [] := List.drop_eq_nil_of_le (by omega)
    rw [hd] at g2
    simp only [compL] at g2
    split at g2
    · rename_i hgd
      refine .inl ⟨(rI w2 e2 k2 hgd i).1 (List.getElem?_eq_none_iff.mpr (by omega)), ?_⟩
      simp only [Out.bind] at g2
      split at g2
      · have r0 : RepL G (w2.glive D (.lst acc)) (.r w2.h.length) (.ref D) := by
          have := RepL.r (G := G) (w := w2.glive D (.lst acc)) (n := w2.h.length) (by simp [Wd.glive])
          have ep : (w2.glive D (.lst acc)).p w2.h.length = D := by simp [Wd.glive]
          rwa [ep] at this
        exact g2 _ (glive_ext e2 hD) (glive_ok k2 gh rac) rfl _ r0
      · split at g2
        · rename_i zs hz
          exact g2 _ (gfrz_ext e2 hD gh) (gfrz_ok k2 gh) rfl _ (.v (.lst upd_same ((rac.pure hz).mono (sub_upd gh.free))))
        · exact g2.elim
    · exact g2.elim
/-- [e for t in it if c] -/
theorem fe_comp {live : Bool} {vs : List Nat} {t : Tg} {gt : TG} {it : CI} {cc ce : CE} {Rl : Wd → LV → V → Prop} {st : Expr}
    (hg : ∃ Y tg, PGM G Rl Y tg t gt) (h : PE X st (tLc (tIM G E Rl (evI G.T F it)) gt (tMb G E0 (evE G.T F cc)) (tM G E0 (evE G.T F ce)) vs)) (hi : tgSlots t = vs := by rfl) :
    PE X st (tM G E (evE G.T F (.comp live t it cc ce))) := PE.weaken h fun σ H Q hq => comp_reads hi hg σ H Q hq
/-- y = [e for t in it if c] -/
theorem fs_comp {i : Nat} {live : Bool} {vs : List Nat} {t : Tg} {gt : TG} {it : CI} {cc ce : CE} {Rl : Wd → LV → V → Prop} {st : Stmt}
    (hg : ∃ Y tg, PGM G Rl Y tg t gt) (h : PS X st (tAsg (tLc (tIM G E Rl (evI G.T F it)) gt (tMb G E0 (evE G.T F cc)) (tM G E0 (evE G.T F ce)) vs) (gName i))) (hi : tgSlots t = vs := by rfl) :
    PS X st (tMS G E (evS G.T F (.asg (.nm i) (.comp live t it cc ce)))) := by
  refine PS.weaken h fun D σ H ⟨w, r, hH, ok, re, g⟩ => ?_
  simp only [evS] at g
  refine comp_reads (live := live) hi hg σ H _ ⟨w, r, hH, ok, re, (GoodS.then (R1 := RepL G) g).mono fun x H1 ⟨w1, a, e1, k1, hH1, ra, _, g1⟩ => ?_⟩
  subst hH1
  exact GoodS.nx k1 ((re.ext e1).set ra) g1
theorem fts_nil : PTs X [] (tMb G E (evE G.T F (.cst (.bl true)))) := ⟨fun pins s σ H Q I ⟨w, r, hH, ok, re, g, _⟩ => by
  subst hH
  exact pts_nil.run pins s σ _ Q I (Good.ok (R := RB G) ok rfl g)⟩
end
end SC

namespace SC
open PySem PySem.Spec PyProof.Rows L2
section
variable {G : Gm} {E : XK} {X : Cx} {F : Phi}
theorem putF_rep {w : Wd} {nm : Nat → Str} {L : List Nat} (inj : ∀ f g, f ∈ L → g ∈ L → nm f = nm g → f = g) {f : Nat} (hf : f ∈ L) {x : LV} {v : V} (rx : RepL G w x v) :
    ∀ {fs : List (Nat × LV)} {fs' : List (Str × V)}, fs'.map (·.1) = (fs.map (·.1)).map nm → RepLs G w (fs.map (·.2)) (fs'.map (·.2)) → (∀ p ∈ fs, p.1 ∈ L) →
      (putF (nm f) v fs').map (·.1) = ((setFs f x fs).map (·.1)).map nm ∧ RepLs G w ((setFs f x fs).map (·.2)) ((putF (nm f) v fs').map (·.2)) ∧ ∀ p ∈ setFs f x fs, p.1 ∈ L
  | [], [], h1, h2, hL => ⟨rfl, .cons rx .nil, fun p hp => by simp [setFs] at hp; rw [hp]; exact hf⟩
  | [], _ :: _, h1, h2, hL => by simp at h1
  | _ :: _, [], h1, h2, hL => by simp at h1
  | (g, z) :: fs, (g', z') :: fs', h1, h2, hL => by
    simp only [List.map_cons, List.cons.injEq] at h1
    obtain ⟨rfl, h1⟩ := h1
    cases h2 with
    | cons r h2 =>
      by_cases hg : g = f
      · subst hg
        simp only [setFs, putF, if_true, List.map_cons]
        exact ⟨by rw [h1], .cons rx h2, fun p hp => by
          rcases List.mem_cons.mp hp with rfl | hp
          · exact hf
          · exact hL p (List.mem_cons_of_mem _ hp)⟩
      · have hn : ¬ nm g = nm f := fun e => hg (inj g f (hL (g, z) List.mem_cons_self) hf e)
        obtain ⟨a, b, c⟩ := putF_rep inj hf rx h1 h2 (fun p hp => hL p (List.mem_cons_of_mem _ hp))
        simp only [setFs, putF, if_neg hg, if_neg hn, List.map_cons]
        exact ⟨by rw [a], .cons r b, fun p hp => by
          rcases List.mem_cons.mp hp with rfl | hp
          · exact hL _ List.mem_cons_self
          · exact c p hp⟩
theorem setFO_shape {f : Nat} {o x : LV} {h h' : MH} (e : setFO G.T f o x h = some h') : ∃ n c fs, o = .r n ∧ h[n]? = some (.ins c fs) ∧ fs.length < 1000 ∧ f ∈ G.T.lay c ∧ h' = h.set n (.ins c (setFs f x fs)) := by
  unfold setFO at e
  split at e
  · rename_i n
    split at e
    · rename_i c fs q
      split at e
      · rename_i hb
        exact ⟨n, c, fs, rfl, q, hb.1, hb.2, (Option.some.inj e).symm⟩
      · cases e
    · cases e
  · cases e
theorem set_world {w : Wd} {n c f : Nat} {fs : List (Nat × LV)} {x : LV} {v : V} (ok : w.Ok G) (q : w.h[n]? = some (.ins c fs)) (hf : f ∈ G.T.lay c) (rx : RepL G w x v) :
    ∃ dx fs', w.H (w.p n) = some (.ins (G.Cl c) dx fs') ∧ fs.length = fs'.length ∧ ClsF G c ∧ Ext w (w.put n (.ins c (setFs f x fs)) (.ins (G.Cl c) dx (putF (G.nm f) v fs'))) ∧ (w.put n (.ins c (setFs f x fs)) (.ins (G.Cl c) dx (putF (G.nm f) v fs'))).Ok G := by
  obtain ⟨o', h1, dx, fs', rfl, e1, e2, e3, e4, e5⟩ := ok.cell n _ q
  have hn : n < w.h.length := (List.getElem?_eq_some_iff.mp q).1
  have ex := w.put_ext (c := .ins c (setFs f x fs)) (o := .ins (G.Cl c) dx (putF (G.nm f) v fs')) ok hn
  obtain ⟨a, b, d⟩ := putF_rep e4.inj hf (rx.ext ex) e1 (e2.ext ex) e5
  refine ⟨dx, fs', h1, ?_, e4, ex, w.put_ok ok hn e3 ⟨dx, _, rfl, a, b, e3, e4, d⟩⟩
  have := congrArg List.length e1
  simpa using this.symm
/-- o.f = e -/
theorem fs_setF {o e : Expr} {co ce : CE} {f : Nat} {x : Str} {pos' pos : Pos} (hx : x = G.nm f) (hK : X.K = G.K) (ho : PE X o (tM G E (evE G.T F co))) (he : PE X e (tM G E (evE G.T F ce)))
    (hs : swapsWith e (some (.Attribute o x pos')) pos.line X.env = pure false := by rfl) : PS X (.Assign [.Attribute o x pos'] e pos) (tMS G E (evS G.T F (.setF f co ce))) := by
  subst hx
  refine PS.weaken (ps_fld ho he hs) fun D σ H ⟨w, r, hH, ok, re, g⟩ => ?_
  simp only [evS] at g
  refine ⟨w, r, hH, ok, re, (GoodS.then (R1 := RepL G) g).mono fun y H1 ⟨w1, a, e1, k1, hH1, ra, _, g1⟩ => ?_⟩
  refine ⟨w1, r, hH1, k1, re.ext e1, (GoodS.then (R1 := RepL G) g1).mono fun z H2 ⟨w2, b, e2, k2, hH2, rb, _, g2⟩ => ?_⟩
  subst hH2
  split at g2
  · rename_i h' hset
    obtain ⟨n, c, fs, rfl, q, hl, hf, rfl⟩ := setFO_shape hset
    obtain ⟨dx, fs', h1, h2, kc, ex, kp⟩ := set_world k2 q hf (ra.ext e2)
    cases rb with
    | r hn =>
      refine ⟨_, _, dx, fs', rfl, h1, hK ▸ kc.cl, hK ▸ kc.noat f hf, by rw [← h2]; exact hl, ?_⟩
      exact GoodS.nx kp (((re.ext e1).ext e2).ext ex) (GoodS.from ex g2)
  · exact g2.elim
theorem setIO_shape {o i x : LV} {h h' : MH} (e : setIO o i x h = some h') : ∃ n k xs j, o = .r n ∧ i = .v (.int k) ∧ h[n]? = some (.lst xs) ∧ ixN xs.length k = some j ∧ h' = h.set n (.lst (xs.set j x)) := by
  unfold setIO at e
  split at e
  · rename_i n k
    split at e
    · rename_i xs q
      obtain ⟨j, hj, rfl⟩ := Option.map_eq_some_iff.mp e
      exact ⟨n, k, xs, j, rfl, rfl, q, hj, rfl⟩
    · cases e
  · cases e
/-- o[i] = e -/
theorem fs_setI {o i e : Expr} {co ci ce : CE} {p pos : Pos} (h : PS X (.Assign [.Subscript o i p] e pos) (fun D σ H => tM G E (evE G.T F ce) σ H fun x H1 => tM G E (evE G.T F co) σ H1 fun y H2 => tM G E (evE G.T F ci) σ H2 fun z H3 => rSetL y z x H3 (fun H4 => D.nx σ H4))) :
    PS X (.Assign [.Subscript o i p] e pos) (tMS G E (evS G.T F (.setI co ci ce))) := by
  refine PS.weaken h fun D σ H ⟨w, r, hH, ok, re, g⟩ => ?_
  simp only [evS] at g
  refine ⟨w, r, hH, ok, re, (GoodS.then (R1 := RepL G) g).mono fun y H1 ⟨w1, a, e1, k1, hH1, ra, _, g1⟩ => ?_⟩
  refine ⟨w1, r, hH1, k1, re.ext e1, (GoodS.then (R1 := RepL G) g1).mono fun z H2 ⟨w2, b, e2, k2, hH2, rb, _, g2⟩ => ?_⟩
  refine ⟨w2, r, hH2, k2, (re.ext e1).ext e2, (GoodS.then (R1 := RepL G) g2).mono fun u H3 ⟨w3, d, e3, k3, hH3, rd, _, g3⟩ => ?_⟩
  subst hH3
  split at g3
  · rename_i h' hset
    obtain ⟨n, k, xs, j, rfl, rfl, q, hj, rfl⟩ := setIO_shape hset
    have rb := rb.ext e3
    cases rb with
    | r hn =>
      cases rd with
      | v rd =>
        cases rd
        obtain ⟨o', h1, ws, rfl, rw', hF⟩ := k3.cell n _ q
        have rx := (ra.ext e2).ext e3
        have ex := w3.put_ext (c := .lst (xs.set j a)) (o := .lst (ws.set j y)) k3 hn
        refine ⟨_, ws, k, j, rfl, rfl, h1, by rw [← rw'.length]; exact hj, ?_⟩
        exact GoodS.nx (w3.put_ok (c := .lst (xs.set j a)) (o := .lst (ws.set j y)) k3 hn hF ⟨_, rfl, (rw'.set rx j).ext ex, hF⟩) ((((re.ext e1).ext e2).ext e3).ext ex) (GoodS.from ex g3)
  · exact g3.elim
/-- x += e -/
theorem fs_aug {i : Nat} {op : BOp} {ce : CE} {st : Stmt} {ti : TIp} (h : PS X st (fun D σ H => ∃ v, σ[i]? = some (some v) ∧ tM G E (evE G.T F ce) σ H fun y H1 => ti v y H1 fun z H2 => D.nx (σ.set i (some z)) H2))
    (ho : ∀ (w : Wd) (a b : LV) (x y : V) (Q : VK), w.Ok G → RepL G w a x → RepL G w b y → Good G (RepL G) E w Q (arF op a b w.h) → ti x y w.H Q) : PS X st (tMS G E (evS G.T F (.aug i op ce))) := by
  refine PS.weaken h fun D σ H ⟨w, r, hH, ok, re, g⟩ => ?_
  simp only [evS] at g
  split at g
  · rename_i l hl
    obtain ⟨x, h1, h2⟩ := re.2 i l hl
    refine ⟨x, h1, w, r, hH, ok, re, (GoodS.then (R1 := RepL G) g).mono fun y H1 ⟨w1, b, e1, k1, hH1, rb, _, g1⟩ => ?_⟩
    subst hH1
    refine ho w1 l b x y _ k1 (h2.ext e1) rb ((GoodS.then (R1 := RepL G) g1).mono fun z H2 ⟨w2, d, e2, k2, hH2, rd, _, g2⟩ => ?_)
    subst hH2
    exact GoodS.nx k2 (((re.ext e1).ext e2).set rd) g2
  · exact g.elim
theorem aug_add (w : Wd) (a b : LV) (x y : V) (Q : VK) (ok : w.Ok G) (ra : RepL G w a x) (rb : RepL G w b y) (g : Good G (RepL G) E w Q (arF .add a b w.h)) : ipI (fun i j => i + j) x y w.H Q := by
  unfold arF at g
  split at g
  · cases ra with | v ra => cases ra; cases rb with | v rb => cases rb; exact ⟨_, _, rfl, rfl, Good.ok ok (.v (.int _)) g⟩
  · exact g.elim
/-- o.f += e -/
theorem fs_augF {o e : Expr} {co ce : CE} {f : Nat} {op : BOp} {pop : Operator} {x : Str} {tpos pos : Pos} {rd : V → V → Hp → VK → Prop} (hx : x = G.nm f) (hK : X.K = G.K) (ho : PE X o (tM G E (evE G.T F co))) (he : PE X e (tM G E (evE G.T F ce))) (hop : InOp X pop rd)
    (hrd : ∀ (w : Wd) (a b : LV) (x y : V) (Q : VK), w.Ok G → RepL G w a x → RepL G w b y → Good G (RepL G) E w Q (arF op a b w.h) → rd x y w.H Q) : PS X (.AugAssign (.Attribute o x tpos) pop e pos) (tMS G E (evS G.T F (.augF f op co ce))) := by
  subst hx
  refine PS.weaken (ps_fldaug ho he hop) fun D σ H ⟨w, r, hH, ok, re, g⟩ => ?_
  simp only [evS] at g
  refine ⟨w, r, hH, ok, re, (GoodS.then (R1 := RepL G) g).mono fun y H1 ⟨w1, a, e1, k1, hH1, ra, _, g1⟩ => ?_⟩
  subst hH1
  cases q : insOf G.T w1.h a with
  | none => simp only [q] at g1; exact g1.elim
  | some cf =>
    obtain ⟨c, fs⟩ := cf
    simp only [q] at g1
    split at g1
    · rename_i hf
      split at g1
      · rename_i l hl
        obtain ⟨p, dx, fs', rfl, h1, h2, h3, kc, hL⟩ := insOf_rep k1 ra q
        obtain ⟨v, h4, h5⟩ := look_rep kc.inj hf h2 h3 hL hl
        refine ⟨p, _, dx, fs', v, rfl, h1, hK ▸ kc.cl, hK ▸ kc.noat f hf, h4, w1, r, rfl, k1, re.ext e1, (GoodS.then (R1 := RepL G) g1).mono fun y2 H2 ⟨w2, b, e2, k2, hH2, rb, _, g2⟩ => ?_⟩
        subst hH2
        refine hrd w2 l b v y2 _ k2 (h5.ext e2) rb ((GoodS.then (R1 := RepL G) g2).mono fun z H3 ⟨w3, d, e3, k3, hH3, rdd, _, g3⟩ => ?_)
        subst hH3
        split at g3
        · rename_i c' fs3 q3
          split at g3
          · rename_i hcc
            subst hcc
            split at g3
            · rename_i h' hset
              obtain ⟨n, c2, fs2, rfl, q4, hl4, hf4, rfl⟩ := setFO_shape hset
              simp only [insOf, q4, Option.some.injEq, Prod.mk.injEq] at q3
              obtain ⟨rfl, rfl⟩ := q3
              obtain ⟨dx3, fs3', a1, a2, _, ex, kp⟩ := set_world k3 q4 hf rdd
              have rr := (ra.ext e2).ext e3
              cases rr
              exact ⟨dx3, fs3', a1, by rw [← a2]; exact hl4, GoodS.nx kp ((((re.ext e1).ext e2).ext e3).ext ex) (GoodS.from ex g3)⟩
            · exact g3.elim
          · exact g3.elim
        · exact g3.elim
      · exact g1.elim
    · exact g1.elim
theorem aug_addF (w : Wd) (a b : LV) (x y : V) (Q : VK) (ok : w.Ok G) (ra : RepL G w a x) (rb : RepL G w b y) (g : Good G (RepL G) E w Q (arF .add a b w.h)) : rAdd x y w.H Q := aug_add w a b x y Q ok ra rb g

/-! ### isinstance -/
def tyName : Ty → Option String
  | .int => some "int"
  | .bool => some "bool"
  | .str => some "str"
  | .tuple => some "tuple"
  | .list => some "list"
  | .dict => some "dict"
  | .cls _ => none
/-- what is known of a class as the second argument -/
structure IsiF (G : Gm) (d : Nat) : Prop where
  bt : ∀ n, n ∈ ["NoneType", "bool", "int", "str", "tuple", "list"] → PySem.W.kitOne G.K (.type n) (.ref (G.Cl d)) = some false
  ins : ∀ c, c ∈ G.cs → PySem.W.kitOne G.K (.ref (G.Cl c)) (.ref (G.Cl d)) = some (decide (c = d))
/-- the class value of a type -/
def CvOf (G : Gm) (t : Ty) (c : V) (u : Value) : Prop := (∃ n, tyName t = some n ∧ c = .ty n ∧ u = .type n) ∨ ∃ d, t = .cls d ∧ c = .ref (G.Cl d) ∧ u = .ref (G.Cl d) ∧ IsiF G d
theorem CvOf.cls {t : Ty} {c : V} {u : Value} (h : CvOf G t c u) : ClsV c u := by
  rcases h with ⟨n, _, rfl, rfl⟩ | ⟨d, _, rfl, rfl, _⟩
  · exact .ty n
  · exact .own _
theorem kit_tab (K : PySem.W.Frag) {t : Ty} {n : String} (h : tyName t = some n) :
    PySem.W.kitOne K (.type "NoneType") (.type n) = some false ∧ PySem.W.kitOne K (.type "bool") (.type n) = some (t == .int || t == .bool) ∧ PySem.W.kitOne K (.type "int") (.type n) = some (t == .int) ∧
    PySem.W.kitOne K (.type "str") (.type n) = some (t == .str) ∧ PySem.W.kitOne K (.type "tuple") (.type n) = some (t == .tuple) ∧ PySem.W.kitOne K (.type "list") (.type n) = some (t == .list) := by
  cases t <;> simp only [tyName, Option.some.injEq, reduceCtorEq] at h <;> subst h <;>
    exact ⟨kit_ty (by decide +kernel), kit_ty (by decide +kernel), kit_ty (by decide +kernel), kit_ty (by decide +kernel), kit_ty (by decide +kernel), kit_ty (by decide +kernel)⟩
/-- a value's type, and the answer for one class -/
theorem ty_rep (hK : X.K = G.K) {w : Wd} {x : LV} {v : V} (ok : w.Ok G) (rv : RepL G w x v) (hx : ∃ b, tyIs G.T w.h x .int = some b) :
    ∃ tv, TyX X.K w.H v tv ∧ ∀ (t : Ty) (c : V) (u : Value), CvOf G t c u → ∃ b, tyIs G.T w.h x t = some b ∧ PySem.W.kitOne X.K tv u = some b := by
  have own : ∀ (c : Nat) (a dx : Addr) (fs' : List (Str × V)), ClsF G c → w.H a = some (.ins (G.Cl c) dx fs') → TyX X.K w.H (.ref a) (.ref (G.Cl c)) ∧ ∀ (t : Ty) (cv : V) (u : Value), CvOf G t cv u → PySem.W.kitOne X.K (.ref (G.Cl c)) u = some (t == .cls c) := by
    intro c a dx fs' kc ha
    refine ⟨.base (.ins ha (hK ▸ kc.cl) (hK ▸ kc.ha) (hK ▸ kc.hn) (hK ▸ kc.htk) (hK ▸ kc.hm)), fun t cv u h => ?_⟩
    rcases h with ⟨n, hn, rfl, rfl⟩ | ⟨d, rfl, rfl, rfl, hI⟩
    · rw [hK, kc.isT n (by cases t <;> simp_all [tyName])]
      cases t <;> simp_all [tyName] <;> rfl
    · rw [hK, hI.ins c kc.lt]
      congr 1
      by_cases hcd : c = d
      · subst hcd; simp
      · rw [decide_eq_false hcd]
        symm
        simpa using fun e => hcd e.symm
  have bt : ∀ (m : String) (b : Ty → Bool), m ∈ ["NoneType", "bool", "int", "str", "tuple", "list"] → (∀ d, b (.cls d) = false) → (∀ t n, tyName t = some n → PySem.W.kitOne X.K (.type m) (.type n) = some (b t)) →
      ∀ (t : Ty) (c : V) (u : Value), CvOf G t c u → PySem.W.kitOne X.K (.type m) u = some (b t) := by
    intro m b hm hcls hty t c u h
    rcases h with ⟨n, hn, rfl, rfl⟩ | ⟨d, rfl, rfl, rfl, hI⟩
    · exact hty t n hn
    · rw [hK, hI.bt m hm, hcls d]
  cases rv with
  | v rv =>
    cases rv with
    | non => exact ⟨_, .base .non, fun t c u h => ⟨false, rfl, bt "NoneType" (fun _ => false) (by decide) (fun _ => rfl) (fun t n hn => (kit_tab X.K hn).1) t c u h⟩⟩
    | bl b => exact ⟨_, .base (.bl b), fun t c u h => ⟨_, rfl, bt "bool" (fun t => t == .int || t == .bool) (by decide) (fun _ => rfl) (fun t n hn => (kit_tab X.K hn).2.1) t c u h⟩⟩
    | int i => exact ⟨_, .base (.int i), fun t c u h => ⟨_, rfl, bt "int" (fun t => t == .int) (by decide) (fun _ => rfl) (fun t n hn => (kit_tab X.K hn).2.2.1) t c u h⟩⟩
    | str s => exact ⟨_, .base (.str s), fun t c u h => ⟨_, rfl, bt "str" (fun t => t == .str) (by decide) (fun _ => rfl) (fun t n hn => (kit_tab X.K hn).2.2.2.1) t c u h⟩⟩
    | @tup a xs ws h r =>
      have ty : TyX X.K w.H (.ref a) (.type "tuple") := by
        rcases h with ⟨o, h, _, _⟩ | ⟨o, its, n, h1, h2, _⟩
        · exact .fTuple (ok.le _ _ h)
        · exact .kTuple (hK ▸ h1) h2
      exact ⟨_, ty, fun t c u h => ⟨_, rfl, bt "tuple" (fun t => t == .tuple) (by decide) (fun _ => rfl) (fun t n hn => (kit_tab X.K hn).2.2.2.2.1) t c u h⟩⟩
    | lst h r => exact ⟨_, .base (.lst (ok.le _ _ h)), fun t c u h => ⟨_, rfl, bt "list" (fun t => t == .list) (by decide) (fun _ => rfl) (fun t n hn => (kit_tab X.K hn).2.2.2.2.2) t c u h⟩⟩
    | scr h r => obtain ⟨b, hb⟩ := hx; simp [tyIs] at hb
    | exo => obtain ⟨b, hb⟩ := hx; simp [tyIs] at hb
    | exod h e r => obtain ⟨b, hb⟩ := hx; simp [tyIs] at hb
    | ins kc h hn r =>
      obtain ⟨ty, k⟩ := own _ _ _ _ kc (ok.le _ _ h)
      exact ⟨_, ty, fun t c u h => ⟨_, rfl, k t c u h⟩⟩
  | @r n hn =>
    obtain ⟨b, hb⟩ := hx
    simp only [tyIs] at hb
    cases q : w.h[n]? with
    | none => simp [q] at hb
    | some o =>
      cases o with
      | dead => simp [q] at hb
      | lst ys =>
        obtain ⟨o', h1, ws, rfl, _, _⟩ := ok.cell n _ q
        exact ⟨_, .base (.lst h1), fun t c u h => ⟨t == .list, by simp [tyIs, q], bt "list" (fun t => t == .list) (by decide) (fun _ => rfl) (fun t n hn => (kit_tab X.K hn).2.2.2.2.2) t c u h⟩⟩
      | ins c fs =>
        obtain ⟨o', h1, dx, fs', rfl, _, _, _, kc, _⟩ := ok.cell n _ q
        obtain ⟨ty, k⟩ := own _ _ _ _ kc h1
        exact ⟨_, ty, fun t c' u h => ⟨t == .cls c, by simp [tyIs, q], k t c' u h⟩⟩
theorem tyIs_some {T : Tab} {h : MH} {x : LV} {t : Ty} {b : Bool} (e : tyIs T h x t = some b) : ∃ b, tyIs T h x .int = some b := by
  cases x with
  | v m => cases m <;> first | exact ⟨_, rfl⟩ | (simp [tyIs] at e)
  | r n =>
    simp only [tyIs] at e ⊢
    cases q : h[n]? with
    | none => simp [q] at e
    | some o => cases o <;> simp_all
/-- isinstance(a, T) -/
theorem fe_isi1 {a te : Expr} {ca : CE} {t : Ty} {c : V} {u : Value} {p pos : Pos} (hK : X.K = G.K) (hc : CvOf G t c u) (ha : PE X a (tM G E (evE G.T F ca))) (ht : PE X te (tC c)) (hm : X.mg "isinstance" = none) (hg : Gl X "isinstance")
    (h : PE X (.Call (.Name "isinstance" p) [a, te] [] pos) (tCB (rIsi X.K) (tCons (tM G E (evE G.T F ca)) (tCons (tC c) tNil))) := by exact pe_callB call_isi hg hm (by decide +kernel) (pa_cons ha (pa_cons ht pa_nil))) :
    PE X (.Call (.Name "isinstance" p) [a, te] [] pos) (tM G E (evE G.T F (.blt (.isi [t]) (.cons ca .nil)))) := by
  refine PE.weaken h fun σ H Q ⟨w, r, hH, ok, re, g⟩ => ?_
  simp only [evE, evEs] at g
  refine ⟨w, r, hH, ok, re, ?_⟩
  cases q : evE G.T F ca r w.h with
  | bad => simp only [q, Out.bind] at g; exact g
  | exc c fs h' => simp only [q, Out.bind] at g; exact g
  | ok x h' =>
    simp only [q, Out.bind] at g
    intro w1 e1 k1 eh v rv
    subst eh
    show rIsi X.K [v, c] w1.H Q
    have g : Good G (RepL G) E w Q (isiF G.T [t] x w1.h) := g
    unfold isiF tyAny tyAny at g
    cases q1 : tyIs G.T w1.h x t with
    | none => simp only [q1] at g; exact g.elim
    | some b =>
      simp only [q1, Bool.or_false] at g
      obtain ⟨tv, h1, h2⟩ := ty_rep hK k1 rv (tyIs_some q1)
      obtain ⟨b', h3, h4⟩ := h2 t c u hc
      rw [q1] at h3
      cases h3
      exact ⟨v, c, tv, u, b, rfl, hc.cls, h1, h4, Good.ok k1 (.v (.bl b)) (Good.from e1 g)⟩
/-- isinstance(a, (T, U)) -/
theorem fe_isi2 {a te ue : Expr} {ca : CE} {t1 t2 : Ty} {c1 c2 : V} {u1 u2 : Value} {p pos tpos : Pos} {kk : Nat} (hK : X.K = G.K) (h1 : CvOf G t1 c1 u1) (h2 : CvOf G t2 c2 u2) (ha : PE X a (tM G E (evE G.T F ca))) (ht : PE X te (tC c1)) (hu : PE X ue (tC c2)) (hm : X.mg "isinstance" = none) (hg : Gl X "isinstance")
    (h : PE X (.Call (.Name "isinstance" p) [a, .Tuple [te, ue] kk tpos] [] pos) (tCB (rIsiT X.K) (tCons (tM G E (evE G.T F ca)) (tCons (tTup (tCons (tC c1) (tCons (tC c2) tNil))) tNil))) := by exact pe_callB call_isiT hg hm (by decide +kernel) (pa_cons ha (pa_cons (pe_tup (pa_cons ht (pa_cons hu pa_nil))) pa_nil))) :
    PE X (.Call (.Name "isinstance" p) [a, .Tuple [te, ue] kk tpos] [] pos) (tM G E (evE G.T F (.blt (.isi [t1, t2]) (.cons ca .nil)))) := by
  refine PE.weaken h fun σ H Q ⟨w, r, hH, ok, re, g⟩ => ?_
  simp only [evE, evEs] at g
  refine ⟨w, r, hH, ok, re, ?_⟩
  cases q : evE G.T F ca r w.h with
  | bad => simp only [q, Out.bind] at g; exact g
  | exc c fs h' => simp only [q, Out.bind] at g; exact g
  | ok x h' =>
    simp only [q, Out.bind] at g
    intro w1 e1 k1 eh v rv
    subst eh
    refine ⟨by show 2 ≤ sizeLine; decide, fun tp hp => ?_⟩
    have g : Good G (RepL G) E w Q (isiF G.T [t1, t2] x w1.h) := g
    unfold isiF tyAny tyAny tyAny at g
    cases q1 : tyIs G.T w1.h x t1 with
    | none => simp only [q1] at g; exact g.elim
    | some b1 =>
      cases q2 : tyIs G.T w1.h x t2 with
      | none => simp only [q1, q2] at g; exact g.elim
      | some b2 =>
        simp only [q1, q2, Bool.or_false] at g
        have ka := w1.aux_ok (o := .tup [c1, c2]) k1 hp
        have ea := w1.aux_ext (o := .tup [c1, c2]) k1 hp
        obtain ⟨tv, h3, h4⟩ := ty_rep hK ka (rv.ext ea) (tyIs_some q1)
        obtain ⟨b1', h5, h6⟩ := h4 t1 c1 u1 h1
        obtain ⟨b2', h7, h8⟩ := h4 t2 c2 u2 h2
        have h5 : tyIs G.T w1.h x t1 = some b1' := h5
        have h7 : tyIs G.T w1.h x t2 = some b2' := h7
        rw [q1] at h5; cases h5
        rw [q2] at h7; cases h7
        refine ⟨v, tp, [c1, c2], tv, [u1, u2], b1 || b2, rfl, upd_same, .cons h1.cls (.cons h2.cls .nil), h3, ?_, ?_⟩
        · simp only [PySem.W.kitAny, h6, h8]
          cases b1 <;> cases b2 <;> rfl
        · exact g _ (e1.trans ea) ka rfl _ (.v (.bl _))
end
end SC

namespace SC
open PySem PySem.Spec PyProof.Rows L2
/-- where an expression stands: what its derivation asks, if it calls nothing -/
structure Ctx0 (G : Gm) (mg : Str → Option Value) (nF : List Nat) (k : Nat) (F : Phi) (E : XK) (N : List Str) (sc : Scope) (X : Cx) : Prop where
  hK : X.K = G.K
  hmg : X.mg = mg
  hN : X.N = N
  nd : N.Nodup
  units : X.A.units + 64 < cLine
  kind : X.env.scope.kind = .function
  vis : ∀ x, Vis sc x → Vis X.env.scope x
  gl : ∀ x, sc.names.lookup x = some .globalImplicit → Gl X x
  fre : ∀ x, sc.names.lookup x = some .free → X.env.scope.names.lookup x = some .cell ∨ X.env.scope.names.lookup x = some .free
  loc : ∀ x, sc.names.lookup x = some .local → X.env.scope.names.lookup x = some .local
  cel : ∀ x, sc.names.lookup x = some .cell → X.env.scope.names.lookup x = some .cell ∧ X.fn x = true
/-- where a body runs: all that its derivation asks -/
structure Ctx (G : Gm) (mg : Str → Option Value) (nF : List Nat) (k : Nat) (F : Phi) (E : XK) (N : List Str) (sc : Scope) (X : Cx) : Prop extends Ctx0 G mg nF k F E N sc X where
  calm : X.calm = true
  room : Room (k + 1) X.A
  pass : Passes (L2.CX X.prog X.w) X E
  own : PassesOwn (model X.prog X.w) X.A X.env X.xe
  fc : ∀ f, f ∈ nF → FnC G X.prog X.w X.mg X.base k F f
def isGl (sc : Scope) (x : Str) : Bool := decide (sc.names.lookup x = some .globalImplicit)
def vname (sc : Scope) (x : Str) : Bool := match sc.names.lookup x with
  | some .local => true
  | some .cell => true
  | some .free => true
  | _ => false
theorem vname_vis {sc : Scope} {x : Str} (h : vname sc x = true) : Vis sc x := by
  unfold vname at h
  split at h
  · rename_i e; exact .inl e
  · rename_i e; exact .inr (.inl e)
  · rename_i e; exact .inr (.inr e)
  · cases h
section
variable {G : Gm} {mg : Str → Option Value} {nF : List Nat} {k : Nat} {F : Phi} {E : XK} {N : List Str} {sc : Scope} {X : Cx}
theorem Ctx.rk (C : Ctx G mg nF k F E N sc X) : Room k X.A := C.room.mono (Nat.le_succ k)
/-- a name is read -/
theorem Ctx0.var (C : Ctx0 G mg nF k F E N sc X) (i : Nat) {x : Str} (h : (decide (N[i]? = some x) && vname sc x && !(x == ("__debug__" : Str)) && !(x == ("__classdict__" : Str))) = true) (pos : Pos) : PE X (.Name x pos) (tM G E (evE G.T F (.var i))) := by
  simp only [Bool.and_eq_true, decide_eq_true_eq, Bool.not_eq_true'] at h
  obtain ⟨⟨⟨h1, h2⟩, h3⟩, h4⟩ := h
  exact fe_var (pe_var (by rw [C.hN]; exact h1) (C.vis x (vname_vis h2)) h3 h4)
/-- a name is stored -/
theorem Ctx0.pg (C : Ctx0 G mg nF k F E N sc X) (i : Nat) {x : Str} (h : (decide (N[i]? = some x) && (decide (sc.names.lookup x = some .local) || decide (sc.names.lookup x = some .cell))) = true) (pos : Pos) : PGM G (RepL G) X (.Name x pos) (.nm i) (gName i) := by
  simp only [Bool.and_eq_true, decide_eq_true_eq, Bool.or_eq_true] at h
  obtain ⟨h1, h2⟩ := h
  refine fg_name ?_
  rcases h2 with h2 | h2
  · exact pg_name (by rw [C.hN]; exact C.nd) (by rw [C.hN]; exact h1) (.inl (C.loc x h2)) (.inr (C.loc x h2))
  · exact pg_name (by rw [C.hN]; exact C.nd) (by rw [C.hN]; exact h1) (.inr (C.cel x h2).1) (.inl (C.cel x h2).2)
theorem Ctx.tup (C : Ctx G mg nF k F E N sc X) {es : List Expr} {ts : List Tg} {gs : TGs} {kk : Nat} {pos : Pos} (h : PGMs G X es ts gs)
    (hn : (assignEach es X.env).length = ts.length := by rfl) (hst : (assignEach es X.env).findIdx? (·.1) = none := by rfl) : PGM G (RepI G) X (.Tuple es kk pos) (.tup ts) (gTup G.K ts.length gs) := fg_tup C.calm C.hK h hn hst
theorem Ctx0.gln (C : Ctx0 G mg nF k F E N sc X) {x : Str} (h : isGl sc x = true) : Gl X x := C.gl x (of_decide_eq_true h)
theorem Ctx0.m (C : Ctx0 G mg nF k F E N sc X) {x : Str} {v : Option Value} (h : mg x = v) : X.mg x = v := by rw [C.hmg]; exact h
/-- a constant of the module -/
theorem Ctx0.cst (C : Ctx0 G mg nF k F E N sc X) {x : Str} {u : Value} {v : V} {m : MV} (hm : mg x = some u) (hv : L2.RelV v u) (hr : ∀ F, RepV G F m v) (hg : isGl sc x = true) (pos : Pos) (hd : (x == ("__debug__" : Str)) = false := by decide) : PE X (.Name x pos) (tM G E (evE G.T F (.cst m))) :=
  fe_cst (pe_glob (C.gln hg) (C.m hm) hv hd) hr
theorem Ctx.call (C : Ctx G mg nF k F E N sc X) {x : Str} (f : Nat) {e : Expr} {es : List Expr} {cs : CEs} {p pos : Pos} (hm : mg x = some (.ref (G.fa f))) (hf : f ∈ nF) (hg : isGl sc x = true)
    (ha : PA X (e :: es) (tMs G E (evEs G.T F cs))) (hdb : (x == ("__debug__" : Str)) = false := by decide) (he : starEach (e :: es) X.env = (false, eval e X.env) :: starEach es X.env := by rfl) (hpl : (backTo pos (starEach es X.env)).any (·.1) = false := by rfl) :
    PE X (.Call (.Name x p) (e :: es) [] pos) (tM G E (evE G.T F (.call f cs))) := fe_call C.hK (C.fc f hf) C.rk C.pass (C.m hm) (C.gln hg) ha hdb he hpl
/-! ### a comprehension's block -/
theorem look_relabel {env : Env} : ∀ (names : List (Str × NameKind)) (x : Str) (kd : NameKind), names.lookup x = some kd → ∃ kd', (names.map fun (n, k) => if (k == NameKind.free && env.scope.kind == .function && env.kindOf n == some .cell) then (n, NameKind.cell) else (n, k)).lookup x = some kd' ∧ (kd' = kd ∨ (kd = .free ∧ kd' = .cell))
  | [], x, kd, h => by simp at h
  | (n, k) :: r, x, kd, h => by
    simp only [List.map_cons]
    by_cases hx : x = n
    · subst hx
      simp only [List.lookup, beq_self_eq_true, Option.some.injEq] at h
      subst h
      by_cases hc : (k == NameKind.free && env.scope.kind == .function && env.kindOf x == some .cell) = true
      · simp only [hc, if_true, List.lookup, beq_self_eq_true, Option.some.injEq, exists_eq_left']
        refine .inr ⟨?_, trivial⟩
        simp only [Bool.and_eq_true, beq_iff_eq] at hc
        exact hc.1.1
      · simp only [hc, if_false, List.lookup, beq_self_eq_true, Option.some.injEq, exists_eq_left', Bool.false_eq_true]
        exact .inl trivial
    · have b : (x == n) = false := by simpa using hx
      simp only [List.lookup, b] at h
      obtain ⟨kd', h1, h2⟩ := look_relabel (env := env) r x kd h
      refine ⟨kd', ?_, h2⟩
      by_cases hc : (k == NameKind.free && env.scope.kind == .function && env.kindOf n == some .cell) = true
      · simp only [hc, if_true, List.lookup, b]; exact h1
      · simp only [hc, if_false, List.lookup, b, Bool.false_eq_true]; exact h1
theorem Ctx.blk (C : Ctx G mg nF k F E N sc X) {s : Shared} {H : Hp} {scope : Scope} {c : Addr} {cl : List (Str × Addr)} {fp : List Addr} (hk : scope.kind = .function) : Ctx G mg nF k F E0 N scope (X.blk s H scope (compEnvC scope cl c X.env) fp) where
  hK := C.hK
  hmg := C.hmg
  hN := C.hN
  nd := C.nd
  units := C.units
  calm := C.calm
  room := C.room
  pass := passL
  own := PassesOwn.never
  fc := C.fc
  kind := hk
  vis := fun x h => by
    rcases h with h | h | h
    · obtain ⟨kd, h1, h2⟩ := look_relabel (env := X.env) scope.names x _ h
      rcases h2 with rfl | ⟨z, _⟩
      · exact .inl h1
      · cases z
    · obtain ⟨kd, h1, h2⟩ := look_relabel (env := X.env) scope.names x _ h
      rcases h2 with rfl | ⟨z, _⟩
      · exact .inr (.inl h1)
      · cases z
    · obtain ⟨kd, h1, h2⟩ := look_relabel (env := X.env) scope.names x _ h
      rcases h2 with rfl | ⟨_, rfl⟩
      · exact .inr (.inr h1)
      · exact .inr (.inl h1)
  gl := fun x h => by
    obtain ⟨kd, h1, h2⟩ := look_relabel (env := X.env) scope.names x _ h
    rcases h2 with rfl | ⟨z, _⟩
    · exact h1
    · cases z
  fre := fun x h => by
    obtain ⟨kd, h1, h2⟩ := look_relabel (env := X.env) scope.names x _ h
    rcases h2 with rfl | ⟨_, rfl⟩
    · exact .inr h1
    · exact .inl h1
  loc := fun x h => by
    obtain ⟨kd, h1, h2⟩ := look_relabel (env := X.env) scope.names x _ h
    rcases h2 with rfl | ⟨z, _⟩
    · exact h1
    · cases z
  cel := fun x h => by
    obtain ⟨kd, h1, h2⟩ := look_relabel (env := X.env) scope.names x _ h
    rcases h2 with rfl | ⟨z, _⟩
    · exact ⟨h1, by show (scope.names.lookup x == some .cell) = true; rw [h]; rfl⟩
    · cases z
theorem Ctx0.blkOk (C : Ctx0 G mg nF k F E N sc X) {scope : Scope} {own : List (Str × Nat)} (h : blkC N sc scope own = true) : BlkOk X.N X.env.scope scope own := by
  have b := blkOk_by h
  refine ⟨b.kind, b.uniq, by rw [C.hN]; exact b.ix, fun y hy e => ?_, by rw [C.hN]; exact b.own⟩
  rcases b.free y hy e with z | z
  · exact .inl (C.cel _ z).1
  · exact C.fre _ z
/-- a comprehension as a value -/
theorem Ctx.lc (C : Ctx G mg nF k F E N sc X) (live : Bool) {elt tg iter : Expr} {ifs : List Expr} {scope : Scope} {own : List (Str × Nat)} {pos : Pos} {t : Tg} {gt : TG} {it : CI} {cc ce : CE} {Rl : Wd → LV → V → Prop} (hb : blkC N sc scope own = true)
    (hi : PI X tg iter (tIM G E Rl (evI G.T F it))) (hg : ∀ Y, Ctx G mg nF k F E0 N scope Y → PGM G Rl Y tg t gt) (ht : ∀ Y, Ctx G mg nF k F E0 N scope Y → PTs Y ifs (tMb G E0 (evE G.T F cc))) (he : ∀ Y, Ctx G mg nF k F E0 N scope Y → PE Y elt (tM G E0 (evE G.T F ce)))
    (hs : ∀ x, foldedSetIterable iter X.env x = pure x := by intro _; rfl) (hv : tgSlots t = own.map (·.2) := by rfl) :
    PE X (.ListComp elt [⟨tg, iter, ifs, 0⟩] scope pos) (tM G E (evE G.T F (.comp live t it cc ce))) := by
  have bo := C.blkOk hb
  have w0 : World := X.w
  refine fe_comp (vs := own.map (·.2)) ⟨_, _, hg _ (C.blk (s := X.s_0) (H := X.H_0) (c := 0) (cl := []) (fp := []) bo.kind)⟩ ?_ hv
  exact pe_lc C.calm (by rw [C.hN]; exact C.nd) hi bo (fun s H c cl fp => (hg _ (C.blk bo.kind)).pg) (fun s H c cl fp => ht _ (C.blk bo.kind)) (fun s H c cl fp => he _ (C.blk bo.kind)) hs
/-- y = [..] -/
theorem Ctx.asgLc (C : Ctx G mg nF k F E N sc X) (live : Bool) (i : Nat) {y : Str} {py : Pos} {elt tg iter : Expr} {ifs : List Expr} {scope : Scope} {own : List (Str × Nat)} {pos spos : Pos} {t : Tg} {gt : TG} {it : CI} {cc ce : CE} {Rl : Wd → LV → V → Prop} (hy : (decide (N[i]? = some y) && decide (sc.names.lookup y = some .local) && decide (py.line = pos.line) && !(scope.names.any fun (n, k) => n == y && (k == .local || k == .cell))) = true)
    (hb : blkC N sc scope own = true)
    (hi : PI X tg iter (tIM G E Rl (evI G.T F it))) (hg : ∀ Y, Ctx G mg nF k F E0 N scope Y → PGM G Rl Y tg t gt) (ht : ∀ Y, Ctx G mg nF k F E0 N scope Y → PTs Y ifs (tMb G E0 (evE G.T F cc))) (he : ∀ Y, Ctx G mg nF k F E0 N scope Y → PE Y elt (tM G E0 (evE G.T F ce)))
    (hs : ∀ x, foldedSetIterable iter X.env x = pure x := by intro _; rfl) (hv : tgSlots t = own.map (·.2) := by rfl) :
    PS X (.Assign [.Name y py] (.ListComp elt [⟨tg, iter, ifs, 0⟩] scope pos) spos) (tMS G E (evS G.T F (.asg (.nm i) (.comp live t it cc ce)))) := by
  simp only [Bool.and_eq_true, decide_eq_true_eq, Bool.not_eq_true'] at hy
  obtain ⟨⟨⟨h1, h2⟩, h3⟩, h4⟩ := hy
  have bo := C.blkOk hb
  refine fs_comp (vs := own.map (·.2)) ⟨_, _, hg _ (C.blk (s := X.s_0) (H := X.H_0) (c := 0) (cl := []) (fp := []) bo.kind)⟩ ?_ hv
  exact ps_setLc C.calm (by rw [C.hN]; exact C.nd) (by rw [C.hN]; exact h1) (C.loc y h2) (sw_true C.kind (C.loc y h2) (by rw [h3]; simp) h4) hi bo (fun s H c cl fp => (hg _ (C.blk bo.kind)).pg) (fun s H c cl fp => ht _ (C.blk bo.kind)) (fun s H c cl fp => he _ (C.blk bo.kind)) hs
end
/-! ### a def keeps its promise -/
section
variable {G : Gm} {P : Program} {w : World} {mg : Str → Option Value} {base : Heap} {nF : List Nat} {n f : Nat} {Pr : Nat → Option Fn} {fn : Fn}
theorem start_rep {wd : Wd} {ls : List LV} {vs : List V} {N : List Str} {np : Nat} (r : RepLs G wd ls vs) (hl : ls.length = np) (hN : np ≤ N.length) : RepE G wd (ls.map some ++ List.replicate (N.length - np) none) (L2.start N vs) := by
  have l2 := r.length
  refine ⟨by simp [L2.start]; omega, fun i l q => ?_⟩
  by_cases hi : i < ls.length
  · rw [List.getElem?_append_left (by simpa using hi)] at q
    simp only [List.getElem?_map, Option.map_eq_some_iff, Option.some.injEq] at q
    obtain ⟨a, q, rfl⟩ := q
    obtain ⟨u, h1, h2⟩ := r.get q
    refine ⟨u, ?_, h2⟩
    unfold L2.start
    rw [List.getElem?_append_left (by simp; omega), List.getElem?_map, h1] <;> rfl
  · rw [List.getElem?_append_right (by simpa using hi)] at q
    rw [List.getElem?_replicate] at q
    split at q <;> cases q
theorem leave_good {E : XK} {wd w2 : Wd} {Q : VK} {keep : Bool} {x : LV} {v : V} (ok : wd.Ok G) (e2 : Ext wd w2) (k2 : w2.Ok G) (rv : RepL G w2 x v) (g : Good G (RepL G) E wd Q (leave keep wd.h.length x w2.h)) : Q v w2.H := by
  unfold leave at g
  split at g
  · exact g w2 e2 k2 rfl _ rv
  · split at g
    · rename_i hb
      exact g (w2.cut wd.h.length) e2.cut (k2.cut e2.len hb.2) rfl _ (rv.cut e2.len hb.1)
    · exact g.elim
/-- what a derivation asks beside its context -/
structure Tk (G : Gm) (k : Nat) (E : XK) (X : Cx) : Prop where
  tk : Takes X (fun cls d _ H => E cls d H)
  hs : X.stack = X.env :: X.outer
  hf : X.env.frame = some X.env.locals
  hP : X.prog = G.prog
  hk : ∃ j, k = j + 1
/-- what a lambda asks beside: the def that makes it, its code object and its table -/
structure Lk (G : Gm) (k f : Nat) (qual : Str) (X : Cx) : Prop where
  room3 : Room (k + 3) X.A
  code : X.env.code = .ref (codeOf G.K (G.fa f))
  qual : X.env.qual = qual ++ ".<locals>."
  tb : ∀ q ∈ G.cds, LamX.TabB X.base X.mg q.1 q.2
/-- what the end hands on of the tables -/
abbrev TbOk (G : Gm) (base : Heap) (mg : Str → Option Value) : Prop := ∀ q ∈ G.cds, LamX.TabB base mg q.1 q.2
theorem fn_ok {x qual : Str} {st : Stmt} {fd : FuncData} {N ps : List Str} (Fu : Fun G.K x qual st (G.fa f) fd) (S : FnScope N ps (defScope st)) (hb : Binds G.K fd ps []) (hp : Pr f = some fn) (hnp : fn.np = ps.length) (hnl : fn.nl = N.length) (hle : ps.length ≤ N.length)
    (IH : ∀ f, f ∈ nF → FnC G P w mg base (4 * n + 4) (run G.T Pr n) f)
    (hP : P = G.prog) (hTb : TbOk G base mg) (hbody : ∀ (E : XK) (X : Cx), Ctx G mg nF (4 * n + 4) (run G.T Pr n) E N (defScope st) X → Tk G (4 * n + 4) E X → Lk G (4 * n + 4) f qual X → PSs X (defBody st) (tMS G E (evSs G.T (run G.T Pr n) fn.body))) :
    FnOk P w G.K mg base (L2.CX P w) (4 * (n + 1) + 4) (G.fa f) fd ps (spM G (run G.T Pr (n + 1) f)) := by
  obtain ⟨oc, od, kV, doc, pm, an, cdv, ct, osl, rfl, lk, hcd⟩ := Fu.ex
  have hcode : cdv = .ref (codeOf G.K (G.fa f)) := by
    unfold codeOf
    rw [lk]
    clear lk hb Fu
    cases cdv with
    | ref c => rfl
    | _ => unfold PySem.W.codeIn at hcd; simp at hcd
  refine fn_of (k := 4 * n + 7) lk hcd S (fun vs H Q E h => ?_) (fun A outer s H vs Q E hr h => ?_)
  · obtain ⟨wd, ls, _, _, rl, g⟩ := h
    rw [← rl.length]
    simp only [run, hp] at g
    split at g
    · rename_i hl; rw [hl, hnp]
    · exact g.elim
  · have C : Ctx G mg nF (4 * n + 4) (run G.T Pr n) E N (defScope st) (cxOf (L2.CX P w) P w G.K mg base N qual (defScope st) (G.fa f) cdv A outer s H E) :=
      { hK := rfl, hmg := rfl, hN := rfl, nd := S.nd, units := hr.units, calm := rfl, room := hr.mono (by omega), pass := passes_call (takes_of rfl rfl rfl rfl) (fun _ _ _ _ z => z), own := passes_of rfl, fc := IH, kind := S.kind,
        vis := fun _ z => z, gl := fun _ z => z, fre := fun _ z => .inr z, loc := fun _ z => z, cel := fun _ z => ⟨z, rfl⟩ }
    refine ⟨_, hbody E _ C ⟨takes_of rfl rfl rfl rfl, rfl, rfl, hP, ⟨_, rfl⟩⟩ ⟨hr, hcode, rfl, hTb⟩, ?_⟩
    obtain ⟨wd, ls, rfl, ok, rl, g⟩ := h
    simp only [run, hp] at g
    split at g
    · rename_i hl
      have hl2 : ls.length = ps.length := by rw [hl, hnp]
      rw [hnp, hnl] at g
      refine ⟨wd, _, rfl, ok, start_rep rl hl2 hle, ?_⟩
      cases q : evSs G.T (run G.T Pr n) fn.body (ls.map some ++ List.replicate (N.length - ps.length) none) wd.h with
      | nxt r1 h1 =>
        rw [q] at g
        intro w2 e2 k2 eh σ2 _
        subst eh
        exact leave_good ok e2 k2 (.v .non) g
      | ret y h1 =>
        rw [q] at g
        intro w2 e2 k2 eh v rv
        subst eh
        exact leave_good ok e2 k2 rv g
      | exc c fs h1 =>
        rw [q] at g
        intro w2 e2 k2 eh cls d hx
        subst eh
        simp only [finish] at g
        split at g
        · exact g w2 e2 k2 rfl cls d hx
        · split at g
          · rename_i hw
            exact g (w2.cut wd.h.length) e2.cut (k2.cut e2.len hw) rfl cls d hx
          · exact g.elim
      | brk r1 h1 => rw [q] at g; exact g.elim
      | cnt r1 h1 => rw [q] at g; exact g.elim
      | bad => rw [q] at g; exact g.elim
    · exact g.elim
theorem fn_sound {x qual : Str} {st : Stmt} {fd : FuncData} {N ps : List Str} (Fu : Fun G.K x qual st (G.fa f) fd) (S : FnScope N ps (defScope st)) (hb : Binds G.K fd ps []) (hp : Pr f = some fn) (hnp : fn.np = ps.length) (hnl : fn.nl = N.length) (hle : ps.length ≤ N.length)
    (IH : ∀ f, f ∈ nF → FnC G P w mg base (4 * n + 4) (run G.T Pr n) f)
    (hP : P = G.prog) (hTb : TbOk G base mg) (hbody : ∀ (E : XK) (X : Cx), Ctx G mg nF (4 * n + 4) (run G.T Pr n) E N (defScope st) X → Tk G (4 * n + 4) E X → Lk G (4 * n + 4) f qual X → PSs X (defBody st) (tMS G E (evSs G.T (run G.T Pr n) fn.body))) :
    FnC G P w mg base (4 * (n + 1) + 4) (run G.T Pr (n + 1)) f := ⟨⟨fd, ps, fn_ok Fu S hb hp hnp hnl hle IH hP hTb hbody, hb⟩, Fu.kp⟩
theorem fn_zero {x qual : Str} {st : Stmt} {fd : FuncData} {ps : List Str} (Fu : Fun G.K x qual st (G.fa f) fd) (hb : Binds G.K fd ps []) : FnC G P w mg base 4 (run G.T Pr 0) f :=
  ⟨⟨fd, ps, ⟨fun vs H Q E ⟨_, _, _, _, _, g⟩ => g.elim, fun A outer s H args us vs Q E _ _ _ _ ⟨_, _, _, _, _, g⟩ => g.elim⟩, hb⟩, Fu.kp⟩
/-- a def that the core does not know -/
theorem fn_none {k m : Nat} {x qual : Str} {st : Stmt} {fd : FuncData} {ps : List Str} (Fu : Fun G.K x qual st (G.fa f) fd) (hb : Binds G.K fd ps []) (hp : Pr f = none) : FnC G P w mg base k (run G.T Pr (m + 1)) f :=
  ⟨⟨fd, ps, ⟨fun vs H Q E ⟨_, _, _, _, _, g⟩ => by simp only [run, hp] at g; exact g.elim, fun A outer s H args us vs Q E _ _ _ _ ⟨_, _, _, _, _, g⟩ => by simp only [run, hp] at g; exact g.elim⟩, hb⟩, Fu.kp⟩
end
end SC

namespace SC
open PySem PySem.Spec PyProof.Rows L2
section
variable {G : Gm} {mg : Str → Option Value} {nF : List Nat} {k : Nat} {F : Phi} {E : XK} {N : List Str} {sc : Scope} {X : Cx} (C : Ctx0 G mg nF k F E N sc X) {a b c e o : Expr} {es : List Expr} {ca cb cc ce co : CE} {cs : CEs} {p pos apos : Pos}
include C
theorem Ctx0.int {i : Int} {j} : PE X (.Constant (.int i) j pos) (tM G E (evE G.T F (.cst (.int i)))) := fe_cst pe_int fun _ => .int i
theorem Ctx0.bl {i : Bool} {j} : PE X (.Constant (.bool i) j pos) (tM G E (evE G.T F (.cst (.bl i)))) := fe_cst pe_bl fun _ => .bl i
theorem Ctx0.non {j} : PE X (.Constant .none j pos) (tM G E (evE G.T F (.cst .non))) := fe_cst pe_non fun _ => .non
theorem Ctx0.str {i : Str} {j} : PE X (.Constant (.str i) j pos) (tM G E (evE G.T F (.cst (.str i)))) := fe_cst pe_str fun _ => .str i
theorem Ctx0.add (ha : PE X a (tM G E (evE G.T F ca))) (hb : PE X b (tM G E (evE G.T F cb))) : PE X (.BinOp a .Add b pos) (tM G E (evE G.T F (.bin .add ca cb))) := fe_op (opM_add C.hK) ha hb
theorem Ctx0.addL (ha : PE X a (tM G E (evE G.T F ca))) (hb : PE X b (tM G E (evE G.T F cb))) : PE X (.BinOp a .Add b pos) (tM G E (evE G.T F (.bin .addL ca cb))) := fe_op (opM_addL C.hK) ha hb
theorem Ctx0.sub (ha : PE X a (tM G E (evE G.T F ca))) (hb : PE X b (tM G E (evE G.T F cb))) : PE X (.BinOp a .Sub b pos) (tM G E (evE G.T F (.bin .sub ca cb))) := fe_op opM_sub ha hb
theorem Ctx0.mul (ha : PE X a (tM G E (evE G.T F ca))) (hb : PE X b (tM G E (evE G.T F cb))) : PE X (.BinOp a .Mult b pos) (tM G E (evE G.T F (.bin .mul ca cb))) := fe_op opM_mul ha hb
theorem Ctx0.fdiv (ha : PE X a (tM G E (evE G.T F ca))) (hb : PE X b (tM G E (evE G.T F cb))) : PE X (.BinOp a .FloorDiv b pos) (tM G E (evE G.T F (.bin .fdiv ca cb))) := fe_op opM_fdiv ha hb
theorem Ctx0.mod (ha : PE X a (tM G E (evE G.T F ca))) (hb : PE X b (tM G E (evE G.T F cb))) : PE X (.BinOp a .Mod b pos) (tM G E (evE G.T F (.bin .mod ca cb))) := fe_op opM_mod ha hb
theorem Ctx0.pow (ha : PE X a (tM G E (evE G.T F ca))) (hb : PE X b (tM G E (evE G.T F cb))) : PE X (.BinOp a .Pow b pos) (tM G E (evE G.T F (.bin .pow ca cb))) := fe_op opM_pow ha hb
theorem Ctx0.shl (ha : PE X a (tM G E (evE G.T F ca))) (hb : PE X b (tM G E (evE G.T F cb))) : PE X (.BinOp a .LShift b pos) (tM G E (evE G.T F (.bin .shl ca cb))) := fe_op opM_shl ha hb
theorem Ctx0.shr (ha : PE X a (tM G E (evE G.T F ca))) (hb : PE X b (tM G E (evE G.T F cb))) : PE X (.BinOp a .RShift b pos) (tM G E (evE G.T F (.bin .shr ca cb))) := fe_op opM_shr ha hb
theorem Ctx0.band (ha : PE X a (tM G E (evE G.T F ca))) (hb : PE X b (tM G E (evE G.T F cb))) : PE X (.BinOp a .BitAnd b pos) (tM G E (evE G.T F (.bin .band ca cb))) := fe_op opM_band ha hb
/-! comparisons, by their rules -/
theorem Ctx0.oEq : OpR X (compareOp .Eq) (R2M G E (cmpO .eq)) := opC_eq C.hK C.units
theorem Ctx0.oNe : OpR X (compareOp .NotEq) (R2M G E (cmpO .ne)) := opC_ne C.hK C.units
theorem Ctx0.oLt : OpR X (compareOp .Lt) (R2M G E (cmpO .lt)) := opC_lt
theorem Ctx0.oLe : OpR X (compareOp .LtE) (R2M G E (cmpO .le)) := opC_le
theorem Ctx0.oGt : OpR X (compareOp .Gt) (R2M G E (cmpO .gt)) := opC_gt
theorem Ctx0.oGe : OpR X (compareOp .GtE) (R2M G E (cmpO .ge)) := opC_ge
theorem Ctx0.oIn : OpR X (compareOp .In) (R2M G E (cmpO .isin)) := opC_in C.hK
theorem Ctx0.oNotIn : OpR X (compareOp .NotIn) (R2M G E (cmpO .notin)) := opC_notin C.hK
theorem Ctx0.oIs : OpR X (compareOp .Is) (R2M G E (cmpO .isn)) := opC_isn
theorem Ctx0.oIsNot : OpR X (compareOp .IsNot) (R2M G E (cmpO .notn)) := opC_notn
theorem Ctx0.cmp {op : CmpOp} {o : COp} (ho : OpR X (compareOp op) (R2M G E (cmpO o))) (ha : PE X a (tM G E (evE G.T F ca))) (hb : PE X b (tM G E (evE G.T F cb))) (hm : behindInMarks op b = false := by first | exact nobehind _ (by decide) (by decide) | rfl) : PE X (.Compare a [op] [b] pos) (tM G E (evE G.T F (.cmp o ca cb))) := fe_cmp ho ha hb hm
theorem Ctx0.tcmp {op : CmpOp} {o : COp} (ho : OpR X (compareOp op) (R2M G E (cmpO o))) (ha : PE X a (tM G E (evE G.T F ca))) (hb : PE X b (tM G E (evE G.T F cb))) (hm : behindInMarks op b = false := by first | exact nobehind _ (by decide) (by decide) | rfl) : PT X (.Compare a [op] [b] pos) (tMb G E (evE G.T F (.cmp o ca cb))) := ft_cmp ho ha hb hm
theorem Ctx0.idx (ha : PE X a (tM G E (evE G.T F ca))) (hb : PE X b (tM G E (evE G.T F cb))) (hs : PlainIx b := by intro _ _; rfl) : PE X (.Subscript a b pos) (tM G E (evE G.T F (.idx ca cb))) := fe_idx C.hK ha hb hs
theorem Ctx0.slc (live : Bool) {lo hi : Option Expr} {cl ch : CE} {p2 : Pos} (he : PE X e (tM G E (evE G.T F ce))) (hl : PM G E X F lo cl) (hh : PM G E X F hi ch) : PE X (.Subscript e (.Slice lo hi none p2) pos) (tM G E (evE G.T F (.slc live ce cl ch))) := fe_slc live C.hK he hl hh
end
def parB (ts : List (Str × Pos)) (vs : List Expr) : Bool :=
  !(vs.any fun | .Starred .. => true | _ => false) && !(vs.all (foldedForSure 8)) && !(vs.all (constantsAlone 8)) && (ts.all fun p => p.2.line == ((ts.head?.map (·.2.line)).getD 0)) && ((ts.map (·.1)).eraseDups.length == ts.length)
theorem sw_par2 {x y : Str} {px py pt pt2 : Pos} {kt k2 : Nat} {a b : Expr} {env : Env} (hk : env.scope.kind = .function) (hx : env.scope.names.lookup x = some .local) (hy : env.scope.names.lookup y = some .local) (h : parB [(x, px), (y, py)] [a, b] = true) :
    swappedStores [.Tuple [.Name x px, .Name y py] kt pt] (.Tuple [a, b] k2 pt2) env = pure (some [x, y]) := by
  have kx : env.kindOf x = some .local := hx
  have ky : env.kindOf y = some .local := hy
  have hb : env.blockKind = .function := by unfold Env.blockKind; rw [hk]; rfl
  unfold parB at h
  simp only [Bool.and_eq_true, Bool.not_eq_true', beq_iff_eq, List.map, List.length, List.head?, Option.map, Option.getD, List.all_cons, List.all_nil, Bool.and_true] at h
  obtain ⟨⟨⟨⟨h1, h2⟩, h3⟩, h4, h5⟩, h6⟩ := h
  unfold swappedStores
  simp only [hb, kx, ky, List.filterMap, Expr.pos, List.length, List.head?, Option.map, Option.getD, h1, h5, BEq.rfl, Bool.and_self, if_true, List.all_cons, List.all_nil, h2, h3, h6, bne_self_eq_false, Bool.false_eq_true, if_false, pure_bind, Bool.or_false, Bool.and_true]
  simp_all
  rintro (q | q)
  · exact absurd (h1.1.symm.trans q) (by decide)
  · exact absurd (h1.2.symm.trans q) (by decide)
theorem sw_par3 {x y z : Str} {px py pz pt pt2 : Pos} {kt k2 : Nat} {a b c : Expr} {env : Env} (hk : env.scope.kind = .function) (hx : env.scope.names.lookup x = some .local) (hy : env.scope.names.lookup y = some .local) (hz : env.scope.names.lookup z = some .local) (h : parB [(x, px), (y, py), (z, pz)] [a, b, c] = true) :
    swappedStores [.Tuple [.Name x px, .Name y py, .Name z pz] kt pt] (.Tuple [a, b, c] k2 pt2) env = pure (some [x, y, z]) := by
  have kx : env.kindOf x = some .local := hx
  have ky : env.kindOf y = some .local := hy
  have kz : env.kindOf z = some .local := hz
  have hb : env.blockKind = .function := by unfold Env.blockKind; rw [hk]; rfl
  unfold parB at h
  simp only [Bool.and_eq_true, Bool.not_eq_true', beq_iff_eq, List.map, List.length, List.head?, Option.map, Option.getD, List.all_cons, List.all_nil, Bool.and_true] at h
  obtain ⟨⟨⟨⟨h1, h2⟩, h3⟩, h4, h5, h7⟩, h6⟩ := h
  unfold swappedStores
  simp only [hb, kx, ky, kz, List.filterMap, Expr.pos, List.length, List.head?, Option.map, Option.getD, h1, h5, h7, BEq.rfl, Bool.and_self, if_true, List.all_cons, List.all_nil, h2, h3, h6, bne_self_eq_false, Bool.false_eq_true, if_false, pure_bind, Bool.or_false, Bool.and_true]
  simp_all
  rintro (q | q | q)
  · exact absurd (h1.1.symm.trans q) (by decide)
  · exact absurd (h1.2.1.symm.trans q) (by decide)
  · exact absurd (h1.2.2.symm.trans q) (by decide)
theorem bv_len : bootBuiltins "len" = some (.builtin "len") := by decide +kernel
theorem bv_max : bootBuiltins "max" = some (.builtin "max") := by decide +kernel
theorem bv_min : bootBuiltins "min" = some (.builtin "min") := by decide +kernel
theorem bv_sorted : bootBuiltins "sorted" = some (.builtin "sorted") := by decide +kernel
theorem bv_sum : bootBuiltins "sum" = some (.builtin "sum") := by decide +kernel
theorem bv_isinstance : bootBuiltins "isinstance" = some (.builtin "isinstance") := by decide +kernel
theorem bv_int : bootBuiltins "int" = some (.type "int") := by decide +kernel
theorem bv_list : bootBuiltins "list" = some (.type "list") := by decide +kernel
theorem bv_tuple : bootBuiltins "tuple" = some (.type "tuple") := by decide +kernel
theorem bv_str : bootBuiltins "str" = some (.type "str") := by decide +kernel
theorem bv_bool : bootBuiltins "bool" = some (.type "bool") := by decide +kernel
theorem bv_dict : bootBuiltins "dict" = some (.type "dict") := by decide +kernel
section
variable {G : Gm} {mg : Str → Option Value} {nF : List Nat} {k : Nat} {F : Phi} {E : XK} {N : List Str} {sc : Scope} {X : Cx} (C : Ctx0 G mg nF k F E N sc X) {a b c e o : Expr} {es : List Expr} {ca cb cc ce co : CE} {cs : CEs} {p pos apos cpos : Pos}
include C
/-- a built-in class as the second argument of isinstance -/
theorem Ctx0.ty {x : Str} {n : String} (hm : mg x = none) (hg : isGl sc x = true) (hv : bootBuiltins x = some (.type n)) (hn : x ≠ "__name__" := by decide) (hd : (x == ("__debug__" : Str)) = false := by decide) : PE X (.Name x pos) (tC (.ty n)) := pe_bltn (C.gln hg) (C.m hm) hv rfl hn hd
theorem Ctx0.cl {x : Str} {A : Addr} (hm : mg x = some (.ref A)) (hg : isGl sc x = true) (hd : (x == ("__debug__" : Str)) = false := by decide) : PE X (.Name x pos) (tC (.ref A)) := pe_glob (C.gln hg) (C.m hm) rfl hd
omit C in
theorem Ctx.attr (C : Ctx G mg nF k F E N sc X) {x : Str} (f : Nat) (hx : x = G.nm f) (hP : ∀ c g, G.T.prop c f = some g → g ∈ nF) (ho : PE X o (tM G E (evE G.T F co))) (hab : attributeBase o x X.env (eval o X.env) = eval o X.env := by rfl) : PE X (.Attribute o x pos) (tM G E (evE G.T F (.attr f co))) :=
  fe_attr hx C.hK (fun c g h => C.fc g (hP c g h)) C.room ho hab
theorem Ctx0.setF {x : Str} {pos' : Pos} (f : Nat) (hx : x = G.nm f) (ho : PE X o (tM G E (evE G.T F co))) (he : PE X e (tM G E (evE G.T F ce))) (hs : swapsWith e (some (.Attribute o x pos')) pos.line X.env = pure false := by rfl) : PS X (.Assign [.Attribute o x pos'] e pos) (tMS G E (evS G.T F (.setF f co ce))) := fs_setF hx C.hK ho he hs
omit C in
theorem Ctx.inst (C : Ctx G mg nF k F E N sc X) (hT : ∀ c g, G.T.callm c = some g → g ∈ nF) (ho : PE X o (tM G E (evE G.T F co))) (ha : PA X (e :: es) (tMs G E (evEs G.T F cs)))
    (ht : eval (.Call o (e :: es) [] pos) X.env = (do callWith pos (← eval o X.env) [] (backTo pos (starEach (e :: es) X.env)) (backToKw pos (keywordEach [] X.env))) := by rfl)
    (he : starEach (e :: es) X.env = (false, eval e X.env) :: starEach es X.env := by rfl) (hpl : (backTo pos (starEach es X.env)).any (·.1) = false := by rfl) : PE X (.Call o (e :: es) [] pos) (tM G E (evE G.T F (.inst co cs))) := fe_inst C.hK (fun c g h => C.fc g (hT c g h)) C.rk C.pass ho ha ht he hpl
omit C in
theorem Ctx.par2 (C : Ctx G mg nF k F E N sc X) (i j : Nat) {x y : Str} {px py pt : Pos} {kt k2 pt2} (h : (decide (N[i]? = some x) && decide (N[j]? = some y) && decide (sc.names.lookup x = some .local) && decide (sc.names.lookup y = some .local) && decide (i ≠ j)) = true) (ha : PA X [a, b] (tMs G E (evEs G.T F cs)))
    (hp : parB [(x, px), (y, py)] [a, b] = true := by rfl)
    (hs : swapsWithSole [.Tuple [.Name x px, .Name y py] kt pt] (.Tuple [a, b] k2 pt2) pos.line X.env = pure false := by rfl) : PS X (.Assign [.Tuple [.Name x px, .Name y py] kt pt] (.Tuple [a, b] k2 pt2) pos) (tMS G E (evS G.T F (.par [i, j] cs))) := by
  simp only [Bool.and_eq_true, decide_eq_true_eq] at h
  obtain ⟨⟨⟨⟨h1, h2⟩, h3⟩, h4⟩, h5⟩ := h
  exact fs_par2 (es := [a, b]) (ps_par C.calm (by rw [C.hN]; exact C.nd) (by rw [C.hN]; exact h1) (by rw [C.hN]; exact h2) h5 (C.loc x h3) (C.loc y h4) ha (sw_par2 C.kind (C.loc x h3) (C.loc y h4) hp) hs)
omit C in
theorem Ctx.par3 (C : Ctx G mg nF k F E N sc X) (i j l : Nat) {x y z : Str} {px py pz pt : Pos} {kt k2 pt2} (h : (decide (N[i]? = some x) && decide (N[j]? = some y) && decide (N[l]? = some z) && decide (sc.names.lookup x = some .local) && decide (sc.names.lookup y = some .local) && decide (sc.names.lookup z = some .local) && decide (i ≠ j) && decide (i ≠ l) && decide (j ≠ l)) = true) (ha : PA X [a, b, c] (tMs G E (evEs G.T F cs)))
    (hp : parB [(x, px), (y, py), (z, pz)] [a, b, c] = true := by rfl)
    (hs : swapsWithSole [.Tuple [.Name x px, .Name y py, .Name z pz] kt pt] (.Tuple [a, b, c] k2 pt2) pos.line X.env = pure false := by rfl) : PS X (.Assign [.Tuple [.Name x px, .Name y py, .Name z pz] kt pt] (.Tuple [a, b, c] k2 pt2) pos) (tMS G E (evS G.T F (.par [i, j, l] cs))) := by
  simp only [Bool.and_eq_true, decide_eq_true_eq] at h
  obtain ⟨⟨⟨⟨⟨⟨⟨⟨h1, h2⟩, h3⟩, h4⟩, h5⟩, h6⟩, h7⟩, h8⟩, h9⟩ := h
  exact fs_par3 (ps_par3 C.calm (by rw [C.hN]; exact C.nd) (by rw [C.hN]; exact h1) (by rw [C.hN]; exact h2) (by rw [C.hN]; exact h3) h7 h8 h9 (C.loc x h4) (C.loc y h5) (C.loc z h6) ha (sw_par3 C.kind (C.loc x h4) (C.loc y h5) (C.loc z h6) hp) hs)
/-- x += e -/
theorem Ctx0.augAdd (i : Nat) {x : Str} {pos' : Pos} (h : (decide (N[i]? = some x) && decide (sc.names.lookup x = some .local)) = true) (he : PE X e (tM G E (evE G.T F ce))) : PS X (.AugAssign (.Name x pos') .Add e pos) (tMS G E (evS G.T F (.aug i .add ce))) := by
  simp only [Bool.and_eq_true, decide_eq_true_eq] at h
  exact fs_aug (ps_aug (by rw [C.hN]; exact C.nd) (by rw [C.hN]; exact h.1) (.inl (C.loc x h.2)) he ip_add (.inr (C.loc x h.2))) aug_add
theorem Ctx0.augFAdd {x : Str} {tpos : Pos} (f : Nat) (hx : x = G.nm f) (ho : PE X o (tM G E (evE G.T F co))) (he : PE X e (tM G E (evE G.T F ce))) : PS X (.AugAssign (.Attribute o x tpos) .Add e pos) (tMS G E (evS G.T F (.augF f .add co ce))) := fs_augF hx C.hK ho he in_add aug_addF
end
end SC

namespace SC
open PySem PySem.Spec PyProof.Rows L2
/-- what the catching of errors asks of the top -/
structure ErrT (p : PD) (G : Gm) (mg : Str → Option Value) : Prop where
  court : mg p.court = some (.ref (He.ga G.K p.court))
  hd : PySem.W.hasDictIn G.K (He.ga G.K p.court) = true
  hs : PySem.W.subIn G.K (.ref (He.ga G.K p.court)) (.type "BaseException") = some true
  ty : PySem.W.typeIn G.K (.ref (He.ga G.K p.court)) = some (.type "type")
  ec : ∀ c ∈ p.errs, L2.ExcC G.K (G.Xc c) ∧ PySem.W.subIn G.K (.ref (G.Xc c)) (.ref (He.ga G.K p.court)) = some true
  xts : ∀ x n, p.xts.lookup x = some n → mg n = some (.ref (He.ga G.K n))
  isx : ∀ c x b, G.T.isx c x = some b → PySem.W.kitOne G.K (.ref (G.Xc c)) (xtV p G.K x) = some b
  lam : ∀ q ∈ G.cds, lamB G.K q = true
  nd : (G.tabs.map (·.1)).Nodup
/-- what a derivation asks of the top -/
structure Facts (p : PD) (G : Gm) (mg : Str → Option Value) : Prop where
  cls : ∀ c x, p.cls.lookup c = some x → ClsF G c
  mkr : ∀ c f, G.T.init c = some f → Mk G.K (G.Cl c) (G.fa f)
  isi : ∀ d x, p.cls.lookup d = some x → IsiF G d
  glo : ∀ (i : Nat) (x : Str), ((p.defs.lookup i).map (·.at_)) = some (.glo x) → mg x = some (.ref (G.fa i))
  clm : ∀ (c : Nat) (x : Str), p.cls.lookup c = some x → mg x = some (.ref (G.Cl c))
  free : ∀ (i : Nat) (x : Str), p.frees[i]? = some x → mg x = none
  int : ∀ (i : Nat) (x : Str) (z : Int), p.cints[i]? = some (x, z) → ∃ t, mg x = some (.int z t)
  str : ∀ (i : Nat) (x z : Str), p.cstrs[i]? = some (x, z) → ∃ t, mg x = some (.str z t)
  propLt : ∀ c f g, G.T.prop c f = some g → g ∈ p.ids
  methLt : ∀ c f g, G.T.meth c f = some g → g ∈ p.ids
  initLt : ∀ c g, G.T.init c = some g → g ∈ p.ids
  callLt : ∀ c g, G.T.callm c = some g → g ∈ p.ids
  fn : ∀ (i : Nat) (d : Df), p.defs.lookup i = some d → ∃ fd, Fun G.K d.name d.qual d.st (G.fa i) fd
  exc : ∀ (c : Nat) (d : Xd), p.excs.lookup c = some d → excB p G.K (c, d) = true ∧ xinV G.K (c, d) = xinW (c, d) ∧ mg d.name = some (.ref (G.Xc c)) ∧ G.Xc c = He.ga G.K d.name
  tups : ∀ (i : Nat) (x : Str) (l : List Str), p.ctups[i]? = some (x, l) → ∃ a, mg x = some (.ref a) ∧ ∀ F, RepV G F (.tup (l.map .str)) (.ref a)
  nmE : (p.gm G.K).nm = G.nm
  prg : G.prog = p.prog
  errT : p.errs.isEmpty = false → ErrT p G mg
  exinj : ∀ (c : Nat) (d : Xd), p.excs.lookup c = some d → ∀ f g, f ∈ d.flds → g ∈ d.flds → G.nm f = G.nm g → f = g
theorem look_mem {α β : Type} [BEq α] [LawfulBEq α] {a : α} {b : β} : ∀ {l : List (α × β)}, l.lookup a = some b → (a, b) ∈ l
  | [], h => by simp at h
  | (c, d) :: r, h => by
    simp only [List.lookup] at h
    split at h
    · rename_i e
      have e1 : a = c := by simpa using e
      cases h; rw [e1]; exact List.mem_cons_self
    · exact List.mem_cons_of_mem _ (look_mem h)
theorem strsB_ok : ∀ {us : List Value} {l : List Str}, strsB us l = true → Vals (l.map V.str) us
  | [], [], _ => .nil
  | .str s t :: r, x :: l, h => by
    simp only [strsB, Bool.and_eq_true, beq_iff_eq] at h
    obtain ⟨rfl, h⟩ := h
    exact .cons ⟨t, rfl⟩ (strsB_ok h)
theorem repStrs {G : Gm} {F : Hp} : ∀ l : List Str, RepVs G F (l.map MV.str) (l.map V.str)
  | [] => .nil
  | x :: l => .cons (.str x) (repStrs l)
theorem PD.facts {p : PD} {K : PySem.W.Frag} {h : Heap} {mg : Str → Option Value} (X : K.In h) (N : h.Ns mainGlobals mg) (st : p.statB = true) (c : p.Says K) : Facts p (p.gm K) mg := by
  have ok : p.okB K = true := congrArg (fun z : Al => z.1) c
  have fv : (p.defs.map fun q => fnV K q.2.at_) = p.defs.map fun q => q.2.val := congrArg (fun z : Al => z.2.1) c
  unfold PD.okB at ok
  obtain ⟨o1, ok⟩ := He.ba ok
  obtain ⟨o2, ok⟩ := He.ba ok
  obtain ⟨o3, ok⟩ := He.ba ok
  obtain ⟨o4, ok⟩ := He.ba ok
  obtain ⟨o5, ok⟩ := He.ba ok
  obtain ⟨o6, ok⟩ := He.ba ok
  obtain ⟨o7, ok⟩ := He.ba ok
  obtain ⟨o8, ok⟩ := He.ba ok
  obtain ⟨o9, ok⟩ := He.ba ok
  obtain ⟨o10, ok⟩ := He.ba ok
  obtain ⟨o11, ok⟩ := He.ba ok
  obtain ⟨o12, ok⟩ := He.ba ok
  obtain ⟨o13, ok⟩ := He.ba ok
  obtain ⟨o14, ok⟩ := He.ba ok
  obtain ⟨o15, ok⟩ := He.ba ok
  obtain ⟨o16, o17⟩ := He.ba ok
  have xv : p.excs.map (xinV K) = p.excs.map xinW := congrArg (fun z : Al => z.2.2) c
  unfold PD.statB at st
  obtain ⟨st, s6⟩ := He.ba st
  obtain ⟨st, s5⟩ := He.ba st
  obtain ⟨st, s4⟩ := He.ba st
  obtain ⟨st, s3⟩ := He.ba st
  obtain ⟨s1, s2⟩ := He.ba st
  have pg : ∀ c x, p.cls.lookup c = some x → (p.gm K).Cl c = He.ga K x := fun c x e => by
    show He.ga K ((p.cls.lookup c).getD Str.empty) = _
    rw [e]; rfl
  have fg : ∀ i d, p.defs.lookup i = some d → (p.gm K).fa i = d.at_.ad K := fun i d e => by
    show (match p.defs.lookup i with | some d => d.at_.ad K | none => 0) = _
    rw [e]
  have mc : ∀ c x, p.cls.lookup c = some x → c ∈ p.cls.map (·.1) := fun c x e => List.mem_map.mpr ⟨_, look_mem e, rfl⟩
  refine ⟨?_, ?_, ?_, ?_, ?_, ?_, ?_, ?_, ?_, ?_, ?_, ?_, ?_, ?_, ?_, rfl, rfl, ?_, ?_⟩
  · intro c x hx
    have hc := mc c x hx
    have b := List.all_eq_true.mp o1 _ (look_mem hx)
    obtain ⟨b1, b⟩ := He.ba (show (_ && (_ && (_ && (_ && _)))) = true from b)
    obtain ⟨b2, b⟩ := He.ba b
    obtain ⟨b3, b⟩ := He.ba b
    obtain ⟨b4, b5⟩ := He.ba b
    rw [← pg c x hx] at b2 b3 b4 b5
    refine ⟨by rw [pg c x hx]; exact He.cls_ok b1, He.eqO_ok b2, He.eqO_ok o2, of_decide_eq_true o3, of_decide_eq_true b3, ?_, ?_, ?_, ?_, ?_, hc, ?_⟩
    · intro f g hf hg e
      have z := List.all_eq_true.mp (List.all_eq_true.mp (List.all_eq_true.mp s1 c hc) f hf) g hg
      rcases Bool.or_eq_true_iff.mp z with z | z
      · simp only [Bool.not_eq_true', decide_eq_false_iff_not] at z
        exact absurd e z
      · exact of_decide_eq_true z
    · intro f hf
      exact He.eqO_ok (List.all_eq_true.mp b5 f hf)
    · intro m g e
      have mem := look_mem (show p.meths.lookup (c, m) = some g from e)
      have z := List.all_eq_true.mp o4 _ mem
      obtain ⟨z1, z⟩ := He.ba z
      obtain ⟨z2, z3⟩ := He.ba z
      refine ⟨⟨He.eqO_ok z1, z2, z3⟩, fun f hf e => ?_⟩
      obtain ⟨_, y⟩ := He.ba (List.all_eq_true.mp s2 _ mem)
      have y2 := List.all_eq_true.mp y f hf
      simp only [Bool.not_eq_true', decide_eq_false_iff_not] at y2
      exact y2 e
    · intro f g e
      have mem := look_mem (show p.props.lookup (c, f) = some g from e)
      have z := List.all_eq_true.mp o5 _ mem
      obtain ⟨z1, z⟩ := He.ba z
      obtain ⟨z2, z⟩ := He.ba z
      obtain ⟨z3, z4⟩ := He.ba z
      refine ⟨_, He.eqO_ok z1, He.eqO_ok z2, of_decide_eq_true z3, ?_⟩
      split at z4
      · rename_i g' rest q
        have e1 : g' = (p.gm K).fa g := of_decide_eq_true z4
        rw [e1] at q
        exact ⟨rest, q⟩
      · cases z4
    · intro g e
      have mem := look_mem (show p.callms.lookup c = some g from e)
      have z := List.all_eq_true.mp o7 _ mem
      obtain ⟨z1, z⟩ := He.ba z
      obtain ⟨z2, z3⟩ := He.ba z
      exact ⟨He.eqO_ok z1, z2, z3⟩
    · intro n hn
      exact of_decide_eq_true (List.all_eq_true.mp b4 n hn)
  · intro c f e
    have mem := look_mem (show p.inits.lookup c = some f from e)
    have z := List.all_eq_true.mp o6 _ mem
    obtain ⟨z1, z⟩ := He.ba z
    obtain ⟨z2, z⟩ := He.ba z
    obtain ⟨z3, z4⟩ := He.ba z
    exact ⟨z1, He.eqO_ok z2, z3, z4⟩
  · intro d x hd
    have z := List.all_eq_true.mp o8 d (mc d x hd)
    obtain ⟨z1, z2⟩ := He.ba z
    exact ⟨fun n hn => of_decide_eq_true (List.all_eq_true.mp z1 n hn), fun c hc => of_decide_eq_true (List.all_eq_true.mp z2 c hc)⟩
  · intro i x e
    obtain ⟨d, hd, e2⟩ := Option.map_eq_some_iff.mp e
    have z := List.all_eq_true.mp o9 _ (look_mem hd)
    rw [fg i d hd, e2]
    unfold gloB at z
    rw [e2] at z
    exact He.glo_ok X N z
  · intro c x e
    rw [pg c x e]
    exact He.glo_ok X N (List.all_eq_true.mp o10 _ (look_mem e))
  · intro i x e
    exact He.free_ok X N (List.all_eq_true.mp o11 x (List.mem_of_getElem? e))
  · intro i x z e
    exact He.int_ok X N (List.all_eq_true.mp o12 _ (List.mem_of_getElem? e))
  · intro i x z e
    exact He.str_ok X N (List.all_eq_true.mp o13 _ (List.mem_of_getElem? e))
  · intro c f g e
    exact of_decide_eq_true (List.all_eq_true.mp s3 _ (look_mem (show p.props.lookup (c, f) = some g from e)))
  · intro c f g e
    exact of_decide_eq_true (He.ba (List.all_eq_true.mp s2 _ (look_mem (show p.meths.lookup (c, f) = some g from e)))).1
  · intro c g e
    exact of_decide_eq_true (List.all_eq_true.mp s4 _ (look_mem (show p.inits.lookup c = some g from e)))
  · intro c g e
    exact of_decide_eq_true (List.all_eq_true.mp s5 _ (look_mem (show p.callms.lookup c = some g from e)))
  · intro i d e
    rw [fg i d e]
    have m := look_mem e
    have ev : fnV K d.at_ = d.val := by
      obtain ⟨n, hn⟩ := List.getElem?_of_mem m
      have e2 : (p.defs.map fun q => fnV K q.2.at_)[n]? = (p.defs.map fun q => q.2.val)[n]? := by rw [fv]
      rw [List.getElem?_map, List.getElem?_map, hn] at e2
      exact Option.some.inj e2
    exact Df.fn ev (List.all_eq_true.mp o14 _ m)
  · intro c d e
    have m := look_mem e
    have z := List.all_eq_true.mp o15 _ m
    have gx : (p.gm K).Xc c = He.ga K d.name := by
      show He.ga K (((p.excs.lookup c).map (·.name)).getD Str.empty) = _
      rw [e]; rfl
    refine ⟨z, ?_, ?_, gx⟩
    · obtain ⟨n, hn⟩ := List.getElem?_of_mem m
      have e2 : (p.excs.map (xinV K))[n]? = (p.excs.map xinW)[n]? := by rw [xv]
      rw [List.getElem?_map, List.getElem?_map, hn] at e2
      exact Option.some.inj e2
    · rw [gx]
      unfold excB at z
      exact He.glo_ok X N (He.ba z).1
  · intro i x l e
    have z := List.all_eq_true.mp o16 _ (List.mem_of_getElem? e)
    unfold tupB at z
    obtain ⟨z1, z2⟩ := He.ba z
    refine ⟨_, He.glo_ok X N z1, fun F => ?_⟩
    split at z2
    · rename_i its n sl hl
      obtain ⟨z3, z4⟩ := He.ba z2
      exact .tup (.inr ⟨_, its, n, hl, rfl, rfl, of_decide_eq_true z3, strsB_ok z4, rfl⟩) (repStrs l)
    · cases z2
  · intro he
    unfold PD.okE at o17
    rw [he, Bool.false_or] at o17
    obtain ⟨c1, o17⟩ := He.ba o17
    obtain ⟨c2, o17⟩ := He.ba o17
    obtain ⟨c3, o17⟩ := He.ba o17
    obtain ⟨c4, o17⟩ := He.ba o17
    obtain ⟨c5, c6⟩ := He.ba o17
    unfold courtB at c1
    obtain ⟨d1, c1⟩ := He.ba c1
    obtain ⟨d2, c1⟩ := He.ba c1
    obtain ⟨d3, d4⟩ := He.ba c1
    refine ⟨He.glo_ok X N d1, d2, of_decide_eq_true d3, of_decide_eq_true d4, fun c hc => ?_, fun x n e => ?_, fun c x b e => ?_, fun q hq => List.all_eq_true.mp c5 q hq, of_decide_eq_true c6⟩
    · have z := List.all_eq_true.mp c2 c hc
      unfold errB at z
      obtain ⟨z, z7⟩ := He.ba z
      unfold ecB at z
      obtain ⟨z1, z⟩ := He.ba z
      obtain ⟨z2, z⟩ := He.ba z
      obtain ⟨z3, z⟩ := He.ba z
      obtain ⟨z4, z⟩ := He.ba z
      obtain ⟨z5, z6⟩ := He.ba z
      exact ⟨⟨of_decide_eq_true z1, of_decide_eq_true z2, of_decide_eq_true z3, z4, He.eqO_ok z5, He.eqO_ok o2, of_decide_eq_true o3, of_decide_eq_true z6⟩, of_decide_eq_true z7⟩
    · exact He.glo_ok X N (List.all_eq_true.mp c3 _ (look_mem e))
    · exact of_decide_eq_true (List.all_eq_true.mp c4 _ (look_mem (show p.isxs.lookup (c, x) = some b from e)))
  · intro c d hd f g hf hg e
    have z := List.all_eq_true.mp (List.all_eq_true.mp (List.all_eq_true.mp s6 _ (look_mem hd)) f hf) g hg
    rcases Bool.or_eq_true_iff.mp z with z | z
    · simp only [Bool.not_eq_true', decide_eq_false_iff_not] at z
      exact absurd e z
    · exact of_decide_eq_true z
end SC

namespace SC
open PySem PySem.Spec PyProof.Rows L2
section
variable {p : PD} {G : Gm} {mg : Str → Option Value} {nF : List Nat} {k : Nat} {F : Phi} {E : XK} {N : List Str} {sc : Scope} {X : Cx} (C : Ctx0 G mg nF k F E N sc X) (T : Facts p G mg) {a b c e o : Expr} {es : List Expr} {ca cb cc ce co : CE} {cs : CEs} {pp pos apos cpos : Pos}
include C
theorem Ctx0.gInt {x : Str} {z : Int} (h : ∃ t, mg x = some (.int z t)) (hg : isGl sc x = true) (pos : Pos) (hd : (x == ("__debug__" : Str)) = false := by decide) : PE X (.Name x pos) (tM G E (evE G.T F (.cst (.int z)))) := by
  obtain ⟨t, h⟩ := h
  exact C.cst (v := .int z) h ⟨t, rfl⟩ (fun _ => .int z) hg pos hd
theorem Ctx0.gStr {x z : Str} (h : ∃ t, mg x = some (.str z t)) (hg : isGl sc x = true) (pos : Pos) (hd : (x == ("__debug__" : Str)) = false := by decide) : PE X (.Name x pos) (tM G E (evE G.T F (.cst (.str z)))) := by
  obtain ⟨t, h⟩ := h
  exact C.cst (v := .str z) h ⟨t, rfl⟩ (fun _ => .str z) hg pos hd
theorem Ctx0.setI {i : Expr} {ci : CE} (ho : PE X o (tM G E (evE G.T F co))) (hi : PE X i (tM G E (evE G.T F ci))) (he : PE X e (tM G E (evE G.T F ce))) (hs : swapsWithSole [.Subscript o i pp] e pos.line X.env = pure false := by rfl) (hw : swappedStores [.Subscript o i pp] e X.env = pure none := by rfl)
    (ha : ∀ v, assign (.Subscript o i pp) X.env v = (do
      let ov ← holding [v] (eval o X.env)
      let iv ← holding [v, ov] (eval i X.env)
      standAt pp
      holding [v, ov, iv] (setItem ov iv v)
      release [v, ov, iv] []) := by intro _; rfl)
    (h1 : (assignEach [.Subscript o i pp] X.env).map (·.2) = [assign (.Subscript o i pp) X.env] := by rfl) : PS X (.Assign [.Subscript o i pp] e pos) (tMS G E (evS G.T F (.setI co ci ce))) :=
  fs_setI (ps_asg he (pg_sub ho hi set_list ha) hs hw h1)
theorem Ctx0.asg {tg : Expr} {t : Tg} {gt : TG} (he : PE X e (tM G E (evE G.T F ce))) (hg : PGM G (RepL G) X tg t gt) (hs : swapsWithSole [tg] e pos.line X.env = pure false := by rfl) (hw : swappedStores [tg] e X.env = pure none := by rfl)
    (h1 : (assignEach [tg] X.env).map (·.2) = [assign tg X.env] := by rfl) : PS X (.Assign [tg] e pos) (tMS G E (evS G.T F (.asg t ce))) := fs_asg he hg hs hw (ps_asg he hg.pg hs hw h1)
theorem Ctx0.append (ho : PE X o (tM G E (evE G.T F co))) (ha : PA X [e] (tMs G E (evEs G.T F cs))) (hbase : attributeBase o "append" X.env (eval o X.env) = eval o X.env := by rfl)
    (hfew : ((backTo cpos (starEach [e] X.env)).all (fun x => !x.1) && (backToKw cpos (keywordEach [] X.env)).all (fun x => x.1.isSome)
      && decide ([e].length + ([] : List Keyword).length + (if ([] : List Keyword).isEmpty then 0 else 1) < 30)) = true := by rfl)
    (hline : (apos.endLine == cpos.line) = true := by rfl) (hs : starEach [e] X.env = (false, eval e X.env) :: starEach [] X.env := by rfl) (hplain : (backTo cpos (starEach [] X.env)).any (·.1) = false := by rfl) : PE X (.Call (.Attribute o "append" apos) [e] [] cpos) (tM G E (evE G.T F (.bm .append co cs))) :=
  fe_bmL C.hK (fun _ _ => rfl) PySem.F.slot_list_append PySem.F.type_list_append mtM_append ho ha (pe_bm PySem.F.plainAttrs_list PySem.F.slot_list_append PySem.F.type_list_append mtM_append ho ha hbase hfew hline hs hplain)
theorem Ctx0.extend (ho : PE X o (tM G E (evE G.T F co))) (ha : PA X [e] (tMs G E (evEs G.T F cs))) (hbase : attributeBase o "extend" X.env (eval o X.env) = eval o X.env := by rfl)
    (hfew : ((backTo cpos (starEach [e] X.env)).all (fun x => !x.1) && (backToKw cpos (keywordEach [] X.env)).all (fun x => x.1.isSome)
      && decide ([e].length + ([] : List Keyword).length + (if ([] : List Keyword).isEmpty then 0 else 1) < 30)) = true := by rfl)
    (hline : (apos.endLine == cpos.line) = true := by rfl) (hs : starEach [e] X.env = (false, eval e X.env) :: starEach [] X.env := by rfl) (hplain : (backTo cpos (starEach [] X.env)).any (·.1) = false := by rfl) : PE X (.Call (.Attribute o "extend" apos) [e] [] cpos) (tM G E (evE G.T F (.bm .extend co cs))) :=
  fe_bmL C.hK (fun _ _ => rfl) PySem.F.slot_list_extend PySem.F.type_list_extend mtM_extend ho ha (pe_bm PySem.F.plainAttrs_list PySem.F.slot_list_extend PySem.F.type_list_extend mtM_extend ho ha hbase hfew hline hs hplain)
theorem Ctx0.popAt (ho : PE X o (tM G E (evE G.T F co))) (ha : PA X [e] (tMs G E (evEs G.T F cs))) (hbase : attributeBase o "pop" X.env (eval o X.env) = eval o X.env := by rfl)
    (hfew : ((backTo cpos (starEach [e] X.env)).all (fun x => !x.1) && (backToKw cpos (keywordEach [] X.env)).all (fun x => x.1.isSome)
      && decide ([e].length + ([] : List Keyword).length + (if ([] : List Keyword).isEmpty then 0 else 1) < 30)) = true := by rfl)
    (hline : (apos.endLine == cpos.line) = true := by rfl) (hs : starEach [e] X.env = (false, eval e X.env) :: starEach [] X.env := by rfl) (hplain : (backTo cpos (starEach [] X.env)).any (·.1) = false := by rfl) : PE X (.Call (.Attribute o "pop" apos) [e] [] cpos) (tM G E (evE G.T F (.bm .popAt co cs))) :=
  fe_bmL C.hK (fun _ _ => rfl) PySem.F.slot_list_pop PySem.F.type_list_pop mtM_popAt ho ha (pe_bm PySem.F.plainAttrs_list PySem.F.slot_list_pop PySem.F.type_list_pop mtM_popAt ho ha hbase hfew hline hs hplain)
theorem Ctx0.popLast (ho : PE X o (tM G E (evE G.T F co))) (hbase : attributeBase o "pop" X.env (eval o X.env) = eval o X.env := by rfl) (hline : (apos.endLine == cpos.line) = true := by rfl) : PE X (.Call (.Attribute o "pop" apos) [] [] cpos) (tM G E (evE G.T F (.bm .popLast co .nil))) :=
  fe_bmL0 C.hK (fun _ _ => rfl) PySem.F.slot_list_pop PySem.F.type_list_pop mtM_popLast ho (pe_bm0 PySem.F.plainAttrs_list PySem.F.slot_list_pop PySem.F.type_list_pop mtM_popLast ho hbase hline)
theorem Ctx0.join (ho : PE X o (tM G E (evE G.T F co))) (ha : PA X [e] (tMs G E (evEs G.T F cs))) (hbase : attributeBase o "join" X.env (eval o X.env) = eval o X.env := by rfl)
    (hfew : ((backTo cpos (starEach [e] X.env)).all (fun x => !x.1) && (backToKw cpos (keywordEach [] X.env)).all (fun x => x.1.isSome)
      && decide ([e].length + ([] : List Keyword).length + (if ([] : List Keyword).isEmpty then 0 else 1) < 30)) = true := by rfl)
    (hline : (apos.endLine == cpos.line) = true := by rfl) (hs : starEach [e] X.env = (false, eval e X.env) :: starEach [] X.env := by rfl) (hplain : (backTo cpos (starEach [] X.env)).any (·.1) = false := by rfl) : PE X (.Call (.Attribute o "join" apos) [e] [] cpos) (tM G E (evE G.T F (.bm .join co cs))) :=
  fe_join C.hK ho ha (pe_bm PySem.F.plainAttrs_str PySem.F.slot_str_join PySem.F.type_str_join (mtM_join C.hK) ho ha hbase hfew hline hs hplain)
/-- built-in functions, by their names -/
theorem Ctx0.blt {bl : Blt} {x : Str} {id : String} (hc : CallR X (.builtin id) (RcM G E bl)) (hv : bootBuiltins x = some (.builtin id)) (hm : mg x = none) (hg : isGl sc x = true) (ha : PA X (e :: es) (tMs G E (evEs G.T F cs)))
    (hn : x ≠ "__name__" := by decide) (hdb : (x == ("__debug__" : Str)) = false := by decide) (he : starEach (e :: es) X.env = (false, eval e X.env) :: starEach es X.env := by rfl) (hpl : (backTo pos (starEach es X.env)).any (·.1) = false := by rfl) :
    PE X (.Call (.Name x pp) (e :: es) [] pos) (tM G E (evE G.T F (.blt bl cs))) := fe_blt hc hv (C.m hm) (C.gln hg) ha hn hdb (pe_callB hc (C.gln hg) (C.m hm) hv ha hn hdb he hpl)
theorem Ctx0.bltT {bl : Blt} {x : Str} {id : String} (hc : CallR X (.type id) (RcM G E bl)) (hv : bootBuiltins x = some (.type id)) (hm : mg x = none) (hg : isGl sc x = true) (ha : PA X (e :: es) (tMs G E (evEs G.T F cs)))
    (hn : x ≠ "__name__" := by decide) (hdb : (x == ("__debug__" : Str)) = false := by decide) (he : starEach (e :: es) X.env = (false, eval e X.env) :: starEach es X.env := by rfl) (hpl : (backTo pos (starEach es X.env)).any (·.1) = false := by rfl) :
    PE X (.Call (.Name x pp) (e :: es) [] pos) (tM G E (evE G.T F (.blt bl cs))) := fe_bltT hc hv (C.m hm) (C.gln hg) ha hn hdb (pe_callTy hc (C.gln hg) (C.m hm) hv ha hn hdb he hpl)
theorem Ctx0.isi1 {te : Expr} {t : Ty} {cv : V} {u : Value} (hcv : CvOf G t cv u) (ha : PE X a (tM G E (evE G.T F ca))) (ht : PE X te (tC cv)) (hm : mg "isinstance" = none) (hg : isGl sc "isinstance" = true)
    (h1 : starEach [a, te] X.env = (false, eval a X.env) :: starEach [te] X.env := by rfl) (h2 : starEach [te] X.env = (false, eval te X.env) :: starEach [] X.env := by rfl) (hpl : (backTo pos (starEach [te] X.env)).any (·.1) = false := by rfl) :
    PE X (.Call (.Name "isinstance" pp) [a, te] [] pos) (tM G E (evE G.T F (.blt (.isi [t]) (.cons ca .nil)))) :=
  fe_isi1 C.hK hcv ha ht (C.m hm) (C.gln hg) (pe_callB call_isi (C.gln hg) (C.m hm) bv_isinstance (pa_cons ha (pa_cons ht pa_nil h2) h1) (by decide) (by decide) h1 hpl)
theorem Ctx0.isi2 {te ue : Expr} {t1 t2 : Ty} {c1 c2 : V} {u1 u2 : Value} {tpos : Pos} {kk : Nat} (hc1 : CvOf G t1 c1 u1) (hc2 : CvOf G t2 c2 u2) (ha : PE X a (tM G E (evE G.T F ca))) (ht : PE X te (tC c1)) (hu : PE X ue (tC c2)) (hm : mg "isinstance" = none) (hg : isGl sc "isinstance" = true)
    (h1 : starEach [a, .Tuple [te, ue] kk tpos] X.env = (false, eval a X.env) :: starEach [.Tuple [te, ue] kk tpos] X.env := by rfl) (h2 : starEach [.Tuple [te, ue] kk tpos] X.env = (false, eval (.Tuple [te, ue] kk tpos) X.env) :: starEach [] X.env := by rfl) (hpl : (backTo pos (starEach [.Tuple [te, ue] kk tpos] X.env)).any (·.1) = false := by rfl)
    (h3 : starEach [te, ue] X.env = (false, eval te X.env) :: starEach [ue] X.env := by rfl) (h4 : starEach [ue] X.env = (false, eval ue X.env) :: starEach [] X.env := by rfl) :
    PE X (.Call (.Name "isinstance" pp) [a, .Tuple [te, ue] kk tpos] [] pos) (tM G E (evE G.T F (.blt (.isi [t1, t2]) (.cons ca .nil)))) :=
  fe_isi2 C.hK hc1 hc2 ha ht hu (C.m hm) (C.gln hg) (pe_callB call_isiT (C.gln hg) (C.m hm) bv_isinstance (pa_cons ha (pa_cons (pe_tup (pa_cons ht (pa_cons hu pa_nil h4) h3)) pa_nil h2) h1) (by decide) (by decide) h1 hpl)
include T
omit C in
theorem Ctx.make (C : Ctx G mg nF k F E N sc X) {x : Str} (c f : Nat) (hx : p.cls.lookup c = some x) (hi : G.T.init c = some f) (hnF : nF = p.ids) (hg : isGl sc x = true) (ha : PA X (e :: es) (tMs G E (evEs G.T F cs))) (hdb : (x == ("__debug__" : Str)) = false := by decide) (he : starEach (e :: es) X.env = (false, eval e X.env) :: starEach es X.env := by rfl) (hpl : (backTo pos (starEach es X.env)).any (·.1) = false := by rfl) :
    PE X (.Call (.Name x pp) (e :: es) [] pos) (tM G E (evE G.T F (.make c cs))) :=
  fe_make C.hK (T.cls c x hx) hi (T.mkr c f hi) (C.fc f (hnF ▸ T.initLt c f hi)) C.room C.pass (C.m (T.clm c x hx)) (C.gln hg) ha hdb he hpl
omit C in
theorem Ctx.at (C : Ctx G mg nF k F E N sc X) {x : Str} (f : Nat) (hx : x = G.nm f) (hnF : nF = p.ids) (ho : PE X o (tM G E (evE G.T F co))) (hab : attributeBase o x X.env (eval o X.env) = eval o X.env := by rfl) : PE X (.Attribute o x pos) (tM G E (evE G.T F (.attr f co))) :=
  C.attr f hx (fun c g h => hnF ▸ T.propLt c f g h) ho hab
omit C in
theorem Ctx.mth (C : Ctx G mg nF k F E N sc X) {x : Str} (m : Nat) (hx : x = G.nm m) (hnF : nF = p.ids) (ho : PE X o (tM G E (evE G.T F co))) (ha : PA X (e :: es) (tMs G E (evEs G.T F cs))) {pl : Sem Bool}
    (hst : starEach (e :: es) X.env = (false, eval e X.env) :: starEach es X.env := by rfl) (hpl : (backTo pos (starEach es X.env)).any (·.1) = false := by rfl)
    (ht : eval (.Call (.Attribute o x apos) (e :: es) [] pos) X.env = (do
      let ov ← eval o X.env
      standAt apos.atName
      let (f, first) ← holding [ov] (getMethod ov x pl)
      callWith pos f first (backTo pos (starEach (e :: es) X.env)) (backToKw pos (keywordEach [] X.env))) := by rfl) : PE X (.Call (.Attribute o x apos) (e :: es) [] pos) (tM G E (evE G.T F (.meth m co cs))) :=
  fe_meth hx C.hK (fun c g h => C.fc g (hnF ▸ T.methLt c m g h)) C.rk C.pass ho ha hst hpl ht
omit C in
theorem Ctx.mth0 (C : Ctx G mg nF k F E N sc X) {x : Str} (m : Nat) (hx : x = G.nm m) (hnF : nF = p.ids) (ho : PE X o (tM G E (evE G.T F co))) {pl : Sem Bool}
    (ht : eval (.Call (.Attribute o x apos) [] [] pos) X.env = (do
      let ov ← eval o X.env
      standAt apos.atName
      let (f, first) ← holding [ov] (getMethod ov x pl)
      callWith pos f first (backTo pos (starEach [] X.env)) (backToKw pos (keywordEach [] X.env))) := by rfl) : PE X (.Call (.Attribute o x apos) [] [] pos) (tM G E (evE G.T F (.meth m co .nil))) :=
  fe_meth0 hx C.hK (fun c g h => C.fc g (hnF ▸ T.methLt c m g h)) C.rk C.pass ho ht
omit C in
theorem Ctx.ins (C : Ctx G mg nF k F E N sc X) (hnF : nF = p.ids) (ho : PE X o (tM G E (evE G.T F co))) (ha : PA X (e :: es) (tMs G E (evEs G.T F cs)))
    (ht : eval (.Call o (e :: es) [] pos) X.env = (do callWith pos (← eval o X.env) [] (backTo pos (starEach (e :: es) X.env)) (backToKw pos (keywordEach [] X.env))) := by rfl)
    (he : starEach (e :: es) X.env = (false, eval e X.env) :: starEach es X.env := by rfl) (hpl : (backTo pos (starEach es X.env)).any (·.1) = false := by rfl) : PE X (.Call o (e :: es) [] pos) (tM G E (evE G.T F (.inst co cs))) :=
  C.inst (fun c g h => hnF ▸ T.callLt c g h) ho ha ht he hpl
end
theorem cv_ty {G : Gm} {t : Ty} {n : String} (h : tyName t = some n) : CvOf G t (.ty n) (.type n) := .inl ⟨n, h, rfl, rfl⟩
theorem cv_cls {p : PD} {G : Gm} {mg : Str → Option Value} (T : Facts p G mg) (d : Nat) {x : Str} (h : p.cls.lookup d = some x) : CvOf G (.cls d) (.ref (G.Cl d)) (.ref (G.Cl d)) := .inr ⟨d, rfl, rfl, rfl, T.isi d x h⟩
end SC

namespace SC
open PySem PySem.Spec PyProof.Rows L2
section
variable {G : Gm} {E : XK} {X : Cx} {w : Wd}
/-- a new dict of an exception -/
def Wd.xput (w : Wd) (d : Addr) (o : HO) : Wd := { w with H := upd w.H d o, F := upd w.F d o }
theorem xput_ext {d : Addr} {o : HO} (k : w.Ok G) (hd : w.H d = none) : Ext w (w.xput d o) where
  len := Nat.le_refl _
  phi := fun _ _ => rfl
  mono := fun a o' h => by
    show upd w.F d o a = some o'
    rw [upd_ne (ne_of_none (k.le _ _ h) hd)]; exact h
  frame := fun a o' h _ _ => by
    show upd w.H d o a = some o'
    rw [upd_ne (ne_of_none h hd)]; exact h
  tk := fun a ps h _ => ⟨ps, by
    show upd w.H d o a = _
    rw [upd_ne (ne_of_none h hd)]; exact h⟩
  newF := fun a o' h => by
    by_cases e : a = d
    · rw [e]; exact .inr (.inl hd)
    · have h : upd w.F d o a = some o' := h
      rw [upd_ne e] at h; exact .inl h
  newP := fun n h1 h2 => absurd h2 (Nat.not_lt.mpr h1)
  keep := fun n hn => by
    obtain ⟨o', e⟩ := k.there n hn
    exact ⟨o', by show upd w.H d o _ = _; rw [upd_ne (ne_of_none e hd)]; exact e⟩
theorem xput_ok {d : Addr} {o : HO} (k : w.Ok G) (hd : w.H d = none) : (w.xput d o).Ok G where
  le := fun a o' h => by
    have h : upd w.F d o a = some o' := h
    show upd w.H d o a = some o'
    by_cases e : a = d
    · rw [e, upd_same] at h ⊢; exact h
    · rw [upd_ne e] at h ⊢; exact k.le a o' h
  cell := fun n c h => by
    obtain ⟨o', e, r⟩ := k.cell n c h
    have ne : w.p n ≠ d := ne_of_none e hd
    refine ⟨o', by show upd w.H d o (w.p n) = _; rw [upd_ne ne]; exact e, ?_⟩
    cases c with
    | dead => trivial
    | lst xs => obtain ⟨ws, h1, h2, h3⟩ := r; exact ⟨ws, h1, RepLs.ext (xput_ext k hd) h2, by show upd w.F d o (w.p n) = none; rw [upd_ne ne]; exact h3⟩
    | ins c fs => obtain ⟨dx, fs', h1, h2, h3, h4, h5, h6⟩ := r; exact ⟨dx, fs', h1, h2, RepLs.ext (xput_ext k hd) h3, by show upd w.F d o (w.p n) = none; rw [upd_ne ne]; exact h4, h5, h6⟩
  inj := k.inj
  tabs := fun p hp => by
    have t := k.tabs p hp
    exact t.step (by show upd w.H d o p.1 = _; rw [upd_ne (t.ne hd)]) (fun a o' e => (xput_ext k hd).mono a o' e) t.out (by show upd w.F d o p.1 = none; rw [upd_ne (t.ne hd)]; exact t.free)
theorem fs_raise1 {F : Phi} {c f1 k : Nat} {x : Str} {fI : Addr} {e : Expr} {ce : CE} {p pos kpos pos' : Pos} {nm : Str} (hnm : nm = G.nm f1) (calm : X.calm = true) (tk : Takes X (fun cls d _ H => E cls d H)) (T : Xc1 X (G.Xc c) fI nm) (hr : Room (k + 2) X.A) (hg : Gl X x) (hm : X.mg x = some (.ref (G.Xc c))) (he : PE X e (tM G E (evE G.T F ce)))
    (hdb : (x == ("__debug__" : Str)) = false := by decide)
    (hall : (backToKw pos (keywordEach [⟨some nm, e, kpos⟩] X.env)).all (·.1.isSome) = true := by rfl) (hks : (backToKw pos (keywordEach [⟨some nm, e, kpos⟩] X.env)).filterMap (·.1) = [nm] := by rfl)
    (hpl : ((backTo pos (starEach [] X.env)).any (·.1) || (backToKw pos (keywordEach [⟨some nm, e, kpos⟩] X.env)).any (·.1.isNone)) = false := by rfl) :
    PS X (.Raise (some (.Call (.Name x p) [] [⟨some nm, e, kpos⟩] pos)) none pos') (tMS G E (evS G.T F (.rais c [f1] (.cons ce .nil)))) := by
  refine PS.weaken (ps_raise calm tk (pmk_kw1 T hr hg hm he hdb hall hks hpl)) fun D σ H g => ?_
  obtain ⟨w, r, rfl, ok, re, g⟩ := g
  refine ⟨w, r, rfl, ok, re, ?_⟩
  have e0 : evS G.T F (.rais c [f1] (.cons ce .nil)) r w.h = ((evE G.T F ce r w.h).bind fun x h => .ok [x] h).thenS fun xs h => raisF c [f1] (pures xs) h := by
    rw [evS, evEs]
    cases evE G.T F ce r w.h with
    | ok x h' => simp [evEs]
    | exc c fs h' => rfl
    | bad => rfl
  rw [e0] at g
  cases q : evE G.T F ce r w.h with
  | bad => rw [q] at g; exact g.elim
  | exc c' fs' h' => rw [q] at g; exact g
  | ok y h' =>
    rw [q] at g
    intro w1 ex1 ok1 eh v rv d hd
    subst eh
    cases y with
    | r n => simp [pures, raisF] at g; exact g.elim
    | v y =>
      simp [pures, raisF] at g
      cases rv with
      | v rv =>
        refine g (w1.xput d (.xd [(nm, v)])) (ex1.trans (xput_ext ok1 hd)) (xput_ok ok1 hd) rfl _ _ ⟨rfl, fun z => by simp at z, fun _ => ⟨d, [(nm, v)], rfl, ?_, ?_, ?_⟩⟩
        · show upd w1.F d _ d = _; rw [upd_same]
        · simp [hnm]
        · exact .cons (rv.mono (xput_ext ok1 hd).mono) .nil
theorem fs_raise2 {F : Phi} {c f1 f2 k : Nat} {x : Str} {fI : Addr} {e e2 : Expr} {ce ce2 : CE} {p pos kpos kpos2 pos' : Pos} {nm nm2 : Str} (hnm : nm = G.nm f1) (hnm2 : nm2 = G.nm f2) (calm : X.calm = true) (tk : Takes X (fun cls d _ H => E cls d H)) (T : Xc2 X (G.Xc c) fI nm nm2) (hr : Room (k + 2) X.A) (hg : Gl X x) (hm : X.mg x = some (.ref (G.Xc c))) (he : PE X e (tM G E (evE G.T F ce))) (he2 : PE X e2 (tM G E (evE G.T F ce2)))
    (hdb : (x == ("__debug__" : Str)) = false := by decide)
    (hall : (backToKw pos (keywordEach [⟨some nm, e, kpos⟩, ⟨some nm2, e2, kpos2⟩] X.env)).all (·.1.isSome) = true := by rfl) (hks : (backToKw pos (keywordEach [⟨some nm, e, kpos⟩, ⟨some nm2, e2, kpos2⟩] X.env)).filterMap (·.1) = [nm, nm2] := by rfl)
    (hpl : ((backTo pos (starEach [] X.env)).any (·.1) || (backToKw pos (keywordEach [⟨some nm, e, kpos⟩, ⟨some nm2, e2, kpos2⟩] X.env)).any (·.1.isNone)) = false := by rfl) :
    PS X (.Raise (some (.Call (.Name x p) [] [⟨some nm, e, kpos⟩, ⟨some nm2, e2, kpos2⟩] pos)) none pos') (tMS G E (evS G.T F (.rais c [f1, f2] (.cons ce (.cons ce2 .nil))))) := by
  refine PS.weaken (ps_raise calm tk (pmk_kw2 T hr hg hm he he2 hdb hall hks hpl)) fun D σ H g => ?_
  obtain ⟨w, r, rfl, ok, re, g⟩ := g
  refine ⟨w, r, rfl, ok, re, ?_⟩
  have e0 : evS G.T F (.rais c [f1, f2] (.cons ce (.cons ce2 .nil))) r w.h = ((evE G.T F ce r w.h).bind fun x h => (evE G.T F ce2 r h).bind fun y h => .ok [x, y] h).thenS fun xs h => raisF c [f1, f2] (pures xs) h := by
    rw [evS, evEs]
    cases evE G.T F ce r w.h with
    | ok x h' =>
      simp only [Out.bind]
      rw [evEs]
      cases evE G.T F ce2 r h' with
      | ok y h2 => simp [evEs]
      | exc c fs h' => rfl
      | bad => rfl
    | exc c fs h' => rfl
    | bad => rfl
  rw [e0] at g
  cases q : evE G.T F ce r w.h with
  | bad => rw [q] at g; exact g.elim
  | exc c' fs' h' => rw [q] at g; exact g
  | ok y h' =>
    rw [q] at g
    intro w1 ex1 ok1 eh v rv
    subst eh
    refine ⟨w1, r, rfl, ok1, re.ext ex1, ?_⟩
    simp only [Out.bind] at g
    cases q2 : evE G.T F ce2 r w1.h with
    | bad => rw [q2] at g; exact g.elim
    | exc c' fs' h' => rw [q2] at g; exact fun w2 e2 => g w2 (ex1.trans e2)
    | ok z h2 =>
      rw [q2] at g
      intro w2 ex2 ok2 eh2 v2 rv2 d hd
      subst eh2
      cases y with
      | r n => simp [pures, raisF] at g; exact g.elim
      | v y =>
        cases z with
        | r n => simp [pures, raisF] at g; exact g.elim
        | v z =>
          simp [pures, raisF] at g
          have rv' := rv.ext ex2
          cases rv' with
          | v rv' =>
            cases rv2 with
            | v rv2 =>
              refine g (w2.xput d (.xd [(nm, v), (nm2, v2)])) ((ex1.trans ex2).trans (xput_ext ok2 hd)) (xput_ok ok2 hd) rfl _ _ ⟨rfl, fun z => by simp at z, fun _ => ⟨d, [(nm, v), (nm2, v2)], rfl, ?_, ?_, ?_⟩⟩
              · show upd w2.F d _ d = _; rw [upd_same]
              · simp [hnm, hnm2]
              · exact .cons (rv'.mono (xput_ext ok2 hd).mono) (.cons (rv2.mono (xput_ext ok2 hd).mono) .nil)
/-- raise X('text') -/
theorem fs_raise0 {F : Phi} {c : Nat} {x m : Str} {j : Nat} {p p2 pos pos' : Pos} (calm : X.calm = true) (tk : Takes X (fun cls d _ H => E cls d H)) (q : PySem.W.excIn X.K (G.Xc c) HandSPX.veTail "ValueError.__new__" = true) (gC : X.mg x = some (.ref (G.Xc c))) (kC : PySem.W.keepIn X.K (.ref (G.Xc c)) = true) (r : Raises X (.ref (G.Xc c))) (hg : Gl X x)
    (hdb : (x == ("__debug__" : Str)) = false := by decide) :
    PS X (.Raise (some (.Call (.Name x p) [.Constant (.str m) j p2] [] pos)) none pos') (tMS G E (evS G.T F (.rais c [] .nil))) := by
  refine PS.weaken (ps_raise calm tk (pmk_own PySem.F.excBase_ValueError q gC kC r hg hdb)) fun D σ H g => ?_
  obtain ⟨w, r, rfl, ok, re, g⟩ := g
  have e0 : evS G.T F (.rais c [] .nil) r w.h = .exc c [] w.h := by
    rw [evS, evEs]; rfl
  rw [e0] at g
  exact g w (Ext.refl ok) ok rfl _ _ ⟨rfl, fun _ => rfl, fun z => absurd rfl z⟩
end
end SC

namespace SC
open PySem PySem.Spec PyProof.Rows L2
/-- the text of an __init__ of one field -/
structure Xt1 (prog : Program) (st : Stmt) (f1 : Str) : Prop where
  body : ∃ s0 s1, defBody st = [s0, s1] ∧ ExK.SupS s0 ∧ ExK.FldS f1 s1
  head : ∃ ar, ((defArgs st).posonlyargs ++ (defArgs st).args).head? = some ar ∧ ar.arg = "self"
  kind : (defScope st).kind = .function
  ks : (defScope st).names.lookup ("super" : Str) = some .globalImplicit
  kc : (defScope st).names.lookup ("__class__" : Str) = some .free
  ka : (defScope st).names.lookup ("self" : Str) = some .local
  kf : (defScope st).names.lookup f1 = some .local
  cel : ∀ x ∈ (defScope st).names, x.2 ≠ .cell
  co : (defScope st).isCoroutine = false
  gen : (defScope st).isGenerator = false
  bind : ∀ (fd : FuncData), fd.params = defArgs st → fd.defaults = .none → ∀ (s : Shared) (x v : Value), BindsTo s fd ⟨[x], [(f1, v)]⟩ [(Str.ofString "self", x), (f1, v)]
  ne : f1 ≠ Str.ofString "self"
  db : (f1 == ("__debug__" : Str)) = false
  top : (prog.main.scope.names.lookup ("super" : Str)).isSome = false
structure Xt2 (prog : Program) (st : Stmt) (f1 f2 : Str) : Prop where
  body : ∃ s0 s1 s2, defBody st = [s0, s1, s2] ∧ ExK.SupS s0 ∧ ExK.FldS f1 s1 ∧ ExK.FldS f2 s2
  head : ∃ ar, ((defArgs st).posonlyargs ++ (defArgs st).args).head? = some ar ∧ ar.arg = "self"
  kind : (defScope st).kind = .function
  ks : (defScope st).names.lookup ("super" : Str) = some .globalImplicit
  kc : (defScope st).names.lookup ("__class__" : Str) = some .free
  ka : (defScope st).names.lookup ("self" : Str) = some .local
  kf : (defScope st).names.lookup f1 = some .local
  kf2 : (defScope st).names.lookup f2 = some .local
  cel : ∀ x ∈ (defScope st).names, x.2 ≠ .cell
  co : (defScope st).isCoroutine = false
  gen : (defScope st).isGenerator = false
  bind : ∀ (fd : FuncData), fd.params = defArgs st → fd.defaults = .none → ∀ (s : Shared) (x v v2 : Value), BindsTo s fd ⟨[x], [(f1, v), (f2, v2)]⟩ [(Str.ofString "self", x), (f1, v), (f2, v2)]
  ne : f1 ≠ Str.ofString "self"
  ne2 : f2 ≠ Str.ofString "self"
  n12 : f1 ≠ f2
  db : (f1 == ("__debug__" : Str)) = false
  db2 : (f2 == ("__debug__" : Str)) = false
  top : (prog.main.scope.names.lookup ("super" : Str)).isSome = false
section
variable {p : PD} {G : Gm} {mg : Str → Option Value} {nF : List Nat} {k : Nat} {F : Phi} {E : XK} {N : List Str} {sc : Scope} {X : Cx} (C : Ctx G mg nF k F E N sc X) (T : Facts p G mg)
theorem Facts.ex0 (T : Facts p G mg) {c : Nat} {d : Xd} (hd : p.excs.lookup c = some d) : PySem.W.keepIn G.K (.ref (G.Xc c)) = true ∧ PySem.W.subIn G.K (.ref (G.Xc c)) (.type "BaseException") = some true ∧ PySem.W.typeIn G.K (.ref (G.Xc c)) = some (.type "type") ∧ mg d.name = some (.ref (G.Xc c)) := by
  obtain ⟨z, _, hm, gx⟩ := T.exc c d hd
  unfold excB at z
  obtain ⟨_, z⟩ := He.ba z
  obtain ⟨z1, z⟩ := He.ba z
  obtain ⟨z2, z⟩ := He.ba z
  obtain ⟨z3, z⟩ := He.ba z
  rw [← gx] at z1 z2 z3
  exact ⟨z1, of_decide_eq_true z2, of_decide_eq_true z3, hm⟩
/-- the facts of a class with fields -/
structure ExF (p : PD) (G : Gm) (C : Addr) (d : Xd) : Prop where
  D : ExK.ClsK G.K C
  xf : L2.XfC G.K C
  self : PySem.W.subIn G.K (.ref C) (.ref C) = some true
  sa : PySem.W.findIn G.K (.ref C) "__setattr__" = some (some (.builtin "object.__setattr__"))
  no : ∀ f ∈ d.flds, PySem.W.findIn G.K (.ref C) (G.nm f) = some none
  iC : PySem.W.findIn G.K (.ref C) "__init__" = some (some (.ref (He.ma G.K C "__init__")))
  tI : PySem.W.typeIn G.K (.ref (He.ma G.K C "__init__")) = some (.type "function")
  ib : ExK.iniB G.K C (He.ma G.K C "__init__") p.prog.main.file = true
  iv : ExK.iniV G.K (He.ma G.K C "__init__") = some (defArgs d.st, .stmts (defBody d.st), defScope d.st, mainGlobals, .none, builtinsNs)
theorem Facts.exF (T : Facts p G mg) {c : Nat} {d : Xd} (hd : p.excs.lookup c = some d) (hne : d.flds ≠ []) : ExF p G (G.Xc c) d := by
  obtain ⟨z, hv, hm, gx⟩ := T.exc c d hd
  unfold excB at z
  unfold xinV xinW at hv
  rw [gx]
  obtain ⟨nm, flds, st⟩ := d
  cases flds with
  | nil => exact absurd rfl hne
  | cons f fs =>
    dsimp only at z hv
    obtain ⟨_, z⟩ := He.ba z
    obtain ⟨_, z⟩ := He.ba z
    obtain ⟨_, z⟩ := He.ba z
    obtain ⟨_, z⟩ := He.ba z
    obtain ⟨z1, z⟩ := He.ba z
    obtain ⟨z2, z⟩ := He.ba z
    obtain ⟨z3, z⟩ := He.ba z
    obtain ⟨z4, z⟩ := He.ba z
    obtain ⟨z5, z⟩ := He.ba z
    obtain ⟨z6, z⟩ := He.ba z
    obtain ⟨z7, z8⟩ := He.ba z
    refine ⟨ExK.clsKB_ok z1, L2.xfB_ok z2, of_decide_eq_true z3, He.eqO_ok z4, fun g hg => ?_, He.eqO_ok z6, of_decide_eq_true z7, z8, hv⟩
    rw [← T.nmE]
    exact He.eqO_ok (List.all_eq_true.mp z5 g hg)
include C T
theorem Ctx.xc1 (tk : Tk G k E X) {c f1 : Nat} {d : Xd} (hd : p.excs.lookup c = some d) (hf : d.flds = [f1]) (S : Xt1 p.prog d.st (G.nm f1)) (hsup : mg "super" = none) : ∃ fI, Xc1 X (G.Xc c) fI (G.nm f1) := by
  obtain ⟨e1, e2, e3, e4⟩ := T.ex0 hd
  have e := T.exF hd (by rw [hf]; simp)
  obtain ⟨s0, s1, hb, S0, S1⟩ := S.body
  have hpr : X.prog = p.prog := tk.hP.trans T.prg
  obtain ⟨cc, cda, fd, I, i1, i2, i3, i4, i5⟩ := ExK.iniK_of (prog := X.prog) e.ib e.iv (by rw [hpr]; exact beq_self_eq_true _) (by rw [hpr]; exact S.top) S.head S.kind S.ks S.kc S.ka
  have hK := C.hK
  refine ⟨He.ma G.K (G.Xc c) "__init__", ?_⟩
  refine ⟨hK ▸ e.D, hK ▸ e.sa, hK ▸ e.no f1 (by rw [hf]; simp), hK ▸ e1, hK ▸ e.iC, hK ▸ e.tI, hK ▸ e2, hK ▸ e3, ?_, S.ne, S.db, by rw [C.hmg]; exact hsup⟩
  refine ⟨cc, cda, fd, s0, s1, hK ▸ I, S0, S1, by rw [i2, hb], by rw [i3]; exact S.kf, by rw [i3]; exact S.cel, by rw [i3]; exact S.co, by rw [i3]; exact S.gen, hK ▸ i5, fun s x v => S.bind fd i1 i4 s x v⟩
theorem Ctx.xc2 (tk : Tk G k E X) {c f1 f2 : Nat} {d : Xd} (hd : p.excs.lookup c = some d) (hf : d.flds = [f1, f2]) (S : Xt2 p.prog d.st (G.nm f1) (G.nm f2)) (hsup : mg "super" = none) : ∃ fI, Xc2 X (G.Xc c) fI (G.nm f1) (G.nm f2) := by
  obtain ⟨e1, e2, e3, e4⟩ := T.ex0 hd
  have e := T.exF hd (by rw [hf]; simp)
  obtain ⟨s0, s1, s2, hb, S0, S1, S2⟩ := S.body
  have hpr : X.prog = p.prog := tk.hP.trans T.prg
  obtain ⟨cc, cda, fd, I, i1, i2, i3, i4, i5⟩ := ExK.iniK_of (prog := X.prog) e.ib e.iv (by rw [hpr]; exact beq_self_eq_true _) (by rw [hpr]; exact S.top) S.head S.kind S.ks S.kc S.ka
  have hK := C.hK
  refine ⟨He.ma G.K (G.Xc c) "__init__", ?_⟩
  refine ⟨hK ▸ e.D, hK ▸ e.sa, hK ▸ e.no f1 (by rw [hf]; simp), hK ▸ e.no f2 (by rw [hf]; simp), hK ▸ e1, hK ▸ e.iC, hK ▸ e.tI, hK ▸ e2, hK ▸ e3, ?_, S.ne, S.ne2, S.n12, S.db, S.db2, by rw [C.hmg]; exact hsup⟩
  refine ⟨cc, cda, fd, s0, s1, s2, hK ▸ I, S0, S1, S2, by rw [i2, hb], by rw [i3]; exact S.kf, by rw [i3]; exact S.kf2, by rw [i3]; exact S.cel, by rw [i3]; exact S.co, by rw [i3]; exact S.gen, hK ▸ i5, fun s x v v2 => S.bind fd i1 i4 s x v v2⟩
theorem Ctx.rais0 (tk : Tk G k E X) (c : Nat) {d : Xd} {x m : Str} {j : Nat} {pp p2 pos pos' : Pos} (hd : p.excs.lookup c = some d) (hf : d.flds = []) (hx : d.name = x) (hg : isGl sc x = true) (hdb : (x == ("__debug__" : Str)) = false := by decide) :
    PS X (.Raise (some (.Call (.Name x pp) [.Constant (.str m) j p2] [] pos)) none pos') (tMS G E (evS G.T F (.rais c [] .nil))) := by
  obtain ⟨e1, e2, e3, e4⟩ := T.ex0 hd
  obtain ⟨z, _, _, gx⟩ := T.exc c d hd
  have hK := C.hK
  subst hx
  refine fs_raise0 C.calm tk.tk ?_ (by rw [C.hmg]; exact e4) (hK ▸ e1) (raises_own (hK ▸ e2) (hK ▸ e3)) (C.gln hg) hdb
  rw [hK, gx]
  unfold excB at z
  rw [hf] at z
  obtain ⟨_, z⟩ := He.ba z
  obtain ⟨_, z⟩ := He.ba z
  obtain ⟨_, z⟩ := He.ba z
  obtain ⟨_, z⟩ := He.ba z
  exact z
theorem Ctx.rais1 (tk : Tk G k E X) (c f1 : Nat) {d : Xd} {x nm : Str} {e : Expr} {ce : CE} {pp pos kpos pos' : Pos} (hd : p.excs.lookup c = some d) (hf : d.flds = [f1]) (hx : d.name = x) (hnm : nm = G.nm f1) (S : Xt1 p.prog d.st (G.nm f1)) (hsup : mg "super" = none) (hg : isGl sc x = true) (he : PE X e (tM G E (evE G.T F ce)))
    (hdb : (x == ("__debug__" : Str)) = false := by decide)
    (hall : (backToKw pos (keywordEach [⟨some nm, e, kpos⟩] X.env)).all (·.1.isSome) = true := by rfl) (hks : (backToKw pos (keywordEach [⟨some nm, e, kpos⟩] X.env)).filterMap (·.1) = [nm] := by rfl)
    (hpl : ((backTo pos (starEach [] X.env)).any (·.1) || (backToKw pos (keywordEach [⟨some nm, e, kpos⟩] X.env)).any (·.1.isNone)) = false := by rfl) :
    PS X (.Raise (some (.Call (.Name x pp) [] [⟨some nm, e, kpos⟩] pos)) none pos') (tMS G E (evS G.T F (.rais c [f1] (.cons ce .nil)))) := by
  obtain ⟨fI, Y⟩ := C.xc1 T tk hd hf S hsup
  obtain ⟨_, _, _, e4⟩ := T.ex0 hd
  obtain ⟨j, rfl⟩ := tk.hk
  subst hx
  subst hnm
  exact fs_raise1 (k := j) rfl C.calm tk.tk Y C.room (C.gln hg) (by rw [C.hmg]; exact e4) he hdb hall hks hpl
theorem Ctx.rais2 (tk : Tk G k E X) (c f1 f2 : Nat) {d : Xd} {x nm nm2 : Str} {e e2 : Expr} {ce ce2 : CE} {pp pos kpos kpos2 pos' : Pos} (hd : p.excs.lookup c = some d) (hf : d.flds = [f1, f2]) (hx : d.name = x) (hnm : nm = G.nm f1) (hnm2 : nm2 = G.nm f2) (S : Xt2 p.prog d.st (G.nm f1) (G.nm f2)) (hsup : mg "super" = none) (hg : isGl sc x = true) (he : PE X e (tM G E (evE G.T F ce))) (he2 : PE X e2 (tM G E (evE G.T F ce2)))
    (hdb : (x == ("__debug__" : Str)) = false := by decide)
    (hall : (backToKw pos (keywordEach [⟨some nm, e, kpos⟩, ⟨some nm2, e2, kpos2⟩] X.env)).all (·.1.isSome) = true := by rfl) (hks : (backToKw pos (keywordEach [⟨some nm, e, kpos⟩, ⟨some nm2, e2, kpos2⟩] X.env)).filterMap (·.1) = [nm, nm2] := by rfl)
    (hpl : ((backTo pos (starEach [] X.env)).any (·.1) || (backToKw pos (keywordEach [⟨some nm, e, kpos⟩, ⟨some nm2, e2, kpos2⟩] X.env)).any (·.1.isNone)) = false := by rfl) :
    PS X (.Raise (some (.Call (.Name x pp) [] [⟨some nm, e, kpos⟩, ⟨some nm2, e2, kpos2⟩] pos)) none pos') (tMS G E (evS G.T F (.rais c [f1, f2] (.cons ce (.cons ce2 .nil))))) := by
  obtain ⟨fI, Y⟩ := C.xc2 T tk hd hf S hsup
  obtain ⟨_, _, _, e4⟩ := T.ex0 hd
  obtain ⟨j, rfl⟩ := tk.hk
  subst hx
  subst hnm
  subst hnm2
  exact fs_raise2 (k := j) rfl rfl C.calm tk.tk Y C.room (C.gln hg) (by rw [C.hmg]; exact e4) he he2 hdb hall hks hpl
omit T in
theorem Ctx.toTry {pn : List (Addr × Obj)} {xe : Value → Shared → Prop} {E' : XK} (t : Takes (X.tr pn xe) (fun cls d _ H => E' cls d H)) (po : PassesOwn (model X.prog X.w) X.A X.env xe) : Ctx G mg nF k F E' N sc (X.tr pn xe) :=
  { hK := C.hK, hmg := C.hmg, hN := C.hN, nd := C.nd, units := C.units, calm := C.calm, room := C.room, pass := passes_call t (fun _ _ _ _ z => z), own := po, fc := C.fc, kind := C.kind, vis := C.vis, gl := C.gl, fre := C.fre, loc := C.loc, cel := C.cel }
/-- try: body, except x as n: return n.f -/
theorem Ctx.try1 (tk : Tk G k E X) (c g i : Nat) {d : Xd} {x n f : Str} {body : List Stmt} {cb : CSs} {np pos pos' p1 p2 p3 : Pos} (hd : p.excs.lookup c = some d) (hf : d.flds = [g]) (hx : d.name = x) (hfn : f = G.nm g) (hi : N[i]? = some n) (hln : sc.names.lookup n = some .local) (hg : isGl sc x = true)
    (hb : ∀ (E' : XK) (X' : Cx), Ctx G mg nF k F E' N sc X' → Tk G k E' X' → PSs X' body (tMS G E' (evSs G.T F cb)))
    (hdb : (x == ("__debug__" : Str)) = false := by decide) (hn1 : (n == ("__debug__" : Str)) = false := by decide) (hn2 : (n == ("__classdict__" : Str)) = false := by decide) (hab : attributeBase (.Name n p1) f X.env (eval (.Name n p1) X.env) = eval (.Name n p1) X.env := by rfl) :
    PS X (.Try body [.ExceptHandler (some (.Name x np)) (some n) [.Return (some (.Attribute (.Name n p1) f p2)) p3] pos'] [] [] pos) (tMS G E (evS G.T F (.tryR c [g] cb))) := by
  obtain ⟨_, e2, e3, e4⟩ := T.ex0 hd
  have e := T.exF hd (by rw [hf]; simp)
  have hK := C.hK
  have ex : PySem.W.exmOne X.K (.ref (G.Xc c)) (.ref (G.Xc c)) = some true := by
    rw [hK]; exact PySem.W.exm_ref e2 e.xf.hdC e3 e.self
  subst hx
  have hN : X.N[i]? = some n := by rw [C.hN]; exact hi
  have lo : X.env.scope.names.lookup n = some .local := C.loc n hln
  have T2 := ps_try_as (X := X) (c := .ref (G.Xc c)) (i := i) (np := np) (pos := pos) (pos' := pos') (suite := []) (Wout := fun cls d _ H => E cls d H)
    (tb := fun W => tMS G (fun cls d H => ∀ σ : L2.St, σ.length = N.length → W cls d σ H) (evSs G.T F cb))
    tk.hs tk.hf (by rw [C.hN]; exact C.nd) hN lo ⟨C.gln hg, hdb, .inl (by rw [C.hmg]; exact e4)⟩ tk.tk
    (fun W pn xe t po => by
      have t2 : Takes (X.tr pn xe) (fun cls d _ H => ∀ σ : L2.St, σ.length = N.length → W cls d σ H) := fun u s' ⟨a, B, sI, pins, σ, H, cls, d, e, I, nb, up, sky, na, os, ag, w⟩ =>
        t u s' ⟨a, B, sI, pins, σ, H, cls, d, e, I, nb, up, sky, na, os, ag, w σ (by have := I.len; rw [← C.hN]; exact this)⟩
      exact hb _ _ (C.toTry t2 po) ⟨t2, tk.hs, tk.hf, tk.hP, tk.hk⟩)
    (fun a oe cls d pn hz hv => pss_one (ps_ret (pos := p3) (pe_xf (pos := p2) (X := X) (C := G.Xc c) (n := f) (e := .Name n p1) (hK ▸ e.xf) (by rw [hK, hfn]; exact e.no g (by rw [hf]; simp)) hz hv (pe_var (i := i) hN (.inl lo) hn1 hn2) hab)))
  refine PS.weaken T2 fun D σ H g1 => ?_
  obtain ⟨w, r, rfl, ok, re, g1⟩ := g1
  refine ⟨w, r, rfl, ok, re, ?_⟩
  rw [evS] at g1
  cases q : evSs G.T F cb r w.h with
  | exc c' fs h' =>
    rw [q] at g1
    intro w2 ex2 ok2 eh cls dd xr σ2 hl
    subst eh
    simp only [tryF] at g1
    split at g1
    · rename_i hc
      obtain ⟨rfl, hfs⟩ := hc
      obtain ⟨hcls, _, h3⟩ := xr
      match fs, hfs with
      | [(g', v)], hfs =>
        have : g' = g := by simpa using hfs
        subst this
        obtain ⟨da, fs', rfl, hda, hn, hr⟩ := h3 (by simp)
        subst hcls
        simp only [List.map] at g1 hn hr
        match fs', hn, hr with
        | [(nm1, v1)], hn, hr =>
          have hn' : nm1 = G.nm g' := by simpa using hn
          subst hn'
          cases hr with
          | cons hr _ =>
            refine ⟨true, ex, fun _ a ha => ?_, fun z => by cases z⟩
            refine ⟨.ref a, ?_, rfl, rfl, da, [(G.nm g', v1)], v1, rfl, ok2.le _ _ hda, by simp [hfn], ?_⟩
            · have hlt : i < σ2.length := by rw [hl]; exact (List.getElem?_eq_some_iff.mp hi).1
              exact List.getElem?_set_self hlt
            · exact g1 w2 ex2 ok2 rfl v1 (.v hr)
    · exact g1.elim
  | nxt r' h' => rw [q] at g1; exact g1
  | brk r' h' => rw [q] at g1; exact g1
  | cnt r' h' => rw [q] at g1; exact g1
  | ret x h' => rw [q] at g1; exact g1
  | bad => rw [q] at g1; exact g1
omit C T in
theorem Ctx0.gTup (C : Ctx0 G mg nF k F E N sc X) {x : Str} {l : List Str} (h : ∃ a, mg x = some (.ref a) ∧ ∀ F, RepV G F (.tup (l.map .str)) (.ref a)) (hg : isGl sc x = true) (pos : Pos) (hd : (x == ("__debug__" : Str)) = false := by decide) : PE X (.Name x pos) (tM G E (evE G.T F (.cst (.tup (l.map .str))))) := by
  obtain ⟨a, h1, h2⟩ := h
  exact C.cst (v := .ref a) h1 rfl h2 hg pos hd
end
end SC

namespace SC
open PySem PySem.Spec PyProof.Rows L2
section
variable {G : Gm} {E : XK} {X : Cx} {F : Phi}
theorem repVs_rep {F : Hp} {xs : List MV} {ws : List V} (r : RepVs G F xs ws) : ∀ n : Nat, RepVs G F (List.replicate n xs).flatten (List.replicate n ws).flatten
  | 0 => .nil
  | n + 1 => by
    rw [List.replicate_succ, List.replicate_succ, List.flatten_cons, List.flatten_cons]
    exact r.append (repVs_rep r n)
theorem opM_rep : OpR X (binaryOp .Mult) (R2M G E (binF .rep)) := by
  intro pins s σ H x y v u Q I rx ry ⟨w, a, b, hH, ok, ra, rb, g⟩
  subst hH
  unfold binF repF at g
  dsimp only at g
  split at g
  · rename_i xs k h1
    split at g
    · rename_i hz
      obtain ⟨ls, e1, e2⟩ := Option.bind_eq_some_iff.mp h1
      obtain ⟨p, ws, rfl, hp, r1⟩ := lstOf_rep ok ra e1
      have rv := r1.pure e2
      have l1 := rv.length
      cases rb with
      | v rb =>
        cases rb
        refine op_rep pins s σ _ _ _ v u Q I rx ry ⟨p, k, ws, rfl, rfl, hp, hz.1, hz.2.1, by rw [← l1]; exact hz.2.2, fun n hn => ?_⟩
        exact g (w.lay n _) (w.lay_ext ok hn) (w.lay_ok ok hn) rfl _ (.v (.lst upd_same ((repVs_rep rv k.toNat).mono (w.lay_ext (G := G) ok hn).mono)))
    · exact g.elim
  · exact g.elim
theorem mtM_split : MtR X "str.split" (RmM G E .split) := by
  intro pins s σ H x xs v us Q I rx rs ⟨w, l, ls, hH, ok, rl, rls, g⟩
  obtain ⟨z, rfl, g1⟩ := un1_of (f := splitF l) g
  clear g
  obtain ⟨u, rfl, ru⟩ := rep1 rls
  subst hH
  unfold splitF at g1
  split at g1
  · rename_i a b
    split at g1
    · rename_i hz
      cases rl with
      | v rl =>
        cases rl
        cases ru with
        | v ru =>
          cases ru
          refine mt_split pins s σ _ _ _ v us Q I rx rs ⟨a, b, rfl, rfl, hz.1, hz.2, fun n hn => ?_⟩
          exact g1 (w.lay n _) (w.lay_ext ok hn) (w.lay_ok ok hn) rfl _ (.v (.lst upd_same (repStrs _)))
    · exact g1.elim
  · exact g1.elim
theorem fe_split {o e : Expr} {es : List Expr} {co : CE} {cs : CEs} {apos cpos : Pos} (hK : X.K = G.K) (ho : PE X o (tM G E (evE G.T F co))) (ha : PA X (e :: es) (tMs G E (evEs G.T F cs)))
    (h : PE X (.Call (.Attribute o "split" apos) (e :: es) [] cpos) (tBM X.K "str" (RmM G E .split) (tM G E (evE G.T F co)) (tMs G E (evEs G.T F cs)))) :
    PE X (.Call (.Attribute o "split" apos) (e :: es) [] cpos) (tM G E (evE G.T F (.bm .split co cs))) := by
  refine PE.weaken h fun σ H Q hq => ?_
  obtain ⟨w, r, hH, ok, re, g⟩ := bm_reads hq
  refine ⟨w, r, hH, ok, re, g.mono fun x H1 ⟨w1, r1, l, hH1, k1, re1, rl, hrc, g1⟩ => ?_⟩
  subst hH1
  have ty : tyV X.K "str" x w1.H := by
    unfold recvOk at hrc
    dsimp only at hrc
    split at hrc
    · cases rl with | v rl => cases rl; rfl
    · cases hrc
  refine ⟨ty, w1, r1, rfl, k1, re1, (Good.bind (R1 := RepLs G) g1).mono fun vs H2 ⟨w2, ls, e2, k2, hH2, rls, _, g2⟩ => ?_⟩
  exact ⟨w2, l, ls, hH2, k2, rl.ext e2, rls, g2⟩
theorem aux_pair {w2 : Wd} {T : Addr} {x y : MV} {u v : V} (k2 : w2.Ok G) (hT : w2.H T = none) (ru : RepV G w2.F x u) (rv : RepV G w2.F y v) : ∃ w3, Ext w2 w3 ∧ w3.Ok G ∧ w3.h = w2.h ∧ w3.H = upd w2.H T (.tup [u, v]) ∧ RepI G w3 (.v (.tup [x, y])) (.ref T) :=
  ⟨w2.aux T (.tup [u, v]), w2.aux_ext k2 hT, w2.aux_ok k2 hT, rfl, rfl, .tup (.inl (.inl upd_same)) (.cons ru (.cons rv .nil))⟩
/-- for x, y in zip(a, b) -/
theorem fi_zip {a b : Expr} {ca cb : CE} {p pos tpos : Pos} {elts : List Expr} {kk : Nat} (ha : PE X a (tM G E (evE G.T F ca))) (hb : PE X b (tM G E (evE G.T F cb))) (hK : X.K = G.K) (hm : X.mg "zip" = none) (hg : Gl X "zip")
    (hs : starEach [a, b] X.env = (false, eval a X.env) :: starEach [b] X.env := by rfl) (hs2 : starEach [b] X.env = [(false, eval b X.env)] := by rfl) (hpl : (backTo pos (starEach [b] X.env)).any (·.1) = false := by rfl) :
    PI X (.Tuple elts kk tpos) (.Call (.Name "zip" p) [a, b] [] pos) (tIM G E (RepI G) (evI G.T F (.zip ca cb))) := by
  refine ⟨fun pins s σ H R I h => ?_⟩
  obtain ⟨w, r, hH, ok, re, g⟩ := h
  simp only [evI] at g
  have pa : PA X [a, b] (tCons (tM G E (evE G.T F ca)) (tCons (tM G E (evE G.T F cb)) tNil)) := pa_cons ha (pa_cons hb pa_nil hs2) hs
  refine (pi_zip hg hm pa hs hpl).run pins s σ H R I ⟨w, r, hH, ok, re, ?_⟩
  cases q : evE G.T F ca r w.h with
  | bad => simp only [q, Out.bind] at g; exact g.elim
  | exc d fs h' => simp only [q, Out.bind] at g; exact g
  | ok l h' =>
    simp only [q, Out.bind] at g
    intro w1 e1 k1 eh v rv
    subst eh
    refine ⟨w1, r, rfl, k1, re.ext e1, ?_⟩
    cases q2 : evE G.T F cb r w1.h with
    | bad => simp only [q2] at g; exact g.elim
    | exc d fs h' => simp only [q2] at g; exact fun w2 e2 => g w2 (e1.trans e2)
    | ok m h' =>
      simp only [q2] at g
      intro w2 e2 k2 eh v2 rv2
      subst eh
      unfold itZip at g
      split at g
      · rename_i I2 hI
        split at hI
        · rename_i xs ys
          cases hI
          have rv' := rv.ext e2
          cases rv' with
          | v rv' =>
            cases rv2 with
            | v rv2 =>
              cases rv' with
              | @lst a1 _ ws h1 r1 =>
                cases rv2 with
                | @lst a2 _ zs h2 r2 =>
                  refine ⟨a1, a2, ws, zs, rfl, .inl (.inl (k2.le _ _ h1)), .inl (.inl (k2.le _ _ h2)), hK ▸ g w2 (e1.trans e2) k2 rfl (Itz G.K a1 a2) fun w3 e3 k3 _ i => ?_⟩
                  have hq1 : SqL G.K w3.H a1 ws := .inl (.inl (k3.le _ _ (e3.mono _ _ h1)))
                  have hq2 : SqL G.K w3.H a2 zs := .inl (.inl (k3.le _ _ (e3.mono _ _ h2)))
                  have rr1 := r1.mono e3.mono
                  have rr2 := r2.mono e3.mono
                  refine ⟨fun hi => ⟨ws, zs, hq1, hq2, ?_⟩, fun y hy => ?_⟩
                  · have hlen := List.getElem?_eq_none_iff.mp hi
                    rw [List.length_zipWith] at hlen
                    rw [← rr1.length, ← rr2.length]
                    omega
                  · obtain ⟨x1, y1, hx1, hy1, rfl⟩ := List.getElem?_zipWith_eq_some.mp hy
                    obtain ⟨u1, hu1, ru1⟩ := rr1.get hx1
                    obtain ⟨u2, hu2, ru2⟩ := rr2.get hy1
                    refine ⟨⟨ws, zs, u1, u2, hq1, hq2, hu1, hu2⟩, fun v H' hv => ?_⟩
                    obtain ⟨T, x, y, rfl, hT, rfl, hx, hy2⟩ := hv
                    have z1 := hx ws hq1
                    have z2 := hy2 zs hq2
                    rw [hu1] at z1
                    rw [hu2] at z2
                    cases z1
                    cases z2
                    exact aux_pair k3 hT ru1 ru2
        · cases hI
      · exact g.elim
end
section
variable {p : PD} {G : Gm} {mg : Str → Option Value} {nF : List Nat} {k : Nat} {F : Phi} {E : XK} {N : List Str} {sc : Scope} {X : Cx} (C : Ctx0 G mg nF k F E N sc X) {a b e o : Expr} {ca cb ce co : CE} {cs : CEs} {pos apos cpos : Pos}
include C
theorem Ctx0.rep (ha : PE X a (tM G E (evE G.T F ca))) (hb : PE X b (tM G E (evE G.T F cb))) : PE X (.BinOp a .Mult b pos) (tM G E (evE G.T F (.bin .rep ca cb))) := fe_op opM_rep ha hb
theorem Ctx0.split (ho : PE X o (tM G E (evE G.T F co))) (ha : PA X [e] (tMs G E (evEs G.T F cs))) (hbase : attributeBase o "split" X.env (eval o X.env) = eval o X.env := by rfl)
    (hfew : ((backTo cpos (starEach [e] X.env)).all (fun x => !x.1) && (backToKw cpos (keywordEach [] X.env)).all (fun x => x.1.isSome)
      && decide ([e].length + ([] : List Keyword).length + (if ([] : List Keyword).isEmpty then 0 else 1) < 30)) = true := by rfl)
    (hline : (apos.endLine == cpos.line) = true := by rfl) (hs : starEach [e] X.env = (false, eval e X.env) :: starEach [] X.env := by rfl) (hplain : (backTo cpos (starEach [] X.env)).any (·.1) = false := by rfl) : PE X (.Call (.Attribute o "split" apos) [e] [] cpos) (tM G E (evE G.T F (.bm .split co cs))) :=
  fe_split C.hK ho ha (pe_bm PySem.F.plainAttrs_str PySem.F.slot_str_split PySem.F.type_str_split mtM_split ho ha hbase hfew hline hs hplain)
end
end SC
namespace SC
open PySem PySem.Spec PyProof.Rows L2
theorem sw_cell2 {x y : Str} {px py pt pt2 : Pos} {kt k2 : Nat} {a b : Expr} {env : Env} (h : env.kindOf x ≠ some .local ∨ env.kindOf y ≠ some .local) :
    swappedStores [.Tuple [.Name x px, .Name y py] kt pt] (.Tuple [a, b] k2 pt2) env = pure none := by
  have n1 : ∀ q : Option NameKind, q ≠ some .local → (q == some .local) = false := fun q hq => by simpa using hq
  unfold swappedStores
  rcases h with h | h
  · by_cases hy : (env.kindOf y == some .local && py.line == px.line) = true
    · simp [List.filterMap, n1 _ h, Expr.pos, hy]
    · have hy' : (env.kindOf y == some .local && py.line == px.line) = false := by simpa using hy
      simp only [Bool.not_eq_true] at hy
      simp [List.filterMap, n1 _ h, Expr.pos, hy']
  · by_cases hx : (env.kindOf x == some .local && px.line == px.line) = true
    · have hx' : (env.kindOf x == some .local) = true := by simpa using hx
      simp [List.filterMap, n1 _ h, Expr.pos, hx']
    · have hx' : (env.kindOf x == some .local) = false := by simpa using hx
      simp [List.filterMap, n1 _ h, Expr.pos, hx']
section
variable {p : PD} {G : Gm} {mg : Str → Option Value} {nF : List Nat} {k : Nat} {F : Phi} {E : XK} {N : List Str} {sc : Scope} {X : Cx} (C : Ctx0 G mg nF k F E N sc X) {a b : Expr} {ce : CE} {pos : Pos}
include C
theorem Ctx0.asgC2 {x y : Str} {px py pt pt2 : Pos} {kt k2 : Nat} {t : Tg} {gt : TG} (hc : (decide (sc.names.lookup x = some .cell) || decide (sc.names.lookup y = some .cell)) = true) (he : PE X (.Tuple [a, b] k2 pt2) (tM G E (evE G.T F ce))) (hg : PGM G (RepL G) X (.Tuple [.Name x px, .Name y py] kt pt) t gt)
    (hs : swapsWithSole [.Tuple [.Name x px, .Name y py] kt pt] (.Tuple [a, b] k2 pt2) pos.line X.env = pure false := by rfl)
    (h1 : (assignEach [.Tuple [.Name x px, .Name y py] kt pt] X.env).map (·.2) = [assign (.Tuple [.Name x px, .Name y py] kt pt) X.env] := by rfl) : PS X (.Assign [.Tuple [.Name x px, .Name y py] kt pt] (.Tuple [a, b] k2 pt2) pos) (tMS G E (evS G.T F (.asg t ce))) := by
  have hw : swappedStores [.Tuple [.Name x px, .Name y py] kt pt] (.Tuple [a, b] k2 pt2) X.env = pure none := by
    refine sw_cell2 ?_
    simp only [Bool.or_eq_true, decide_eq_true_eq] at hc
    rcases hc with hc | hc
    · have z : X.env.kindOf x = some .cell := (C.cel x hc).1
      left; rw [z]; simp
    · have z : X.env.kindOf y = some .cell := (C.cel y hc).1
      right; rw [z]; simp
  exact fs_asg he hg hs hw (ps_asg he hg.pg hs hw h1)
end
end SC

namespace SC
open PySem PySem.Spec PyProof.Rows L2
theorem sw_fold2 {x y : Str} {px py pt pt2 : Pos} {kt k2 : Nat} {a b : Expr} {env : Env} (h : [a, b].all (foldedForSure 8) = true) :
    swappedStores [.Tuple [.Name x px, .Name y py] kt pt] (.Tuple [a, b] k2 pt2) env = pure none := by
  unfold swappedStores
  dsimp only
  split
  · rfl
  · split
    · rfl
    · split
      · rfl
      · rfl
section
variable {p : PD} {G : Gm} {mg : Str → Option Value} {nF : List Nat} {k : Nat} {F : Phi} {E : XK} {N : List Str} {sc : Scope} {X : Cx} (C : Ctx0 G mg nF k F E N sc X) {a b : Expr} {ce : CE} {pos : Pos}
include C
theorem Ctx0.asgF2 {x y : Str} {px py pt pt2 : Pos} {kt k2 : Nat} {t : Tg} {gt : TG} (he : PE X (.Tuple [a, b] k2 pt2) (tM G E (evE G.T F ce))) (hg : PGM G (RepL G) X (.Tuple [.Name x px, .Name y py] kt pt) t gt)
    (hc : [a, b].all (foldedForSure 8) = true := by rfl)
    (hs : swapsWithSole [.Tuple [.Name x px, .Name y py] kt pt] (.Tuple [a, b] k2 pt2) pos.line X.env = pure false := by rfl)
    (h1 : (assignEach [.Tuple [.Name x px, .Name y py] kt pt] X.env).map (·.2) = [assign (.Tuple [.Name x px, .Name y py] kt pt) X.env] := by rfl) : PS X (.Assign [.Tuple [.Name x px, .Name y py] kt pt] (.Tuple [a, b] k2 pt2) pos) (tMS G E (evS G.T F (.asg t ce))) :=
  fs_asg he hg hs (sw_fold2 hc) (ps_asg he hg.pg hs (sw_fold2 hc) h1)
end
end SC

set_option maxHeartbeats 4000000
/-! isinstance of a caught error, with or without a dict -/
namespace LamY
open PySem PySem.Spec PySem.Calls PyProof.Rows PySem.W
section
variable {prog : Program} {w : World} {A : Around} {E : Value → Shared → Prop} {s : Shared} {K : Frag} {x D : Addr} {ox : Obj} {od : Option Obj}
theorem find_any {C : Addr} {name : Str} {a g : Value} (h1 : (clsIn K C).isSome = true) (h2 : findIn K (.ref C) name = some (some a)) (h3 : specialIn K a "__get__" = some (some g)) (h4 : takesIn K a = some true) : findObj K C od name = some (.bind g a) := by
  obtain ⟨cd, e⟩ := Option.isSome_iff_exists.mp h1
  unfold findObj
  rw [e, Option.bind_some, h2, Option.bind_some]
  simp [h3, h4]
theorem class_any {Q : Option Value → Shared → Prop} (T : L2.ExcC K D) (X : K.In s.heap) (I : InstAt s.heap x ox D od) (h : Q (some (.ref D)) { s with toks := s.toks + 1 }) : wpAny (model prog w) A (getAttr? (.ref x) "__class__") Q E s := by
  have hf : findObj K D od "__class__" = some (.bind (.builtin "getset_descriptor.__get__") (.builtin "object.__class__")) :=
    find_any (by obtain ⟨cd, hc, _⟩ := any_some T.hd; rw [hc]; rfl) T.ha T.hn T.ht
  obtain ⟨hp, g, d, t, os⟩ := s
  have a0 := I.type (M := model prog w)
  have a1 := looks_findIn (M := model prog w) X T.hg
  have a2 := looks_findIn (M := model prog w) X T.hk
  have a3 := looks_find (M := model prog w) X I hf
  have sub : Looks (model prog w) hp (isInstance (.ref x) (.type "BaseException")) true := a0.andThen (looks_subIn X T.hs)
  have n0 : (false && onTheHeap (Value.builtin "BaseException.__getattribute__")) = false := rfl
  have n2 : (Value.builtin "BaseException.__getattribute__" == Value.builtin "object.__getattribute__") = false := by decide +kernel
  have n1 : (onTheHeap (Value.ref D) && Value.builtin "BaseException.__getattribute__" == Value.builtin "object.__getattribute__") = false := by rw [n2]; rfl
  unfold getAttr? getAttrBy? getAttrBy
  refine wpAny_bind (wpAny_mkText (wpAny_bind (wpAny_attempt (wpAny_holding (wpAny_bind (a0.at (wpAny_bind (a1.at ?_))))))))
  show wpAny _ _ (if (onTheHeap (Value.ref D) && Value.builtin "BaseException.__getattribute__" == Value.builtin "object.__getattribute__") = true then _ else _) _ _ _
  rw [n1, if_neg Bool.false_ne_true]
  unfold getAttrByItsOwn hookBefore
  refine wpAny_bind ?_
  rw [if_pos (show onTheHeap (Value.ref D) = true from rfl)]
  refine a2.at ?_
  refine wpAny_bind (wpAny_attempt (wpAny_holding ?_))
  unfold callGetattribute
  rw [n0, if_neg Bool.false_ne_true]
  unfold boundAndCalled
  rw [PySem.F.excAttr_ValueError.ga.bind (.ref x)]
  refine wpAny_bind (wpAny_pure ?_)
  show wpAny _ _ (call (.builtin "BaseException.__getattribute__") [.ref x, .str "__class__" t]) _ _ _
  refine wpAny_call (codeAny_call_builtin PySem.F.excAttr_ValueError.ga.plain PySem.F.entry_bexc_ga ?_)
  refine @check_slot (model prog w) _ _ ⟨hp, g, d, t + 1, os⟩ "BaseException.__getattribute__" "BaseException" "__getattribute__" (.ref x) [.str "__class__" t] [] _ (by decide +kernel) (by decide +kernel) sub (PySem.F.args_bexc_ga (.ref x) (.str "__class__" t)) ?_
  unfold Builtin.«object.__getattribute__»
  refine wpAny_bind (wpAny_of_eq (a := ((Value.ref x : Value), [Value.str "__class__" t])) (by first | rfl | (simp only [slotArgs]; rfl)) ?_)
  refine wpAny_bind (wpAny_pure (wpAny_bind (a0.at (wpAny_bind (a3.at ?_)))))
  show wpAny _ _ (holding [Value.builtin "object.__class__"] (call (.builtin "getset_descriptor.__get__") [.builtin "object.__class__", .ref x, .ref D]) >>= ret) _ _ _
  refine wpAny_bind (wpAny_holding (wpAny_call (class_get (s := ⟨hp, g, d, t + 1, os⟩) (ox := ox) (od := od) X I T.hm ?_)))
  refine wpAny_pure ?_
  show wpAny _ _ (handedOut (.ref D)) _ _ _
  rw [handedOut_of (v := .ref D) rfl]
  first
    | exact wpAny_pure (wpAny_pure h)
    | exact wpAny_pure h
    | exact wpAny_pure (wpAny_bind (wpAny_pure (wpAny_pure h)))
theorem kit_any (T : L2.ExcC K D) : KitX K (.ref x) (.ref D) (fun h => InstAt h x ox D od) where
  ty := fun _ _ _ I => I.type
  it := fun _ _ X _ => by
    obtain ⟨cdD, hcD, _⟩ := any_some T.hd
    unfold clsIn at hcD
    split at hcD
    · rename_i c' d' cd' sl' ho
      intro A' Q' E' s' k q
      unfold isType loadHead
      exact wpAny_bind (wpAny_loadPart (k _ _ (X _ _ ho)) (wpAny_pure q))
    · cases hcD
  ne := fun h tp dd its n sl X htp => by
    obtain ⟨cdD, hcD, _⟩ := any_some T.hd
    refine Bool.eq_false_iff.mpr fun q => ?_
    have e : D = tp := Value.ref.inj (beq_iff_eq.mp q)
    subst e
    unfold clsIn at hcD
    split at hcD
    · rename_i c' d' cd' sl' ho
      have z := (X _ _ ho).symm.trans htp
      cases z
    · cases hcD
  ca := fun X I k => class_any T X I k
end
open L2 in
/-- isinstance(e, c), e the exception that the suite holds, its dict at dd -/
def rIsD (K : PySem.W.Frag) (D a : Addr) (d : Option Addr) : List V → Hp → VK → Prop := fun xs H Q => ∃ (c : V) (cv : Value) (b : Bool), xs = [.ref a, c] ∧ (∀ u, L2.RelV c u → u = cv) ∧ PySem.W.kitOne K (.ref D) cv = some b ∧ (∀ dd, d = some dd → ∃ fs, H dd = some (.xd fs)) ∧ Q (.bl b) H
open L2 in
theorem call_isD {X : L2.Cx} {a D : Addr} {d : Option Addr} {oe : Obj} {pn : List (Addr × Obj)} (C : L2.ExcC X.K D) (hz : Zc (.ref D) d oe) (hf : ∃ vs, oe.data = .fields vs) : CallR (X.suite a ((a, oe) :: pn)) (.builtin "isinstance") (rIsD X.K D a d) := by
  intro pins s σ H xs us Q I r h
  obtain ⟨c, cv, b, rfl, hcv, e, hdd, q⟩ := h
  cases r with
  | cons rx rr =>
    cases rr with
    | cons rt rr =>
      cases rr
      cases rx
      have ec := hcv _ rt
      subst ec
      obtain ⟨hget, _⟩ := I.pin (a, oe) (List.mem_append.mpr (.inl List.mem_cons_self))
      obtain ⟨vs, hv⟩ := hf
      have J : ∃ od, PySem.W.InstAt s.heap a oe D od := by
        cases d with
        | none =>
          obtain ⟨oc, o2, oda, osl⟩ := oe
          obtain ⟨h1, h2⟩ := hz
          dsimp only at h1 h2 hv
          subst h1 h2 hv
          exact ⟨none, hget, rfl, rfl, trivial⟩
        | some dd =>
          obtain ⟨fs, hfs⟩ := hdd dd rfl
          obtain ⟨mA, hns, hr⟩ := I.hok dd _ hfs
          obtain ⟨o2, ho, hl⟩ := lookIn_ns hns
          exact ⟨some o2, hget, hz.1, by unfold PySem.W.notCls; rw [hv] <;> rfl, by rw [hz.2]; exact ho⟩
      obtain ⟨od, J⟩ := J
      exact PySem.W.kia_one (kit_any C) I.kIn J e (fun z => nomatch z) fun tk => ⟨.bl b, H, I.kept (t' := tk) fun _ _ z => z, rfl, q⟩
end LamY

set_option maxHeartbeats 2000000
namespace SC
open PySem PySem.Spec PyProof.Rows L2
/-! ### a lambda is made -/
section
variable {X : Cx} {pins : List (Addr × Obj)} {σ : L2.St} {H : Hp} {s : Shared}
/-- how the heap stands behind the making: as before, or one more code object at c' in the table -/
def Made (A : Addr → Prop) (H : Hp) (P : Addr) (ps : Array Value) (q : Str) (c' : Addr) (H1 : Hp) : Prop :=
  (H1 = H ∧ A c') ∨ ∃ ps' : Array Value, H1 = upd (upd H P (.tbl ps')) c' (LamX.CodeO c' q) ∧ H c' = none ∧ TriplesOk ps'.toList ∧ ∀ (pos : Pos) (cv : Value), codeAmong pos ps'.toList = some cv → codeAmong pos ps.toList = some cv ∨ cv = .ref c'
theorem lamNew {A : Addr → Prop} {c P : Addr} {ps : Array Value} {q : Str} {params : Arguments} {body : Expr} {scope : Scope} {pos : Pos} {E : Value → Shared → Prop} {Q : Value → Shared → Prop} (I : Inv X pins σ H s) (TB : LamX.TabB X.base X.mg c P) (hcode : X.env.code = .ref c)
    (hq : X.env.qual ++ "<lambda>" = q) (hP : H P = some (.tbl ps)) (ht : TriplesOk ps.toList) (ha : ∀ (pos : Pos) (cv : Value), codeAmong pos ps.toList = some cv → ∃ c0, cv = .ref c0 ∧ A c0 ∧ H c0 = some (LamX.CodeO c0 q))
    (hdef : defaultsOf params X.env = ([], [])) (hfree : ∀ y ∈ scope.names, y.2 = .free → ∃ c, X.env.cells.lookup y.1 = some c)
    (h : ∀ (f c' : Addr) (pm ctv : Value) (H1 : Hp) (s' : Shared), Inv X pins σ H1 s' → Made A H P ps q c' H1 →
      s'.heap.get? f = some (PySem.W.kla_obj "<lambda>" q params body scope (cloFrom X.env.cells scope.names []) pm c' ctv) → H1 f = none → f ∉ frs X.stack → H1 c' = some (LamX.CodeO c' q) → Q (.ref f) s') :
    wpAny (model X.prog X.w) X.A (eval (.Lambda params body scope pos) X.env) Q E s := by
  subst hq
  have far : ∀ f, s.heap.objs.size ≤ f → f ∉ frs X.stack := fun f hf z => by
    rcases List.mem_cons.mp (I.stkSub _ z) with e | e
    · subst e
      exact absurd I.lt (Nat.not_lt.mpr hf)
    · exact I.nofs hf e
  have atP := I.hok P _ hP
  have clo := closure_ok hfree
  refine PySem.W.kla_eval hdef ?_
  cases hc : codeAmong pos ps.toList with
  | some cv =>
    obtain ⟨c0, rfl, hA, hc0⟩ := ha pos cv hc
    refine PySem.W.kla_makeFunctionHit (mg := X.mg) (c := c) (P := P) clo I.ok.glob (I.mod.glob.keeps I.bk) hcode (TB.code.keeps I.bk) atP ht hc (TB.bm.keeps I.bk) fun ctv h' tk hx hsz => ?_
    refine h h'.objs.size c0 _ ctv H _ (I.kept fun b o e => Heap.get?_push_of_some _ (hx b o e)) (.inl ⟨rfl, hA⟩) (Heap.get?_push_size _ rfl) (I.hok.fresh hsz) (far _ hsz) hc0
  | none =>
    refine PySem.W.kla_makeFunction (mg := X.mg) (c := c) (P := P) clo I.ok.glob (I.mod.glob.keeps I.bk) hcode (TB.code.keeps I.bk) atP ht hc TB.gP (TB.bm.keeps I.bk) fun c' ctv h' tk hx hge hlt hrec htb => ?_
    obtain ⟨c2, oc, vs, t, e2, hoc, hd, hv⟩ := hrec
    cases e2
    have hsz : s.heap.objs.size ≤ h'.objs.size := by omega
    have none' : H c' = none := I.hok.fresh hge
    have step := LamX.inv_table (t' := tk) (more := #[rawInt pos.line, rawInt pos.col, .ref c']) (h' := h'.push (PySem.W.kla_obj "<lambda>" (X.env.qual ++ "<lambda>") params body scope (cloFrom X.env.cells scope.names []) ((X.mg "__name__").getD .none) c' ctv)) I hP
      (fun b o hb e => Heap.get?_push_of_some _ (hx b o hb e)) (Heap.get?_push_of_some _ htb) hge ⟨oc, vs, t, Heap.get?_push_of_some _ hoc, hd, hv⟩
    have eL : (ps ++ #[rawInt pos.line, rawInt pos.col, .ref c']).toList = ps.toList ++ [rawInt pos.line, rawInt pos.col, .ref c'] := by simp
    refine h h'.objs.size c' _ ctv _ _ step (.inr ⟨_, rfl, none', by rw [eL]; exact PySem.TriplesOk_snoc _ _ _ _ ht, fun p' cv z => ?_⟩) (Heap.get?_push_size _ rfl) ?_ (far _ hsz) upd_same
    · rw [eL] at z
      exact LamX.among_app _ ht z
    · rw [upd_ne (Nat.ne_of_gt hlt), upd_ne (Nat.ne_of_gt (Nat.lt_of_lt_of_le (Heap.lt_size atP) hsz))]
      exact I.hok.fresh hsz
end
theorem nodup_inj {α β : Type} {f : α → β} : ∀ {l : List α}, (l.map f).Nodup → ∀ {a b : α}, a ∈ l → b ∈ l → f a = f b → a = b
  | [], _, _, _, h, _, _ => by cases h
  | x :: l, nd, a, b, ha, hb, e => by
    simp only [List.map_cons, List.nodup_cons, List.mem_map, not_exists, not_and] at nd
    rcases List.mem_cons.mp ha with h1 | h1
    · rcases List.mem_cons.mp hb with h2 | h2
      · rw [h1, h2]
      · exact absurd (h1 ▸ e).symm (nd.1 b h2)
    · rcases List.mem_cons.mp hb with h2 | h2
      · exact absurd (h2 ▸ e) (nd.1 a h1)
      · exact nodup_inj nd.2 h1 h2 e
/-- the world behind the making -/
theorem made_world {G : Gm} {w : Wd} {P c' : Addr} {q : Str} {ps : Array Value} {H1 : Hp} (ok : w.Ok G) (hm : (P, q) ∈ G.tabs) (nd : (G.tabs.map (·.1)).Nodup) (hP : w.H P = some (.tbl ps)) (hold : ∀ (pos : Pos) (cv : Value), codeAmong pos ps.toList = some cv → ∃ c0, cv = .ref c0 ∧ w.F c0 = some (LamX.CodeO c0 q))
    (m : Made (fun c => w.F c = some (LamX.CodeO c q)) w.H P ps q c' H1) : ∃ w1 : Wd, Ext w w1 ∧ w1.Ok G ∧ w1.H = H1 ∧ w1.h = w.h ∧ w1.F c' = some (LamX.CodeO c' q) := by
  rcases m with ⟨rfl, h⟩ | ⟨ps', rfl, hc, ht, hnew⟩
  · exact ⟨w, Ext.refl ok, ok, rfl, rfl, h⟩
  have tP := ok.tabs _ hm
  have nPc : P ≠ c' := ne_of_none hP hc
  have same : ∀ a, a ≠ P → a ≠ c' → upd (upd w.H P (.tbl ps')) c' (LamX.CodeO c' q) a = w.H a := fun a h1 h2 => by rw [upd_ne h2, upd_ne h1]
  have neC : ∀ {a : Addr} {o : HO}, w.H a = some o → a ≠ c' := fun e => ne_of_none e hc
  have ext : Ext w ⟨w.p, upd w.F c' (LamX.CodeO c' q), w.h, upd (upd w.H P (.tbl ps')) c' (LamX.CodeO c' q)⟩ := by
    refine ⟨Nat.le_refl _, fun _ _ => rfl, fun a o e => ?_, fun a o e hn hx => ?_, fun a qs e hn => ?_, fun a o e => ?_, fun n h1 h2 => absurd h2 (Nat.not_lt.mpr h1), fun n hn => ?_⟩
    · show upd w.F c' _ a = some o
      rw [upd_ne (neC (ok.le _ _ e))]; exact e
    · refine (same a (fun z => ?_) (neC e)).trans e
      rw [z, hP] at e; exact hx ps (Option.some.inj e).symm
    · by_cases z : a = P
      · exact ⟨ps', by show upd _ c' _ a = _; rw [z, upd_ne nPc, upd_same]⟩
      · exact ⟨qs, (same a z (neC e)).trans e⟩
    · by_cases z : a = c'
      · rw [z]; exact .inr (.inl hc)
      · have e : upd w.F c' _ a = some o := e
        rw [upd_ne z] at e; exact .inl e
    · obtain ⟨o, e⟩ := ok.there n hn
      exact ⟨o, (same _ (tP.out n hn) (neC e)).trans e⟩
  refine ⟨_, ext, ?_, rfl, rfl, upd_same⟩
  refine ⟨fun a o e => ?_, fun n o e => ?_, ok.inj, fun p hp => ?_⟩
  · have e : upd w.F c' (LamX.CodeO c' q) a = some o := e
    show upd _ c' (LamX.CodeO c' q) a = some o
    by_cases z : a = c'
    · rw [z, upd_same] at e ⊢; exact e
    · rw [upd_ne z] at e
      have e2 := ok.le _ _ e
      rw [upd_ne z, upd_ne (fun y => by rw [y, tP.free] at e; cases e)]; exact e2
  · obtain ⟨o', e1, r⟩ := ok.cell n o e
    have hn : n < w.h.length := (List.getElem?_eq_some_iff.mp e).1
    refine ⟨o', (same _ (tP.out n hn) (neC e1)).trans e1, ?_⟩
    have fr : ∀ {x}, w.F (w.p n) = x → upd w.F c' (LamX.CodeO c' q) (w.p n) = x := fun y => by rw [upd_ne (neC e1)]; exact y
    cases o with
    | dead => trivial
    | lst xs => obtain ⟨ws, h1, h2, h3⟩ := r; exact ⟨ws, h1, h2.ext ext, fr h3⟩
    | ins c fs => obtain ⟨dx, fs', h1, h2, h3, h4, h5, h6⟩ := r; exact ⟨dx, fs', h1, h2, h3.ext ext, fr h4, h5, h6⟩
  · have t := ok.tabs p hp
    by_cases z : p.1 = P
    · have ep : p = (P, q) := by
        exact nodup_inj nd hp hm z
      subst ep
      refine ⟨⟨ps', by show upd _ c' _ P = _; rw [upd_ne nPc, upd_same], ht, fun pos cv e => ?_⟩, t.out, by show upd w.F c' _ P = none; rw [upd_ne nPc]; exact t.free⟩
      rcases hnew pos cv e with y | y
      · obtain ⟨c0, e1, e2⟩ := hold pos cv y
        exact ⟨c0, e1, ext.mono _ _ e2⟩
      · exact ⟨c', y, upd_same⟩
    · have ne : p.1 ≠ c' := by
        obtain ⟨qs, e, _⟩ := t.tbl
        exact neC e
      exact t.step (same _ z ne) ext.mono t.out (by show upd w.F c' _ p.1 = none; rw [upd_ne ne]; exact t.free)
end SC

set_option maxHeartbeats 2000000
namespace SC
open PySem PySem.Spec PyProof.Rows L2
/-- the suite of a def that is one try -/
def exceptBody (st : Stmt) : List Stmt := match defBody st with
  | .Try _ [.ExceptHandler _ _ b _] _ _ _ :: _ => b
  | _ => []
/-- what a suite's derivation knows of the caught error -/
structure Xs (G : Gm) (Y : Cx) (c a : Nat) (d : Option Nat) : Prop where
  ex : ∃ (Z : Cx) (oe : Obj) (pn : List (Addr × Obj)), Y = Z.suite a ((a, oe) :: pn) ∧ Zc (.ref (G.Xc c)) d oe ∧ ∃ vs, oe.data = .fields vs
theorem zip_look {G : Gm} {F : Hp} {f : Nat} {mv : MV} : ∀ {l : List Nat} {vs : List MV} {fs : List (Str × V)}, fs.map (·.1) = l.map G.nm → RepVs G F vs (fs.map (·.2)) → (∀ f g, f ∈ l → g ∈ l → G.nm f = G.nm g → f = g) → (l.zip vs).lookup f = some mv → f ∈ l ∧ ∃ v, fs.lookup (G.nm f) = some v ∧ RepV G F mv v
  | [], vs, fs, hn, r, inj, h => by simp at h
  | g :: l, vs, fs, hn, r, inj, h => by
    match fs, hn with
    | (n, u) :: fs, hn =>
      simp only [List.map_cons, List.cons.injEq] at hn
      obtain ⟨rfl, hn⟩ := hn
      cases r with
      | cons r0 rr =>
        simp only [List.zip_cons_cons, List.lookup] at h
        by_cases e : f = g
        · subst e
          simp only [beq_self_eq_true, Option.some.injEq] at h
          subst h
          exact ⟨List.mem_cons_self, u, by simp [List.lookup], r0⟩
        · have b : (f == g) = false := by simpa using e
          simp only [b] at h
          obtain ⟨m, v, h1, h2⟩ := zip_look hn rr (fun x y hx hy => inj x y (List.mem_cons_of_mem _ hx) (List.mem_cons_of_mem _ hy)) h
          have b2 : (G.nm f == G.nm g) = false := by
            simp only [beq_eq_false_iff_ne, ne_eq]
            exact fun z => e (inj f g (List.mem_cons_of_mem _ m) List.mem_cons_self z)
          exact ⟨List.mem_cons_of_mem _ m, v, by simp only [List.lookup, b2]; exact h1, h2⟩
section
variable {p : PD} {G : Gm} {mg : Str → Option Value} {nF : List Nat} {k : Nat} {F : Phi} {E : XK} {N : List Str} {sc : Scope} {X : Cx} {c a : Nat} {d : Option Nat}
/-- isinstance(e, T), e the caught error -/
theorem Ctx0.isx (C : Ctx0 G mg nF k F E N sc X) (ec : L2.ExcC G.K (G.Xc c)) (T : ErrT p G mg) (xs : Xs G X c a d) (i x : Nat) {n : Str} {te : Expr} {cv : V} {pp p1 pos : Pos} (h : (decide (N[i]? = some n) && vname sc n && !(n == ("__debug__" : Str)) && !(n == ("__classdict__" : Str))) = true)
    (ht : PE X te (tC cv)) (hcv : ∀ u, L2.RelV cv u → u = xtV p G.K x) (hm : mg "isinstance" = none) (hg : isGl sc "isinstance" = true)
    (h1 : starEach [.Name n p1, te] X.env = (false, eval (.Name n p1) X.env) :: starEach [te] X.env := by rfl) (h2 : starEach [te] X.env = (false, eval te X.env) :: starEach [] X.env := by rfl) (hpl : (backTo pos (starEach [te] X.env)).any (·.1) = false := by rfl) :
    PE X (.Call (.Name "isinstance" pp) [.Name n p1, te] [] pos) (tM G E (evE G.T F (.isx c a d x i))) := by
  simp only [Bool.and_eq_true, decide_eq_true_eq, Bool.not_eq_true'] at h
  obtain ⟨⟨⟨e1, e2⟩, e3⟩, e4⟩ := h
  have hv := pe_var (X := X) (i := i) (pos := p1) (by rw [C.hN]; exact e1) (C.vis n (vname_vis e2)) e3 e4
  obtain ⟨Z, oe, pn, hX, hz, hf⟩ := xs.ex
  have hc : CallR X (.builtin "isinstance") (LamY.rIsD X.K (G.Xc c) a d) := by
    subst hX
    exact LamY.call_isD (C.hK ▸ ec) hz hf
  refine PE.weaken (pe_callB hc (C.gln hg) (C.m hm) bv_isinstance (pa_cons hv (pa_cons ht pa_nil h2) h1) (by decide) (by decide) h1 hpl) fun σ H Q ⟨w, r, hH, ok, re, g⟩ => ?_
  simp only [evE, isxF] at g
  split at g
  · rename_i c' a' d' vs q
    split at g
    · rename_i hq
      obtain ⟨rfl, rfl, rfl⟩ := hq
      split at g
      · rename_i b hb
        obtain ⟨v, hσ, rl⟩ := re.2 i _ q
        have hk := T.isx _ _ _ hb
        have key : v = .ref a' ∧ ∀ dd, d' = some dd → ∃ fs, w.H dd = some (.xd fs) := by
          cases rl with
          | v rl =>
            cases rl with
            | exo => exact ⟨rfl, fun dd z => by cases z⟩
            | exod h _ _ => exact ⟨rfl, fun dd z => by cases z; exact ⟨_, ok.le _ _ h⟩⟩
        obtain ⟨rfl, hd⟩ := key
        subst hH
        exact ⟨_, hσ, cv, _, b, rfl, hcv, by rw [C.hK]; exact hk, hd, Good.ok ok (.v (.bl b)) g⟩
      · exact g.elim
    · exact g.elim
  · exact g.elim
/-- e.f, e the caught error -/
theorem Ctx0.xat (C : Ctx0 G mg nF k F E N sc X) (T : Facts p G mg) (xs : Xs G X c a d) (i f : Nat) {n fn : Str} {D : Xd} {p1 pos : Pos} (hD : p.excs.lookup c = some D) (hl : G.T.xlay c = D.flds) (hfn : fn = G.nm f) (h : (decide (N[i]? = some n) && vname sc n && !(n == ("__debug__" : Str)) && !(n == ("__classdict__" : Str))) = true)
    (hab : attributeBase (.Name n p1) fn X.env (eval (.Name n p1) X.env) = eval (.Name n p1) X.env := by rfl) :
    PE X (.Attribute (.Name n p1) fn pos) (tM G E (evE G.T F (.xat c a d f i))) := by
  simp only [Bool.and_eq_true, decide_eq_true_eq, Bool.not_eq_true'] at h
  obtain ⟨⟨⟨e1, e2⟩, e3⟩, e4⟩ := h
  by_cases hm : f ∈ D.flds
  · have e := T.exF hD (by intro z; rw [z] at hm; cases hm)
    have hv := pe_var (X := X) (i := i) (pos := p1) (by rw [C.hN]; exact e1) (C.vis n (vname_vis e2)) e3 e4
    obtain ⟨Z, oe, pn, hX, hz, hf⟩ := xs.ex
    have hp : PE X (.Attribute (.Name n p1) fn pos) (tXf a (.ref (G.Xc c)) d (G.Xc c) fn (tVar i)) := by
      subst hX
      exact pe_xf (X := Z) (C := G.Xc c) (C.hK ▸ e.xf) (by rw [show Z.K = G.K from C.hK, hfn]; exact e.no f hm) hz hf hv hab
    refine PE.weaken hp fun σ H Q ⟨w, r, hH, ok, re, g⟩ => ?_
    simp only [evE, xatF] at g
    split at g
    · rename_i c' a' d' vs q
      split at g
      · rename_i hq
        obtain ⟨rfl, rfl, rfl⟩ := hq
        split at g
        · rename_i mv hb
          obtain ⟨v, hσ, rl⟩ := re.2 i _ q
          subst hH
          cases rl with
          | v rl =>
            cases rl with
            | exo => simp at hb
            | @exod _ dd _ _ fs h1 h2 h3 =>
              obtain ⟨_, v, l1, l2⟩ := zip_look h2 h3 (by rw [hl]; exact T.exinj _ _ hD) hb
              exact ⟨_, hσ, rfl, rfl, dd, fs, v, rfl, ok.le _ _ h1, by rw [hfn]; exact l1, Good.ok ok (.v l2) g⟩
        · exact g.elim
      · exact g.elim
    · exact g.elim
  · refine ⟨fun pins s σ H Q I ⟨w, r, hH, ok, re, g⟩ => ?_⟩
    simp only [evE, xatF] at g
    split at g
    · rename_i c' a' d' vs q
      split at g
      · rename_i hq
        split at g
        · rename_i mv hb
          have z := List.of_mem_zip (look_mem hb)
          rw [hl] at z
          exact absurd z.1 hm
        · exact g.elim
      · exact g.elim
    · exact g.elim
end
/-- the def that calls what it got and tells its error -/
structure ErrFn (p : PD) (G : Gm) (mg : Str → Option Value) (nF : List Nat) (F : Phi) (x : Str) (gi : Nat) where
  st : Stmt
  Ng : List Str
  a : Str
  n : Str
  i : Nat
  b₀ : Stmt
  suite : List Stmt
  cs : Nat → Nat → Option Nat → CSs
  p1 : Pos
  p2 : Pos
  p3 : Pos
  np : Pos
  pos' : Pos
  pos : Pos
  p4 : Pos
  p5 : Pos
  p6 : Pos
  j : Nat
  kk : Nat
  fn : ∃ fd, Fun G.K x x st (G.fa gi) fd ∧ Binds G.K fd [a] []
  S : FnScope Ng [a] (defScope st)
  ha : Ng[0]? = some a
  hva : vname (defScope st) a = true
  hi : Ng[i]? = some n
  hln : (defScope st).names.lookup n = some .local
  hg : isGl (defScope st) p.court = true
  body : defBody st = [.Try [.Expr (.Call (.Name a p1) [] [] p2) p3] [.ExceptHandler (some (.Name p.court np)) (some n) (b₀ :: suite) pos'] [] [] pos, .Return (some (.Tuple [.Constant (.str "none") j p4] kk p5)) p6]
  hsu : ∀ (c a' : Nat) (d : Option Nat) (Y : Cx), c ∈ p.errs → Xs G Y c a' d → Ctx0 G mg nF 0 F E0 Ng (defScope st) Y → PSs Y (b₀ :: suite) (tMS G E0 (evSs G.T F (cs c a' d)))
  hev : ∀ (c a' : Nat) (d : Option Nat) (vs : List MV) (v : MV), G.T.err c vs = some v → c ∈ p.errs ∧ ∃ h2, evSs G.T F (cs c a' d) ((List.replicate Ng.length none).set i (some (.v (.exo c a' d vs)))) [] = .ret (.v v) h2
  hda : (a == ("__debug__" : Str)) = false
  hdc : (a == ("__classdict__" : Str)) = false
  hdk : (p.court == ("__debug__" : Str)) = false
end SC

set_option maxHeartbeats 2000000
namespace SC
open PySem PySem.Spec PyProof.Rows L2
/-- a suite that ran with no live objects of its own: those of before stand as they stood -/
theorem back_world {G : Gm} {w w2 : Wd} (ok : w.Ok G) (e : Ext ⟨w.p, w.F, [], w.H⟩ w2) (ok2 : w2.Ok G) : Ext w ⟨w.p, w2.F, w.h, w2.H⟩ ∧ Wd.Ok G ⟨w.p, w2.F, w.h, w2.H⟩ := by
  have none0 : ∀ (a : Addr) (n : Nat), n < ([] : MH).length → w.p n ≠ a := fun a n hn => by simp at hn
  have stay : ∀ {n : Nat} {o : HO}, n < w.h.length → w.H (w.p n) = some o → (∀ ps, o ≠ .tbl ps) → w2.H (w.p n) = some o := fun {n o} hn h ht => e.frame _ _ h (none0 _) ht
  have ext : Ext w ⟨w.p, w2.F, w.h, w2.H⟩ := by
    refine ⟨Nat.le_refl _, fun _ _ => rfl, e.mono, fun a o h hn ht => e.frame a o h (none0 a) ht, fun a ps h hn => e.tk a ps h (none0 a), fun a o h => ?_, fun n h1 h2 => absurd h2 (Nat.not_lt.mpr h1), fun n hn => ?_⟩
    · rcases e.newF a o h with z | z | ⟨n, hn, _⟩
      · exact .inl z
      · exact .inr (.inl z)
      · simp at hn
    · obtain ⟨o, h⟩ := ok.there n hn
      exact e.stand h (none0 _)
  refine ⟨ext, ok2.le, fun n o h => ?_, ok.inj, fun p hp => ?_⟩
  · have hn : n < w.h.length := (List.getElem?_eq_some_iff.mp h).1
    obtain ⟨o', h1, r⟩ := ok.cell n o h
    have fr : w.F (w.p n) = none → w2.F (w.p n) = none := fun z => by
      cases q : w2.F (w.p n) with
      | none => rfl
      | some x =>
        rcases e.newF _ _ q with y | y | ⟨m, hm, _⟩
        · exact absurd (z.symm.trans y) (by simp)
        · exact absurd (h1.symm.trans y) (by simp)
        · simp at hm
    cases o with
    | dead =>
      obtain ⟨o2, h2⟩ := e.stand h1 (none0 _)
      exact ⟨o2, h2, trivial⟩
    | lst xs =>
      obtain ⟨ws, rfl, h2, h3⟩ := r
      exact ⟨_, stay hn h1 (fun ps z => by cases z), ws, rfl, h2.ext ext, fr h3⟩
    | ins c fs =>
      obtain ⟨dx, fs', rfl, h2, h3, h4, h5, h6⟩ := r
      exact ⟨_, stay hn h1 (fun ps z => by cases z), dx, fs', rfl, h2, h3.ext ext, fr h4, h5, h6⟩
  · have t := ok2.tabs p hp
    exact ⟨t.tbl, (ok.tabs p hp).out, t.free⟩
theorem lam_ok {N : List Str} {sc scope : Scope} {X : Cx} {G : Gm} {mg : Str → Option Value} {nF : List Nat} {k : Nat} {F : Phi} {E : XK} (C : Ctx G mg nF k F E N sc X) (h : LamX.lamSB sc scope = true) : LamX.LamS X.env.scope scope := by
  have L := LamX.lamS_by h
  refine ⟨L.kind, L.co, L.gen, L.own, fun y hy e => ?_⟩
  rcases L.free y hy e with z | z
  · exact .inl (C.cel _ z).1
  · exact C.fre _ z
section
variable {p : PD} {G : Gm} {mg : Str → Option Value} {nF : List Nat} {k : Nat} {F : Phi} {E : XK} {N : List Str} {sc : Scope} {X : Cx}
/-- the context of a lambda's body -/
theorem Ctx.lam (C : Ctx G mg nF k F E N sc X) {scope : Scope} (L : LamX.LamS X.env.scope scope) {A : Around} {outer : List Env} {s : Shared} {H : Hp} {E' : XK} {f c' : Addr} (hr : Room (k + 1) (A.deeper (LamX.lamEnv X scope s.heap.objs.size f c'))) :
    Ctx G mg nF k F E' N scope (LamX.lamCx X A outer s H E' scope f c') :=
  { hK := C.hK, hmg := C.hmg, hN := C.hN, nd := C.nd, units := hr.units, calm := rfl, room := hr, pass := passes_call (takes_of rfl rfl rfl rfl) (fun _ _ _ _ z => z), own := passes_of rfl, fc := C.fc, kind := L.kind,
    vis := fun _ z => z, gl := fun _ z => z, fre := fun _ z => .inr z, loc := fun _ z => z, cel := fun x z => absurd rfl (L.own _ (PySem.mem_of_lookup z)).2 }
/-- x(lambda: body) -/
theorem Ctx.errL (C : Ctx G mg nF k F E N sc X) (T : Facts p G mg) (hne : p.errs.isEmpty = false) {x : Str} {gi fi : Nat} {qual : Str} (lk : Lk G k fi qual X) (B : ErrFn p G mg nF F x gi) {params : Arguments} {body : Expr} {scope : Scope} {ce : CE} {pp lpos pos : Pos}
    (hx : mg x = some (.ref (G.fa gi))) (hgx : isGl sc x = true) (hL : LamX.lamSB sc scope = true) (hcd : (codeOf G.K (G.fa fi), tabOf G.K (G.fa fi)) ∈ G.cds) (htb : (tabOf G.K (G.fa fi), qual ++ ".<locals>." ++ "<lambda>") ∈ G.tabs)
    (hb : ∀ (E' : XK) (Y : Cx), Ctx G mg nF k F E' N scope Y → PE Y body (tM G E' (evE G.T F ce)))
    (hdef : defaultsOf params X.env = ([], []) := by rfl)
    (hbind : ∀ (q : Str) (cl : List (Str × Addr)) (pm cv ctv : Value), bindArgs (PySem.W.kla_fn "<lambda>" q params body scope cl pm cv ctv) ⟨[], []⟩ = pure [] := by intros; rfl) (hdb : (x == ("__debug__" : Str)) = false := by decide) :
    PE X (.Call (.Name x pp) [.Lambda params body scope lpos] [] pos) (tM G E (evE G.T F (.errL ce))) := by
  have ET := T.errT hne
  have L := lam_ok C hL
  obtain ⟨fd, Fu, hbd⟩ := B.fn
  obtain ⟨oc, od, kV, doc, pm, an, cdv, ct, osl, rfl, lkG, hcg⟩ := Fu.ex
  have hk := Fu.kp
  refine ⟨fun pins s σ H Q I h => ?_⟩
  obtain ⟨w, r, rfl, ok, re, g⟩ := h
  refine wpAny_Call_Name_kw (ld_glob I (C.gln hgx) (C.m hx) ?_ hdb)
  refine PySem.W.callWith_K (h₀ := X.base) I.ok.mod.kin (by rw [C.hK]; exact hk) ?_ (by rfl) (by rfl)
  show wpAny _ _ (spliced ((false, eval (.Lambda params body scope lpos) X.env) :: backTo pos (starEach [] X.env))) _ _ s
  have tb := ok.tabs _ htb
  obtain ⟨ps, hP, htr, hold⟩ := tb.tbl
  refine Calls.spliced_cons (lamNew (A := fun c0 => w.F c0 = some (LamX.CodeO c0 (qual ++ ".<locals>." ++ "<lambda>"))) I (lk.tb _ hcd) lk.code (by rw [lk.qual]) hP htr (fun p' cv z => ?_) hdef (L.has I.ok) fun f c' pm' ctv H1 s' I1 md hf hfn hfr hco => ?_)
  · obtain ⟨c0, e1, e2⟩ := hold p' cv z
    exact ⟨c0, e1, e2, ok.le _ _ e2⟩
  obtain ⟨w1, ex1, ok1, hH1, hh1, hc1⟩ := made_world ok htb ET.nd hP hold md
  subst hH1
  refine Calls.spliced_nil ⟨I1.kIn, ?_⟩
  have hq : X.env.qual ++ "<lambda>" = qual ++ ".<locals>." ++ "<lambda>" := by rw [lk.qual]
  have rc : codeAny (model X.prog X.w) X.A (.call (.ref (G.fa gi)) ⟨[.ref f], []⟩) (CR (L2.CX X.prog X.w) X.stack X.prog X.w w1.H s' Q E0) s' := by
    refine LamX.run_ofS (k := k + 2) (K := X.K) (N := B.Ng) (ps := [B.a]) (us := [.ref f]) (vs := [.ref f]) (by rw [C.hK]; exact lkG) (by rw [C.hK]; exact hcg) B.S lk.room3 I1.env0 ((C.hK ▸ hbd) s' [.ref f] I1.kIn rfl) (.cons rfl .nil) rfl fun hr' => ?_
    have C0 : Ctx0 G mg nF 0 F E0 B.Ng (defScope B.st) (cxOf (L2.CX X.prog X.w) X.prog X.w X.K X.mg X.base B.Ng x (defScope B.st) (G.fa gi) cdv X.A X.stack s' w1.H E0) :=
      { hK := C.hK, hmg := C.hmg, hN := rfl, nd := B.S.nd, units := hr'.units, kind := B.S.kind, vis := fun _ z => z, gl := fun _ z => z, fre := fun _ z => .inr z, loc := fun _ z => z, cel := fun _ z => ⟨z, rfl⟩ }
    generalize hZ : cxOf (L2.CX X.prog X.w) X.prog X.w X.K X.mg X.base B.Ng x (defScope B.st) (G.fa gi) cdv X.A X.stack s' w1.H E0 = Z at C0
    have tkZ : Takes Z (fun cls d _ H => E0 cls d H) := by subst hZ; exact takes_of rfl rfl rfl rfl
    have hs : Z.stack = Z.env :: Z.outer := by subst hZ; rfl
    have hfr' : Z.env.frame = some Z.env.locals := by subst hZ; rfl
    have hK : Z.K = G.K := C0.hK
    -- the statements
    have P1 := ps_try_as (X := Z) (c := .ref (He.ga G.K p.court)) (i := B.i) (np := B.np) (pos := B.pos) (pos' := B.pos') (body := [.Expr (.Call (.Name B.a B.p1) [] [] B.p2) B.p3]) (suite := B.suite) (b₀ := B.b₀) (Wout := fun cls d _ H => E0 cls d H) (n := B.n) (x := p.court)
      (tb := fun W D σZ HZ => (σZ[0]? = some (some (.ref f)) ∧ HZ c' = some (LamX.CodeO c' (qual ++ ".<locals>." ++ "<lambda>"))) ∧ tM G (fun cls d H => ∀ σ : L2.St, σ.length = B.Ng.length → W cls d σ H) (evE G.T F ce) σ HZ fun _ H' => D.nx σZ H')
      (ts := fun a' cls d D σZ HZ => ∃ c0, cls = .ref (G.Xc c0) ∧ c0 ∈ p.errs ∧ tMS G E0 (evSs G.T F (B.cs c0 a' d)) D σZ HZ)
      hs hfr' (by rw [C0.hN]; exact B.S.nd) (by rw [C0.hN]; exact B.hi) (C0.loc _ B.hln) ⟨C0.gln B.hg, B.hdk, .inl (by rw [C0.hmg]; exact ET.court)⟩ tkZ
      (fun W pn xe t po => by
        have t2 : Takes (Z.tr pn xe) (fun cls d _ H => ∀ σ : L2.St, σ.length = B.Ng.length → W cls d σ H) := fun u s' ⟨a, B', sI, pins, σ, H, cls, d, e, I, nb, up, sky, na, os, ag, w⟩ =>
          t u s' ⟨a, B', sI, pins, σ, H, cls, d, e, I, nb, up, sky, na, os, ag, w σ (by have := I.len; rw [← C0.hN]; exact this)⟩
        have act : PE (Z.tr pn xe) (.Call (.Name B.a B.p1) [] [] B.p2) (fun σZ HZ Q => σZ[0]? = some (some (.ref f)) ∧ HZ c' = some (LamX.CodeO c' (X.env.qual ++ "<lambda>")) ∧ tM G (fun cls d H => ∀ σ : L2.St, σ.length = B.Ng.length → W cls d σ H) (evE G.T F ce) σ HZ Q) := by
          subst hZ
          exact LamX.pe_act (k := k + 1) (i := 0) I1 L (by rw [hq]; exact hf) hfn hfr (hbind _ _ _ _ _) t2 (fun _ _ _ _ z => z) hr' (fun A outer s H hr2 => hb _ _ (C.lam L hr2)) B.ha (vname_vis B.hva) B.hda B.hdc
        exact PSs.weaken (pss_one (ps_expr (pos := B.p3) act)) fun D σZ HZ ⟨⟨z1, z2⟩, z3⟩ => ⟨z1, by rw [hq]; exact z2, z3⟩)
      (fun a' oe cls d pn hz hv => ⟨fun pins s σ H D I h => by
        obtain ⟨c0, rfl, hc0, h⟩ := h
        refine (B.hsu c0 a' d (Z.suite a' ((a', oe) :: pn)) hc0 ⟨⟨Z, oe, pn, rfl, hz, hv⟩⟩ ?_).run pins s σ H D I h
        exact { hK := C0.hK, hmg := C0.hmg, hN := C0.hN, nd := C0.nd, units := C0.units, kind := C0.kind, vis := C0.vis, gl := C0.gl, fre := C0.fre, loc := C0.loc, cel := C0.cel }⟩)
    have P2 : PS Z (.Return (some (.Tuple [.Constant (.str "none") B.j B.p4] B.kk B.p5)) B.p6) (tMS G E0 (evS G.T F (.ret (.tup (.cons (.cst (.str "none")) .nil))))) := fs_ret (fe_tup (fa_cons C0.str fa_nil))
    rw [B.body]
    refine ⟨_, pss_cons P1 (pss_one P2), ?_⟩
    have ret0 : ∀ (w' : Wd) (σZ : L2.St), w'.Ok G → σZ.length = B.Ng.length → (∀ w2, Ext w' w2 → w2.Ok G → w2.h = w'.h → ∀ v, RepL G w2 (.v (.tup [.str "none"])) v → Q v w2.H) →
        tMS G E0 (evS G.T F (.ret (.tup (.cons (.cst (.str "none")) .nil)))) { nx := fun _ H' => Q .non H', rt := Q } σZ w'.H := fun w' σZ ok' hl hq' => by
      refine ⟨w', List.replicate B.Ng.length none, rfl, ok', ⟨by simp [hl], fun i l z => ?_⟩, ?_⟩
      · rw [List.getElem?_replicate] at z
        split at z <;> cases z
      · have e0 : evS G.T F (.ret (.tup (.cons (.cst (.str "none")) .nil))) (List.replicate B.Ng.length none) w'.h = .ret (.v (.tup [.str "none"])) w'.h := by
          have h1 : 1 ≤ sizeLine := by decide
          simp [evS, evE, evEs, pures, ret, Out.bind, Out.thenS, h1]
        rw [e0]
        exact hq'
    refine ⟨⟨?_, hco⟩, ?_⟩
    · have h0 := B.ha
      cases q : B.Ng with
      | nil => rw [q] at h0; cases h0
      | cons y ys => rfl
    have hlen : (L2.start B.Ng [.ref f]).length = B.Ng.length := by
      have h0 := B.ha
      cases q : B.Ng with
      | nil => rw [q] at h0; cases h0
      | cons y ys => simp [L2.start]
    refine ⟨w1, r, rfl, ok1, re.ext ex1, ?_⟩
    rw [hh1]
    rw [evE] at g
    cases q : evE G.T F ce r w.h with
    | bad => rw [q] at g; exact g.elim
    | ok y h' =>
      rw [q] at g
      intro w' e' ok' eh v rv
      subst eh
      exact ret0 w' _ ok' hlen fun w2 e2 k2 hh v2 rv2 => g w2 (ex1.trans (e'.trans e2)) k2 hh v2 rv2
    | exc c fs h' =>
      rw [q] at g
      simp only [errF] at g
      split at g
      · rename_i hlay
        split at g
        · rename_i v hv
          obtain ⟨hce, _⟩ := B.hev c 0 none _ _ hv
          obtain ⟨ec, hsub⟩ := ET.ec c hce
          intro w' e' ok' eh cls d xr σZ hl
          subst eh
          obtain ⟨rfl, x1, x2⟩ := xr
          refine ⟨true, by rw [hK]; exact PySem.W.exm_ref ET.hs ET.hd ET.ty hsub, fun _ a' ha' => ?_, fun z => by cases z⟩
          obtain ⟨_, h2, hev⟩ := B.hev c a' d _ _ hv
          refine ⟨c, rfl, hce, ⟨w'.p, w'.F, [], w'.H⟩, (List.replicate B.Ng.length none).set B.i (some (.v (.exo c a' d (fs.map (·.2))))), rfl, ?_, ⟨by simp [hl], fun j l z => ?_⟩, ?_⟩
          · exact ⟨ok'.le, fun n o z => by simp at z, fun n m z => by simp at z, fun p' hp' => ⟨(ok'.tabs p' hp').tbl, fun n z => by simp at z, (ok'.tabs p' hp').free⟩⟩
          · have hi : B.i < B.Ng.length := (List.getElem?_eq_some_iff.mp B.hi).1
            by_cases hj : B.i = j
            · subst hj
              rw [List.getElem?_set_self (by simpa using hi)] at z
              cases z
              refine ⟨.ref a', List.getElem?_set_self (by rw [hl]; exact hi), .v ?_⟩
              cases fs with
              | nil => rw [x1 rfl]; exact .exo
              | cons f0 fr =>
                obtain ⟨dd, fs', rfl, z1, z2, z3⟩ := x2 (by simp)
                exact .exod z1 (by rw [z2, hlay]) z3
            · rw [List.getElem?_set_ne hj, List.getElem?_replicate] at z
              split at z <;> cases z
          · show GoodS G E0 _ _ (evSs G.T F (B.cs c a' d) _ [])
            rw [hev]
            intro w2 e2 k2 _ u ru
            obtain ⟨b1, b2⟩ := back_world ok' e2 k2
            cases ru with
            | v ru => exact g _ (ex1.trans (e'.trans b1)) b2 rfl u (.v ru)
        · exact g.elim
      · exact g.elim
  refine wpAny_call (codeAny_mono rc fun r s2 hq => ?_)
  cases r with
  | error e =>
    obtain ⟨_, _, _, _, _, _, _, _, _, _, _, _, z⟩ := (show L2.CX X.prog X.w X.stack w1.H s' E0 e s2 from hq)
    exact z.elim
  | ok fl =>
    cases fl with
    | ret u => exact I1.after hq
    | next => exact False.elim hq
    | brk => exact False.elim hq
    | cont => exact False.elim hq
end
end SC

set_option maxHeartbeats 2000000
namespace SC
open PySem PySem.Spec PyProof.Rows L2
section
variable {G : Gm} {E : XK} {X : Cx} {F : Phi}
theorem RepLs.rev {w : Wd} : ∀ {xs : List LV} {vs : List V}, RepLs G w xs vs → RepLs G w xs.reverse vs.reverse
  | _, _, .nil => .nil
  | _, _, .cons h t => by rw [List.reverse_cons, List.reverse_cons]; exact (RepLs.rev t).append (.cons h .nil)
theorem RepLs.tak {w : Wd} (k : Nat) : ∀ {xs : List LV} {vs : List V}, RepLs G w xs vs → RepLs G w (xs.take k) (vs.take k) := by
  induction k with
  | zero => intro xs vs _; simp; exact .nil
  | succ k ih =>
    intro xs vs h
    cases h with
    | nil => simp; exact .nil
    | cons h t => rw [List.take_succ_cons, List.take_succ_cons]; exact .cons h (ih t)
theorem RepLs.drp {w : Wd} (k : Nat) : ∀ {xs : List LV} {vs : List V}, RepLs G w xs vs → RepLs G w (xs.drop k) (vs.drop k) := by
  induction k with
  | zero => intro xs vs h; simpa using h
  | succ k ih =>
    intro xs vs h
    cases h with
    | nil => simp; exact .nil
    | cons h t => rw [List.drop_succ_cons, List.drop_succ_cons]; exact ih t
theorem mtM_insert : MtR X "list.insert" (RmM G E .insert) := by
  intro pins s σ H x xs v us Q I rx rs ⟨w, l, ls, hH, ok, rl, rls, g⟩
  obtain ⟨i, z, rfl, g1⟩ := un2_of (f := insertF l) g
  clear g
  have g := g1
  obtain ⟨ui, u, rfl, rui, ru⟩ := rep2 rls
  subst hH
  unfold insertF at g
  split at g
  · rename_i n kk
    cases rl with
    | @r _ hn =>
    cases rui with
    | v rui =>
    cases rui
    cases q : w.h[n]? with
    | none => simp only [q] at g; exact g.elim
    | some o =>
      cases o with
      | lst ys =>
        simp only [q] at g
        split at g
        · rename_i hz
          obtain ⟨hz, h0, h1'⟩ := hz
          obtain ⟨o', h1, ws, rfl, rw', hF⟩ := ok.cell n _ q
          have ex := w.put_ext (c := .lst (ys.take kk.toNat ++ z :: ys.drop kk.toNat)) (o := .lst (ws.take kk.toNat ++ [u] ++ ws.drop kk.toNat)) ok hn
          refine mt_insert pins s σ _ _ _ v us Q I rx rs ⟨_, ws, kk, u, rfl, rfl, h1, by rw [← rw'.length]; exact hz, h0, h1', ?_⟩
          refine g (w.put n (.lst (ys.take kk.toNat ++ z :: ys.drop kk.toNat)) (.lst (ws.take kk.toNat ++ [u] ++ ws.drop kk.toNat))) ex (w.put_ok ok hn hF ⟨_, rfl, ?_, hF⟩) rfl _ (.v .non)
          have r1 := ((rw'.tak kk.toNat).append (RepLs.cons ru (rw'.drp kk.toNat))).ext ex
          simpa using r1
        · exact g.elim
      | _ => simp only [q] at g; exact g.elim
  · exact g.elim
theorem mtM_reverse : MtR X "list.reverse" (RmM G E .reverse) := by
  intro pins s σ H x xs v us Q I rx rs ⟨w, l, ls, hH, ok, rl, rls, g⟩
  obtain ⟨rfl, g1⟩ := un0_of (f := reverseF l) g
  clear g
  have g := g1
  cases rls
  subst hH
  unfold reverseF at g
  cases rl with
  | v _ => exact g.elim
  | @r n hn =>
    dsimp only at g
    cases q : w.h[n]? with
    | none => simp only [q] at g; exact g.elim
    | some o =>
      cases o with
      | lst ys =>
        simp only [q] at g
        obtain ⟨o', h1, ws, rfl, rw', hF⟩ := ok.cell n _ q
        have ex := w.put_ext (c := .lst ys.reverse) (o := .lst ws.reverse) ok hn
        refine mt_reverse pins s σ _ _ _ v us Q I rx rs ⟨_, ws, rfl, rfl, h1, ?_⟩
        exact g (w.put n (.lst ys.reverse) (.lst ws.reverse)) ex (w.put_ok ok hn hF ⟨_, rfl, rw'.rev.ext ex, hF⟩) rfl _ (.v .non)
      | _ => simp only [q] at g; exact g.elim
/-- list.count of flat items -/
theorem mt_countF : MtR X "list.count" (fun x xs H Q => ∃ (a : Addr) (ys : List V) (y : V), x = .ref a ∧ xs = [y] ∧ SqL X.K H a ys ∧ flatV y = true ∧ ys.all flatV = true ∧ Q (.int ((ys.countP fun z => eqV z y : Nat) : Int)) H) := by
  intro pins s σ H x xs v us Q I rx rxs h
  obtain ⟨a, ys, y, rfl, rfl, hs, fy, fys, q⟩ := h
  cases rx
  obtain ⟨u, rfl, ru⟩ := rxs.one
  obtain ⟨its, rv, ⟨⟨cls, dd, data, sl⟩, n, ho, hc, hdn, hd⟩, hlen⟩ := I.list hs
  simp only at hc hd
  subst hc hd
  refine call_meets PySem.F.slot_list_count ⟨_, ho, rfl⟩ PySem.F.entry_list_count (PySem.F.args_list_count_2 _ _)
    (SeqAt.list_countAt a its.toArray n dd sl u (eqU y)) ⟨ho, fun u' hu' => mem_eqAt ru fy rv fys u' (by simpa using hu'), ?_⟩
  have ec : ∀ {ys : List V} {its : List Value}, Vals ys its → ys.all flatV = true → its.countP (eqU y) = ys.countP fun z => eqV z y := by
    intro ys its r
    induction r with
    | nil => intro _; rfl
    | cons r0 rr ih =>
      intro f
      simp only [List.all_cons, Bool.and_eq_true] at f
      rw [List.countP_cons, List.countP_cons, ih f.2, eqU_of r0 f.1]
  refine ⟨.int ((ys.countP fun z => eqV z y : Nat) : Int), H, I.tok _, ⟨s.toks, ?_⟩, q⟩
  show Value.int ((its.toArray.toList.countP (eqU y) : Nat) : Int) s.toks = _
  rw [show its.toArray.toList = its from by simp, ec rv fys]
theorem mtM_count (hK : X.K = G.K) : MtR X "list.count" (RmM G E .count) := by
  rintro pins s σ H x xs v us Q I rx rs ⟨w, l, ls, hH, ok, rl, rls, g⟩
  obtain ⟨z, rfl, g1⟩ := un1_of (f := countF l) g
  clear g
  obtain ⟨u, rfl, ru⟩ := rep1 rls
  subst hH
  unfold countF at g1
  split at g1
  · rename_i ys hl
    obtain ⟨a, ws, rfl, hs, r⟩ := lstOf_rep ok rl hl
    split at g1
    · rename_i hf
      obtain ⟨e1, e2⟩ := fv_rep ru hf.1
      obtain ⟨e3, e4⟩ := fvs_rep r hf.2
      subst e3
      subst e1
      have ec : ∀ ys : List LV, ys.all flat = true → (ys.map fv).countP (fun y => eqV y (fv z)) = ys.countP fun y => eqL y z := by
        intro ys
        induction ys with
        | nil => intro _; rfl
        | cons y ys ih =>
          intro f
          simp only [List.all_cons, Bool.and_eq_true] at f
          rw [List.map_cons, List.countP_cons, List.countP_cons, ih f.2, eq_fv f.1 hf.1]
      refine mt_countF pins s σ _ _ _ v us Q I rx rs ⟨a, ys.map fv, fv z, rfl, rfl, .inl (.inl hs), e2, e4, ?_⟩
      rw [ec ys hf.2]
      exact Good.ok ok (.v (.int _)) g1
    · exact g1.elim
  · exact g1.elim
/-- len(o), by an own __len__ -/
theorem call_lenO {k : Nat} {C f a dx : Addr} {fs : List (Str × V)} {fd : FuncData} {ps : List Str} {sp : Sp} {pins : List (Addr × Obj)} {σ : L2.St} {H : Hp} {s : Shared} {Q : VK} (hm : Meth X.K C "__len__" f)
    (Fn : FnOk X.prog X.w X.K X.mg X.base (L2.CX X.prog X.w) k f fd ps sp) (hr : Room (k + 1) X.A) (hb : Binds X.K fd ps []) (I : Inv X pins σ H s) (ea : H a = some (.ins C dx fs))
    (h : sp [.ref a] H (fun v H1 => ∃ i : Int, v = .int i ∧ 0 ≤ i ∧ i < 2 ^ 63 ∧ Q (.int i) H1) E0) :
    wpAny (model X.prog X.w) X.A (call (.builtin "len") [.ref a]) (EP X pins σ Q) X.xe s := by
  obtain ⟨mA, O, _, _, _, _⟩ := ins_get I.hok ea
  obtain ⟨od, J, _⟩ := O.look
  have hl : ([Value.ref a] ++ []).length = ps.length := by rw [← Fn.len _ _ _ _ h]; rfl
  have rc := Fn.run X.A.in1 X.stack s H ⟨[.ref a], []⟩ [.ref a] [.ref a] _ E0 hr.in1 I.env0.in1 (hb s [.ref a] I.kIn hl) (.cons rfl .nil) h
  have back : wpAny (model X.prog X.w) X.A.in1 (call (.ref f) [.ref a]) (fun u s' => ∃ (i : Int) (t : Tok) (H' : Hp), u = .int i t ∧ 0 ≤ i ∧ i < 2 ^ 63 ∧ Inv X pins σ H' s' ∧ Q (.int i) H') X.xe s := by
    refine wpAny_call (codeAny_mono rc fun r s' hq => ?_)
    cases r with
    | error e =>
      obtain ⟨_, _, _, _, _, _, _, _, _, _, _, _, z⟩ := (show L2.CX X.prog X.w X.stack H s E0 e s' from hq)
      exact z.elim
    | ok fl =>
      cases fl with
      | ret u =>
        obtain ⟨v, H', I3, rv, i, rfl, h0, h1, q⟩ := I.after hq
        obtain ⟨t, rfl⟩ := rv
        exact ⟨i, t, H', rfl, h0, h1, I3, q⟩
      | next => exact False.elim hq
      | brk => exact False.elim hq
      | cont => exact False.elim hq
  refine Calls.call_function_entry kind_len plain_len entry_len (args_len1 _) ?_
  unfold Builtin.«len»
  refine wpAny_bind (m := oneArg "len" _) (wpAny_pure ?_)
  refine wpAny_bind (m := callSpecial? (.ref a) (PySem.Str.ofString "__len__")) (PySem.W.special_fn I.kIn J hm.at_ (beq_iff_eq.mp hm.fn) (wpAny_mono back (fun u s' hu => ?_) fun _ _ y => y))
  obtain ⟨i, t, H', rfl, h0, h1, I3, q⟩ := hu
  refine wpAny_bind (wpAny_holding (wpAny_pure (wpAny_bind (wpAny_letGo ?_))))
  have n0 : ¬ i < 0 := by omega
  have n1 : ¬ i ≥ 2 ^ 63 := by omega
  show wpAny _ _ (if i < 0 then _ else _) _ _ _
  rw [if_neg n0]
  show wpAny _ _ (if i ≥ 2 ^ 63 then _ else _) _ _ _
  rw [if_neg n1]
  exact wpAny_bind (wpAny_mkInt (wpAny_pure ⟨_, rfl, .int i, H', I3.tok _, ⟨_, rfl⟩, q⟩))
theorem fe_lenO {k : Nat} {o : Expr} {co : CE} {m : Nat} {pp pos : Pos} (hx : ("__len__" : Str) = G.nm m) (hK : X.K = G.K) (C : ∀ c g, G.T.meth c m = some g → FnC G X.prog X.w X.mg X.base k F g) (hr : Room (k + 1) X.A) (hm : X.mg "len" = none) (hg : Gl X "len")
    (ho : PE X o (tM G E (evE G.T F co))) (he : starEach [o] X.env = (false, eval o X.env) :: starEach [] X.env := by rfl) (hpl : (backTo pos (starEach [] X.env)).any (·.1) = false := by rfl) :
    PE X (.Call (.Name "len" pp) [o] [] pos) (tM G E (evE G.T F (.lenO m co))) := by
  refine ⟨fun pins s σ H Q I h => ?_⟩
  have bv : bootBuiltins "len" = some (.builtin "len") := by decide +kernel
  have ahead : tM G E (evE G.T F co) σ H (fun _ _ => False) → wpAny (model X.prog X.w) X.A (eval (.Call (.Name "len" pp) [o] [] pos) X.env) (EP X pins σ Q) X.xe s := fun z =>
    (pe_callB (r := fun _ _ _ => False) (fun _ _ _ _ _ _ _ _ _ z => z.elim) hg hm bv (pa_cons ho pa_nil he) (by decide) (by decide) he hpl).run pins s σ H Q I z
  rcases by_class (co := co) (m := evE G.T F (.lenO m co)) (K1 := fun c x h r => match G.T.meth c m with
      | some f => lenOF (F f [x] h)
      | none => .bad) (fun r h => rfl) h with ⟨w, r, hH, ok, re, g⟩ | ⟨c, kc, w, r, hH, ok, re, g⟩
  · exact ahead ⟨w, r, hH, ok, re, g _⟩
  · cases q : G.T.meth c m with
    | none =>
      refine ahead ⟨w, r, hH, ok, re, g.mono fun x H1 ⟨w1, r1, l, a, dx, fs, fs', _, _, _, _, _, _, _, _, _, g1⟩ => ?_⟩
      simp only [q] at g1
      exact g1.elim
    | some f =>
      obtain ⟨⟨fd, ps, Fn, hb⟩, kp⟩ := C c f q
      rw [← hK] at Fn hb
      obtain ⟨hme, _⟩ := kc.meth m f q
      rw [← hx] at hme
      have hc : CallR X (.builtin "len") (fun xs H Q => ∃ a dx fs, xs = [.ref a] ∧ H a = some (.ins (G.Cl c) dx fs) ∧ spM G (F f) [.ref a] H (fun v H1 => ∃ i : Int, v = .int i ∧ 0 ≤ i ∧ i < 2 ^ 63 ∧ Q (.int i) H1) E0) := by
        intro pins s σ H xs us Q I r ⟨a, dx, fs, e, ea, hs⟩
        subst e
        cases r with
        | cons r0 rr =>
          cases rr
          cases r0
          exact call_lenO (hK ▸ hme) Fn hr hb I ea hs
      refine (pe_callB hc hg hm bv (pa_cons ho pa_nil he) (by decide) (by decide) he hpl).run pins s σ H Q I ⟨w, r, hH, ok, re, g.mono fun x H1 ⟨w1, r1, l, a, dx, fs, fs', hH1, k1, re1, rl, ex, ea, ei, en, eL, g1⟩ => ?_⟩
      simp only [q] at g1
      subst ex
      refine ⟨a, dx, fs', rfl, ea, w1, [l], hH1, k1, .cons rl .nil, ?_⟩
      cases q2 : F f [l] w1.h with
      | bad => simp only [q2, lenOF] at g1; exact g1.elim
      | exc c fs h => simp only [q2, lenOF] at g1; exact g1.elim
      | ok y h' =>
        rw [q2] at g1
        unfold lenOF at g1
        split at g1
        · rename_i i h2 e
          cases e
          split at g1
          · rename_i hi
            intro w2 e2 k2 eh v rv
            subst eh
            cases rv with
            | v rv =>
              cases rv
              exact ⟨i, rfl, hi.1, hi.2, g1 w2 e2 k2 rfl _ (.v (.int i))⟩
          · exact g1.elim
        · exact g1.elim
end
section
variable {p : PD} {G : Gm} {mg : Str → Option Value} {nF : List Nat} {k : Nat} {F : Phi} {E : XK} {N : List Str} {sc : Scope} {X : Cx} {e e2 o : Expr} {co : CE} {cs : CEs} {pp pos apos cpos : Pos}
theorem Ctx.lenO (C : Ctx G mg nF k F E N sc X) (T : Facts p G mg) (m : Nat) (hx : ("__len__" : Str) = G.nm m) (hnF : nF = p.ids) (hm : mg "len" = none) (hg : isGl sc "len" = true) (ho : PE X o (tM G E (evE G.T F co)))
    (he : starEach [o] X.env = (false, eval o X.env) :: starEach [] X.env := by rfl) (hpl : (backTo pos (starEach [] X.env)).any (·.1) = false := by rfl) : PE X (.Call (.Name "len" pp) [o] [] pos) (tM G E (evE G.T F (.lenO m co))) :=
  fe_lenO hx C.hK (fun c g h => C.fc g (hnF ▸ T.methLt c m g h)) C.room (C.m hm) (C.gln hg) ho he hpl
theorem Ctx0.insert (C : Ctx0 G mg nF k F E N sc X) (ho : PE X o (tM G E (evE G.T F co))) (ha : PA X [e, e2] (tMs G E (evEs G.T F cs))) (hbase : attributeBase o "insert" X.env (eval o X.env) = eval o X.env := by rfl)
    (hfew : ((backTo cpos (starEach [e, e2] X.env)).all (fun x => !x.1) && (backToKw cpos (keywordEach [] X.env)).all (fun x => x.1.isSome)
      && decide ([e, e2].length + ([] : List Keyword).length + (if ([] : List Keyword).isEmpty then 0 else 1) < 30)) = true := by rfl)
    (hline : (apos.endLine == cpos.line) = true := by rfl) (hs : starEach [e, e2] X.env = (false, eval e X.env) :: starEach [e2] X.env := by rfl) (hplain : (backTo cpos (starEach [e2] X.env)).any (·.1) = false := by rfl) : PE X (.Call (.Attribute o "insert" apos) [e, e2] [] cpos) (tM G E (evE G.T F (.bm .insert co cs))) :=
  fe_bmL C.hK (fun _ _ => rfl) PySem.F.slot_list_insert PySem.F.type_list_insert mtM_insert ho ha (pe_bm PySem.F.plainAttrs_list PySem.F.slot_list_insert PySem.F.type_list_insert mtM_insert ho ha hbase hfew hline hs hplain)
theorem Ctx0.count (C : Ctx0 G mg nF k F E N sc X) (ho : PE X o (tM G E (evE G.T F co))) (ha : PA X [e] (tMs G E (evEs G.T F cs))) (hbase : attributeBase o "count" X.env (eval o X.env) = eval o X.env := by rfl)
    (hfew : ((backTo cpos (starEach [e] X.env)).all (fun x => !x.1) && (backToKw cpos (keywordEach [] X.env)).all (fun x => x.1.isSome)
      && decide ([e].length + ([] : List Keyword).length + (if ([] : List Keyword).isEmpty then 0 else 1) < 30)) = true := by rfl)
    (hline : (apos.endLine == cpos.line) = true := by rfl) (hs : starEach [e] X.env = (false, eval e X.env) :: starEach [] X.env := by rfl) (hplain : (backTo cpos (starEach [] X.env)).any (·.1) = false := by rfl) : PE X (.Call (.Attribute o "count" apos) [e] [] cpos) (tM G E (evE G.T F (.bm .count co cs))) :=
  fe_bmL C.hK (fun _ _ => rfl) PySem.F.slot_list_count PySem.F.type_list_count (mtM_count C.hK) ho ha (pe_bm PySem.F.plainAttrs_list PySem.F.slot_list_count PySem.F.type_list_count (mtM_count C.hK) ho ha hbase hfew hline hs hplain)
theorem Ctx0.reverse (C : Ctx0 G mg nF k F E N sc X) (ho : PE X o (tM G E (evE G.T F co))) (hbase : attributeBase o "reverse" X.env (eval o X.env) = eval o X.env := by rfl) (hline : (apos.endLine == cpos.line) = true := by rfl) : PE X (.Call (.Attribute o "reverse" apos) [] [] cpos) (tM G E (evE G.T F (.bm .reverse co .nil))) :=
  fe_bmL0 C.hK (fun _ _ => rfl) PySem.F.slot_list_reverse PySem.F.type_list_reverse mtM_reverse ho (pe_bm0 PySem.F.plainAttrs_list PySem.F.slot_list_reverse PySem.F.type_list_reverse mtM_reverse ho hbase hline)
end
end SC

set_option maxHeartbeats 2000000
namespace SC
open PySem PySem.Spec PyProof.Rows L2
/-! ### t[::-1], t a tuple -/
section
variable {prog : Program} {w : World} {A : Around} {E : Value → Shared → Prop} {s : Shared}
theorem rev_applied {sl : Addr} {t : Tok} {n : Nat} {Q : Int × Int × Nat → Shared → Prop} (hs : s.heap.IsSliceOf sl .none .none (.int (-1) t)) (h : Q ((n : Int) - 1, -1, n) s) :
    wpAny (model prog w) A (Builtin.Slice.sliceApplied (.ref sl) (pure (n : Int))) Q E s := by
  obtain ⟨os, hos, hcs, hds⟩ := id hs
  unfold Builtin.Slice.sliceApplied Builtin.Slice.sliceFields
  refine wpAny_bind (wpAny_bind (wpAny_field hos hds (x := .none) rfl (wpAny_bind (wpAny_field hos hds (x := .none) rfl (wpAny_bind (wpAny_field hos hds (x := .int (-1) t) rfl (wpAny_pure ?_)))))))
  refine wpAny_bind (slicePart_int ?_)
  have n0 : ¬ (((some (-1 : Int)).getD 1) == 0) = true := by decide
  rw [if_neg n0]
  refine wpAny_bind (slicePart_none (wpAny_bind (slicePart_none (wpAny_bind (wpAny_pure ?_)))))
  have e1 : Builtin.Slice.sliceAdjust none none (-1) (n : Int) = ((n : Int) - 1, -1) := rfl
  have e2 : Builtin.Slice.slicePlaces ((n : Int) - 1) (-1) (-1) = n := by
    unfold Builtin.Slice.slicePlaces
    have h1 : ¬ ((-1 : Int) > 0) := by decide
    simp only [h1, if_false, show (- -1 : Int) = 1 by decide, Int.ediv_one]
    split <;> omega
  show wpAny _ _ (match Builtin.Slice.sliceAdjust none none (-1) (n : Int) with | (lo, hi) => pure (lo, (-1 : Int), Builtin.Slice.slicePlaces lo hi (-1))) _ _ s
  rw [e1]
  show wpAny _ _ (pure ((n : Int) - 1, (-1 : Int), Builtin.Slice.slicePlaces ((n : Int) - 1) (-1) (-1))) _ _ s
  rw [e2]
  exact wpAny_pure h
theorem rev_pick (xs : Array Value) : ((List.range xs.size).filterMap fun (k : Nat) => xs[((xs.size : Int) - 1 + (k : Int) * (-1)).toNat]?).toArray = xs.toList.reverse.toArray := by
  have e : ∀ k ∈ List.range xs.size, xs[((xs.size : Int) - 1 + (k : Int) * (-1)).toNat]? = xs[xs.size - 1 - k]? := fun k hk => by
    have : ((xs.size : Int) - 1 + (k : Int) * (-1)).toNat = xs.size - 1 - k := by
      have := List.mem_range.mp hk
      omega
    rw [this]
  have e2 : ((List.range xs.size).filterMap fun (k : Nat) => xs[((xs.size : Int) - 1 + (k : Int) * (-1)).toNat]?) = (List.range xs.size).filterMap fun k => xs[xs.size - 1 - k]? := by
    have go : ∀ (l : List Nat) (f g : Nat → Option Value), (∀ k ∈ l, f k = g k) → l.filterMap f = l.filterMap g := by
      intro l f g
      induction l with
      | nil => intro _; rfl
      | cons a l ih =>
        intro h
        rw [List.filterMap_cons, List.filterMap_cons, h a List.mem_cons_self, ih fun k hk => h k (List.mem_cons_of_mem _ hk)]
    exact go _ _ _ e
  rw [e2]
  have e3 : ((List.range xs.size).filterMap fun k => xs[xs.size - 1 - k]?) = ((List.range xs.size).map fun k => xs.size - 1 - k).filterMap (xs[·]?) := by rw [List.filterMap_map]; rfl
  rw [e3, PySem.W.krv_range, List.filterMap_reverse, PySem.W.krv_all]
theorem getItem_rev {t sl : Addr} {items : Array Value} {tk : Tok} {Q : Value → Shared → Prop} (ht : IsTup s.heap t items) (hs : s.heap.IsSliceOf sl .none .none (.int (-1) tk))
    (h : Q (.ref s.heap.objs.size) { s with heap := s.heap.push { cls := .type "tuple", data := .seq items.toList.reverse.toArray } }) (hsz : items.size ≤ sizeLine) : wpAny (model prog w) A (getItem (.ref t) (.ref sl)) Q E s := by
  have hok : sizeOk (.seq items.toList.reverse.toArray) := by
    show items.toList.reverse.toArray.size ≤ sizeLine
    simpa using hsz
  obtain ⟨os, hos, hcs, hds⟩ := id hs
  have hTs : s.TypeIs (.ref sl) "slice" := ⟨os, hos, hcs⟩
  unfold getItem
  try with_reducible refine wpAny_holding ?_
  first | refine wpAny_bind (wpAny_pure ?_) | skip
  refine wpAny_bind (wpAny_sequenceKey ht.typeIs (by decide) ?_)
  refine wpAny_bind (wpAny_callSpecial?_slot (name := Str.ofString "__getitem__") ht.typeIs PyProof.Rows.slot_tuple_getitem
    (wpAny_call_entry PyProof.Rows.slot_tuple_getitem ht.typeIs entry_tuple_getitem ?_ (args_tuple_getitem _ _)))
  show wpAny _ _ (Builtin.Tuple.tupleItemsOf (.ref t) >>= _) _ _ s
  refine wpAny_bind (PyProof.Rows.tupleItemsOf_ ht ?_)
  refine wpAny_bind (wpAny_typeOf hTs ?_)
  rw [if_pos (by decide)]
  refine wpAny_bind (rev_applied hs ?_)
  have hno : ¬ ((((items.size : Int) - 1) == 0 && (-1 : Int) == 1 && items.size == items.size) = true) := by
    rw [show ((-1 : Int) == 1) = false from by decide, Bool.and_false, Bool.false_and]
    exact Bool.false_ne_true
  show wpAny _ _ (if (((items.size : Int) - 1) == 0 && (-1 : Int) == 1 && items.size == items.size) = true then _ else _) _ _ s
  rw [if_neg hno, rev_pick]
  first
    | exact wpAny_bind (m := Builtin.Tuple.tupleExact _) (wpAny_newObj_type (wpAny_pure ⟨_, rfl, wpAny_pure h⟩) hok)
    | exact wpAny_bind (m := Builtin.Tuple.tupleExact _) (wpAny_newObj_type (wpAny_bind (wpAny_pure (wpAny_pure ⟨_, rfl, wpAny_pure h⟩))) hok)
    | exact wpAny_bind (wpAny_bind (m := Builtin.Tuple.tupleExact _) (wpAny_newObj_type (wpAny_pure (wpAny_pure ⟨_, rfl, wpAny_pure h⟩)) hok))
    | exact wpAny_bind (wpAny_bind (m := Builtin.Tuple.tupleExact _) (wpAny_newObj_type (wpAny_pure ⟨_, rfl, wpAny_pure h⟩) hok))
end
section
variable {G : Gm} {E : XK} {X : Cx} {F : Phi}
def tRevT (K : PySem.W.Frag) (te t2 : TE) : TE := fun σ H Q => te σ H fun x H1 => t2 σ H1 fun y H2 => y = .int (-1) ∧ ∃ a xs, x = .ref a ∧ SqT K H2 a xs ∧ NewT xs.reverse H2 Q
theorem pe_revT {e e2 : Expr} {te t2 : TE} {pos p2 : Pos} (he : PE X e te) (h2 : PE X e2 t2) : PE X (.Subscript e (.Slice none none (some e2) p2) pos) (tRevT X.K te t2) := by
  refine ⟨fun pins s σ H Q I h => ?_⟩
  refine Subscript_ (thn (he.run pins s σ H _ I h) fun v s1 ⟨x, H1, I1, r1, q1⟩ => ?_)
  refine wpAny_Slice ?_
  rw [evalPart_none]
  refine wpAny_pure ?_
  refine wpAny_pure ?_
  rw [evalPart_some]
  refine thn (h2.run pins s1 σ H1 _ I1 q1) fun vk s3 ⟨y, H3, I3, r3, ey, a, xs, ex, hx, q⟩ => ?_
  subst ey
  subst ex
  obtain ⟨tk, rfl⟩ := r3
  obtain rfl : v = Value.ref a := r1
  have I4 : Inv X pins σ H3 { s3 with heap := s3.heap.push { cls := .type "slice", data := .fields #[.none, .none, .int (-1) tk] } } := I3.kept (t' := s3.toks) fun b ob q => Heap.get?_push_of_some _ q
  obtain ⟨its, r, ht, hz⟩ := I4.tuple hx
  have hlen : its.toArray.size = xs.length := by rw [List.size_toArray]; exact r.length.symm
  have hg : wpAny (model X.prog X.w) X.A (getItem (.ref a) (.ref s3.heap.objs.size)) (EP X pins σ Q) X.xe { s3 with heap := s3.heap.push { cls := .type "slice", data := .fields #[.none, .none, .int (-1) tk] } } := by
    refine getItem_rev ht (Heap.IsSliceOf.new ..) ?_ (by rw [hlen]; exact hz)
    exact ⟨.ref _, _, laidT (t' := s3.toks) I4 r.reverse (by rw [List.length_reverse]; exact hz), rfl, q _ _ (I4.hok.fresh (Nat.le_refl _)) rfl rfl⟩
  show wpAny (model X.prog X.w) X.A (subscriptTail e (.Slice none none (some e2) p2) (.ref a) (.ref s3.heap.objs.size)) (EP X pins σ Q) X.xe { s3 with heap := s3.heap.push { cls := .type "slice", data := .fields #[.none, .none, .int (-1) tk] } }
  exact tail_any (ops := [.ref a, .ref s3.heap.objs.size]) ht.typeIs PyProof.Rows.slot_tuple_getitem.lookup hg (by with_unfolding_all rfl)
theorem RepVs.revV {F : Hp} : ∀ {xs : List MV} {ws : List V}, RepVs G F xs ws → RepVs G F xs.reverse ws.reverse := by
  have app : ∀ {F : Hp} {xs : List MV} {ws : List V} {ys : List MV} {us : List V}, RepVs G F xs ws → RepVs G F ys us → RepVs G F (xs ++ ys) (ws ++ us) := by
    intro F xs
    induction xs with
    | nil => intro ws ys us h k; cases h; exact k
    | cons x xs ih => intro ws ys us h k; cases h with | cons h t => exact .cons h (ih t k)
  intro xs
  induction xs with
  | nil => intro ws h; cases h; exact .nil
  | cons x xs ih =>
    intro ws h
    cases h with
    | cons h t => rw [List.reverse_cons, List.reverse_cons]; exact app (ih t) (.cons h .nil)
theorem fe_rev {e e2 : Expr} {c : CE} {pos p2 : Pos} (hK : X.K = G.K) (he : PE X e (tM G E (evE G.T F c))) (h2 : PE X e2 (tM G E (evE G.T F (.neg (.cst (.int 1)))))) :
    PE X (.Subscript e (.Slice none none (some e2) p2) pos) (tM G E (evE G.T F (.rev c))) := by
  refine PE.weaken (pe_revT he h2) fun σ H Q ⟨w, r, hH, ok, re, g⟩ => ?_
  simp only [evE] at g
  refine ⟨w, r, hH, ok, re, (Good.bind (R1 := RepL G) g).mono fun x H1 ⟨w1, a, e1, k1, hH1, ra, _, g1⟩ => ?_⟩
  refine ⟨w1, r, hH1, k1, re.ext e1, ?_⟩
  have e0 : evE G.T F (.neg (.cst (.int 1))) r w1.h = .ok (.v (.int (-1))) w1.h := by simp [evE, ret, Out.bind]
  rw [e0]
  intro w2 e2' k2 eh v rv
  cases rv with
  | v rv =>
    cases rv
    refine ⟨rfl, ?_⟩
    cases a with
    | r n => exact g1.elim
    | v y =>
      cases y with
      | tup ys =>
        have ra2 := ra.ext e2'
        cases ra2 with
        | v ra2 =>
          cases ra2 with
          | @tup p _ ws h rr =>
            refine ⟨p, ws, rfl, hK ▸ Sub.sqT k2.le h.sq, fun n o hn hd hc => ?_⟩
            simp only [revF] at g1
            split at g1
            · refine g1 (w2.lay n _) (e2'.trans (w2.lay_ext k2 hn)) (w2.lay_ok k2 hn) eh _ (.v (.tup (.inl ⟨o, upd_same, hd, hc⟩) ((RepVs.revV rr).mono (w2.lay_ext (G := G) k2 hn).mono)))
            · exact g1.elim
      | _ => exact g1.elim
end
end SC

namespace SC
open PySem PySem.Spec PyProof.Rows L2
theorem walk_ofW {l : PySem.W.OpenLaw} {n k : Nat} {q : Program} {loose : List Str} {XP : (Str → Option Value) → Heap → Prop} {YP : World → Heap → Prop} {d : DefRec} {x : Str}
    (hn : l.most = some n) (hn2 : n ≤ sizeLine) (hdf : d.params.defaults = []) (hr : Room k callerA)
    (F : ∀ (w : World) (mg : Str → Option Value) (fa : Addr) (h : Heap), YP w h → h.Ns mainGlobals mg → mg d.name = some (.ref fa) →
      ∃ (K : PySem.W.Frag) (fd : FuncData) (sp : Sp), K.In h ∧ (∀ (s : Shared) (u : Value), BindsTo s fd ⟨[u], []⟩ [(x, u)]) ∧
        (∀ (H : Hp) (a : Addr) (ns : List Int), ns.length ≤ n → Only H → SqL K H a (ns.map V.int) → sp [.ref a] H (fun v _ => v = .bl true) fun _ _ _ => False) ∧
        ∀ base : Heap, K.In base → base.Ns mainGlobals mg → FnOk l.prog w K mg base (L2.CX l.prog w) k fa fd [x] sp) :
    PySem.W.WalkO q loose XP YP l.row.toRowW d [] (fun f vs => PySem.call f vs) := by
  refine Att.attach_call hn hdf fun w s₀ s₁ mg mb fa o pm cd doc a vs ns G Y ho hd hcd hmg hobj hints hlen hg => ?_
  obtain ⟨K, fd, sp, KX, hb, hsp, hF⟩ := F w mg fa _ Y G.T.g hmg
  exact law_call KX G.T.g G.T.b G.T.builtins G.T.nolimit hg hobj hints (Nat.le_trans hlen hn2) hr hF hb (fun H hO hS => hsp H a ns hlen hO hS) fun H e s' z => by
    obtain ⟨_, _, _, _, _, _, _, _, _, _, _, _, z⟩ := z
    exact z
theorem law_ints {G : Gm} {F : Hp} : ∀ ns : List Int, RepVs G F (ns.map MV.int) (ns.map V.int)
  | [] => .nil
  | n :: ns => .cons (.int n) (law_ints ns)
/-- all but the tables -/
def noTab (H : Hp) : Hp := fun a => match H a with
  | some (.tbl _) => none
  | o => o
theorem noTab_of {H : Hp} {a : Addr} {o : HO} (h : H a = some o) (ht : ∀ ps, o ≠ .tbl ps) : noTab H a = some o := by
  unfold noTab
  rw [h]
  cases o with
  | tbl ps => exact absurd rfl (ht ps)
  | _ => rfl
theorem noTab_sub {H : Hp} : Sub (noTab H) H := fun a o h => by
  unfold noTab at h
  split at h
  · cases h
  · exact h
theorem law_sp {G : Gm} {f : List LV → MH → Out LV} (hf : ∀ ns : List Int, ns.length ≤ 63 → ∃ h', f [.v (.scr (ns.map .int))] [] = .ok (.v (.bl true)) h') {H : Hp} {a : Addr} {ns : List Int} (hl : ns.length ≤ 63) (hT : ∀ p ∈ G.tabs, H p.1 = some (.tbl #[])) (hS : SqL G.K H a (ns.map V.int)) :
    spM G f [.ref a] H (fun v _ => v = .bl true) fun _ _ _ => False := by
  obtain ⟨h', e⟩ := hf ns hl
  have hS' : SqL G.K (noTab H) a (ns.map V.int) := by
    rcases hS with (h | ⟨o, h⟩) | h
    · exact .inl (.inl (noTab_of h fun _ z => nomatch z))
    · exact .inl (.inr ⟨o, noTab_of h fun _ z => nomatch z⟩)
    · exact .inr h
  refine ⟨⟨fun _ => 0, noTab H, [], H⟩, [.v (.scr (ns.map .int))], rfl, ⟨noTab_sub, fun n o h => by simp at h, fun n m h => by simp at h, fun p hp => ⟨⟨#[], hT p hp, True.intro, fun pos cv z => by simp [codeAmong] at z⟩, fun n h => by simp at h, ?_⟩⟩, .cons (.v (.scr hS' (law_ints ns))) .nil, ?_⟩
  · show noTab H p.1 = none
    unfold noTab
    rw [hT p hp]
  rw [e]
  intro w' _ _ _ v rv
  cases rv with
  | v rv => cases rv; rfl
theorem lamB_ok {K : PySem.W.Frag} {h : Heap} {q : Addr × Addr} (X : K.In h) (b : lamB K q = true) : PySem.W.CodeHd h q.1 q.2 ∧ K.lookup q.2 = none := by
  unfold lamB at b
  obtain ⟨b1, b⟩ := He.ba b
  obtain ⟨b2, b3⟩ := He.ba b
  refine ⟨?_, by simpa using b2⟩
  split at b3
  · rename_i od vs sl e
    split at b3
    · rename_i P f1 t1 f2 t2 f3 f4 t4 e1 e2 e3 e4 e5
      have eP : P = q.2 := of_decide_eq_true b3
      subst eP
      refine ⟨_, vs, f1, t1, f2, t2, f3, f4, t4, X _ _ e, rfl, rfl, e1, ?_, e2, e3, e4, e5, of_decide_eq_true b1⟩
      rw [Array.getD_eq_getD_getElem?, e1]; rfl
    · cases b3
  · cases b3
/-- the end, with tables of code objects -/
theorem law_at {p : PD} {K : PySem.W.Frag} {l : PySem.W.OpenLaw} {w : World} {k : Nat} {x : Str} {mg : Str → Option Value} {fa : Addr} {h : Heap} {f : List LV → MH → Out LV} (X : K.In h) (T : Facts p (p.gm K) mg) (hne : p.errs.isEmpty = false) (em : p.Empty K h)
    (hf : ∀ ns : List Int, ns.length ≤ 63 → ∃ h', f [.v (.scr (ns.map .int))] [] = .ok (.v (.bl true)) h')
    (hF : ∃ fd : FuncData, (∀ (s : Shared) (v : Value), BindsTo s fd ⟨[v], []⟩ [(x, v)]) ∧ ∀ base : Heap, K.In base → base.Ns mainGlobals mg → TbOk (p.gm K) base mg → FnOk l.prog w K mg base (L2.CX l.prog w) k fa fd [x] (spM (p.gm K) f)) :
    LamX.LawAtS l w K (L2.CX l.prog w) k 63 x mg fa h := by
  have ET := T.errT hne
  obtain ⟨fd, hb, hF⟩ := hF
  refine ⟨fd, (p.gm K).cds, _, em, fun q hq => (lamB_ok X (ET.lam q hq)).2, fun q hq => (lamB_ok X (ET.lam q hq)).1, hb, fun H a ns hl _ hT hS => law_sp hf hl (fun q hq => ?_) hS, fun base hk hn tb => hF base hk hn tb⟩
  obtain ⟨y, hy, rfl⟩ := List.mem_map.mp hq
  exact hT _ (List.mem_map.mpr ⟨y, hy, rfl⟩)
end SC

namespace K02
open PySem PySem.Spec PyProof.Rows L2 SC
theorem xs_1 : Xt2 pd.prog (inClass (top 6) 0) (Str.ofString "part") (Str.ofString "index") where
  body := ⟨_, _, _, rfl, ⟨⟨_, _, _, _, _, _, _, _, rfl, fun _ => rfl, fun _ => rfl⟩⟩, ⟨⟨_, _, _, _, rfl, fun _ => rfl⟩⟩, ⟨⟨_, _, _, _, rfl, fun _ => rfl⟩⟩⟩
  head := ⟨_, rfl, rfl⟩
  kind := rfl
  ks := by decide +kernel
  kc := by decide +kernel
  ka := by decide +kernel
  kf := by decide +kernel
  cel := by decide +kernel
  co := by decide +kernel
  gen := by decide +kernel
  bind := fun fd h1 h2 s x v0 v1 => by
    obtain ⟨n1, n2, n3, n4, n5, n6, n7, n8, n9, n10, n11, n12, n13, n14, n15⟩ := fd
    dsimp only at h1 h2
    subst h1 h2
    exact BindsTo.of_eq rfl
  ne := by decide
  db := by decide
  top := by decide +kernel
  kf2 := by decide +kernel
  ne2 := by decide
  n12 := by decide
  db2 := by decide
end K02

namespace SC
open PySem L2
section
variable {T : Tab} {F : Phi} {r : ME} {h : MH}
theorem evE_var {i : Nat} : evE T F (.var i) r h = match r[i]? with
    | some (some x) => .ok x h
    | _ => .bad := by first | (rw [evE]; done) | (rw [evE]; rfl)
theorem evE_cst {x : MV} : evE T F (.cst x) r h = ret x h := by first | (rw [evE]; done) | (rw [evE]; rfl)
theorem evE_nop : evE T F .nop r h = ret .non h := by first | (rw [evE]; done) | (rw [evE]; rfl)
theorem evE_tup {es : CEs} : evE T F (.tup es) r h = (evEs T F es r h).bind fun xs h => match pures xs with
    | some ys => if ys.length ≤ sizeLine then ret (.tup ys) h else .bad
    | none => .bad := by first | (rw [evE]; done) | (rw [evE]; rfl)
theorem evE_lst {es : CEs} : evE T F (.lst es) r h = (evEs T F es r h).bind fun xs h => match pures xs with
    | some ys => if ys.length ≤ sizeLine then ret (.lst ys) h else .bad
    | none => .bad := by first | (rw [evE]; done) | (rw [evE]; rfl)
theorem evE_lstL {es : CEs} : evE T F (.lstL es) r h = (evEs T F es r h).bind fun xs h => if xs.length ≤ sizeLine then .ok (.r h.length) (h ++ [.lst xs]) else .bad := by first | (rw [evE]; done) | (rw [evE]; rfl)
theorem evE_bin {op : BOp} {a b : CE} : evE T F (.bin op a b) r h = (evE T F a r h).bind fun x h => (evE T F b r h).bind fun y h => binF op x y h := by first | (rw [evE]; done) | (rw [evE]; rfl)
theorem evE_neg {a : CE} : evE T F (.neg a) r h = (evE T F a r h).bind fun x h => match x with
    | .v (.int i) => ret (.int (-i)) h
    | _ => .bad := by first | (rw [evE]; done) | (rw [evE]; rfl)
theorem evE_not {a : CE} : evE T F (.not a) r h = (evE T F a r h).bind fun x h => match x with
    | .v (.bl b) => ret (.bl (!b)) h
    | _ => .bad := by first | (rw [evE]; done) | (rw [evE]; rfl)
theorem evE_and {a b : CE} : evE T F (.and a b) r h = (evE T F a r h).bind fun x h => match x with
    | .v (.bl true) => evE T F b r h
    | .v (.bl false) => ret (.bl false) h
    | _ => .bad := by first | (rw [evE]; done) | (rw [evE]; rfl)
theorem evE_or {a b : CE} : evE T F (.or a b) r h = (evE T F a r h).bind fun x h => match x with
    | .v (.bl true) => ret (.bl true) h
    | .v (.bl false) => evE T F b r h
    | _ => .bad := by first | (rw [evE]; done) | (rw [evE]; rfl)
theorem evE_ite {t a b : CE} : evE T F (.ite t a b) r h = (evE T F t r h).bind fun x h => match x with
    | .v (.bl true) => evE T F a r h
    | .v (.bl false) => evE T F b r h
    | _ => .bad := by first | (rw [evE]; done) | (rw [evE]; rfl)
theorem evE_cmp {op : COp} {a b : CE} : evE T F (.cmp op a b) r h = (evE T F a r h).bind fun x h => (evE T F b r h).bind fun y h => cmpO op x y h := by first | (rw [evE]; done) | (rw [evE]; rfl)
theorem evE_chn {o1 o2 : COp} {a b c : CE} : evE T F (.chn o1 o2 a b c) r h = (evE T F a r h).bind fun x h => (evE T F b r h).bind fun y h => (cmpO o1 x y h).bind fun z h => match z with
    | .v (.bl true) => (evE T F c r h).bind fun w h => cmpO o2 y w h
    | .v (.bl false) => ret (.bl false) h
    | _ => .bad := by first | (rw [evE]; done) | (rw [evE]; rfl)
theorem evE_call {f : Nat} {es : CEs} : evE T F (.call f es) r h = (evEs T F es r h).bind fun xs h => F f xs h := by first | (rw [evE]; done) | (rw [evE]; rfl)
theorem evE_make {c : Nat} {es : CEs} : evE T F (.make c es) r h = (evEs T F es r h).bind fun xs h => match T.init c with
    | some f => (F f (.r h.length :: xs) (h ++ [.ins c []])).bind fun z h' => match z with
      | .v .non => makeEnd T c h.length h'
      | _ => .bad
    | none => .bad := by first | (rw [evE]; done) | (rw [evE]; rfl)
theorem evE_meth {m : Nat} {o : CE} {es : CEs} : evE T F (.meth m o es) r h = (evE T F o r h).bind fun x h => match insOf T h x with
    | some (c, _) => match T.meth c m with
      | some f => (evEs T F es r h).bind fun xs h => F f (x :: xs) h
      | none => .bad
    | none => .bad := by first | (rw [evE]; done) | (rw [evE]; rfl)
theorem evE_attr {f : Nat} {o : CE} : evE T F (.attr f o) r h = (evE T F o r h).bind fun x h => match insOf T h x with
    | some (c, fs) => match T.prop c f with
      | some g => noexc (F g [x] h)
      | none => if f ∈ T.lay c then (match fs.lookup f with
        | some y => .ok y h
        | none => .bad) else .bad
    | none => .bad := by first | (rw [evE]; done) | (rw [evE]; rfl)
theorem evE_inst {o : CE} {es : CEs} : evE T F (.inst o es) r h = (evE T F o r h).bind fun x h => match insOf T h x with
    | some (c, _) => match T.callm c with
      | some f => (evEs T F es r h).bind fun xs h => match insOf T h x with
        | some (d, _) => if d = c then F f (x :: xs) h else .bad
        | none => .bad
      | none => .bad
    | none => .bad := by first | (rw [evE]; done) | (rw [evE]; rfl)
theorem evE_blt {b : Blt} {es : CEs} : evE T F (.blt b es) r h = (evEs T F es r h).bind fun xs h => bltF T b xs h := by first | (rw [evE]; done) | (rw [evE]; rfl)
theorem evE_bm {m : BMt} {o : CE} {es : CEs} : evE T F (.bm m o es) r h = (evE T F o r h).bind fun x h => if recvOk m x h = true then (evEs T F es r h).bind fun xs h => bmF m x xs h else .bad := by first | (rw [evE]; done) | (rw [evE]; rfl)
theorem evE_idx {a b : CE} : evE T F (.idx a b) r h = (evE T F a r h).bind fun x h => (evE T F b r h).bind fun y h => idxF x y h := by first | (rw [evE]; done) | (rw [evE]; rfl)
theorem evE_slc {live : Bool} {a lo hi : CE} : evE T F (.slc live a lo hi) r h = (evE T F a r h).bind fun x h => (if lo.isNop = true then .ok none h else (evE T F lo r h).bind fun y h => optI y h).bind fun l h =>
    (if hi.isNop = true then .ok none h else (evE T F hi r h).bind fun y h => optI y h).bind fun u h => slcF live x l u h := by first | (rw [evE]; done) | (rw [evE]; rfl)
/-- one turn of a comprehension -/
def compStep (T : Tab) (F : Phi) (t : Tg) (c e : CE) (r : ME) (x : LV) (h : MH) : Out (Option LV) := match asgT t x (wipeR r (tgSlots t)) with
      | some r' => (evE T F c r' h).bind fun b h => match b with
        | .v (.bl true) => (evE T F e r' h).bind fun y h => .ok (some y) h
        | .v (.bl false) => .ok none h
        | _ => .bad
      | none => .bad
theorem evE_comp {live : Bool} {t : Tg} {it : CI} {c e : CE} : evE T F (.comp live t it c e) r h = (evI T F it r h).bind fun I h => (compL I.live (compStep T F t c e r) I.items [] h).bind fun ys h => if live then .ok (.r h.length) (h ++ [.lst ys]) else match pures ys with
        | some zs => ret (.lst zs) h
        | none => .bad := by first | (rw [evE]; done) | (rw [evE]; rfl)
theorem evE_errL {e : CE} : evE T F (.errL e) r h = errF T (evE T F e r h) := by first | (rw [evE]; done) | (rw [evE]; rfl)
theorem evE_isx {c a : Nat} {d : Option Nat} {x i : Nat} : evE T F (.isx c a d x i) r h = isxF T c a d x (r[i]?) h := by first | (rw [evE]; done) | (rw [evE]; rfl)
theorem evE_xat {c a : Nat} {d : Option Nat} {x i : Nat} : evE T F (.xat c a d x i) r h = xatF T c a d x (r[i]?) h := by first | (rw [evE]; done) | (rw [evE]; rfl)
theorem evE_rev {a : CE} : evE T F (.rev a) r h = (evE T F a r h).bind fun x h => revF x h := by first | (rw [evE]; done) | (rw [evE]; rfl)
theorem evE_lenO {m : Nat} {o : CE} : evE T F (.lenO m o) r h = (evE T F o r h).bind fun x h => match insOf T h x with
    | some (c, _) => match T.meth c m with
      | some f => lenOF (F f [x] h)
      | none => .bad
    | none => .bad := by first | (rw [evE]; done) | (rw [evE]; rfl)
theorem evE_frz {e : CE} : evE T F (.frz e) r h = (evE T F e r h).bind fun x h => freeze x h := by first | (rw [evE]; done) | (rw [evE]; rfl)
theorem evEs_nil : evEs T F .nil r h = .ok [] h := by first | (rw [evEs]; done) | (rw [evEs]; rfl)
theorem evEs_cons {e : CE} {es : CEs} : evEs T F (.cons e es) r h = (evE T F e r h).bind fun x h => (evEs T F es r h).bind fun xs h => .ok (x :: xs) h := by first | (rw [evEs]; done) | (rw [evEs]; rfl)
theorem evI_val {e : CE} : evI T F (.val e) r h = (evE T F e r h).bind fun x h => match itVal x h with
    | some I => .ok I h
    | none => .bad := by first | (rw [evI]; done) | (rw [evI]; rfl)
theorem evI_rng {e : CE} : evI T F (.rng e) r h = (evE T F e r h).bind fun x h => match itRng (.v (.int 0)) x with
    | some I => .ok I h
    | none => .bad := by first | (rw [evI]; done) | (rw [evI]; rfl)
theorem evI_rng2 {a b : CE} : evI T F (.rng2 a b) r h = (evE T F a r h).bind fun x h => (evE T F b r h).bind fun y h => match itRng x y with
    | some I => .ok I h
    | none => .bad := by first | (rw [evI]; done) | (rw [evI]; rfl)
theorem evI_enum {e : CE} : evI T F (.enum e) r h = (evE T F e r h).bind fun x h => match itEnum x h with
    | some I => .ok I h
    | none => .bad := by first | (rw [evI]; done) | (rw [evI]; rfl)
theorem evI_zip {a b : CE} : evI T F (.zip a b) r h = (evE T F a r h).bind fun x h => (evE T F b r h).bind fun y h => match itZip x y with
    | some I => .ok I h
    | none => .bad := by first | (rw [evI]; done) | (rw [evI]; rfl)
theorem evS_asg {t : Tg} {e : CE} : evS T F (.asg t e) r h = (evE T F e r h).thenS fun x h => match asgT t x r with
    | some r' => .nxt r' h
    | none => .bad := by first | (rw [evS]; done) | (rw [evS]; rfl)
theorem evS_par {is : List Nat} {es : CEs} : evS T F (.par is es) r h = (evEs T F es r h).thenS fun xs h => if xs.length = is.length then .nxt (setsL is xs r) h else .bad := by first | (rw [evS]; done) | (rw [evS]; rfl)
theorem evS_setF {f : Nat} {o e : CE} : evS T F (.setF f o e) r h = (evE T F e r h).thenS fun x h => (evE T F o r h).thenS fun y h => match setFO T f y x h with
    | some h' => .nxt r h'
    | none => .bad := by first | (rw [evS]; done) | (rw [evS]; rfl)
theorem evS_setI {o i e : CE} : evS T F (.setI o i e) r h = (evE T F e r h).thenS fun x h => (evE T F o r h).thenS fun y h => (evE T F i r h).thenS fun z h => match setIO y z x h with
    | some h' => .nxt r h'
    | none => .bad := by first | (rw [evS]; done) | (rw [evS]; rfl)
theorem evS_aug {i : Nat} {op : BOp} {e : CE} : evS T F (.aug i op e) r h = match r[i]? with
    | some (some x) => (evE T F e r h).thenS fun y h => (arF op x y h).thenS fun z h => .nxt (r.set i (some z)) h
    | _ => .bad := by first | (rw [evS]; done) | (rw [evS]; rfl)
theorem evS_augF {f : Nat} {op : BOp} {o e : CE} : evS T F (.augF f op o e) r h = (evE T F o r h).thenS fun y h => match insOf T h y with
    | some (c, fs) => if f ∈ T.lay c then (match fs.lookup f with
      | some x => (evE T F e r h).thenS fun z h => (arF op x z h).thenS fun w h => match insOf T h y with
        | some (d, _) => if d = c then (match setFO T f y w h with
          | some h' => .nxt r h'
          | none => .bad) else .bad
        | none => .bad
      | none => .bad) else .bad
    | none => .bad := by first | (rw [evS]; done) | (rw [evS]; rfl)
theorem evS_expr {e : CE} : evS T F (.expr e) r h = (evE T F e r h).thenS fun _ h => .nxt r h := by first | (rw [evS]; done) | (rw [evS]; rfl)
theorem evS_ret {e : CE} : evS T F (.ret e) r h = (evE T F e r h).thenS fun x h => .ret x h := by first | (rw [evS]; done) | (rw [evS]; rfl)
theorem evS_pass : evS T F .pass r h = .nxt r h := by first | (rw [evS]; done) | (rw [evS]; rfl)
theorem evS_brk : evS T F .brk r h = .brk r h := by first | (rw [evS]; done) | (rw [evS]; rfl)
theorem evS_cnt : evS T F .cnt r h = .cnt r h := by first | (rw [evS]; done) | (rw [evS]; rfl)
theorem evS_rais {c : Nat} {fs : List Nat} {es : CEs} : evS T F (.rais c fs es) r h = (evEs T F es r h).thenS fun xs h => raisF c fs (pures xs) h := by first | (rw [evS]; done) | (rw [evS]; rfl)
theorem evS_ife {t : CE} {a b : CSs} : evS T F (.ife t a b) r h = (evE T F t r h).thenS fun x h => match x with
    | .v (.bl true) => evSs T F a r h
    | .v (.bl false) => evSs T F b r h
    | _ => .bad := by first | (rw [evS]; done) | (rw [evS]; rfl)
theorem evS_tryR {c : Nat} {gs : List Nat} {body : CSs} : evS T F (.tryR c gs body) r h = tryF c gs (evSs T F body r h) := by first | (rw [evS]; done) | (rw [evS]; rfl)
/-- one turn of a loop -/
def forStep (T : Tab) (F : Phi) (t : Tg) (body : CSs) (x : LV) (r : ME) (h : MH) : OutS := match asgT t x r with
    | some r' => evSs T F body r' h
    | none => .bad
theorem evS_forr {t : Tg} {it : CI} {body : CSs} : evS T F (.forr t it body) r h = (evI T F it r h).thenS fun I h => forL I.live (forStep T F t body) I.items r h := by first | (rw [evS]; done) | (rw [evS]; rfl)
theorem evS_whil {t : CE} {body : CSs} : evS T F (.whil t body) r h = whileL (fun r h => evE T F t r h) (fun r h => evSs T F body r h) 1000000 r h := by first | (rw [evS]; done) | (rw [evS]; rfl)
theorem evSs_nil : evSs T F .nil r h = .nxt r h := by first | (rw [evSs]; done) | (rw [evSs]; rfl)
theorem evSs_cons {s : CS} {ss : CSs} : evSs T F (.cons s ss) r h = (evS T F s r h).andS fun r h => evSs T F ss r h := by first | (rw [evSs]; done) | (rw [evSs]; rfl)
end
theorem run_succ {T : Tab} {P : Nat → Option Fn} {n f : Nat} {as : List LV} {h : MH} {fn : Fn} (hp : P f = some fn) (hl : as.length = fn.np) : run T P (n + 1) f as h = finish fn.keep h.length (evSs T (run T P n) fn.body (as.map some ++ List.replicate (fn.nl - fn.np) none) h) := by
  simp only [run, hp, hl, if_true]
@[simp] theorem pures_v {xs : List MV} : pures (xs.map .v) = some xs := by
  induction xs with
  | nil => rfl
  | cons x r ih => simp [pures, ih]
end SC

namespace SC
open PySem L2
/-! more fuel tells the same -/
def Out.le {α : Type} (o o' : Out α) : Prop := o = .bad ∨ o = o'
def OutS.le (o o' : OutS) : Prop := o = .bad ∨ o = o'
theorem Out.le_refl {α : Type} {o : Out α} : o.le o := .inr rfl
theorem OutS.le_refl {o : OutS} : o.le o := .inr rfl
theorem Out.bad_le {α : Type} {o : Out α} : (Out.bad).le o := .inl rfl
theorem OutS.bad_le {o : OutS} : (OutS.bad).le o := .inl rfl
theorem bind_le {α β : Type} {o o' : Out α} {f g : α → MH → Out β} (h : o.le o') (hf : ∀ a h, (f a h).le (g a h)) : (o.bind f).le (o'.bind g) := by
  rcases h with rfl | rfl
  · exact .inl rfl
  · cases o with
    | ok a h => exact hf a h
    | exc c fs h => exact .inr rfl
    | bad => exact .inl rfl
theorem then_le {α : Type} {o o' : Out α} {f g : α → MH → OutS} (h : o.le o') (hf : ∀ a h, (f a h).le (g a h)) : (o.thenS f).le (o'.thenS g) := by
  rcases h with rfl | rfl
  · exact .inl rfl
  · cases o with
    | ok a h => exact hf a h
    | exc c fs h => exact .inr rfl
    | bad => exact .inl rfl
theorem and_le {o o' : OutS} {f g : ME → MH → OutS} (h : o.le o') (hf : ∀ a h, (f a h).le (g a h)) : (o.andS f).le (o'.andS g) := by
  rcases h with rfl | rfl
  · exact .inl rfl
  · cases o with
    | nxt a h => exact hf a h
    | _ => exact .inr rfl
theorem noexc_le {o o' : Out LV} (h : o.le o') : (noexc o).le (noexc o') := by
  rcases h with rfl | rfl
  · exact .inl rfl
  · exact .inr rfl
theorem forL_le {g : Option (Nat × List LV)} {s s' : LV → ME → MH → OutS} (hs : ∀ x r h, (s x r h).le (s' x r h)) : ∀ (xs : List LV) (r : ME) (h : MH), (forL g s xs r h).le (forL g s' xs r h)
  | [], r, h => .inr rfl
  | x :: xs, r, h => by
    simp only [forL]
    split
    · rcases hs x r h with e | e
      · rw [e]; exact .inl rfl
      · rw [← e]
        cases s x r h with
        | nxt r1 h1 => exact forL_le hs xs r1 h1
        | cnt r1 h1 => exact forL_le hs xs r1 h1
        | _ => exact .inr rfl
    · exact .inl rfl
theorem compL_le {g : Option (Nat × List LV)} {s s' : LV → MH → Out (Option LV)} (hs : ∀ x h, (s x h).le (s' x h)) : ∀ (xs acc : List LV) (h : MH), (compL g s xs acc h).le (compL g s' xs acc h)
  | [], acc, h => .inr rfl
  | x :: xs, acc, h => by
    simp only [compL]
    split
    · rcases hs x h with e | e
      · rw [e]; exact .inl rfl
      · rw [← e]
        cases s x h with
        | ok a h1 =>
          cases a with
          | none => exact compL_le hs xs acc h1
          | some y =>
            dsimp only
            split
            · exact compL_le hs xs _ h1
            · exact .inl rfl
        | exc c fs h1 => exact .inl rfl
        | bad => exact .inl rfl
    · exact .inl rfl
theorem whileL_le {t t' : ME → MH → Out LV} {s s' : ME → MH → OutS} (ht : ∀ r h, (t r h).le (t' r h)) (hs : ∀ r h, (s r h).le (s' r h)) : ∀ (k : Nat) (r : ME) (h : MH), (whileL t s k r h).le (whileL t' s' k r h)
  | 0, r, h => .inl rfl
  | k + 1, r, h => by
    simp only [whileL]
    rcases ht r h with e | e
    · rw [e]; exact .inl rfl
    · rw [← e]
      split
      · rename_i h' _
        rcases hs r h' with e | e
        · rw [e]; exact .inl rfl
        · rw [← e]
          cases s r h' with
          | nxt r1 h1 => exact whileL_le ht hs k r1 h1
          | cnt r1 h1 => exact whileL_le ht hs k r1 h1
          | _ => exact .inr rfl
      · exact .inr rfl
      · exact .inr rfl
      · exact .inl rfl
theorem errF_le {T : Tab} {o o' : Out LV} (h : o.le o') : (errF T o).le (errF T o') := by
  rcases h with e | e
  · rw [e]; exact .inl rfl
  · rw [e]; exact .inr rfl
theorem lenOF_le {o o' : Out LV} (h : o.le o') : (lenOF o).le (lenOF o') := by
  rcases h with e | e
  · rw [e]; exact .inl rfl
  · rw [e]; exact .inr rfl
section
variable {T : Tab} {F F' : Phi} (hF : ∀ f as h, (F f as h).le (F' f as h))
include hF
mutual
theorem evE_le (e : CE) (r : ME) (h : MH) : (evE T F e r h).le (evE T F' e r h) := by
  match e with
  | .var i => simp only [evE_var]; exact .inr rfl
  | .cst x => simp only [evE_cst]; exact .inr rfl
  | .nop => simp only [evE_nop]; exact .inr rfl
  | .tup es => simp only [evE_tup]; exact bind_le (evEs_le es r h) fun _ _ => .inr rfl
  | .lst es => simp only [evE_lst]; exact bind_le (evEs_le es r h) fun _ _ => .inr rfl
  | .lstL es => simp only [evE_lstL]; exact bind_le (evEs_le es r h) fun _ _ => .inr rfl
  | .bin op a b => simp only [evE_bin]; exact bind_le (evE_le a r h) fun _ h => bind_le (evE_le b r h) fun _ _ => .inr rfl
  | .neg a => simp only [evE_neg]; exact bind_le (evE_le a r h) fun _ _ => .inr rfl
  | .not a => simp only [evE_not]; exact bind_le (evE_le a r h) fun _ _ => .inr rfl
  | .and a b =>
    simp only [evE_and]
    refine bind_le (evE_le a r h) fun x h => ?_
    split
    · exact evE_le b r h
    · exact .inr rfl
    · exact .inr rfl
  | .or a b =>
    simp only [evE_or]
    refine bind_le (evE_le a r h) fun x h => ?_
    split
    · exact .inr rfl
    · exact evE_le b r h
    · exact .inr rfl
  | .ite t a b =>
    simp only [evE_ite]
    refine bind_le (evE_le t r h) fun x h => ?_
    split
    · exact evE_le a r h
    · exact evE_le b r h
    · exact .inr rfl
  | .cmp op a b => simp only [evE_cmp]; exact bind_le (evE_le a r h) fun _ h => bind_le (evE_le b r h) fun _ _ => .inr rfl
  | .chn o1 o2 a b c =>
    simp only [evE_chn]
    refine bind_le (evE_le a r h) fun _ h => bind_le (evE_le b r h) fun _ h => bind_le (.inr rfl) fun z h => ?_
    split
    · exact bind_le (evE_le c r h) fun _ _ => .inr rfl
    · exact .inr rfl
    · exact .inr rfl
  | .call f es => simp only [evE_call]; exact bind_le (evEs_le es r h) fun xs h => hF f xs h
  | .make c es =>
    simp only [evE_make]
    refine bind_le (evEs_le es r h) fun xs h => ?_
    split
    · exact bind_le (hF _ _ _) fun _ _ => .inr rfl
    · exact .inr rfl
  | .meth m o es =>
    simp only [evE_meth]
    refine bind_le (evE_le o r h) fun x h => ?_
    split
    · split
      · exact bind_le (evEs_le es r h) fun xs h => hF _ _ _
      · exact .inr rfl
    · exact .inr rfl
  | .attr f o =>
    simp only [evE_attr]
    refine bind_le (evE_le o r h) fun x h => ?_
    split
    · split
      · exact noexc_le (hF _ _ _)
      · exact .inr rfl
    · exact .inr rfl
  | .inst o es =>
    simp only [evE_inst]
    refine bind_le (evE_le o r h) fun x h => ?_
    split
    · split
      · refine bind_le (evEs_le es r h) fun xs h => ?_
        split
        · split
          · exact hF _ _ _
          · exact .inr rfl
        · exact .inr rfl
      · exact .inr rfl
    · exact .inr rfl
  | .blt b es => simp only [evE_blt]; exact bind_le (evEs_le es r h) fun _ _ => .inr rfl
  | .bm m o es =>
    simp only [evE_bm]
    refine bind_le (evE_le o r h) fun x h => ?_
    split
    · exact bind_le (evEs_le es r h) fun _ _ => .inr rfl
    · exact .inr rfl
  | .idx a b => simp only [evE_idx]; exact bind_le (evE_le a r h) fun _ h => bind_le (evE_le b r h) fun _ _ => .inr rfl
  | .slc live a lo hi =>
    simp only [evE_slc]
    refine bind_le (evE_le a r h) fun _ h => bind_le ?_ fun _ h => bind_le ?_ fun _ h => .inr rfl
    · split
      · exact .inr rfl
      · exact bind_le (evE_le lo r h) fun _ _ => .inr rfl
    · split
      · exact .inr rfl
      · exact bind_le (evE_le hi r h) fun _ _ => .inr rfl
  | .comp live t it c e =>
    simp only [evE_comp]
    refine bind_le (evI_le it r h) fun I h => bind_le (compL_le (fun x h => ?_) _ _ _) fun _ _ => .inr rfl
    unfold compStep
    split
    · refine bind_le (evE_le c _ h) fun b h => ?_
      split
      · exact bind_le (evE_le e _ h) fun _ _ => .inr rfl
      · exact .inr rfl
      · exact .inr rfl
    · exact .inr rfl
  | .frz e => simp only [evE_frz]; exact bind_le (evE_le e r h) fun _ _ => .inr rfl
  | .errL e => simp only [evE_errL]; exact errF_le (evE_le e r h)
  | .isx c a d x i => simp only [evE_isx]; exact .inr rfl
  | .xat c a d x i => simp only [evE_xat]; exact .inr rfl
  | .rev a => simp only [evE_rev]; exact bind_le (evE_le a r h) fun _ _ => .inr rfl
  | .lenO m o =>
    simp only [evE_lenO]
    refine bind_le (evE_le o r h) fun x h => ?_
    split
    · split
      · exact lenOF_le (hF _ _ _)
      · exact .inr rfl
    · exact .inr rfl
theorem evEs_le (es : CEs) (r : ME) (h : MH) : (evEs T F es r h).le (evEs T F' es r h) := by
  match es with
  | .nil => simp only [evEs_nil]; exact .inr rfl
  | .cons e es => simp only [evEs_cons]; exact bind_le (evE_le e r h) fun _ h => bind_le (evEs_le es r h) fun _ _ => .inr rfl
theorem evI_le (it : CI) (r : ME) (h : MH) : (evI T F it r h).le (evI T F' it r h) := by
  match it with
  | .val e => simp only [evI_val]; exact bind_le (evE_le e r h) fun _ _ => .inr rfl
  | .rng e => simp only [evI_rng]; exact bind_le (evE_le e r h) fun _ _ => .inr rfl
  | .rng2 a b => simp only [evI_rng2]; exact bind_le (evE_le a r h) fun _ h => bind_le (evE_le b r h) fun _ _ => .inr rfl
  | .enum e => simp only [evI_enum]; exact bind_le (evE_le e r h) fun _ _ => .inr rfl
  | .zip a b => simp only [evI_zip]; exact bind_le (evE_le a r h) fun _ h => bind_le (evE_le b r h) fun _ _ => .inr rfl
end
mutual
theorem evS_le (s : CS) (r : ME) (h : MH) : (evS T F s r h).le (evS T F' s r h) := by
  match s with
  | .asg t e => simp only [evS_asg]; exact then_le (evE_le hF e r h) fun _ _ => .inr rfl
  | .par is es => simp only [evS_par]; exact then_le (evEs_le hF es r h) fun _ _ => .inr rfl
  | .setF f o e => simp only [evS_setF]; exact then_le (evE_le hF e r h) fun _ h => then_le (evE_le hF o r h) fun _ _ => .inr rfl
  | .setI o i e => simp only [evS_setI]; exact then_le (evE_le hF e r h) fun _ h => then_le (evE_le hF o r h) fun _ h => then_le (evE_le hF i r h) fun _ _ => .inr rfl
  | .aug i op e =>
    simp only [evS_aug]
    split
    · exact then_le (evE_le hF e r h) fun _ _ => .inr rfl
    · exact .inr rfl
  | .augF f op o e =>
    simp only [evS_augF]
    refine then_le (evE_le hF o r h) fun _ h => ?_
    split
    · split
      · split
        · exact then_le (evE_le hF e r h) fun _ _ => .inr rfl
        · exact .inr rfl
      · exact .inr rfl
    · exact .inr rfl
  | .expr e => simp only [evS_expr]; exact then_le (evE_le hF e r h) fun _ _ => .inr rfl
  | .ret e => simp only [evS_ret]; exact then_le (evE_le hF e r h) fun _ _ => .inr rfl
  | .pass => simp only [evS_pass]; exact .inr rfl
  | .brk => simp only [evS_brk]; exact .inr rfl
  | .cnt => simp only [evS_cnt]; exact .inr rfl
  | .never => rw [evS, evS]; exact .inr rfl
  | .rais c fs es => simp only [evS_rais]; exact then_le (evEs_le hF es r h) fun _ _ => .inr rfl
  | .ife t a b =>
    simp only [evS_ife]
    refine then_le (evE_le hF t r h) fun x h => ?_
    split
    · exact evSs_le a r h
    · exact evSs_le b r h
    · exact .inr rfl
  | .tryR c gs body =>
    simp only [evS_tryR]
    rcases evSs_le body r h with e | e
    · rw [e]; exact .inl rfl
    · rw [e]; exact .inr rfl
  | .forr t it body =>
    simp only [evS_forr]
    refine then_le (evI_le hF it r h) fun I h => forL_le (fun x r h => ?_) _ _ _
    unfold forStep
    split
    · exact evSs_le body _ h
    · exact .inr rfl
  | .whil t body => simp only [evS_whil]; exact whileL_le (fun r h => evE_le hF t r h) (fun r h => evSs_le body r h) _ _ _
theorem evSs_le (ss : CSs) (r : ME) (h : MH) : (evSs T F ss r h).le (evSs T F' ss r h) := by
  match ss with
  | .nil => simp only [evSs_nil]; exact .inr rfl
  | .cons s ss => simp only [evSs_cons]; exact and_le (evS_le s r h) fun r h => evSs_le ss r h
end
end
theorem finish_le {k : Bool} {m : Nat} {o o' : OutS} (h : o.le o') : (finish k m o).le (finish k m o') := by
  rcases h with rfl | rfl
  · exact .inl rfl
  · exact .inr rfl
theorem run_le {T : Tab} {P : Nat → Option Fn} : ∀ (n f : Nat) (as : List LV) (h : MH), (run T P n f as h).le (run T P (n + 1) f as h)
  | 0, f, as, h => .inl rfl
  | n + 1, f, as, h => by
    rw [run, run]
    split
    · exact .inr rfl
    · split
      · exact finish_le (evSs_le (fun f as h => run_le n f as h) _ _ _)
      · exact .inr rfl
theorem run_mono {T : Tab} {P : Nat → Option Fn} {n m f : Nat} {as : List LV} {h h' : MH} {x : LV} (hnm : n ≤ m) (e : run T P n f as h = .ok x h') : run T P m f as h = .ok x h' := by
  induction hnm with
  | refl => exact e
  | step _ ih =>
    rcases run_le (T := T) (P := P) _ f as h with z | z
    · rw [ih] at z; cases z
    · rw [← z]; exact ih
end SC

/-! Symbolic steps: every continuation is a name of its own, so that simp goes from the left. -/
namespace SC
open PySem L2
section
variable {T : Tab} {F : Phi} {r : ME} {h : MH}
@[simp] theorem ret_eq {x : MV} : ret x h = .ok (.v x) h := rfl
@[simp] theorem le_size {n : Nat} : n ≤ sizeLine ↔ n ≤ 16777216 := Iff.rfl
@[simp] theorem lt_size {n : Nat} : n < sizeLine ↔ n < 16777216 := Iff.rfl
def kVar (o : Option (Option LV)) (h : MH) : Out LV := match o with
  | some (some x) => .ok x h
  | _ => .bad
@[simp] theorem kVar_some {x : LV} : kVar (some (some x)) h = .ok x h := rfl
@[simp] theorem sE_var {i : Nat} : evE T F (.var i) r h = kVar r[i]? h := by rw [evE_var]; rfl
@[simp] theorem sE_cst {x : MV} : evE T F (.cst x) r h = .ok (.v x) h := evE_cst

def kT2 (o : Option (List MV)) (f : List MV → MV) (h : MH) : Out LV := match o with
  | some ys => if ys.length ≤ sizeLine then ret (f ys) h else .bad
  | none => .bad
@[simp] theorem kT2_some {ys : List MV} {f : List MV → MV} : kT2 (some ys) f h = if ys.length ≤ 16777216 then .ok (.v (f ys)) h else .bad := rfl
@[simp] theorem pures_nil : pures [] = some [] := rfl
@[simp] theorem pures_cons {x : MV} {l : List LV} : pures (.v x :: l) = (pures l).map (x :: ·) := rfl
def kTup (o : Out (List LV)) : Out LV := o.bind fun xs h => kT2 (pures xs) MV.tup h
@[simp] theorem kTup_ok {xs : List LV} {h : MH} : kTup (.ok xs h) = kT2 (pures xs) MV.tup h := rfl
@[simp] theorem kTup_bad : kTup .bad = Out.bad := rfl
@[simp] theorem kTup_exc  {xc : Nat} {xf : List (Nat × MV)} {xh : MH} : kTup (.exc xc xf xh) = Out.exc xc xf xh := rfl
@[simp] theorem sE_tup {es : CEs} : evE T F (.tup es) r h = kTup (evEs T F es r h) := by rw [evE_tup]; rfl
def kLst (o : Out (List LV)) : Out LV := o.bind fun xs h => kT2 (pures xs) MV.lst h
@[simp] theorem kLst_ok {xs : List LV} {h : MH} : kLst (.ok xs h) = kT2 (pures xs) MV.lst h := rfl
@[simp] theorem kLst_bad : kLst .bad = Out.bad := rfl
@[simp] theorem kLst_exc  {xc : Nat} {xf : List (Nat × MV)} {xh : MH} : kLst (.exc xc xf xh) = Out.exc xc xf xh := rfl
@[simp] theorem sE_lst {es : CEs} : evE T F (.lst es) r h = kLst (evEs T F es r h) := by rw [evE_lst]; rfl
def kLstL (o : Out (List LV)) : Out LV := o.bind fun xs h => if xs.length ≤ sizeLine then .ok (.r h.length) (h ++ [.lst xs]) else .bad
@[simp] theorem kLstL_ok {xs : List LV} {h : MH} : kLstL (.ok xs h) = if xs.length ≤ sizeLine then .ok (.r h.length) (h ++ [.lst xs]) else .bad := rfl
@[simp] theorem kLstL_bad : kLstL .bad = Out.bad := rfl
@[simp] theorem kLstL_exc  {xc : Nat} {xf : List (Nat × MV)} {xh : MH} : kLstL (.exc xc xf xh) = Out.exc xc xf xh := rfl
@[simp] theorem sE_lstL {es : CEs} : evE T F (.lstL es) r h = kLstL (evEs T F es r h) := by rw [evE_lstL]; rfl
def kBin2 (op : BOp) (x : LV) (o : Out LV) : Out LV := o.bind fun y h => binF op x y h
@[simp] theorem kBin2_ok {op : BOp} {x : LV} {y : LV} {h : MH} : kBin2 op x (.ok y h) = binF op x y h := rfl
@[simp] theorem kBin2_bad {op : BOp} {x : LV} : kBin2 op x .bad = Out.bad := rfl
@[simp] theorem kBin2_exc {op : BOp} {x : LV} {xc : Nat} {xf : List (Nat × MV)} {xh : MH} : kBin2 op x (.exc xc xf xh) = Out.exc xc xf xh := rfl
def kBin (T : Tab) (F : Phi) (r : ME) (op : BOp) (b : CE) (o : Out LV) : Out LV := o.bind fun x h => kBin2 op x (evE T F b r h)
@[simp] theorem kBin_ok {T : Tab} {F : Phi} {r : ME} {op : BOp} {b : CE} {x : LV} {h : MH} : kBin T F r op b (.ok x h) = kBin2 op x (evE T F b r h) := rfl
@[simp] theorem kBin_bad {T : Tab} {F : Phi} {r : ME} {op : BOp} {b : CE} : kBin T F r op b .bad = Out.bad := rfl
@[simp] theorem kBin_exc {T : Tab} {F : Phi} {r : ME} {op : BOp} {b : CE} {xc : Nat} {xf : List (Nat × MV)} {xh : MH} : kBin T F r op b (.exc xc xf xh) = Out.exc xc xf xh := rfl
@[simp] theorem sE_bin {op : BOp} {a b : CE} : evE T F (.bin op a b) r h = kBin T F r op b (evE T F a r h) := by rw [evE_bin]; rfl
def kCmp2 (op : COp) (x : LV) (o : Out LV) : Out LV := o.bind fun y h => cmpO op x y h
@[simp] theorem kCmp2_ok {op : COp} {x : LV} {y : LV} {h : MH} : kCmp2 op x (.ok y h) = cmpO op x y h := rfl
@[simp] theorem kCmp2_bad {op : COp} {x : LV} : kCmp2 op x .bad = Out.bad := rfl
@[simp] theorem kCmp2_exc {op : COp} {x : LV} {xc : Nat} {xf : List (Nat × MV)} {xh : MH} : kCmp2 op x (.exc xc xf xh) = Out.exc xc xf xh := rfl
def kCmp (T : Tab) (F : Phi) (r : ME) (op : COp) (b : CE) (o : Out LV) : Out LV := o.bind fun x h => kCmp2 op x (evE T F b r h)
@[simp] theorem kCmp_ok {T : Tab} {F : Phi} {r : ME} {op : COp} {b : CE} {x : LV} {h : MH} : kCmp T F r op b (.ok x h) = kCmp2 op x (evE T F b r h) := rfl
@[simp] theorem kCmp_bad {T : Tab} {F : Phi} {r : ME} {op : COp} {b : CE} : kCmp T F r op b .bad = Out.bad := rfl
@[simp] theorem kCmp_exc {T : Tab} {F : Phi} {r : ME} {op : COp} {b : CE} {xc : Nat} {xf : List (Nat × MV)} {xh : MH} : kCmp T F r op b (.exc xc xf xh) = Out.exc xc xf xh := rfl
@[simp] theorem sE_cmp {op : COp} {a b : CE} : evE T F (.cmp op a b) r h = kCmp T F r op b (evE T F a r h) := by rw [evE_cmp]; rfl
def kIdx2 (_u : Unit) (x : LV) (o : Out LV) : Out LV := o.bind fun y h => idxF x y h
@[simp] theorem kIdx2_ok {x : LV} {y : LV} {h : MH} : kIdx2 () x (.ok y h) = idxF x y h := rfl
@[simp] theorem kIdx2_bad {x : LV} : kIdx2 () x .bad = Out.bad := rfl
@[simp] theorem kIdx2_exc {x : LV} {xc : Nat} {xf : List (Nat × MV)} {xh : MH} : kIdx2 () x (.exc xc xf xh) = Out.exc xc xf xh := rfl
def kIdx (T : Tab) (F : Phi) (r : ME) (_u : Unit) (b : CE) (o : Out LV) : Out LV := o.bind fun x h => kIdx2 () x (evE T F b r h)
@[simp] theorem kIdx_ok {T : Tab} {F : Phi} {r : ME} {b : CE} {x : LV} {h : MH} : kIdx T F r () b (.ok x h) = kIdx2 () x (evE T F b r h) := rfl
@[simp] theorem kIdx_bad {T : Tab} {F : Phi} {r : ME} {b : CE} : kIdx T F r () b .bad = Out.bad := rfl
@[simp] theorem kIdx_exc {T : Tab} {F : Phi} {r : ME} {b : CE} {xc : Nat} {xf : List (Nat × MV)} {xh : MH} : kIdx T F r () b (.exc xc xf xh) = Out.exc xc xf xh := rfl
@[simp] theorem sE_idx {a b : CE} : evE T F (.idx a b) r h = kIdx T F r () b (evE T F a r h) := by rw [evE_idx]; rfl
def negM (x : LV) (h : MH) : Out LV := match x with
  | .v (.int i) => ret (.int (-i)) h
  | _ => .bad
@[simp] theorem negM_int {i : Int} : negM (.v (.int i)) h = .ok (.v (.int (-i))) h := rfl
def notM (x : LV) (h : MH) : Out LV := match x with
  | .v (.bl b) => ret (.bl (!b)) h
  | _ => .bad
@[simp] theorem notM_bl {b : Bool} : notM (.v (.bl b)) h = .ok (.v (.bl (!b))) h := rfl
def kNeg (o : Out LV) : Out LV := o.bind negM
@[simp] theorem kNeg_ok {x : LV} {h : MH} : kNeg (.ok x h) = negM x h := rfl
@[simp] theorem kNeg_bad : kNeg .bad = Out.bad := rfl
@[simp] theorem kNeg_exc  {xc : Nat} {xf : List (Nat × MV)} {xh : MH} : kNeg (.exc xc xf xh) = Out.exc xc xf xh := rfl
def kNot (o : Out LV) : Out LV := o.bind notM
@[simp] theorem kNot_ok {x : LV} {h : MH} : kNot (.ok x h) = notM x h := rfl
@[simp] theorem kNot_bad : kNot .bad = Out.bad := rfl
@[simp] theorem kNot_exc  {xc : Nat} {xf : List (Nat × MV)} {xh : MH} : kNot (.exc xc xf xh) = Out.exc xc xf xh := rfl
@[simp] theorem sE_neg {a : CE} : evE T F (.neg a) r h = kNeg (evE T F a r h) := by rw [evE_neg]; rfl
@[simp] theorem sE_not {a : CE} : evE T F (.not a) r h = kNot (evE T F a r h) := by rw [evE_not]; rfl
def kB (T : Tab) (F : Phi) (r : ME) (a b : CE) (x : LV) (h : MH) : Out LV := match x with
  | .v (.bl true) => evE T F a r h
  | .v (.bl false) => evE T F b r h
  | _ => .bad
@[simp] theorem kB_t {a b : CE} : kB T F r a b (.v (.bl true)) h = evE T F a r h := rfl
@[simp] theorem kB_f {a b : CE} : kB T F r a b (.v (.bl false)) h = evE T F b r h := rfl
def kIte (T : Tab) (F : Phi) (r : ME) (a b : CE) (o : Out LV) : Out LV := o.bind fun x h => kB T F r a b x h
@[simp] theorem kIte_ok {T : Tab} {F : Phi} {r : ME} {a b : CE} {x : LV} {h : MH} : kIte T F r a b (.ok x h) = kB T F r a b x h := rfl
@[simp] theorem kIte_bad {T : Tab} {F : Phi} {r : ME} {a b : CE} : kIte T F r a b .bad = Out.bad := rfl
@[simp] theorem kIte_exc {T : Tab} {F : Phi} {r : ME} {a b : CE} {xc : Nat} {xf : List (Nat × MV)} {xh : MH} : kIte T F r a b (.exc xc xf xh) = Out.exc xc xf xh := rfl
@[simp] theorem sE_ite {t a b : CE} : evE T F (.ite t a b) r h = kIte T F r a b (evE T F t r h) := by rw [evE_ite]; rfl
@[simp] theorem sE_and {a b : CE} : evE T F (.and a b) r h = kIte T F r b (.cst (.bl false)) (evE T F a r h) := by
  rw [evE_and]
  unfold kIte kB
  first | rfl | (congr 1; funext x h; split <;> simp) | (congr 1)
@[simp] theorem sE_or {a b : CE} : evE T F (.or a b) r h = kIte T F r (.cst (.bl true)) b (evE T F a r h) := by
  rw [evE_or]
  unfold kIte kB
  first | rfl | (congr 1; funext x h; split <;> simp) | (congr 1)
def kCh4 (T : Tab) (F : Phi) (r : ME) (o2 : COp) (c : CE) (y z : LV) (h : MH) : Out LV := match z with
  | .v (.bl true) => kCmp2 o2 y (evE T F c r h)
  | .v (.bl false) => ret (.bl false) h
  | _ => .bad
@[simp] theorem kCh4_t {o2 : COp} {c : CE} {y : LV} : kCh4 T F r o2 c y (.v (.bl true)) h = kCmp2 o2 y (evE T F c r h) := rfl
@[simp] theorem kCh4_f {o2 : COp} {c : CE} {y : LV} : kCh4 T F r o2 c y (.v (.bl false)) h = .ok (.v (.bl false)) h := rfl
def kCh3 (T : Tab) (F : Phi) (r : ME) (o2 : COp) (c : CE) (y : LV) (o : Out LV) : Out LV := o.bind fun z h => kCh4 T F r o2 c y z h
@[simp] theorem kCh3_ok {T : Tab} {F : Phi} {r : ME} {o2 : COp} {c : CE} {y : LV} {z : LV} {h : MH} : kCh3 T F r o2 c y (.ok z h) = kCh4 T F r o2 c y z h := rfl
@[simp] theorem kCh3_bad {T : Tab} {F : Phi} {r : ME} {o2 : COp} {c : CE} {y : LV} : kCh3 T F r o2 c y .bad = Out.bad := rfl
@[simp] theorem kCh3_exc {T : Tab} {F : Phi} {r : ME} {o2 : COp} {c : CE} {y : LV} {xc : Nat} {xf : List (Nat × MV)} {xh : MH} : kCh3 T F r o2 c y (.exc xc xf xh) = Out.exc xc xf xh := rfl
def kCh2 (T : Tab) (F : Phi) (r : ME) (o1 o2 : COp) (c : CE) (x : LV) (o : Out LV) : Out LV := o.bind fun y h => kCh3 T F r o2 c y (cmpO o1 x y h)
@[simp] theorem kCh2_ok {T : Tab} {F : Phi} {r : ME} {o1 o2 : COp} {c : CE} {x : LV} {y : LV} {h : MH} : kCh2 T F r o1 o2 c x (.ok y h) = kCh3 T F r o2 c y (cmpO o1 x y h) := rfl
@[simp] theorem kCh2_bad {T : Tab} {F : Phi} {r : ME} {o1 o2 : COp} {c : CE} {x : LV} : kCh2 T F r o1 o2 c x .bad = Out.bad := rfl
@[simp] theorem kCh2_exc {T : Tab} {F : Phi} {r : ME} {o1 o2 : COp} {c : CE} {x : LV} {xc : Nat} {xf : List (Nat × MV)} {xh : MH} : kCh2 T F r o1 o2 c x (.exc xc xf xh) = Out.exc xc xf xh := rfl
def kCh (T : Tab) (F : Phi) (r : ME) (o1 o2 : COp) (b c : CE) (o : Out LV) : Out LV := o.bind fun x h => kCh2 T F r o1 o2 c x (evE T F b r h)
@[simp] theorem kCh_ok {T : Tab} {F : Phi} {r : ME} {o1 o2 : COp} {b c : CE} {x : LV} {h : MH} : kCh T F r o1 o2 b c (.ok x h) = kCh2 T F r o1 o2 c x (evE T F b r h) := rfl
@[simp] theorem kCh_bad {T : Tab} {F : Phi} {r : ME} {o1 o2 : COp} {b c : CE} : kCh T F r o1 o2 b c .bad = Out.bad := rfl
@[simp] theorem kCh_exc {T : Tab} {F : Phi} {r : ME} {o1 o2 : COp} {b c : CE} {xc : Nat} {xf : List (Nat × MV)} {xh : MH} : kCh T F r o1 o2 b c (.exc xc xf xh) = Out.exc xc xf xh := rfl
@[simp] theorem sE_chn {o1 o2 : COp} {a b c : CE} : evE T F (.chn o1 o2 a b c) r h = kCh T F r o1 o2 b c (evE T F a r h) := by rw [evE_chn]; rfl
def kCall (F : Phi) (f : Nat) (o : Out (List LV)) : Out LV := o.bind fun xs h => F f xs h
@[simp] theorem kCall_ok {F : Phi} {f : Nat} {xs : List LV} {h : MH} : kCall F f (.ok xs h) = F f xs h := rfl
@[simp] theorem kCall_bad {F : Phi} {f : Nat} : kCall F f .bad = Out.bad := rfl
@[simp] theorem kCall_exc {F : Phi} {f : Nat} {xc : Nat} {xf : List (Nat × MV)} {xh : MH} : kCall F f (.exc xc xf xh) = Out.exc xc xf xh := rfl
@[simp] theorem sE_call {f : Nat} {es : CEs} : evE T F (.call f es) r h = kCall F f (evEs T F es r h) := by rw [evE_call]; rfl
def kMk3 (T : Tab) (c n : Nat) (z : LV) (h : MH) : Out LV := match z with
  | .v .non => makeEnd T c n h
  | _ => .bad
@[simp] theorem kMk3_non {c n : Nat} : kMk3 T c n (.v .non) h = makeEnd T c n h := rfl
def kMk2 (T : Tab) (c n : Nat) (o : Out LV) : Out LV := o.bind fun z h => kMk3 T c n z h
@[simp] theorem kMk2_ok {T : Tab} {c n : Nat} {z : LV} {h : MH} : kMk2 T c n (.ok z h) = kMk3 T c n z h := rfl
@[simp] theorem kMk2_bad {T : Tab} {c n : Nat} : kMk2 T c n .bad = Out.bad := rfl
@[simp] theorem kMk2_exc {T : Tab} {c n : Nat} {xc : Nat} {xf : List (Nat × MV)} {xh : MH} : kMk2 T c n (.exc xc xf xh) = Out.exc xc xf xh := rfl
def kMk1 (T : Tab) (F : Phi) (c : Nat) (xs : List LV) (h : MH) (o : Option Nat) : Out LV := match o with
  | some f => kMk2 T c h.length (F f (.r h.length :: xs) (h ++ [.ins c []]))
  | none => .bad
@[simp] theorem kMk1_some {c f : Nat} {xs : List LV} : kMk1 T F c xs h (some f) = kMk2 T c h.length (F f (.r h.length :: xs) (h ++ [.ins c []])) := rfl
def kMk (T : Tab) (F : Phi) (c : Nat) (o : Out (List LV)) : Out LV := o.bind fun xs h => kMk1 T F c xs h (T.init c)
@[simp] theorem kMk_ok {T : Tab} {F : Phi} {c : Nat} {xs : List LV} {h : MH} : kMk T F c (.ok xs h) = kMk1 T F c xs h (T.init c) := rfl
@[simp] theorem kMk_bad {T : Tab} {F : Phi} {c : Nat} : kMk T F c .bad = Out.bad := rfl
@[simp] theorem kMk_exc {T : Tab} {F : Phi} {c : Nat} {xc : Nat} {xf : List (Nat × MV)} {xh : MH} : kMk T F c (.exc xc xf xh) = Out.exc xc xf xh := rfl
@[simp] theorem sE_make {c : Nat} {es : CEs} : evE T F (.make c es) r h = kMk T F c (evEs T F es r h) := by rw [evE_make]; rfl
def kMe3 (F : Phi) (f : Nat) (x : LV) (o : Out (List LV)) : Out LV := o.bind fun xs h => F f (x :: xs) h
@[simp] theorem kMe3_ok {F : Phi} {f : Nat} {x : LV} {xs : List LV} {h : MH} : kMe3 F f x (.ok xs h) = F f (x :: xs) h := rfl
@[simp] theorem kMe3_bad {F : Phi} {f : Nat} {x : LV} : kMe3 F f x .bad = Out.bad := rfl
@[simp] theorem kMe3_exc {F : Phi} {f : Nat} {x : LV} {xc : Nat} {xf : List (Nat × MV)} {xh : MH} : kMe3 F f x (.exc xc xf xh) = Out.exc xc xf xh := rfl
def kMe2 (T : Tab) (F : Phi) (r : ME) (es : CEs) (x : LV) (h : MH) (o : Option Nat) : Out LV := match o with
  | some f => kMe3 F f x (evEs T F es r h)
  | none => .bad
@[simp] theorem kMe2_some {es : CEs} {x : LV} {f : Nat} : kMe2 T F r es x h (some f) = kMe3 F f x (evEs T F es r h) := rfl
def kMe1 (T : Tab) (F : Phi) (r : ME) (m : Nat) (es : CEs) (x : LV) (h : MH) (o : Option (Nat × List (Nat × LV))) : Out LV := match o with
  | some (c, _) => kMe2 T F r es x h (T.meth c m)
  | none => .bad
@[simp] theorem kMe1_some {m : Nat} {es : CEs} {x : LV} {c : Nat} {fs : List (Nat × LV)} : kMe1 T F r m es x h (some (c, fs)) = kMe2 T F r es x h (T.meth c m) := rfl
def kMe (T : Tab) (F : Phi) (r : ME) (m : Nat) (es : CEs) (o : Out LV) : Out LV := o.bind fun x h => kMe1 T F r m es x h (insOf T h x)
@[simp] theorem kMe_ok {T : Tab} {F : Phi} {r : ME} {m : Nat} {es : CEs} {x : LV} {h : MH} : kMe T F r m es (.ok x h) = kMe1 T F r m es x h (insOf T h x) := rfl
@[simp] theorem kMe_bad {T : Tab} {F : Phi} {r : ME} {m : Nat} {es : CEs} : kMe T F r m es .bad = Out.bad := rfl
@[simp] theorem kMe_exc {T : Tab} {F : Phi} {r : ME} {m : Nat} {es : CEs} {xc : Nat} {xf : List (Nat × MV)} {xh : MH} : kMe T F r m es (.exc xc xf xh) = Out.exc xc xf xh := rfl
@[simp] theorem sE_meth {m : Nat} {a : CE} {es : CEs} : evE T F (.meth m a es) r h = kMe T F r m es (evE T F a r h) := by
  rw [evE_meth]; rfl
def kAt3 (o : Option LV) (h : MH) : Out LV := match o with
  | some y => .ok y h
  | none => .bad
@[simp] theorem kAt3_some {y : LV} : kAt3 (some y) h = .ok y h := rfl
def kAt2 (T : Tab) (F : Phi) (f : Nat) (x : LV) (h : MH) (c : Nat) (fs : List (Nat × LV)) (o : Option Nat) : Out LV := match o with
  | some g => noexc (F g [x] h)
  | none => if f ∈ T.lay c then kAt3 (fs.lookup f) h else .bad
@[simp] theorem kAt2_some {f g c : Nat} {x : LV} {fs : List (Nat × LV)} : kAt2 T F f x h c fs (some g) = noexc (F g [x] h) := rfl
@[simp] theorem kAt2_none {f c : Nat} {x : LV} {fs : List (Nat × LV)} : kAt2 T F f x h c fs none = if f ∈ T.lay c then kAt3 (fs.lookup f) h else .bad := rfl
@[simp] theorem noexc_ok {x : LV} : noexc (.ok x h) = .ok x h := rfl
def kAt1 (T : Tab) (F : Phi) (f : Nat) (x : LV) (h : MH) (o : Option (Nat × List (Nat × LV))) : Out LV := match o with
  | some (c, fs) => kAt2 T F f x h c fs (T.prop c f)
  | none => .bad
@[simp] theorem kAt1_some {f c : Nat} {x : LV} {fs : List (Nat × LV)} : kAt1 T F f x h (some (c, fs)) = kAt2 T F f x h c fs (T.prop c f) := rfl
def kAt (T : Tab) (F : Phi) (f : Nat) (o : Out LV) : Out LV := o.bind fun x h => kAt1 T F f x h (insOf T h x)
@[simp] theorem kAt_ok {T : Tab} {F : Phi} {f : Nat} {x : LV} {h : MH} : kAt T F f (.ok x h) = kAt1 T F f x h (insOf T h x) := rfl
@[simp] theorem kAt_bad {T : Tab} {F : Phi} {f : Nat} : kAt T F f .bad = Out.bad := rfl
@[simp] theorem kAt_exc {T : Tab} {F : Phi} {f : Nat} {xc : Nat} {xf : List (Nat × MV)} {xh : MH} : kAt T F f (.exc xc xf xh) = Out.exc xc xf xh := rfl
@[simp] theorem sE_attr {f : Nat} {a : CE} : evE T F (.attr f a) r h = kAt T F f (evE T F a r h) := by
  rw [evE_attr]; rfl
def kBlt (T : Tab) (b : Blt) (o : Out (List LV)) : Out LV := o.bind fun xs h => bltF T b xs h
@[simp] theorem kBlt_ok {T : Tab} {b : Blt} {xs : List LV} {h : MH} : kBlt T b (.ok xs h) = bltF T b xs h := rfl
@[simp] theorem kBlt_bad {T : Tab} {b : Blt} : kBlt T b .bad = Out.bad := rfl
@[simp] theorem kBlt_exc {T : Tab} {b : Blt} {xc : Nat} {xf : List (Nat × MV)} {xh : MH} : kBlt T b (.exc xc xf xh) = Out.exc xc xf xh := rfl
@[simp] theorem sE_blt {b : Blt} {es : CEs} : evE T F (.blt b es) r h = kBlt T b (evEs T F es r h) := by rw [evE_blt]; rfl
def kBm2 (m : BMt) (x : LV) (o : Out (List LV)) : Out LV := o.bind fun xs h => bmF m x xs h
@[simp] theorem kBm2_ok {m : BMt} {x : LV} {xs : List LV} {h : MH} : kBm2 m x (.ok xs h) = bmF m x xs h := rfl
@[simp] theorem kBm2_bad {m : BMt} {x : LV} : kBm2 m x .bad = Out.bad := rfl
@[simp] theorem kBm2_exc {m : BMt} {x : LV} {xc : Nat} {xf : List (Nat × MV)} {xh : MH} : kBm2 m x (.exc xc xf xh) = Out.exc xc xf xh := rfl
def kBm1 (T : Tab) (F : Phi) (r : ME) (m : BMt) (es : CEs) (x : LV) (h : MH) (b : Bool) : Out LV := match b with
  | true => kBm2 m x (evEs T F es r h)
  | false => .bad
@[simp] theorem kBm1_t {m : BMt} {es : CEs} {x : LV} : kBm1 T F r m es x h true = kBm2 m x (evEs T F es r h) := rfl
def kBm (T : Tab) (F : Phi) (r : ME) (m : BMt) (es : CEs) (o : Out LV) : Out LV := o.bind fun x h => kBm1 T F r m es x h (recvOk m x h)
@[simp] theorem kBm_ok {T : Tab} {F : Phi} {r : ME} {m : BMt} {es : CEs} {x : LV} {h : MH} : kBm T F r m es (.ok x h) = kBm1 T F r m es x h (recvOk m x h) := rfl
@[simp] theorem kBm_bad {T : Tab} {F : Phi} {r : ME} {m : BMt} {es : CEs} : kBm T F r m es .bad = Out.bad := rfl
@[simp] theorem kBm_exc {T : Tab} {F : Phi} {r : ME} {m : BMt} {es : CEs} {xc : Nat} {xf : List (Nat × MV)} {xh : MH} : kBm T F r m es (.exc xc xf xh) = Out.exc xc xf xh := rfl
@[simp] theorem sE_bm {m : BMt} {a : CE} {es : CEs} : evE T F (.bm m a es) r h = kBm T F r m es (evE T F a r h) := by
  rw [evE_bm]
  unfold kBm kBm1
  congr 1
  funext x h
  cases recvOk m x h <;> rfl
def kOpt (o : Out LV) : Out (Option Int) := o.bind optI
@[simp] theorem kOpt_ok {x : LV} {h : MH} : kOpt (.ok x h) = optI x h := rfl
@[simp] theorem kOpt_bad : kOpt .bad = Out.bad := rfl
@[simp] theorem kOpt_exc  {xc : Nat} {xf : List (Nat × MV)} {xh : MH} : kOpt (.exc xc xf xh) = Out.exc xc xf xh := rfl
def kPt (T : Tab) (F : Phi) (r : ME) (e : CE) (h : MH) : Out (Option Int) := if e.isNop = true then .ok none h else kOpt (evE T F e r h)
@[simp] theorem kPt_nop : kPt T F r .nop h = .ok none h := rfl
@[simp] theorem kPt_var {i : Nat} : kPt T F r (.var i) h = kOpt (evE T F (.var i) r h) := rfl
@[simp] theorem kPt_cst {i : MV} : kPt T F r (.cst i) h = kOpt (evE T F (.cst i) r h) := rfl
@[simp] theorem kPt_call {f : Nat} {es : CEs} : kPt T F r (.call f es) h = kOpt (evE T F (.call f es) r h) := rfl
@[simp] theorem kPt_attr {f : Nat} {e : CE} : kPt T F r (.attr f e) h = kOpt (evE T F (.attr f e) r h) := rfl
@[simp] theorem kPt_bin {op : BOp} {a b : CE} : kPt T F r (.bin op a b) h = kOpt (evE T F (.bin op a b) r h) := rfl
@[simp] theorem kPt_neg {a : CE} : kPt T F r (.neg a) h = kOpt (evE T F (.neg a) r h) := rfl
@[simp] theorem optI_int {i : Int} : optI (.v (.int i)) h = .ok (some i) h := rfl
def kSl3 (live : Bool) (x : LV) (l : Option Int) (o : Out (Option Int)) : Out LV := o.bind fun u h => slcF live x l u h
@[simp] theorem kSl3_ok {live : Bool} {x : LV} {l : Option Int} {u : Option Int} {h : MH} : kSl3 live x l (.ok u h) = slcF live x l u h := rfl
@[simp] theorem kSl3_bad {live : Bool} {x : LV} {l : Option Int} : kSl3 live x l .bad = Out.bad := rfl
@[simp] theorem kSl3_exc {live : Bool} {x : LV} {l : Option Int} {xc : Nat} {xf : List (Nat × MV)} {xh : MH} : kSl3 live x l (.exc xc xf xh) = Out.exc xc xf xh := rfl
def kSl2 (T : Tab) (F : Phi) (r : ME) (live : Bool) (hi : CE) (x : LV) (o : Out (Option Int)) : Out LV := o.bind fun l h => kSl3 live x l (kPt T F r hi h)
@[simp] theorem kSl2_ok {T : Tab} {F : Phi} {r : ME} {live : Bool} {hi : CE} {x : LV} {l : Option Int} {h : MH} : kSl2 T F r live hi x (.ok l h) = kSl3 live x l (kPt T F r hi h) := rfl
@[simp] theorem kSl2_bad {T : Tab} {F : Phi} {r : ME} {live : Bool} {hi : CE} {x : LV} : kSl2 T F r live hi x .bad = Out.bad := rfl
@[simp] theorem kSl2_exc {T : Tab} {F : Phi} {r : ME} {live : Bool} {hi : CE} {x : LV} {xc : Nat} {xf : List (Nat × MV)} {xh : MH} : kSl2 T F r live hi x (.exc xc xf xh) = Out.exc xc xf xh := rfl
def kSl (T : Tab) (F : Phi) (r : ME) (live : Bool) (lo hi : CE) (o : Out LV) : Out LV := o.bind fun x h => kSl2 T F r live hi x (kPt T F r lo h)
@[simp] theorem kSl_ok {T : Tab} {F : Phi} {r : ME} {live : Bool} {lo hi : CE} {x : LV} {h : MH} : kSl T F r live lo hi (.ok x h) = kSl2 T F r live hi x (kPt T F r lo h) := rfl
@[simp] theorem kSl_bad {T : Tab} {F : Phi} {r : ME} {live : Bool} {lo hi : CE} : kSl T F r live lo hi .bad = Out.bad := rfl
@[simp] theorem kSl_exc {T : Tab} {F : Phi} {r : ME} {live : Bool} {lo hi : CE} {xc : Nat} {xf : List (Nat × MV)} {xh : MH} : kSl T F r live lo hi (.exc xc xf xh) = Out.exc xc xf xh := rfl
@[simp] theorem sE_slc {live : Bool} {a lo hi : CE} : evE T F (.slc live a lo hi) r h = kSl T F r live lo hi (evE T F a r h) := by
  rw [evE_slc]; rfl
def kCo3 (live : Bool) (ys : List LV) (h : MH) : Out LV := if live then .ok (.r h.length) (h ++ [.lst ys]) else match pures ys with
        | some zs => ret (.lst zs) h
        | none => .bad
@[simp] theorem kCo3_live {ys : List LV} : kCo3 true ys h = .ok (.r h.length) (h ++ [.lst ys]) := rfl
@[simp] theorem kCo3_v {zs : List MV} : kCo3 false (zs.map .v) h = .ok (.v (.lst zs)) h := by
  unfold kCo3; rw [pures_v]; rfl
def kCo2 (live : Bool) (o : Out (List LV)) : Out LV := o.bind fun ys h => kCo3 live ys h
@[simp] theorem kCo2_ok {live : Bool} {ys : List LV} {h : MH} : kCo2 live (.ok ys h) = kCo3 live ys h := rfl
@[simp] theorem kCo2_bad {live : Bool} : kCo2 live .bad = Out.bad := rfl
@[simp] theorem kCo2_exc {live : Bool} {xc : Nat} {xf : List (Nat × MV)} {xh : MH} : kCo2 live (.exc xc xf xh) = Out.exc xc xf xh := rfl
def kCo (T : Tab) (F : Phi) (r : ME) (live : Bool) (t : Tg) (c e : CE) (o : Out Its) : Out LV := o.bind fun I h => kCo2 live (compL I.live (compStep T F t c e r) I.items [] h)
@[simp] theorem kCo_ok {T : Tab} {F : Phi} {r : ME} {live : Bool} {t : Tg} {c e : CE} {I : Its} {h : MH} : kCo T F r live t c e (.ok I h) = kCo2 live (compL I.live (compStep T F t c e r) I.items [] h) := rfl
@[simp] theorem kCo_bad {T : Tab} {F : Phi} {r : ME} {live : Bool} {t : Tg} {c e : CE} : kCo T F r live t c e .bad = Out.bad := rfl
@[simp] theorem kCo_exc {T : Tab} {F : Phi} {r : ME} {live : Bool} {t : Tg} {c e : CE} {xc : Nat} {xf : List (Nat × MV)} {xh : MH} : kCo T F r live t c e (.exc xc xf xh) = Out.exc xc xf xh := rfl
@[simp] theorem sE_comp {live : Bool} {t : Tg} {it : CI} {c e : CE} : evE T F (.comp live t it c e) r h = kCo T F r live t c e (evI T F it r h) := by
  rw [evE_comp]; rfl
def kFrz (o : Out LV) : Out LV := o.bind freeze
@[simp] theorem kFrz_ok {x : LV} {h : MH} : kFrz (.ok x h) = freeze x h := rfl
@[simp] theorem kFrz_bad : kFrz .bad = Out.bad := rfl
@[simp] theorem kFrz_exc  {xc : Nat} {xf : List (Nat × MV)} {xh : MH} : kFrz (.exc xc xf xh) = Out.exc xc xf xh := rfl
@[simp] theorem sE_frz {e : CE} : evE T F (.frz e) r h = kFrz (evE T F e r h) := by rw [evE_frz]; rfl
def kErr2 (o : Option MV) (h : MH) : Out LV := match o with
  | some v => .ok (.v v) h
  | none => .bad
@[simp] theorem kErr2_some {v : MV} : kErr2 (some v) h = .ok (.v v) h := rfl
def kErr (T : Tab) (o : Out LV) : Out LV := errF T o
@[simp] theorem kErr_ok {T : Tab} {x : LV} {h : MH} : kErr T (.ok x h) = .ok (.v (.tup [.str "none"])) h := rfl
@[simp] theorem kErr_exc {T : Tab} {c : Nat} {fs : List (Nat × MV)} {h : MH} : kErr T (.exc c fs h) = if fs.map (·.1) = T.xlay c then kErr2 (T.err c (fs.map (·.2))) h else .bad := rfl
@[simp] theorem sE_errL {e : CE} : evE T F (.errL e) r h = kErr T (evE T F e r h) := evE_errL
def kIsx (T : Tab) (c a : Nat) (d : Option Nat) (x : Nat) (l : Option (Option LV)) (h : MH) : Out LV := isxF T c a d x l h
def kIb2 (o : Option Bool) (h : MH) : Out LV := match o with
  | some b => .ok (.v (.bl b)) h
  | none => .bad
@[simp] theorem kIb2_some {b : Bool} : kIb2 (some b) h = .ok (.v (.bl b)) h := rfl
@[simp] theorem kIsx_some {T : Tab} {c a : Nat} {d : Option Nat} {x : Nat} {vs : List MV} {h : MH} : kIsx T c a d x (some (some (.v (.exo c a d vs)))) h = kIb2 (T.isx c x) h := by
  unfold kIsx isxF kIb2
  simp <;> cases T.isx c x <;> rfl
@[simp] theorem sE_isx {c a : Nat} {d : Option Nat} {x i : Nat} : evE T F (.isx c a d x i) r h = kIsx T c a d x (r[i]?) h := evE_isx
def kXat (T : Tab) (c a : Nat) (d : Option Nat) (x : Nat) (l : Option (Option LV)) (h : MH) : Out LV := xatF T c a d x l h
@[simp] theorem kXat_some {T : Tab} {c a : Nat} {d : Option Nat} {x : Nat} {vs : List MV} {h : MH} : kXat T c a d x (some (some (.v (.exo c a d vs)))) h = kErr2 (((T.xlay c).zip vs).lookup x) h := by
  unfold kXat xatF kErr2
  simp <;> cases ((T.xlay c).zip vs).lookup x <;> rfl
@[simp] theorem sE_xat {c a : Nat} {d : Option Nat} {x i : Nat} : evE T F (.xat c a d x i) r h = kXat T c a d x (r[i]?) h := evE_xat
def kRev (o : Out LV) : Out LV := o.bind revF
@[simp] theorem kRev_ok {x : LV} {h : MH} : kRev (.ok x h) = revF x h := rfl
@[simp] theorem kRev_bad : kRev .bad = Out.bad := rfl
@[simp] theorem kRev_exc {xc : Nat} {xf : List (Nat × MV)} {xh : MH} : kRev (.exc xc xf xh) = Out.exc xc xf xh := rfl
@[simp] theorem sE_rev {a : CE} : evE T F (.rev a) r h = kRev (evE T F a r h) := evE_rev
@[simp] theorem rev_t {xs : List MV} : revF (.v (.tup xs)) h = if xs.length ≤ 16777216 then .ok (.v (.tup xs.reverse)) h else .bad := rfl
def kLe2 (F : Phi) (x : LV) (h : MH) (o : Option Nat) : Out LV := match o with
  | some f => lenOF (F f [x] h)
  | none => .bad
@[simp] theorem kLe2_some {F : Phi} {x : LV} {f : Nat} : kLe2 F x h (some f) = lenOF (F f [x] h) := rfl
def kLe1 (T : Tab) (F : Phi) (m : Nat) (x : LV) (h : MH) (o : Option (Nat × List (Nat × LV))) : Out LV := match o with
  | some (c, _) => kLe2 F x h (T.meth c m)
  | none => .bad
@[simp] theorem kLe1_some {m : Nat} {x : LV} {c : Nat} {fs : List (Nat × LV)} : kLe1 T F m x h (some (c, fs)) = kLe2 F x h (T.meth c m) := rfl
def kLe (T : Tab) (F : Phi) (m : Nat) (o : Out LV) : Out LV := o.bind fun x h => kLe1 T F m x h (insOf T h x)
@[simp] theorem kLe_ok {T : Tab} {F : Phi} {m : Nat} {x : LV} {h : MH} : kLe T F m (.ok x h) = kLe1 T F m x h (insOf T h x) := rfl
@[simp] theorem kLe_bad {T : Tab} {F : Phi} {m : Nat} : kLe T F m .bad = Out.bad := rfl
@[simp] theorem kLe_exc {T : Tab} {F : Phi} {m : Nat} {xc : Nat} {xf : List (Nat × MV)} {xh : MH} : kLe T F m (.exc xc xf xh) = Out.exc xc xf xh := rfl
@[simp] theorem sE_lenO {m : Nat} {o : CE} : evE T F (.lenO m o) r h = kLe T F m (evE T F o r h) := by
  rw [evE_lenO]; rfl
@[simp] theorem lenOF_int {i : Int} : lenOF (.ok (.v (.int i)) h) = if 0 ≤ i ∧ i < 2 ^ 63 then .ok (.v (.int i)) h else .bad := rfl
def kEs2 (x : LV) (o : Out (List LV)) : Out (List LV) := o.bind fun xs h => .ok (x :: xs) h
@[simp] theorem kEs2_ok {x : LV} {xs : List LV} {h : MH} : kEs2 x (.ok xs h) = .ok (x :: xs) h := rfl
@[simp] theorem kEs2_bad {x : LV} : kEs2 x .bad = Out.bad := rfl
@[simp] theorem kEs2_exc {x : LV} {xc : Nat} {xf : List (Nat × MV)} {xh : MH} : kEs2 x (.exc xc xf xh) = Out.exc xc xf xh := rfl
def kEs (T : Tab) (F : Phi) (r : ME) (es : CEs) (o : Out LV) : Out (List LV) := o.bind fun x h => kEs2 x (evEs T F es r h)
@[simp] theorem kEs_ok {T : Tab} {F : Phi} {r : ME} {es : CEs} {x : LV} {h : MH} : kEs T F r es (.ok x h) = kEs2 x (evEs T F es r h) := rfl
@[simp] theorem kEs_bad {T : Tab} {F : Phi} {r : ME} {es : CEs} : kEs T F r es .bad = Out.bad := rfl
@[simp] theorem kEs_exc {T : Tab} {F : Phi} {r : ME} {es : CEs} {xc : Nat} {xf : List (Nat × MV)} {xh : MH} : kEs T F r es (.exc xc xf xh) = Out.exc xc xf xh := rfl
@[simp] theorem sEs_nil : evEs T F .nil r h = .ok [] h := evEs_nil
@[simp] theorem sEs_cons {e : CE} {es : CEs} : evEs T F (.cons e es) r h = kEs T F r es (evE T F e r h) := by rw [evEs_cons]; rfl
def kI2 (o : Option Its) (h : MH) : Out Its := match o with
  | some I => .ok I h
  | none => .bad
@[simp] theorem kI2_some {I : Its} : kI2 (some I) h = .ok I h := rfl
def kIv (o : Out LV) : Out Its := o.bind fun x h => kI2 (itVal x h) h
@[simp] theorem kIv_ok {x : LV} {h : MH} : kIv (.ok x h) = kI2 (itVal x h) h := rfl
@[simp] theorem kIv_bad : kIv .bad = Out.bad := rfl
@[simp] theorem kIv_exc  {xc : Nat} {xf : List (Nat × MV)} {xh : MH} : kIv (.exc xc xf xh) = Out.exc xc xf xh := rfl
def kIr (o : Out LV) : Out Its := o.bind fun x h => kI2 (itRng (.v (.int 0)) x) h
@[simp] theorem kIr_ok {x : LV} {h : MH} : kIr (.ok x h) = kI2 (itRng (.v (.int 0)) x) h := rfl
@[simp] theorem kIr_bad : kIr .bad = Out.bad := rfl
@[simp] theorem kIr_exc  {xc : Nat} {xf : List (Nat × MV)} {xh : MH} : kIr (.exc xc xf xh) = Out.exc xc xf xh := rfl
def kIe (o : Out LV) : Out Its := o.bind fun x h => kI2 (itEnum x h) h
@[simp] theorem kIe_ok {x : LV} {h : MH} : kIe (.ok x h) = kI2 (itEnum x h) h := rfl
@[simp] theorem kIe_bad : kIe .bad = Out.bad := rfl
@[simp] theorem kIe_exc  {xc : Nat} {xf : List (Nat × MV)} {xh : MH} : kIe (.exc xc xf xh) = Out.exc xc xf xh := rfl
def kIs2 (x : LV) (o : Out LV) : Out Its := o.bind fun y h => kI2 (itRng x y) h
@[simp] theorem kIs2_ok {x : LV} {y : LV} {h : MH} : kIs2 x (.ok y h) = kI2 (itRng x y) h := rfl
@[simp] theorem kIs2_bad {x : LV} : kIs2 x .bad = Out.bad := rfl
@[simp] theorem kIs2_exc {x : LV} {xc : Nat} {xf : List (Nat × MV)} {xh : MH} : kIs2 x (.exc xc xf xh) = Out.exc xc xf xh := rfl
def kIs (T : Tab) (F : Phi) (r : ME) (b : CE) (o : Out LV) : Out Its := o.bind fun x h => kIs2 x (evE T F b r h)
@[simp] theorem kIs_ok {T : Tab} {F : Phi} {r : ME} {b : CE} {x : LV} {h : MH} : kIs T F r b (.ok x h) = kIs2 x (evE T F b r h) := rfl
@[simp] theorem kIs_bad {T : Tab} {F : Phi} {r : ME} {b : CE} : kIs T F r b .bad = Out.bad := rfl
@[simp] theorem kIs_exc {T : Tab} {F : Phi} {r : ME} {b : CE} {xc : Nat} {xf : List (Nat × MV)} {xh : MH} : kIs T F r b (.exc xc xf xh) = Out.exc xc xf xh := rfl
def kIz2 (x : LV) (o : Out LV) : Out Its := o.bind fun y h => kI2 (itZip x y) h
@[simp] theorem kIz2_ok {x : LV} {y : LV} {h : MH} : kIz2 x (.ok y h) = kI2 (itZip x y) h := rfl
@[simp] theorem kIz2_bad {x : LV} : kIz2 x .bad = Out.bad := rfl
@[simp] theorem kIz2_exc {x : LV} {xc : Nat} {xf : List (Nat × MV)} {xh : MH} : kIz2 x (.exc xc xf xh) = Out.exc xc xf xh := rfl
def kIz (T : Tab) (F : Phi) (r : ME) (b : CE) (o : Out LV) : Out Its := o.bind fun x h => kIz2 x (evE T F b r h)
@[simp] theorem kIz_ok {T : Tab} {F : Phi} {r : ME} {b : CE} {x : LV} {h : MH} : kIz T F r b (.ok x h) = kIz2 x (evE T F b r h) := rfl
@[simp] theorem kIz_bad {T : Tab} {F : Phi} {r : ME} {b : CE} : kIz T F r b .bad = Out.bad := rfl
@[simp] theorem kIz_exc {T : Tab} {F : Phi} {r : ME} {b : CE} {xc : Nat} {xf : List (Nat × MV)} {xh : MH} : kIz T F r b (.exc xc xf xh) = Out.exc xc xf xh := rfl
@[simp] theorem sI_zip {a b : CE} : evI T F (.zip a b) r h = kIz T F r b (evE T F a r h) := by rw [evI_zip]; rfl
@[simp] theorem sI_val {e : CE} : evI T F (.val e) r h = kIv (evE T F e r h) := by rw [evI_val]; rfl
@[simp] theorem sI_rng {e : CE} : evI T F (.rng e) r h = kIr (evE T F e r h) := by rw [evI_rng]; rfl
@[simp] theorem sI_enum {e : CE} : evI T F (.enum e) r h = kIe (evE T F e r h) := by rw [evI_enum]; rfl
@[simp] theorem sI_rng2 {a b : CE} : evI T F (.rng2 a b) r h = kIs T F r b (evE T F a r h) := by rw [evI_rng2]; rfl
def kAs2 (o : Option ME) (h : MH) : OutS := match o with
  | some r' => .nxt r' h
  | none => .bad
@[simp] theorem kAs2_some {r' : ME} : kAs2 (some r') h = .nxt r' h := rfl
def kH2 (r : ME) (o : Option MH) : OutS := match o with
  | some h' => .nxt r h'
  | none => .bad
@[simp] theorem kH2_some {h' : MH} : kH2 r (some h') = .nxt r h' := rfl
@[simp] theorem asgT_nm {i : Nat} {x : LV} : asgT (.nm i) x r = some (r.set i (some x)) := by rw [asgT]
def kAs (t : Tg) (r : ME) (o : Out LV) : OutS := o.thenS fun x h => kAs2 (asgT t x r) h
@[simp] theorem kAs_ok {t : Tg} {r : ME} {x : LV} {h : MH} : kAs t r (.ok x h) = kAs2 (asgT t x r) h := rfl
@[simp] theorem kAs_bad {t : Tg} {r : ME} : kAs t r .bad = OutS.bad := rfl
@[simp] theorem kAs_exc {t : Tg} {r : ME} {xc : Nat} {xf : List (Nat × MV)} {xh : MH} : kAs t r (.exc xc xf xh) = OutS.exc xc xf xh := rfl
@[simp] theorem sS_asg {t : Tg} {e : CE} : evS T F (.asg t e) r h = kAs t r (evE T F e r h) := by rw [evS_asg]; rfl
def kPar (is : List Nat) (r : ME) (o : Out (List LV)) : OutS := o.thenS fun xs h => if xs.length = is.length then .nxt (setsL is xs r) h else .bad
@[simp] theorem kPar_ok {is : List Nat} {r : ME} {xs : List LV} {h : MH} : kPar is r (.ok xs h) = if xs.length = is.length then .nxt (setsL is xs r) h else .bad := rfl
@[simp] theorem kPar_bad {is : List Nat} {r : ME} : kPar is r .bad = OutS.bad := rfl
@[simp] theorem kPar_exc {is : List Nat} {r : ME} {xc : Nat} {xf : List (Nat × MV)} {xh : MH} : kPar is r (.exc xc xf xh) = OutS.exc xc xf xh := rfl
@[simp] theorem sS_par {is : List Nat} {es : CEs} : evS T F (.par is es) r h = kPar is r (evEs T F es r h) := by rw [evS_par]; rfl
def kSf2 (T : Tab) (r : ME) (f : Nat) (x : LV) (o : Out LV) : OutS := o.thenS fun y h => kH2 r (setFO T f y x h)
@[simp] theorem kSf2_ok {T : Tab} {r : ME} {f : Nat} {x : LV} {y : LV} {h : MH} : kSf2 T r f x (.ok y h) = kH2 r (setFO T f y x h) := rfl
@[simp] theorem kSf2_bad {T : Tab} {r : ME} {f : Nat} {x : LV} : kSf2 T r f x .bad = OutS.bad := rfl
@[simp] theorem kSf2_exc {T : Tab} {r : ME} {f : Nat} {x : LV} {xc : Nat} {xf : List (Nat × MV)} {xh : MH} : kSf2 T r f x (.exc xc xf xh) = OutS.exc xc xf xh := rfl
def kSf (T : Tab) (F : Phi) (r : ME) (f : Nat) (a : CE) (o : Out LV) : OutS := o.thenS fun x h => kSf2 T r f x (evE T F a r h)
@[simp] theorem kSf_ok {T : Tab} {F : Phi} {r : ME} {f : Nat} {a : CE} {x : LV} {h : MH} : kSf T F r f a (.ok x h) = kSf2 T r f x (evE T F a r h) := rfl
@[simp] theorem kSf_bad {T : Tab} {F : Phi} {r : ME} {f : Nat} {a : CE} : kSf T F r f a .bad = OutS.bad := rfl
@[simp] theorem kSf_exc {T : Tab} {F : Phi} {r : ME} {f : Nat} {a : CE} {xc : Nat} {xf : List (Nat × MV)} {xh : MH} : kSf T F r f a (.exc xc xf xh) = OutS.exc xc xf xh := rfl
@[simp] theorem sS_setF {f : Nat} {a e : CE} : evS T F (.setF f a e) r h = kSf T F r f a (evE T F e r h) := by rw [evS_setF]; rfl
def kSi3 (r : ME) (x y : LV) (o : Out LV) : OutS := o.thenS fun z h => kH2 r (setIO y z x h)
@[simp] theorem kSi3_ok {r : ME} {x y : LV} {z : LV} {h : MH} : kSi3 r x y (.ok z h) = kH2 r (setIO y z x h) := rfl
@[simp] theorem kSi3_bad {r : ME} {x y : LV} : kSi3 r x y .bad = OutS.bad := rfl
@[simp] theorem kSi3_exc {r : ME} {x y : LV} {xc : Nat} {xf : List (Nat × MV)} {xh : MH} : kSi3 r x y (.exc xc xf xh) = OutS.exc xc xf xh := rfl
def kSi2 (T : Tab) (F : Phi) (r : ME) (i : CE) (x : LV) (o : Out LV) : OutS := o.thenS fun y h => kSi3 r x y (evE T F i r h)
@[simp] theorem kSi2_ok {T : Tab} {F : Phi} {r : ME} {i : CE} {x : LV} {y : LV} {h : MH} : kSi2 T F r i x (.ok y h) = kSi3 r x y (evE T F i r h) := rfl
@[simp] theorem kSi2_bad {T : Tab} {F : Phi} {r : ME} {i : CE} {x : LV} : kSi2 T F r i x .bad = OutS.bad := rfl
@[simp] theorem kSi2_exc {T : Tab} {F : Phi} {r : ME} {i : CE} {x : LV} {xc : Nat} {xf : List (Nat × MV)} {xh : MH} : kSi2 T F r i x (.exc xc xf xh) = OutS.exc xc xf xh := rfl
def kSi (T : Tab) (F : Phi) (r : ME) (a i : CE) (o : Out LV) : OutS := o.thenS fun x h => kSi2 T F r i x (evE T F a r h)
@[simp] theorem kSi_ok {T : Tab} {F : Phi} {r : ME} {a i : CE} {x : LV} {h : MH} : kSi T F r a i (.ok x h) = kSi2 T F r i x (evE T F a r h) := rfl
@[simp] theorem kSi_bad {T : Tab} {F : Phi} {r : ME} {a i : CE} : kSi T F r a i .bad = OutS.bad := rfl
@[simp] theorem kSi_exc {T : Tab} {F : Phi} {r : ME} {a i : CE} {xc : Nat} {xf : List (Nat × MV)} {xh : MH} : kSi T F r a i (.exc xc xf xh) = OutS.exc xc xf xh := rfl
@[simp] theorem sS_setI {a i e : CE} : evS T F (.setI a i e) r h = kSi T F r a i (evE T F e r h) := by rw [evS_setI]; rfl
def kAu3 (r : ME) (i : Nat) (o : Out LV) : OutS := o.thenS fun z h => .nxt (r.set i (some z)) h
@[simp] theorem kAu3_ok {i : Nat} {z : LV} : kAu3 r i (.ok z h) = .nxt (r.set i (some z)) h := rfl
def kAu2 (r : ME) (i : Nat) (op : BOp) (x : LV) (o : Out LV) : OutS := o.thenS fun y h => kAu3 r i (arF op x y h)
@[simp] theorem kAu2_ok {r : ME} {i : Nat} {op : BOp} {x : LV} {y : LV} {h : MH} : kAu2 r i op x (.ok y h) = kAu3 r i (arF op x y h) := rfl
@[simp] theorem kAu2_bad {r : ME} {i : Nat} {op : BOp} {x : LV} : kAu2 r i op x .bad = OutS.bad := rfl
@[simp] theorem kAu2_exc {r : ME} {i : Nat} {op : BOp} {x : LV} {xc : Nat} {xf : List (Nat × MV)} {xh : MH} : kAu2 r i op x (.exc xc xf xh) = OutS.exc xc xf xh := rfl
def kAu (T : Tab) (F : Phi) (r : ME) (h : MH) (i : Nat) (op : BOp) (e : CE) (o : Option (Option LV)) : OutS := match o with
  | some (some x) => kAu2 r i op x (evE T F e r h)
  | _ => .bad
@[simp] theorem kAu_some {i : Nat} {op : BOp} {e : CE} {x : LV} : kAu T F r h i op e (some (some x)) = kAu2 r i op x (evE T F e r h) := rfl
@[simp] theorem sS_aug {i : Nat} {op : BOp} {e : CE} : evS T F (.aug i op e) r h = kAu T F r h i op e r[i]? := by rw [evS_aug]; rfl
def kAf5 (T : Tab) (r : ME) (f c : Nat) (y w : LV) (h : MH) (o : Option (Nat × List (Nat × LV))) : OutS := match o with
  | some (d, _) => if d = c then kH2 r (setFO T f y w h) else .bad
  | none => .bad
@[simp] theorem kAf5_some {f c d : Nat} {y w : LV} {fs : List (Nat × LV)} : kAf5 T r f c y w h (some (d, fs)) = if d = c then kH2 r (setFO T f y w h) else .bad := rfl
def kAf4 (T : Tab) (r : ME) (f c : Nat) (y : LV) (o : Out LV) : OutS := o.thenS fun w h => kAf5 T r f c y w h (insOf T h y)
@[simp] theorem kAf4_ok {T : Tab} {r : ME} {f c : Nat} {y : LV} {w : LV} {h : MH} : kAf4 T r f c y (.ok w h) = kAf5 T r f c y w h (insOf T h y) := rfl
@[simp] theorem kAf4_bad {T : Tab} {r : ME} {f c : Nat} {y : LV} : kAf4 T r f c y .bad = OutS.bad := rfl
@[simp] theorem kAf4_exc {T : Tab} {r : ME} {f c : Nat} {y : LV} {xc : Nat} {xf : List (Nat × MV)} {xh : MH} : kAf4 T r f c y (.exc xc xf xh) = OutS.exc xc xf xh := rfl
def kAf3 (T : Tab) (r : ME) (f c : Nat) (op : BOp) (y x : LV) (o : Out LV) : OutS := o.thenS fun z h => kAf4 T r f c y (arF op x z h)
@[simp] theorem kAf3_ok {T : Tab} {r : ME} {f c : Nat} {op : BOp} {y x : LV} {z : LV} {h : MH} : kAf3 T r f c op y x (.ok z h) = kAf4 T r f c y (arF op x z h) := rfl
@[simp] theorem kAf3_bad {T : Tab} {r : ME} {f c : Nat} {op : BOp} {y x : LV} : kAf3 T r f c op y x .bad = OutS.bad := rfl
@[simp] theorem kAf3_exc {T : Tab} {r : ME} {f c : Nat} {op : BOp} {y x : LV} {xc : Nat} {xf : List (Nat × MV)} {xh : MH} : kAf3 T r f c op y x (.exc xc xf xh) = OutS.exc xc xf xh := rfl
def kAf2 (T : Tab) (F : Phi) (r : ME) (f c : Nat) (op : BOp) (e : CE) (y : LV) (h : MH) (o : Option LV) : OutS := match o with
  | some x => kAf3 T r f c op y x (evE T F e r h)
  | none => .bad
@[simp] theorem kAf2_some {f c : Nat} {op : BOp} {e : CE} {y x : LV} : kAf2 T F r f c op e y h (some x) = kAf3 T r f c op y x (evE T F e r h) := rfl
def kAf1 (T : Tab) (F : Phi) (r : ME) (f : Nat) (op : BOp) (e : CE) (y : LV) (h : MH) (o : Option (Nat × List (Nat × LV))) : OutS := match o with
  | some (c, fs) => if f ∈ T.lay c then kAf2 T F r f c op e y h (fs.lookup f) else .bad
  | none => .bad
@[simp] theorem kAf1_some {f c : Nat} {op : BOp} {e : CE} {y : LV} {fs : List (Nat × LV)} : kAf1 T F r f op e y h (some (c, fs)) = if f ∈ T.lay c then kAf2 T F r f c op e y h (fs.lookup f) else .bad := rfl
def kAf (T : Tab) (F : Phi) (r : ME) (f : Nat) (op : BOp) (e : CE) (o : Out LV) : OutS := o.thenS fun y h => kAf1 T F r f op e y h (insOf T h y)
@[simp] theorem kAf_ok {T : Tab} {F : Phi} {r : ME} {f : Nat} {op : BOp} {e : CE} {y : LV} {h : MH} : kAf T F r f op e (.ok y h) = kAf1 T F r f op e y h (insOf T h y) := rfl
@[simp] theorem kAf_bad {T : Tab} {F : Phi} {r : ME} {f : Nat} {op : BOp} {e : CE} : kAf T F r f op e .bad = OutS.bad := rfl
@[simp] theorem kAf_exc {T : Tab} {F : Phi} {r : ME} {f : Nat} {op : BOp} {e : CE} {xc : Nat} {xf : List (Nat × MV)} {xh : MH} : kAf T F r f op e (.exc xc xf xh) = OutS.exc xc xf xh := rfl
@[simp] theorem sS_augF {f : Nat} {op : BOp} {a e : CE} : evS T F (.augF f op a e) r h = kAf T F r f op e (evE T F a r h) := by rw [evS_augF]; rfl
def kEx (r : ME) (o : Out LV) : OutS := o.thenS fun _ h => .nxt r h
@[simp] theorem kEx_ok {r : ME} {_x : LV} {h : MH} : kEx r (.ok _x h) = .nxt r h := rfl
@[simp] theorem kEx_bad {r : ME} : kEx r .bad = OutS.bad := rfl
@[simp] theorem kEx_exc {r : ME} {xc : Nat} {xf : List (Nat × MV)} {xh : MH} : kEx r (.exc xc xf xh) = OutS.exc xc xf xh := rfl
def kRt (o : Out LV) : OutS := o.thenS fun x h => .ret x h
@[simp] theorem kRt_ok {x : LV} {h : MH} : kRt (.ok x h) = .ret x h := rfl
@[simp] theorem kRt_bad : kRt .bad = OutS.bad := rfl
@[simp] theorem kRt_exc  {xc : Nat} {xf : List (Nat × MV)} {xh : MH} : kRt (.exc xc xf xh) = OutS.exc xc xf xh := rfl
@[simp] theorem sS_expr {e : CE} : evS T F (.expr e) r h = kEx r (evE T F e r h) := by rw [evS_expr]; rfl
@[simp] theorem sS_ret {e : CE} : evS T F (.ret e) r h = kRt (evE T F e r h) := by rw [evS_ret]; rfl
@[simp] theorem sS_pass : evS T F .pass r h = .nxt r h := evS_pass
@[simp] theorem sS_brk : evS T F .brk r h = .brk r h := evS_brk
@[simp] theorem sS_cnt : evS T F .cnt r h = .cnt r h := evS_cnt
def kRa (c : Nat) (fs : List Nat) (o : Out (List LV)) : OutS := o.thenS fun xs h => raisF c fs (pures xs) h
@[simp] theorem kRa_ok {c : Nat} {fs : List Nat} {xs : List LV} {h : MH} : kRa c fs (.ok xs h) = raisF c fs (pures xs) h := rfl
@[simp] theorem kRa_bad {c : Nat} {fs : List Nat} : kRa c fs .bad = OutS.bad := rfl
@[simp] theorem kRa_exc {c : Nat} {fs : List Nat} {xc : Nat} {xf : List (Nat × MV)} {xh : MH} : kRa c fs (.exc xc xf xh) = OutS.exc xc xf xh := rfl
@[simp] theorem raisF_some {c : Nat} {fs : List Nat} {ys : List MV} {h : MH} : raisF c fs (some ys) h = if ys.length = fs.length then .exc c (fs.zip ys) h else .bad := rfl
@[simp] theorem sS_rais {c : Nat} {fs : List Nat} {es : CEs} : evS T F (.rais c fs es) r h = kRa c fs (evEs T F es r h) := by rw [evS_rais]; rfl
def kTry (c : Nat) (gs : List Nat) (o : OutS) : OutS := tryF c gs o
@[simp] theorem kTry_nxt {c : Nat} {gs : List Nat} {r : ME} {h : MH} : kTry c gs (.nxt r h) = .nxt r h := rfl
@[simp] theorem kTry_ret {c : Nat} {gs : List Nat} {x : LV} {h : MH} : kTry c gs (.ret x h) = .ret x h := rfl
@[simp] theorem kTry_bad {c : Nat} {gs : List Nat} : kTry c gs .bad = .bad := rfl
@[simp] theorem kTry_exc1 {c g : Nat} {v : MV} {h : MH} : kTry c [g] (.exc c [(g, v)] h) = .ret (.v v) h := by simp [kTry, tryF]
@[simp] theorem kTry_exc2 {c g g' : Nat} {v v' : MV} {h : MH} : kTry c [g, g'] (.exc c [(g, v), (g', v')] h) = .ret (.v (.tup [v, v'])) h := by simp [kTry, tryF]
@[simp] theorem sS_tryR {c : Nat} {gs : List Nat} {body : CSs} : evS T F (.tryR c gs body) r h = kTry c gs (evSs T F body r h) := evS_tryR
def kIf2 (T : Tab) (F : Phi) (r : ME) (a b : CSs) (x : LV) (h : MH) : OutS := match x with
  | .v (.bl true) => evSs T F a r h
  | .v (.bl false) => evSs T F b r h
  | _ => .bad
@[simp] theorem kIf2_t {a b : CSs} : kIf2 T F r a b (.v (.bl true)) h = evSs T F a r h := rfl
@[simp] theorem kIf2_f {a b : CSs} : kIf2 T F r a b (.v (.bl false)) h = evSs T F b r h := rfl
def kIf (T : Tab) (F : Phi) (r : ME) (a b : CSs) (o : Out LV) : OutS := o.thenS fun x h => kIf2 T F r a b x h
@[simp] theorem kIf_ok {T : Tab} {F : Phi} {r : ME} {a b : CSs} {x : LV} {h : MH} : kIf T F r a b (.ok x h) = kIf2 T F r a b x h := rfl
@[simp] theorem kIf_bad {T : Tab} {F : Phi} {r : ME} {a b : CSs} : kIf T F r a b .bad = OutS.bad := rfl
@[simp] theorem kIf_exc {T : Tab} {F : Phi} {r : ME} {a b : CSs} {xc : Nat} {xf : List (Nat × MV)} {xh : MH} : kIf T F r a b (.exc xc xf xh) = OutS.exc xc xf xh := rfl
@[simp] theorem sS_ife {t : CE} {a b : CSs} : evS T F (.ife t a b) r h = kIf T F r a b (evE T F t r h) := by rw [evS_ife]; rfl
def kFor (T : Tab) (F : Phi) (r : ME) (t : Tg) (body : CSs) (o : Out Its) : OutS := o.thenS fun I h => forL I.live (forStep T F t body) I.items r h
@[simp] theorem kFor_ok {T : Tab} {F : Phi} {r : ME} {t : Tg} {body : CSs} {I : Its} {h : MH} : kFor T F r t body (.ok I h) = forL I.live (forStep T F t body) I.items r h := rfl
@[simp] theorem kFor_bad {T : Tab} {F : Phi} {r : ME} {t : Tg} {body : CSs} : kFor T F r t body .bad = OutS.bad := rfl
@[simp] theorem kFor_exc {T : Tab} {F : Phi} {r : ME} {t : Tg} {body : CSs} {xc : Nat} {xf : List (Nat × MV)} {xh : MH} : kFor T F r t body (.exc xc xf xh) = OutS.exc xc xf xh := rfl
@[simp] theorem sS_forr {t : Tg} {it : CI} {body : CSs} : evS T F (.forr t it body) r h = kFor T F r t body (evI T F it r h) := by rw [evS_forr]; rfl
def whil (T : Tab) (F : Phi) (t : CE) (body : CSs) (k : Nat) (r : ME) (h : MH) : OutS := whileL (fun r h => evE T F t r h) (fun r h => evSs T F body r h) k r h
@[simp] theorem sS_whil {t : CE} {body : CSs} : evS T F (.whil t body) r h = whil T F t body 1000000 r h := by rw [evS_whil]; rfl
def kSq (T : Tab) (F : Phi) (ss : CSs) (o : OutS) : OutS := o.andS fun r h => evSs T F ss r h
@[simp] theorem kSq_nxt {ss : CSs} : kSq T F ss (.nxt r h) = evSs T F ss r h := rfl
@[simp] theorem kSq_ret {ss : CSs} {x : LV} : kSq T F ss (.ret x h) = .ret x h := rfl
@[simp] theorem kSq_brk {ss : CSs} : kSq T F ss (.brk r h) = .brk r h := rfl
@[simp] theorem kSq_exc {ss : CSs} {xc : Nat} {xf : List (Nat × MV)} : kSq T F ss (.exc xc xf h) = .exc xc xf h := rfl
@[simp] theorem kSq_cnt {ss : CSs} : kSq T F ss (.cnt r h) = .cnt r h := rfl
@[simp] theorem sSs_nil : evSs T F .nil r h = .nxt r h := evSs_nil
@[simp] theorem sSs_cons {s : CS} {ss : CSs} : evSs T F (.cons s ss) r h = kSq T F ss (evS T F s r h) := by rw [evSs_cons]; rfl
end
end SC

namespace SC
open PySem L2
section
variable {T : Tab} {h : MH} {i j : Int} {a b : Str} {xs ys : List MV} {k : Nat} {ls ms : List LV}
@[simp] theorem atI_0 {α : Type} {x : α} {l : List α} : atI (x :: l) 0 = some x := by
  unfold atI ixN; rw [if_pos (by omega), if_pos (by simp)]; rfl
@[simp] theorem atI_1 {α : Type} {x y : α} {l : List α} : atI (x :: y :: l) 1 = some y := by
  unfold atI ixN; rw [if_pos (by omega), if_pos (by simp; omega)]; rfl
@[simp] theorem atI_2 {α : Type} {x y z : α} {l : List α} : atI (x :: y :: z :: l) 2 = some z := by
  unfold atI ixN; rw [if_pos (by omega), if_pos (by simp; omega)]; rfl
theorem atI_nat {α : Type} {l : List α} {i : Int} {z : α} (h0 : 0 ≤ i) (h : l[i.toNat]? = some z) : atI l i = some z := by
  have hl : i.toNat < l.length := (List.getElem?_eq_some_iff.mp h).1
  unfold atI ixN; rw [if_pos h0, if_pos (by omega)]; exact h
/-! ### the primitives, by the forms of their operands -/
@[simp] theorem idx_r (e : h[k]? = some (.lst ls)) : idxF (.r k) (.v (.int i)) h = kAt3 (atI ls i) h := by
  simp only [idxF, seqOf, e, Option.bind]; rfl
@[simp] theorem idx_l : idxF (.v (.lst xs)) (.v (.int i)) h = kAt3 (atI (xs.map .v) i) h := rfl
@[simp] theorem idx_t : idxF (.v (.tup xs)) (.v (.int i)) h = kAt3 (atI (xs.map .v) i) h := rfl
@[simp] theorem add_i : binF .add (.v (.int i)) (.v (.int j)) h = .ok (.v (.int (i + j))) h := rfl
@[simp] theorem sub_i : binF .sub (.v (.int i)) (.v (.int j)) h = .ok (.v (.int (i - j))) h := rfl
def kAr (o : Option Int) (h : MH) : Out LV := match o with
  | some k => .ok (.v (.int k)) h
  | none => .bad
@[simp] theorem kAr_some : kAr (some i) h = .ok (.v (.int i)) h := rfl
@[simp] theorem mul_i : binF .mul (.v (.int i)) (.v (.int j)) h = kAr (if (-(2 ^ 64) < i ∧ i < 2 ^ 64) ∨ (-(2 ^ 64) < j ∧ j < 2 ^ 64) then some (i * j) else none) h := rfl
@[simp] theorem fdiv_i : binF .fdiv (.v (.int i)) (.v (.int j)) h = kAr (if j ≠ 0 ∧ j.natAbs < 1073741824 then some (i.fdiv j) else none) h := rfl
@[simp] theorem mod_i : binF .mod (.v (.int i)) (.v (.int j)) h = kAr (if j ≠ 0 then some (i.fmod j) else none) h := rfl
@[simp] theorem pow_i : binF .pow (.v (.int i)) (.v (.int j)) h = kAr (if 0 ≤ j ∧ j ≤ 1000000 ∧ i.natAbs < 2 ^ 64 then some (i ^ j.toNat) else none) h := rfl
@[simp] theorem arF_i {op : BOp} : arF op (.v (.int i)) (.v (.int j)) h = kAr (arith op i j) h := rfl
@[simp] theorem arith_add : arith .add i j = some (i + j) := rfl
@[simp] theorem add_ll : binF .add (.v (.lst xs)) (.v (.lst ys)) h = if xs.length + ys.length ≤ 16777216 then .ok (.v (.lst (xs ++ ys))) h else .bad := by
  simp only [binF, addF, lstOf, Option.bind, pures_v]; rfl
@[simp] theorem add_tt : binF .add (.v (.tup xs)) (.v (.tup ys)) h = if xs.length + ys.length ≤ 16777216 then .ok (.v (.tup (xs ++ ys))) h else .bad := rfl
theorem add_rl {zs : List MV} (e : h[k]? = some (.lst ls)) (e2 : pures ls = some zs) : binF .add (.r k) (.v (.lst ys)) h = if zs.length + ys.length ≤ 16777216 then .ok (.v (.lst (zs ++ ys))) h else .bad := by
  simp only [binF, addF, lstOf, e, Option.bind, pures_v, e2]; rfl
@[simp] theorem len_r (e : h[k]? = some (.lst ls)) : bltF T .len [.r k] h = .ok (.v (.int ls.length)) h := by
  simp only [bltF, un1, lenF, seqOf, e]; rfl
@[simp] theorem len_l : bltF T .len [.v (.lst xs)] h = .ok (.v (.int xs.length)) h := by simp [bltF, un1, lenF, seqOf]
@[simp] theorem len_t : bltF T .len [.v (.tup xs)] h = .ok (.v (.int xs.length)) h := by simp [bltF, un1, lenF, seqOf]
@[simp] theorem len_s : bltF T .len [.v (.str a)] h = if a.length ≤ 16777216 then .ok (.v (.int a.length)) h else .bad := rfl
@[simp] theorem int_b {q : Bool} : bltF T .int1 [.v (.bl q)] h = .ok (.v (.int (if q then 1 else 0))) h := rfl
@[simp] theorem rep_li : binF .rep (.v (.lst xs)) (.v (.int i)) h = if -(2 ^ 63) ≤ i ∧ i < 2 ^ 63 ∧ xs.length * i.toNat ≤ 16777216 then .ok (.v (.lst (List.replicate i.toNat xs).flatten)) h else .bad := by
  simp only [binF, repF, lstOf, Option.bind, pures_v]; rfl
@[simp] theorem itZip_ll : itZip (.v (.lst xs)) (.v (.lst ys)) = some ⟨xs.zipWith (fun a b => .v (.tup [a, b])) ys, none⟩ := rfl
@[simp] theorem split_s : bmF .split (.v (.str a)) [.v (.str b)] h = if (b.length == 0) = false ∧ a.length + 2 ≤ 16777216 then .ok (.v (.lst ((Txt.split a b).map .str))) h else .bad := rfl
@[simp] theorem int_i : bltF T .int1 [.v (.int i)] h = .ok (.v (.int i)) h := rfl
@[simp] theorem max_i : bltF T .max2 [.v (.int i), .v (.int j)] h = .ok (.v (.int (if j > i then j else i))) h := rfl
@[simp] theorem min_i : bltF T .min2 [.v (.int i), .v (.int j)] h = .ok (.v (.int (if j < i then j else i))) h := rfl
@[simp] theorem lt_i : cmpO .lt (.v (.int i)) (.v (.int j)) h = .ok (.v (.bl (decide (i < j)))) h := rfl
@[simp] theorem le_i : cmpO .le (.v (.int i)) (.v (.int j)) h = .ok (.v (.bl (decide (i ≤ j)))) h := rfl
@[simp] theorem gt_i : cmpO .gt (.v (.int i)) (.v (.int j)) h = .ok (.v (.bl (decide (j < i)))) h := rfl
@[simp] theorem ge_i : cmpO .ge (.v (.int i)) (.v (.int j)) h = .ok (.v (.bl (decide (j ≤ i)))) h := rfl
@[simp] theorem le_s : cmpO .le (.v (.str a)) (.v (.str b)) h = .ok (.v (.bl (leS a b))) h := rfl
@[simp] theorem tuple_r {zs : List MV} (e : h[k]? = some (.lst ls)) (e2 : pures ls = some zs) : bltF T .tuple [.r k] h = .ok (.v (.tup zs)) h := by
  simp only [bltF, un1, tupleF, seqOf, e, Option.bind, e2]; rfl
@[simp] theorem tuple_l : bltF T .tuple [.v (.lst xs)] h = .ok (.v (.tup xs)) h := by
  simp only [bltF, un1, tupleF, seqOf, Option.bind, pures_v]; rfl
@[simp] theorem setI_r (e : h[k]? = some (.lst ls)) {x : LV} : setIO (.r k) (.v (.int i)) x h = (ixN ls.length i).map fun j => h.set k (.lst (ls.set j x)) := by
  simp only [setIO, e]
@[simp] theorem append_r {x : LV} (e : h[k]? = some (.lst ls)) : bmF .append (.r k) [x] h = if ls.length < 16777216 then .ok (.v .non) (h.set k (.lst (ls ++ [x]))) else .bad := by
  simp only [bmF, un1, appendF, e]; rfl
@[simp] theorem recv_r {m : BMt} (e : h[k]? = some (.lst ls)) : recvOk .append (.r k) h = true ∧ recvOk .extend (.r k) h = true ∧ recvOk .popAt (.r k) h = true ∧ recvOk .popLast (.r k) h = true := by
  simp [recvOk, lstOf, e]
@[simp] theorem listL_scr : bltF T .listL [.v (.scr xs)] h = .ok (.r h.length) (h ++ [.lst (xs.map .v)]) := rfl
@[simp] theorem listL_lst : bltF T .listL [.v (.lst xs)] h = .ok (.r h.length) (h ++ [.lst (xs.map .v)]) := rfl
@[simp] theorem listL_tup : bltF T .listL [.v (.tup xs)] h = .ok (.r h.length) (h ++ [.lst (xs.map .v)]) := rfl
@[simp] theorem list_tup : bltF T .list [.v (.tup xs)] h = .ok (.v (.lst xs)) h := by
  simp only [bltF, un1, listF, seqOf, Option.bind, pures_v]; rfl
/-! ### loops -/
@[simp] theorem itVal_scr : itVal (.v (.scr xs)) h = some ⟨xs.map .v, none⟩ := rfl
@[simp] theorem itVal_lst : itVal (.v (.lst xs)) h = some ⟨xs.map .v, none⟩ := rfl
@[simp] theorem itVal_tup : itVal (.v (.tup xs)) h = some ⟨xs.map .v, none⟩ := rfl
@[simp] theorem itVal_str : itVal (.v (.str a)) h = some ⟨a.cps.toList.map fun c => .v (.str ⟨#[c]⟩), none⟩ := rfl
theorem itVal_r (e : h[k]? = some (.lst ls)) : itVal (.r k) h = some ⟨ls, some (k, ls)⟩ := by simp [itVal, seqOf, liveOf, e]
@[simp] theorem itEnum_lst : itEnum (.v (.lst xs)) h = some ⟨enumL xs, none⟩ := by simp [itEnum, seqOf, liveOf]
@[simp] theorem itEnum_tup : itEnum (.v (.tup xs)) h = some ⟨enumL xs, none⟩ := by simp [itEnum, seqOf, liveOf]
theorem itRng_nat {n : Nat} (hn : n < 2 ^ 62) : itRng (.v (.int 0)) (.v (.int n)) = some ⟨rangeL 0 n, none⟩ := by
  unfold itRng
  dsimp only
  rw [if_pos ⟨by omega, by omega⟩]
  simp
theorem popAt_r {z : LV} (e : h[k]? = some (.lst ls)) (h0 : 0 ≤ i) (hz : ls[i.toNat]? = some z) (hi : i < 2 ^ 63) : bmF .popAt (.r k) [.v (.int i)] h = .ok z (h.set k (.lst (ls.eraseIdx i.toNat))) := by
  have hl : i.toNat < ls.length := (List.getElem?_eq_some_iff.mp hz).1
  have e2 : seqIndex? i ls.length = some i.toNat := (ixN_seq (by unfold ixN; rw [if_pos h0, if_pos (by omega)])).1
  simp only [bmF, un1, popAtF, e, e2, hz]
  rw [if_pos ⟨by omega, hi⟩]
def kWl (T : Tab) (F : Phi) (t : CE) (body : CSs) (k : Nat) (o : OutS) : OutS := match o with
  | .nxt r' h' => whil T F t body k r' h'
  | .cnt r' h' => whil T F t body k r' h'
  | .brk r' h' => .nxt r' h'
  | o => o
def kWh (T : Tab) (F : Phi) (t : CE) (body : CSs) (k : Nat) (r : ME) (o : Out LV) : OutS := match o with
  | .ok (.v (.bl true)) h' => kWl T F t body k (evSs T F body r h')
  | .ok (.v (.bl false)) h' => .nxt r h'
  | .exc c fs h' => .exc c fs h'
  | _ => .bad
section
variable {F : Phi} {t : CE} {body : CSs} {r : ME} {x : LV}
@[simp] theorem kWl_nxt : kWl T F t body k (.nxt r h) = whil T F t body k r h := rfl
@[simp] theorem kWl_cnt : kWl T F t body k (.cnt r h) = whil T F t body k r h := rfl
@[simp] theorem kWl_exc {xc : Nat} {xf : List (Nat × MV)} : kWl T F t body k (.exc xc xf h) = .exc xc xf h := rfl
@[simp] theorem kWl_ret : kWl T F t body k (.ret x h) = .ret x h := rfl
@[simp] theorem kWh_t : kWh T F t body k r (.ok (.v (.bl true)) h) = kWl T F t body k (evSs T F body r h) := rfl
@[simp] theorem kWh_f : kWh T F t body k r (.ok (.v (.bl false)) h) = .nxt r h := rfl
theorem whil_succ : whil T F t body (k + 1) r h = kWh T F t body k r (evE T F t r h) := by
  unfold whil
  rw [whileL]
  unfold kWh kWl whil
  rfl
end
def kFL (g : Option (Nat × List LV)) (step : LV → ME → MH → OutS) (ls : List LV) (o : OutS) : OutS := match o with
  | .nxt r' h' => forL g step ls r' h'
  | .cnt r' h' => forL g step ls r' h'
  | .brk r' h' => .nxt r' h'
  | o => o
section
variable {g : Option (Nat × List LV)} {step : LV → ME → MH → OutS} {x : LV} {r : ME}
@[simp] theorem kFL_nxt : kFL g step ls (.nxt r h) = forL g step ls r h := rfl
@[simp] theorem kFL_cnt : kFL g step ls (.cnt r h) = forL g step ls r h := rfl
@[simp] theorem kFL_brk : kFL g step ls (.brk r h) = .nxt r h := rfl
@[simp] theorem kFL_exc {xc : Nat} {xf : List (Nat × MV)} : kFL g step ls (.exc xc xf h) = .exc xc xf h := rfl
@[simp] theorem kFL_ret : kFL g step ls (.ret x h) = .ret x h := rfl
@[simp] theorem forL_nil : forL none step [] r h = .nxt r h := rfl
@[simp] theorem forL_cons : forL none step (x :: ls) r h = kFL none step ls (step x r h) := by
  simp only [forL, Its.okIn, if_true]; rfl
@[simp] theorem forL_nilR (e : h[k]? = some (.lst ms)) : forL (some (k, ms)) step [] r h = .nxt r h := by
  simp [forL, Its.okIn, e]
@[simp] theorem forL_consR (e : h[k]? = some (.lst ms)) : forL (some (k, ms)) step (x :: ls) r h = kFL (some (k, ms)) step ls (step x r h) := by
  simp only [forL, Its.okIn, e, decide_true, if_true]; rfl
def kSt (T : Tab) (F : Phi) (body : CSs) (h : MH) (o : Option ME) : OutS := match o with
  | some r' => evSs T F body r' h
  | none => .bad
@[simp] theorem kSt_some {F : Phi} {body : CSs} {r' : ME} : kSt T F body h (some r') = evSs T F body r' h := rfl
@[simp] theorem forStep_eq {F : Phi} {t : Tg} {body : CSs} : forStep T F t body x r h = kSt T F body h (asgT t x r) := by
  unfold forStep kSt; rfl
end
end
end SC

namespace SC
open PySem L2
/-! ### heaps -/
def Wf (h : MH) : Prop := ∀ o ∈ h, MO.below h.length o = true
theorem wfTo_iff {m : Nat} {h : MH} : wfTo m h = true ↔ ∀ o ∈ h.take m, MO.below m o = true := by
  unfold wfTo; rw [List.all_eq_true]
theorem finish_ret {h t : MH} {x : MV} (w : Wf h) : finish false h.length (.ret (.v x) (h ++ t)) = .ok (.v x) h := by
  have e : wfTo h.length (h ++ t) = true := by rw [wfTo_iff, List.take_left]; exact w
  simp [finish, leave, LV.below, e]
theorem finish_ret0 {h : MH} {x : MV} (w : Wf h) : finish false h.length (.ret (.v x) h) = .ok (.v x) h := by
  have := finish_ret (t := []) (x := x) w
  rwa [List.append_nil] at this
def iL (xs : List Int) : List LV := xs.map fun i => .v (.int i)
@[simp] theorem iL_len {xs : List Int} : (iL xs).length = xs.length := by simp [iL]
@[simp] theorem iL_pures {xs : List Int} : pures (iL xs) = some (xs.map .int) := by
  unfold iL; rw [show (xs.map fun i => LV.v (.int i)) = (xs.map MV.int).map .v by simp]; exact pures_v
/-- the source of drawn numbers: state, script, place -/
def hs (s : Int) (xs : List Int) (p : Int) (rest : MH) : MH := .lst (iL xs) :: .lst [.v (.int s), .r 0, .v (.int p)] :: rest
@[simp] theorem hs_len {s : Int} {xs : List Int} {p : Int} {rest : MH} : (hs s xs p rest).length = rest.length + 2 := rfl
@[simp high] theorem hs_0 {s : Int} {xs : List Int} {p : Int} {rest : MH} : (hs s xs p rest)[0]? = some (.lst (iL xs)) := rfl
@[simp high] theorem hs_1 {s : Int} {xs : List Int} {p : Int} {rest : MH} : (hs s xs p rest)[1]? = some (.lst [.v (.int s), .r 0, .v (.int p)]) := rfl
/-- what stands behind the source -/
def WfR (rest : MH) : Prop := ∀ o ∈ rest, MO.below (rest.length + 2) o = true
theorem iL_below {m : Nat} {xs : List Int} : (iL xs).all (LV.below m) = true := by simp [iL, LV.below]
theorem hs_wf {s : Int} {xs : List Int} {p : Int} {rest : MH} (w : WfR rest) : Wf (hs s xs p rest) := by
  intro o ho
  rw [hs_len]
  simp only [hs, List.mem_cons] at ho
  rcases ho with rfl | rfl | ho
  · exact iL_below
  · simp [MO.below, LV.below]
  · exact w o ho
theorem fin_hs {s s' : Int} {xs xs' : List Int} {p p' : Int} {rest : MH} {x : MV} (w : WfR rest) : finish false (hs s xs p rest).length (.ret (.v x) (hs s' xs' p' rest)) = .ok (.v x) (hs s' xs' p' rest) := by
  rw [hs_len, ← hs_len (s := s') (xs := xs') (p := p')]
  exact finish_ret0 (hs_wf w)
section
variable {T : Tab} {P : Nat → Option Fn} {h : MH}
theorem set_hs_1 {s : Int} {xs : List Int} {p : Int} {rest : MH} {o : MO} : (hs s xs p rest).set 1 o = .lst (iL xs) :: o :: rest := rfl
theorem set_hs_0 {s : Int} {xs : List Int} {p : Int} {rest : MH} {ys : List Int} : (hs s xs p rest).set 0 (.lst (iL ys)) = hs s ys p rest := rfl
theorem fmod_range {i j : Int} (h : 0 < j) : 0 ≤ i.fmod j ∧ i.fmod j < j := ⟨Int.fmod_nonneg_of_pos i h, Int.fmod_lt_of_pos i h⟩
/-- a drawn number is below its limit; nothing but the source is touched -/
theorem next_spec (hp : P 32 = some B.f32__law_next) (n : Nat) (s : Int) (xs : List Int) (p lim : Int) (rest : MH) (w : WfR rest) (h0 : 0 < lim) (h1 : lim < 1073741824) (hl : xs.length ≤ 63) :
    ∃ r s' xs' p', 0 ≤ r ∧ r < lim ∧ xs'.length = xs.length ∧ run T P (n + 1) 32 [.r 1, .v (.int lim)] (hs s xs p rest) = .ok (.v (.int r)) (hs s' xs' p' rest) := by
  have hm : (if (xs.length : Int) > 1 then (xs.length : Int) else 1) ≠ 0 := by split <;> omega
  have hl0 : lim ≠ 0 := by omega
  obtain ⟨c, hc, hbig⟩ : ∃ c : Int, atI ((xs.map MV.int ++ [MV.int 0]).map LV.v) (p.fmod (if (xs.length : Int) > 1 then (xs.length : Int) else 1)) = some (.v (.int c)) ∧ (c ≠ 0 → (xs.length : Int) ≠ 0) := by
    by_cases he : xs = []
    · subst he
      refine ⟨0, ?_, fun z => absurd rfl z⟩
      have e1 : p.fmod (if (([] : List Int).length : Int) > 1 then (([] : List Int).length : Int) else 1) = 0 := by simp
      rw [e1]; rfl
    · have hlen : 0 < xs.length := List.length_pos_iff.mpr he
      have e1 : (if (xs.length : Int) > 1 then (xs.length : Int) else 1) = xs.length := by split <;> omega
      rw [e1]
      have rg := fmod_range (i := p) (j := xs.length) (by omega)
      have hk : (p.fmod xs.length).toNat < xs.length := by omega
      refine ⟨xs[(p.fmod xs.length).toNat], atI_nat rg.1 ?_, fun _ => by omega⟩
      simp [List.getElem?_append, hk]
  rw [run_succ hp rfl]
  have hc2 := hc
  simp only [List.map_append, List.map_map, List.map_cons, List.map_nil] at hc2
  by_cases hb : (10 : Int) ^ 18 ≤ c
  · have hb' : (1000000000000000000 : Int) ≤ c := hb
    have hx := hbig (by omega)
    have e7 := fmod_range (i := c) h0
    have rg := fmod_range (i := p) (j := xs.length) (by omega)
    refine ⟨c.fmod lim, s, xs.set (p.fmod xs.length).toNat (c.fdiv lim), p, e7.1, e7.2, by simp, ?_⟩
    refine Eq.trans (congrArg _ ?_) (fin_hs w)
    have e1 : ixN (xs.length) (p.fmod xs.length) = some (p.fmod xs.length).toNat := by
      unfold ixN; rw [if_pos rg.1, if_pos rg.2]
    have e2 : (iL xs).set (p.fmod xs.length).toNat (.v (.int (c.fdiv lim))) = iL (xs.set (p.fmod xs.length).toNat (c.fdiv lim)) := by
      unfold iL; rw [List.map_set]
    have hx' : ¬ xs = [] := by rintro rfl; exact hx rfl
    have hn : lim.natAbs < 1073741824 := by omega
    simp [B.f32__law_next, B.c_f32__law_next, add_rl (hs_0 (s := s) (xs := xs) (p := p) (rest := rest)) iL_pures, hm, hb', Nat.le_trans hl, hc2, hl0, hn, hx', e1, e2, set_hs_0]
  · have e7 := fmod_range (i := ((s * 48271 + c * 69621 + 11).fmod 2147483647).fdiv 7) h0
    refine ⟨(((s * 48271 + c * 69621 + 11).fmod 2147483647).fdiv 7).fmod lim, (s * 48271 + c * 69621 + 11).fmod 2147483647, xs, p + 1, e7.1, e7.2, rfl, ?_⟩
    have hb' : ¬ (1000000000000000000 : Int) ≤ c := hb
    refine Eq.trans (congrArg _ ?_) (fin_hs w)
    simp [B.f32__law_next, B.c_f32__law_next, ixN, add_rl (hs_0 (s := s) (xs := xs) (p := p) (rest := rest)) iL_pures, hm, hb', set_hs_1, Nat.le_trans hl, hc2, hl0]
    rfl
end
end SC

namespace SC
open PySem L2
section
variable {T : Tab} {P : Nat → Option Fn} {h : MH}
abbrev mixB : CSs := .cons (.asg (.nm 2) (.bin .mod (.blt .int1 (.cons (.bin .add (.bin .add (.bin .mul (.var 2) (.cst (.int 48271))) (.bin .mod (.blt .int1 (.cons (.var 3) .nil)) (.cst (.int 2147483629)))) (.cst (.int 1))) .nil)) (.cst (.int 2147483647)))) .nil
theorem mix_loop {F : Phi} {a b : Option LV} : ∀ (ns : List Int) (s : Int) (c : Option LV), ∃ s' c', forL none (forStep T F (.nm 3) mixB) (iL ns) [a, b, some (.v (.int s)), c] h = .nxt [a, b, some (.v (.int s')), c'] h
  | [], s, c => ⟨s, c, rfl⟩
  | n :: ns, s, c => by
    obtain ⟨s', c', e⟩ := mix_loop (F := F) (a := a) (b := b) ns ((s * 48271 + n.fmod 2147483629 + 1).fmod 2147483647) (some (.v (.int n)))
    refine ⟨s', c', ?_⟩
    show forL none _ (.v (.int n) :: iL ns) _ _ = _
    rw [← e, forL_cons]
    simp
theorem mix_spec (hp : P 31 = some B.f31__law_mix) (n : Nat) (ns : List Int) (seed : Int) : ∃ s, run T P (n + 1) 31 [.v (.scr (ns.map .int)), .v (.int seed)] [] = .ok (.r 1) (hs s ns 0 []) := by
  obtain ⟨s', c', e⟩ := mix_loop (T := T) (F := run T P n) (h := []) (a := some (.v (.scr (ns.map .int)))) (b := some (.v (.int seed))) ns seed none
  have e0 : (ns.map MV.int).map LV.v = iL ns := by simp [iL]
  refine ⟨s', ?_⟩
  rw [run_succ hp rfl]
  simp [B.f31__law_mix, B.c_f31__law_mix, e0, e, finish, leave]
  rfl
end
end SC

namespace SC
open PySem L2
/-! ### lists of texts; what stands behind the source -/
def sL (fs : List Str) : List LV := fs.map fun f => .v (.str f)
@[simp] theorem sL_len {fs : List Str} : (sL fs).length = fs.length := by simp [sL]
@[simp] theorem sL_pures {fs : List Str} : pures (sL fs) = some (fs.map .str) := by
  unfold sL; rw [show (fs.map fun i => LV.v (.str i)) = (fs.map MV.str).map .v by simp]; exact pures_v
theorem sL_get {fs : List Str} {i : Nat} (hi : i < fs.length) : (sL fs)[i]? = some (.v (.str fs[i])) := by simp [sL, hi]
theorem sL_erase {fs : List Str} {i : Nat} : (sL fs).eraseIdx i = sL (fs.eraseIdx i) := by
  unfold sL
  induction fs generalizing i with
  | nil => rfl
  | cons f fs ih => cases i with
    | zero => rfl
    | succ i => simp [ih]
theorem sL_below {m : Nat} {fs : List Str} : (sL fs).all (LV.below m) = true := by simp [sL, LV.below]
section
variable {s : Int} {xs : List Int} {p : Int} {rest : MH} {o o' : MO} {i : Nat}
@[simp high] theorem hs_2 : (hs s xs p rest)[i + 2]? = rest[i]? := rfl
@[simp] theorem set_hs_2 : (hs s xs p rest).set (i + 2) o = hs s xs p (rest.set i o) := rfl
@[simp] theorem hs_push : hs s xs p rest ++ [o] = hs s xs p (rest ++ [o]) := rfl
@[simp high] theorem last_get : (rest ++ [o])[rest.length]? = some o := by simp
@[simp] theorem last_set : (rest ++ [o]).set rest.length o' = rest ++ [o'] := by simp [List.set_append]
/-- a cell of pure values stands anywhere -/
def PureC (o : MO) : Prop := ∀ m, MO.below m o = true
theorem sL_pureC {fs : List Str} : PureC (.lst (sL fs)) := fun m => sL_below
theorem WfR.push (w : ∀ o ∈ rest, PureC o) (h : PureC o) : ∀ o' ∈ rest ++ [o], PureC o' := by
  intro o' ho
  rcases List.mem_append.mp ho with ho | ho
  · exact w o' ho
  · simp at ho; rw [ho]; exact h
theorem WfR.of (w : ∀ o ∈ rest, PureC o) : WfR rest := fun o ho => w o ho _
end
theorem fin_push {s s' : Int} {xs xs' : List Int} {p p' : Int} {rest tail : MH} {x : MV} (w : WfR rest) : finish false (hs s xs p rest).length (.ret (.v x) (hs s' xs' p' (rest ++ tail))) = .ok (.v x) (hs s' xs' p' rest) := by
  rw [hs_len, ← hs_len (s := s') (xs := xs') (p := p')]
  exact finish_ret (t := tail) (hs_wf w)
section
variable {T : Tab} {P : Nat → Option Fn} {h : MH}
abbrev factsT : CE := .cmp .gt (.blt .len (.cons (.var 2) .nil)) (.var 3)
abbrev factsB : CSs := .cons (.expr (.bm .popAt (.var 2) (.cons (.call 32 (.cons (.var 0) (.cons (.blt .len (.cons (.var 2) .nil)) .nil))) .nil))) .nil
theorem facts_loop (hp : P 32 = some B.f32__law_next) (n : Nat) (a : Option LV) (m : Nat) (rest : MH) (w : ∀ o ∈ rest, PureC o) : ∀ (k : Nat) (fs : List Str) (s : Int) (xs : List Int) (p : Int), fs.length < k → fs.length ≤ 1000 → m ≤ fs.length → xs.length ≤ 63 →
    ∃ gs s' xs' p', gs.Sublist fs ∧ gs.length = m ∧ xs'.length = xs.length ∧
      whil T (run T P (n + 1)) factsT factsB k [some (.r 1), a, some (.r (rest.length + 2)), some (.v (.int m))] (hs s xs p (rest ++ [.lst (sL fs)])) = .nxt [some (.r 1), a, some (.r (rest.length + 2)), some (.v (.int m))] (hs s' xs' p' (rest ++ [.lst (sL gs)]))
  | 0, fs, s, xs, p, hk, _, _, _ => by omega
  | k + 1, fs, s, xs, p, hk, hf, hm, hx => by
    rw [whil_succ]
    by_cases hlt : m < fs.length
    · obtain ⟨r, s1, xs1, p1, h0, h1, hl1, e1⟩ := next_spec (T := T) hp n s xs p fs.length (rest ++ [.lst (sL fs)]) (WfR.of (WfR.push w sL_pureC)) (by omega) (by omega) hx
      have hr : r.toNat < fs.length := by omega
      obtain ⟨gs, s', xs', p', g1, g2, g3, g4⟩ := facts_loop hp n a m rest w k (fs.eraseIdx r.toNat) s1 xs1 p1 (by rw [List.length_eraseIdx]; split <;> omega) (by rw [List.length_eraseIdx]; split <;> omega) (by rw [List.length_eraseIdx]; split <;> omega) (by omega)
      refine ⟨gs, s', xs', p', g1.trans (List.eraseIdx_sublist _ _), g2, by omega, ?_⟩
      rw [← g4]
      have e2 := popAt_r (h := hs s1 xs1 p1 (rest ++ [.lst (sL fs)])) (k := rest.length + 2) (ls := sL fs) (by simp) h0 (sL_get hr) (by omega)
      simp [hlt, recvOk, lstOf, e1, e2, sL_erase]
    · have : fs.length = m := by omega
      refine ⟨fs, s, xs, p, List.Sublist.refl _, this, rfl, ?_⟩
      simp [this]
end
end SC

namespace SC
open PySem L2
section
variable {T : Tab} {P : Nat → Option Fn} {h : MH}
def ten : List Str := ["crew", "debt", "fog", "gate", "late", "mail", "noon", "paid", "rain", "warm"]
@[simp] theorem ten_len : ten.length = 10 := rfl
theorem facts_spec (hp : P 32 = some B.f32__law_next) (hq : P 34 = some B.f34__law_facts) (n : Nat) (most : Nat) (h1 : 1 ≤ most) (h10 : most ≤ 10) (s : Int) (xs : List Int) (p : Int) (rest : MH) (w : ∀ o ∈ rest, PureC o) (hx : xs.length ≤ 63) :
    ∃ (gs : List Str) (s' : Int) (xs' : List Int) (p' : Int), gs.Sublist ten ∧ 1 ≤ gs.length ∧ gs.length ≤ most ∧ xs'.length = xs.length ∧ run T P (n + 2) 34 [.r 1, .v (.int most)] (hs s xs p rest) = .ok (.v (.tup (gs.map .str))) (hs s' xs' p' rest) := by
  obtain ⟨r, s1, xs1, p1, h0, hr, hl1, e1⟩ := next_spec (T := T) hp n s xs p most (rest ++ [.lst (sL ten)]) (WfR.of (WfR.push w sL_pureC)) (by omega) (by omega) hx
  obtain ⟨m, rfl⟩ : ∃ m : Nat, r = m := ⟨r.toNat, by omega⟩
  obtain ⟨gs, s', xs', p', g1, g2, g3, g4⟩ := facts_loop (T := T) hp n (some (.v (.int most))) (m + 1) rest w 1000000 ten s1 xs1 p1 (by decide) (by decide) (by show m + 1 ≤ 10; omega) (by omega)
  refine ⟨gs, s', xs', p', g1, by omega, by omega, by omega, ?_⟩
  rw [run_succ hq rfl]
  refine Eq.trans (congrArg _ ?_) (fin_push (tail := [.lst (sL gs)]) (WfR.of w))
  have e0 : ([.v (.str "crew"), .v (.str "debt"), .v (.str "fog"), .v (.str "gate"), .v (.str "late"), .v (.str "mail"), .v (.str "noon"), .v (.str "paid"), .v (.str "rain"), .v (.str "warm")] : List LV) = sL ten := rfl
  have e2 : (1 : Int) + (m : Int) = ((m + 1 : Nat) : Int) := by omega
  simp [-Int.natCast_add, B.f34__law_facts, B.c_f34__law_facts, e0, e1, e2, g4]
end
end SC

namespace SC
open PySem L2
/-! ### heaps again -/
theorem LV.below_mono {m n : Nat} (h : m ≤ n) {x : LV} (e : LV.below m x = true) : LV.below n x = true := by
  cases x with
  | v x => rfl
  | r k => simp [LV.below] at e ⊢; omega
theorem MO.below_mono {m n : Nat} (h : m ≤ n) {o : MO} (e : MO.below m o = true) : MO.below n o = true := by
  cases o with
  | dead => rfl
  | lst xs => simp only [MO.below, List.all_eq_true] at e ⊢; exact fun x hx => LV.below_mono h (e x hx)
  | ins c fs => simp only [MO.below, List.all_eq_true] at e ⊢; exact fun x hx => LV.below_mono h (e x hx)
theorem Wf.push {h : MH} {o : MO} (w : Wf h) (e : MO.below (h.length + 1) o = true) : Wf (h ++ [o]) := by
  intro o' ho
  rw [List.length_append]
  rcases List.mem_append.mp ho with ho | ho
  · exact MO.below_mono (by simp) (w o' ho)
  · simp at ho; rw [ho]; exact e
theorem Wf.pushP {h : MH} {o : MO} (w : Wf h) (e : PureC o) : Wf (h ++ [o]) := w.push (e _)
theorem pureC_v {xs : List MV} : PureC (.lst (xs.map .v)) := fun m => by simp [MO.below, LV.below]
theorem finish_nxt {h t : MH} {r : ME} (w : Wf h) : finish false h.length (.nxt r (h ++ t)) = .ok (.v .non) h := by
  have e : wfTo h.length (h ++ t) = true := by rw [wfTo_iff, List.take_left]; exact w
  simp [finish, leave, LV.below, e]
theorem finish_nxt0 {h : MH} {r : ME} (w : Wf h) : finish false h.length (.nxt r h) = .ok (.v .non) h := by
  have := finish_nxt (t := []) (r := r) w
  rwa [List.append_nil] at this
/-! ### loops -/
theorem compL_map {α : Type} {step : LV → MH → Out (Option LV)} {enc : α → LV} {f : α → LV} {h : MH} : ∀ (xs : List α) (acc : List LV), (∀ x ∈ xs, step (enc x) h = .ok (some (f x)) h) → acc.length + xs.length ≤ 16777216 → compL none step (xs.map enc) acc h = .ok (acc ++ xs.map f) h
  | [], acc, _, _ => by simp [compL, Its.okIn]
  | x :: xs, acc, hx, hl => by
    have e := compL_map (step := step) (enc := enc) (f := f) xs (acc ++ [f x]) (fun y hy => hx y (List.mem_cons_of_mem _ hy)) (by simp at hl ⊢; omega)
    have hl' : acc.length < 16777216 := by simp at hl; omega
    simp only [List.map_cons, compL, Its.okIn, if_true, hx x (List.mem_cons_self), lt_size, hl', e]
    simp
theorem compL_filter {α : Type} {step : LV → MH → Out (Option LV)} {enc : α → LV} {p : α → Bool} {f : α → LV} {h : MH} : ∀ (xs : List α) (acc : List LV), (∀ x ∈ xs, step (enc x) h = .ok (if p x = true then some (f x) else none) h) → acc.length + xs.length ≤ 16777216 → compL none step (xs.map enc) acc h = .ok (acc ++ (xs.filter p).map f) h
  | [], acc, _, _ => by simp [compL, Its.okIn]
  | x :: xs, acc, hx, hl => by
    have hl' : acc.length < 16777216 := by simp at hl; omega
    have e1 := compL_filter (step := step) (enc := enc) (p := p) (f := f) xs (acc ++ [f x]) (fun y hy => hx y (List.mem_cons_of_mem _ hy)) (by simp at hl ⊢; omega)
    have e2 := compL_filter (step := step) (enc := enc) (p := p) (f := f) xs acc (fun y hy => hx y (List.mem_cons_of_mem _ hy)) (by simp at hl ⊢; omega)
    cases hp : p x with
    | true =>
      simp only [List.map_cons, compL, Its.okIn, if_true, hx x (List.mem_cons_self), hp, lt_size, hl', e1]
      simp [hp]
    | false =>
      simp only [List.map_cons, compL, Its.okIn, if_true, hx x (List.mem_cons_self), hp, e2]
      simp [hp, e2]
/-- a loop by its invariant: over what is done -/
theorem forL_inv' {α : Type} {step : LV → ME → MH → OutS} {enc : α → LV} (all : List α) (I : List α → ME → MH → Prop) (hs : ∀ pre x r h, (pre ++ [x]) <+: all → x ∈ all → I pre r h → ∃ r' h', step (enc x) r h = .nxt r' h' ∧ I (pre ++ [x]) r' h') : ∀ (xs pre : List α) (r : ME) (h : MH), pre ++ xs = all → I pre r h → ∃ r' h', forL none step (xs.map enc) r h = .nxt r' h' ∧ I all r' h'
  | [], pre, r, h, e, hi => ⟨r, h, by simp [forL, Its.okIn], by rw [← e]; simpa using hi⟩
  | x :: xs, pre, r, h, e, hi => by
    obtain ⟨r1, h1, e1, i1⟩ := hs pre x r h ⟨xs, by simp [← e]⟩ (by simp [← e]) hi
    obtain ⟨r2, h2, e2, i2⟩ := forL_inv' all I hs xs (pre ++ [x]) r1 h1 (by simp [← e]) i1
    refine ⟨r2, h2, ?_, i2⟩
    rw [List.map_cons, forL_cons, e1]
    exact e2
theorem forL_inv {α : Type} {step : LV → ME → MH → OutS} {enc : α → LV} (I : List α → ME → MH → Prop) (xs : List α) (r : ME) (h : MH) (hs : ∀ pre x r h, (pre ++ [x]) <+: xs → x ∈ xs → I pre r h → ∃ r' h', step (enc x) r h = .nxt r' h' ∧ I (pre ++ [x]) r' h') (hi : I [] r h) : ∃ r' h', forL none step (xs.map enc) r h = .nxt r' h' ∧ I xs r' h' :=
  forL_inv' xs I hs xs [] r h (by simp) hi
/-- the same, where the heap stays -/
theorem forL_pure {α σ : Type} {step : LV → ME → MH → OutS} {enc : α → LV} {h : MH} (E : σ → ME → Prop) (f : σ → α → σ) : ∀ (xs : List α) (s : σ) (r : ME), (∀ s x r, x ∈ xs → E s r → ∃ r', step (enc x) r h = .nxt r' h ∧ E (f s x) r') → E s r → ∃ r', forL none step (xs.map enc) r h = .nxt r' h ∧ E (xs.foldl f s) r'
  | [], s, r, _, hi => ⟨r, by simp [forL, Its.okIn], hi⟩
  | x :: xs, s, r, hs, hi => by
    obtain ⟨r1, e1, i1⟩ := hs s x r (List.mem_cons_self) hi
    obtain ⟨r2, e2, i2⟩ := forL_pure E f xs (f s x) r1 (fun s y r hy => hs s y r (List.mem_cons_of_mem _ hy)) i1
    refine ⟨r2, ?_, i2⟩
    rw [List.map_cons, forL_cons, e1]
    exact e2
end SC

namespace SC
open PySem L2
/-! ### data: what == tells -/
abbrev strOk (s : Str) : Bool := PyData.strOk s
def dat : Nat → MV → Bool
  | _, .non => true
  | _, .bl _ => true
  | _, .int _ => true
  | _, .str s => strOk s
  | d + 1, .tup xs => xs.all (dat d)
  | d + 1, .lst xs => xs.all (dat d)
  | _, _ => false
theorem dats_toD {d : Nat} (ih : ∀ x, dat d x = true → ∃ D, toD x = some D ∧ D.canLay0 = true ∧ D.depth ≤ d) : ∀ xs : List MV, xs.all (dat d) = true → ∃ Ds, toDs xs = some Ds ∧ PyData.canLayAll0 Ds = true ∧ PyData.depthAll Ds ≤ d
  | [], _ => ⟨[], by simp [toDs], by simp [PyData.canLayAll0], by simp [PyData.depthAll]⟩
  | x :: xs, h => by
    simp only [List.all_cons, Bool.and_eq_true] at h
    obtain ⟨D, e, c, p⟩ := ih x h.1
    obtain ⟨Ds, es, cs, ps⟩ := dats_toD ih xs h.2
    exact ⟨D :: Ds, by simp [toDs, e, es], by simp [PyData.canLayAll0, c, cs], by simp [PyData.depthAll]; omega⟩
theorem dat_toD : ∀ (d : Nat) (x : MV), dat d x = true → ∃ D, toD x = some D ∧ D.canLay0 = true ∧ D.depth ≤ d
  | _, .non, _ => ⟨.none, by simp [toD], by simp [PyData.canLay0], by simp [PyData.depth]⟩
  | _, .bl b, _ => ⟨.bool b, by simp [toD], by simp [PyData.canLay0], by simp [PyData.depth]⟩
  | _, .int i, _ => ⟨.int i, by simp [toD], by simp [PyData.canLay0], by simp [PyData.depth]⟩
  | _, .str s, h => ⟨.str s, by simp [toD], by simpa [PyData.canLay0, dat] using h, by simp [PyData.depth]⟩
  | d + 1, .tup xs, h => by
    obtain ⟨Ds, e, c, p⟩ := dats_toD (dat_toD d) xs (by simpa only [dat] using h)
    exact ⟨.tuple Ds, by simp [toD, e], by simpa [PyData.canLay0] using c, by simp [PyData.depth]; omega⟩
  | d + 1, .lst xs, h => by
    obtain ⟨Ds, e, c, p⟩ := dats_toD (dat_toD d) xs (by simpa only [dat] using h)
    exact ⟨.list Ds, by simp [toD, e], by simpa [PyData.canLay0] using c, by simp [PyData.depth]; omega⟩
  | 0, .tup xs, h => by simp [dat] at h
  | 0, .lst xs, h => by simp [dat] at h
  | 0, .scr xs, h => by simp [dat] at h
  | 0, .ins _ xs, h => by simp [dat] at h
  | 0, .dct _ xs, h => by simp [dat] at h
  | 0, .exo _ _ _ xs, h => by simp [dat] at h
  | _ + 1, .scr xs, h => by simp [dat] at h
  | _ + 1, .ins _ xs, h => by simp [dat] at h
  | _ + 1, .dct _ xs, h => by simp [dat] at h
  | _ + 1, .exo _ _ _ xs, h => by simp [dat] at h
/-- without booleans, == is equality -/
def datI : Nat → MV → Bool
  | _, .non => true
  | _, .int _ => true
  | _, .str s => strOk s
  | d + 1, .tup xs => xs.all (datI d)
  | d + 1, .lst xs => xs.all (datI d)
  | _, _ => false
theorem datI_dat : ∀ (d : Nat) (x : MV), datI d x = true → dat d x = true
  | _, .non, _ => by simp [dat]
  | _, .int _, _ => by simp [dat]
  | _, .str s, h => by simpa [dat, datI] using h
  | d + 1, .tup xs, h => by
    simp only [dat, datI, List.all_eq_true] at h ⊢
    exact fun x hx => datI_dat d x (h x hx)
  | d + 1, .lst xs, h => by
    simp only [dat, datI, List.all_eq_true] at h ⊢
    exact fun x hx => datI_dat d x (h x hx)
  | 0, .tup xs, h => by simp [datI] at h
  | 0, .lst xs, h => by simp [datI] at h
  | _, .bl _, h => by simp [datI] at h
  | 0, .scr xs, h => by simp [datI] at h
  | 0, .ins _ xs, h => by simp [datI] at h
  | 0, .dct _ xs, h => by simp [datI] at h
  | 0, .exo _ _ _ xs, h => by simp [datI] at h
  | _ + 1, .scr xs, h => by simp [datI] at h
  | _ + 1, .ins _ xs, h => by simp [datI] at h
  | _ + 1, .dct _ xs, h => by simp [datI] at h
  | _ + 1, .exo _ _ _ xs, h => by simp [datI] at h
theorem eqvs_dec {d : Nat} (ih : ∀ (x y : MV) (e : Nat) (D E : PyData), datI d x = true → datI e y = true → toD x = some D → toD y = some E → PyData.eqv D E = decide (x = y)) : ∀ (xs ys : List MV) (e : Nat) (Ds Es : List PyData), xs.all (datI d) = true → ys.all (datI e) = true → toDs xs = some Ds → toDs ys = some Es → PyData.eqvAll Ds Es = decide (xs = ys)
  | [], [], _, Ds, Es, _, _, h1, h2 => by simp [toDs] at h1 h2; subst h1 h2; simp [PyData.eqvAll]
  | [], y :: ys, _, Ds, Es, _, _, h1, h2 => by
    simp only [toDs] at h1 h2
    split at h2
    · cases h1; cases h2; simp [PyData.eqvAll]
    · cases h2
  | x :: xs, [], _, Ds, Es, _, _, h1, h2 => by
    simp only [toDs] at h1 h2
    split at h1
    · cases h1; cases h2; simp [PyData.eqvAll]
    · cases h1
  | x :: xs, y :: ys, e, Ds, Es, a1, a2, h1, h2 => by
    simp only [List.all_cons, Bool.and_eq_true] at a1 a2
    simp only [toDs] at h1 h2
    split at h1
    · rename_i D Ds' q1 q2
      split at h2
      · rename_i E Es' q3 q4
        cases h1; cases h2
        have i1 := ih x y e D E a1.1 a2.1 q1 q3
        have i2 := eqvs_dec ih xs ys e Ds' Es' a1.2 a2.2 q2 q4
        simp only [PyData.eqvAll, i1, i2]
        by_cases c1 : x = y <;> by_cases c2 : xs = ys <;> simp [c1, c2]
      · cases h2
    · cases h1
theorem eqv_dec : ∀ (d : Nat) (x y : MV) (e : Nat) (D E : PyData), datI d x = true → datI e y = true → toD x = some D → toD y = some E → PyData.eqv D E = decide (x = y)
  | d, x, y, e, D, E, a1, a2, h1, h2 => by
    cases x with
    | scr xs => cases d <;> simp [datI] at a1
    | ins c xs => cases d <;> simp [datI] at a1
    | dct c xs => cases d <;> simp [datI] at a1
    | exo c a0 d0 xs => cases d <;> simp [datI] at a1
    | bl b => cases d <;> simp [datI] at a1
    | non =>
      cases y with
      | scr xs => cases e <;> simp [datI] at a2
      | ins c xs => cases e <;> simp [datI] at a2
      | dct c xs => cases e <;> simp [datI] at a2
      | exo c a0 d0 xs => cases e <;> simp [datI] at a2
      | bl b => cases e <;> simp [datI] at a2
      | tup ys => simp only [toD, Option.map_eq_some_iff, Option.some.injEq] at h1 h2; obtain ⟨_, _, rfl⟩ := h2; subst h1; simp [PyData.eqv]
      | lst ys => simp only [toD, Option.map_eq_some_iff, Option.some.injEq] at h1 h2; obtain ⟨_, _, rfl⟩ := h2; subst h1; simp [PyData.eqv]
      | _ => simp only [toD, Option.some.injEq] at h1 h2; subst h1 h2; simp [PyData.eqv]
    | int i =>
      cases y with
      | scr xs => cases e <;> simp [datI] at a2
      | ins c xs => cases e <;> simp [datI] at a2
      | dct c xs => cases e <;> simp [datI] at a2
      | exo c a0 d0 xs => cases e <;> simp [datI] at a2
      | bl b => cases e <;> simp [datI] at a2
      | tup ys => simp only [toD, Option.map_eq_some_iff, Option.some.injEq] at h1 h2; obtain ⟨_, _, rfl⟩ := h2; subst h1; simp [PyData.eqv]
      | lst ys => simp only [toD, Option.map_eq_some_iff, Option.some.injEq] at h1 h2; obtain ⟨_, _, rfl⟩ := h2; subst h1; simp [PyData.eqv]
      | int j => simp only [toD, Option.some.injEq] at h1 h2; subst h1 h2; simp [PyData.eqv, BEq.beq]
      | _ => simp only [toD, Option.some.injEq] at h1 h2; subst h1 h2; simp [PyData.eqv]
    | str s =>
      cases y with
      | scr xs => cases e <;> simp [datI] at a2
      | ins c xs => cases e <;> simp [datI] at a2
      | dct c xs => cases e <;> simp [datI] at a2
      | exo c a0 d0 xs => cases e <;> simp [datI] at a2
      | bl b => cases e <;> simp [datI] at a2
      | tup ys => simp only [toD, Option.map_eq_some_iff, Option.some.injEq] at h1 h2; obtain ⟨_, _, rfl⟩ := h2; subst h1; simp [PyData.eqv]
      | lst ys => simp only [toD, Option.map_eq_some_iff, Option.some.injEq] at h1 h2; obtain ⟨_, _, rfl⟩ := h2; subst h1; simp [PyData.eqv]
      | str j => simp only [toD, Option.some.injEq] at h1 h2; subst h1 h2; simp [PyData.eqv, BEq.beq]
      | _ => simp only [toD, Option.some.injEq] at h1 h2; subst h1 h2; simp [PyData.eqv]
    | tup xs =>
      simp only [toD, Option.map_eq_some_iff] at h1
      obtain ⟨Ds, g1, rfl⟩ := h1
      cases y with
      | scr xs => cases e <;> simp [datI] at a2
      | ins c xs => cases e <;> simp [datI] at a2
      | dct c xs => cases e <;> simp [datI] at a2
      | exo c a0 d0 xs => cases e <;> simp [datI] at a2
      | bl b => cases e <;> simp [datI] at a2
      | tup ys =>
        simp only [toD, Option.map_eq_some_iff] at h2
        obtain ⟨Es, g2, rfl⟩ := h2
        cases d with
        | zero => simp [datI] at a1
        | succ d => cases e with
          | zero => simp [datI] at a2
          | succ e =>
            simp only [PyData.eqv, eqvs_dec (eqv_dec d) xs ys e Ds Es (by simpa only [datI] using a1) (by simpa only [datI] using a2) g1 g2]
            by_cases c : xs = ys <;> simp [c]
      | lst ys => simp only [toD, Option.map_eq_some_iff, Option.some.injEq] at h2; obtain ⟨_, _, rfl⟩ := h2; simp [PyData.eqv]
      | _ => simp only [toD, Option.some.injEq] at h2; subst h2; simp [PyData.eqv]
    | lst xs =>
      simp only [toD, Option.map_eq_some_iff] at h1
      obtain ⟨Ds, g1, rfl⟩ := h1
      cases y with
      | scr xs => cases e <;> simp [datI] at a2
      | ins c xs => cases e <;> simp [datI] at a2
      | dct c xs => cases e <;> simp [datI] at a2
      | exo c a0 d0 xs => cases e <;> simp [datI] at a2
      | bl b => cases e <;> simp [datI] at a2
      | lst ys =>
        simp only [toD, Option.map_eq_some_iff] at h2
        obtain ⟨Es, g2, rfl⟩ := h2
        cases d with
        | zero => simp [datI] at a1
        | succ d => cases e with
          | zero => simp [datI] at a2
          | succ e =>
            simp only [PyData.eqv, eqvs_dec (eqv_dec d) xs ys e Ds Es (by simpa only [datI] using a1) (by simpa only [datI] using a2) g1 g2]
            by_cases c : xs = ys <;> simp [c]
      | tup ys => simp only [toD, Option.map_eq_some_iff, Option.some.injEq] at h2; obtain ⟨_, _, rfl⟩ := h2; simp [PyData.eqv]
      | _ => simp only [toD, Option.some.injEq] at h2; subst h2; simp [PyData.eqv]
/-- == of data without booleans -/
theorem eqF_dat {x y : LV} {a b : MV} {h : MH} {d e : Nat} (h1 : valOf h x = some a) (h2 : valOf h y = some b) (a1 : datI d a = true) (a2 : datI e b = true) (hd : d ≤ 64) (he : e ≤ 64) : eqF x y h = some (decide (a = b)) := by
  obtain ⟨D, t1, c1, p1⟩ := dat_toD d a (datI_dat d a a1)
  obtain ⟨E, t2, c2, p2⟩ := dat_toD e b (datI_dat e b a2)
  have q := eqv_dec d a b e D E a1 a2 t1 t2
  have s1 : SeqAt.shaped D = true := by simp only [SeqAt.shaped, c1, Bool.true_and, decide_eq_true_eq]; omega
  have s2 : SeqAt.shaped E = true := by simp only [SeqAt.shaped, c2, Bool.true_and, decide_eq_true_eq]; omega
  simp only [eqF, eqD, h1, h2, Option.bind, t1, t2, s1, s2, and_self, if_true, q]
theorem eq_dat {x y : LV} {a b : MV} {h : MH} (d e : Nat) (h1 : valOf h x = some a) (h2 : valOf h y = some b) (a1 : datI d a = true) (a2 : datI e b = true) (hd : d ≤ 64) (he : e ≤ 64) : cmpO .eq x y h = .ok (.v (.bl (decide (a = b)))) h := by
  simp only [cmpO, cmpF, eqF_dat h1 h2 a1 a2 hd he]; rfl
theorem ne_dat {x y : LV} {a b : MV} {h : MH} (d e : Nat) (h1 : valOf h x = some a) (h2 : valOf h y = some b) (a1 : datI d a = true) (a2 : datI e b = true) (hd : d ≤ 64) (he : e ≤ 64) : cmpO .ne x y h = .ok (.v (.bl (!decide (a = b)))) h := by
  simp only [cmpO, cmpF, eqF_dat h1 h2 a1 a2 hd he]; rfl
end SC

namespace SC
open PySem L2
/-! ### names -/
abbrev letters : Str := "abcdefghijklmnopqrstuvwxyz"
def isLet (c : Nat) : Bool := decide (97 ≤ c ∧ c ≤ 122)
def isName (a : Str) : Bool := decide (1 ≤ a.length ∧ a.length ≤ 8) && a.cps.toList.all isLet
def ch (c : Nat) : Str := ⟨#[c]⟩
theorem letters_mem {c : Nat} : decide (c ∈ letters.cps.toList) = isLet c := by
  have e : letters.cps.toList = (List.range 26).map (· + 97) := by decide +kernel
  rw [e, isLet]
  congr 1
  simp only [List.mem_map, List.mem_range, eq_iff_iff]
  constructor
  · rintro ⟨a, h1, h2⟩; omega
  · intro h; exact ⟨c - 97, by omega, by omega⟩
theorem in_letters {c : Nat} {h : MH} : cmpO .notin (.v (.str (ch c))) (.v (.str letters)) h = .ok (.v (.bl (!isLet c))) h := by
  simp only [cmpO, cmpF, inF, Option.map]
  rw [show (!(Builtin.Str.occurrences letters (ch c) 0 letters.length 1).isEmpty) = isLet c from (StrLaws.found_one letters c).trans letters_mem]
  rfl
theorem occ_letter {c : Nat} (hc : isLet c = true) : Builtin.Str.occurrences letters (ch c) 0 letters.length 1 = [c - 97] := by
  have e : ∀ k, k < 26 → Builtin.Str.occurrences letters (ch (k + 97)) 0 letters.length 1 = [k] := by decide +kernel
  simp only [isLet, decide_eq_true_eq] at hc
  have := e (c - 97) (by omega)
  rwa [show c - 97 + 97 = c by omega] at this
theorem ix_letter {c : Nat} {h : MH} (hc : isLet c = true) : bmF .index (.v (.str letters)) [.v (.str (ch c))] h = .ok (.v (.int ((c - 97 : Nat) : Int))) h := by
  simp only [bmF, un1, indexF, occ_letter hc]; rfl
def chL (a : Str) : List LV := a.cps.toList.map fun c => .v (.str (ch c))
@[simp] theorem isi_str {T : Tab} {a : Str} {h : MH} : bltF T (.isi [.str]) [.v (.str a)] h = .ok (.v (.bl true)) h := rfl
section
variable {T : Tab} {P : Nat → Option Fn} {h : MH}
@[simp] theorem compStep_nm {F : Phi} {i : Nat} {c e : CE} {r : ME} {x : LV} : compStep T F (.nm i) c e r x h = match (evE T F c ((wipeR r [i]).set i (some x)) h) with
    | .ok (.v (.bl true)) h => (evE T F e ((wipeR r [i]).set i (some x)) h).bind fun y h => .ok (some y) h
    | .ok (.v (.bl false)) h => .ok none h
    | .exc c fs h => .exc c fs h
    | _ => .bad := by
  simp only [compStep, asgT_nm, tgSlots]
  cases evE T F c ((wipeR r [i]).set i (some x)) h with
  | ok y h' => cases y with
    | v y => cases y with
      | bl b => cases b <;> rfl
      | _ => rfl
    | r n => rfl
  | exc c fs h' => rfl
  | bad => rfl
theorem kCo3_f {α : Type} {xs : List α} {f : α → MV} : kCo3 false (xs.map fun x => .v (f x)) h = .ok (.v (.lst (xs.map f))) h := by
  have := kCo3_v (zs := xs.map f) (h := h)
  rwa [List.map_map] at this
theorem name_spec (hp : P 0 = some B.f0_is_name) {n : Nat} (hn : 1 ≤ n) (a : Str) (ha : a.length ≤ 16777216) (hs : strOk a = true) (w : Wf h) : run T P n 0 [.v (.str a)] h = .ok (.v (.bl (isName a))) h := by
  obtain ⟨n, rfl⟩ : ∃ m, n = m + 1 := ⟨n - 1, by omega⟩
  rw [run_succ hp rfl]
  refine Eq.trans (congrArg _ ?_) (finish_ret0 w)
  by_cases h1 : 1 ≤ a.length ∧ a.length ≤ 8
  · have e := compL_filter (step := compStep T (run T P n) (.nm 1) (.cmp .notin (.var 1) (.cst (.str letters))) (.var 1) [some (.v (.str a)), none]) (enc := fun c => LV.v (.str (ch c))) (p := fun c => !isLet c) (f := fun c => LV.v (.str (ch c))) (h := h) a.cps.toList [] (by
      intro c hc
      cases hl : isLet c <;> simp [in_letters, hl, wipeR]) (by simp [Str.length] at ha ⊢; omega)
    have e2 : itVal (.v (.str a)) h = some ⟨a.cps.toList.map fun c => .v (.str (ch c)), none⟩ := rfl
    have g1 : (1 : Int) ≤ a.length := by omega
    have g2 : (a.length : Int) ≤ 8 := by omega
    have hd : datI 1 (.lst ((a.cps.toList.filter fun c => !isLet c).map fun c => .str (ch c))) = true := by
      simp only [datI, List.all_map, List.all_eq_true, List.mem_filter]
      intro c hc
      have hs' : ∀ x ∈ a.cps, x < 0x110000 := by
        have q : a.cps.all (· < 0x110000) = true := hs
        rw [Array.all_eq_true_iff_forall_mem] at q
        intro x hx
        simpa using q x hx
      simpa [datI, strOk, PyData.strOk, ch] using hs' c (by simpa using hc.1)
    have e3 := eq_dat (h := h) (x := .v (.lst ((a.cps.toList.filter fun c => !isLet c).map fun c => .str (ch c)))) (y := .v (.lst [])) 1 1 rfl rfl hd rfl (by decide) (by decide)
    simp only [List.nil_append] at e
    simp [B.f0_is_name, B.c_f0_is_name, ha, g1, g2, e2, e, kCo3_f, e3, isName, h1]
    rw [Bool.eq_iff_iff, decide_eq_true_eq, Array.all_eq_true_iff_forall_mem]
  · by_cases h2 : 1 ≤ a.length
    · have g1 : (1 : Int) ≤ a.length := by omega
      have g2 : ¬ (a.length : Int) ≤ 8 := by omega
      simp [B.f0_is_name, B.c_f0_is_name, ha, g1, g2, isName, h1]
    · have g1 : ¬ (1 : Int) ≤ a.length := by omega
      simp [B.f0_is_name, B.c_f0_is_name, ha, g1, isName, h1]
end
end SC

namespace SC
open PySem L2
/-! ### codes of names and sides -/
def iV (xs : List Int) : MV := .lst (xs.map .int)
def sT (xs : List Str) : MV := .tup (xs.map .str)
def nameCode (a : Str) : List Int := (a.length : Int) :: a.cps.toList.map fun c => ((c - 97 : Nat) : Int) + 1
def place (fs : List Str) (x : Str) : Nat := fs.findIdx (· == x)
def sideCode (fs xs : List Str) : List Int := (xs.length : Int) :: xs.map fun x => (place fs x : Int)
theorem isName_let {a : Str} (h : isName a = true) : ∀ c ∈ a.cps.toList, isLet c = true := by
  simp only [isName, Bool.and_eq_true, List.all_eq_true] at h; exact h.2
theorem isName_len {a : Str} (h : isName a = true) : 1 ≤ a.length ∧ a.length ≤ 8 := by
  simp only [isName, Bool.and_eq_true, decide_eq_true_eq] at h; exact h.1
theorem isName_ok {a : Str} (h : isName a = true) : strOk a = true := by
  have l := isName_let h
  show a.cps.all (· < 0x110000) = true
  rw [Array.all_eq_true_iff_forall_mem]
  intro c hc
  have := l c (by simpa using hc)
  simp [isLet] at this ⊢
  omega
theorem strsL_map {xs : List Str} : strsL (xs.map fun x => .v (.str x)) = some xs := by
  induction xs with
  | nil => rfl
  | cons x xs ih => simp [strsL, ih]
theorem intsL_map {xs : List Int} : intsL (xs.map fun x => .v (.int x)) = some xs := by
  induction xs with
  | nil => rfl
  | cons x xs ih => simp [intsL, ih]
section
variable {T : Tab} {P : Nat → Option Fn} {h : MH}
theorem ix_tup {fs : List Str} {x : Str} (hx : x ∈ fs) : bmF .index (.v (sT fs)) [.v (.str x)] h = .ok (.v (.int (place fs x))) h := by
  have e : (fs.map MV.str).map LV.v = fs.map fun x => .v (.str x) := by simp
  have e2 : fs.findIdx? (fun z => z == x) = some (place fs x) := by
    rw [List.findIdx?_eq_some_iff_findIdx_eq]
    exact ⟨List.findIdx_lt_length.mpr ⟨x, hx, by simp⟩, rfl⟩
  simp only [bmF, un1, indexF, sT, e, strsL_map, e2]
  rfl
@[simp] theorem recv_ix_s {a : Str} : recvOk .index (.v (.str a)) h = true := rfl
@[simp] theorem recv_ix_t {a : List MV} : recvOk .index (.v (.tup a)) h = true := rfl
@[simp] theorem recv_join {a : Str} : recvOk .join (.v (.str a)) h = true := rfl
theorem code_gen {k : Nat} {f : Fn} (hp : P k = some f) (hf : f = ⟨1, 2, B.c_f19_name_values, false⟩) {n : Nat} (hn : 1 ≤ n) {a : Str} (ha : isName a = true) (w : Wf h) : run T P n k [.v (.str a)] h = .ok (.v (iV (nameCode a))) h := by
  subst hf
  obtain ⟨n, rfl⟩ : ∃ m, n = m + 1 := ⟨n - 1, by omega⟩
  rw [run_succ hp rfl]
  refine Eq.trans (congrArg _ ?_) (finish_ret0 w)
  have hl := isName_len ha
  have hla : a.length ≤ 16777216 := by omega
  have hs : a.cps.size = a.length := rfl
  have e := compL_map (step := compStep T (run T P n) (.nm 1) (.cst (.bl true)) (.bin .add (.bm .index (.cst (.str letters)) (.cons (.var 1) .nil)) (.cst (.int 1))) [some (.v (.str a)), none]) (enc := fun c => LV.v (.str (ch c))) (f := fun c => LV.v (.int (((c - 97 : Nat) : Int) + 1))) (h := h) a.cps.toList [] (by
      intro c hc
      have := isName_let ha c hc
      simp [ix_letter this, wipeR]) (by simp; omega)
  have e2 : itVal (.v (.str a)) h = some ⟨a.cps.toList.map fun c => .v (.str (ch c)), none⟩ := rfl
  simp only [List.nil_append] at e
  simp [B.c_f19_name_values, hla, e2, e, kCo3_f, hs]
  rw [if_pos (by omega)]
  simp [iV, nameCode]
theorem name_values_spec (hp : P 19 = some B.f19_name_values) {n : Nat} (hn : 1 ≤ n) {a : Str} (ha : isName a = true) (w : Wf h) : run T P n 19 [.v (.str a)] h = .ok (.v (iV (nameCode a))) h :=
  code_gen hp rfl hn ha w
theorem name_code_spec (hp : P 42 = some B.f42__law_name_code) {n : Nat} (hn : 1 ≤ n) {a : Str} (ha : isName a = true) (w : Wf h) : run T P n 42 [.v (.str a)] h = .ok (.v (iV (nameCode a))) h :=
  code_gen hp rfl hn ha w
theorem side_values_spec (hp : P 20 = some B.f20_side_values) {n : Nat} (hn : 1 ≤ n) {fs xs : List Str} (hx : ∀ x ∈ xs, x ∈ fs) (hl : xs.length ≤ 1000) (w : Wf h) : run T P n 20 [.v (sT xs), .v (sT fs)] h = .ok (.v (iV (sideCode fs xs))) h := by
  obtain ⟨n, rfl⟩ : ∃ m, n = m + 1 := ⟨n - 1, by omega⟩
  rw [run_succ hp rfl]
  refine Eq.trans (congrArg _ ?_) (finish_ret0 w)
  have e := compL_map (step := compStep T (run T P n) (.nm 2) (.cst (.bl true)) (.bm .index (.var 1) (.cons (.var 2) .nil)) [some (.v (sT xs)), some (.v (sT fs)), none]) (enc := fun c => LV.v (.str c)) (f := fun c => LV.v (.int (place fs c))) (h := h) xs [] (by
      intro c hc
      have q : recvOk .index (.v (sT fs)) h = true := rfl
      simp [ix_tup (hx c hc), wipeR, q]) (by simp; omega)
  have e1 : itVal (.v (sT xs)) h = some ⟨xs.map fun c => .v (.str c), none⟩ := by simp [sT]
  have e2 : bltF T .len [.v (sT xs)] h = .ok (.v (.int xs.length)) h := by simp [sT]
  simp only [List.nil_append] at e
  simp [B.f20_side_values, B.c_f20_side_values, e1, e2, e, kCo3_f]
  rw [if_pos (by omega)]
  simp [iV, sideCode]
end
end SC

namespace SC
open PySem L2
/-- a loop that leaves the heap as it is, over any items -/
theorem forL_pureG {α σ : Type} {g : Option (Nat × List LV)} {step : LV → ME → MH → OutS} {enc : α → LV} {h : MH} (hg : Its.okIn g h = true) (E : σ → ME → Prop) (f : σ → α → σ) : ∀ (xs : List α) (s : σ) (r : ME), (∀ s x r, x ∈ xs → E s r → ∃ r', step (enc x) r h = .nxt r' h ∧ E (f s x) r') → E s r → ∃ r', forL g step (xs.map enc) r h = .nxt r' h ∧ E (xs.foldl f s) r'
  | [], s, r, _, hi => ⟨r, by simp [forL, hg], hi⟩
  | x :: xs, s, r, hs, hi => by
    obtain ⟨r1, e1, i1⟩ := hs s x r (List.mem_cons_self) hi
    obtain ⟨r2, e2, i2⟩ := forL_pureG hg E f xs (f s x) r1 (fun s y r hy => hs s y r (List.mem_cons_of_mem _ hy)) i1
    refine ⟨r2, ?_, i2⟩
    rw [List.map_cons, forL, if_pos hg, e1]
    exact e2
/-! ### the checksum -/
def chk (vs : List Int) : Int := vs.foldl (fun s v => (11 * s + v).fmod 247) 7
theorem chk_range (vs : List Int) : 0 ≤ chk vs ∧ chk vs < 247 := by
  have : ∀ (vs : List Int) (s : Int), 0 ≤ s ∧ s < 247 → 0 ≤ vs.foldl (fun s v => (11 * s + v).fmod 247) s ∧ vs.foldl (fun s v => (11 * s + v).fmod 247) s < 247 := by
    intro vs
    induction vs with
    | nil => intro s h; exact h
    | cons v vs ih => intro s h; exact ih _ (fmod_range (by decide))
  exact this vs 7 (by decide)
section
variable {T : Tab} {P : Nat → Option Fn} {h : MH}
theorem checksum_gen (hp : P 18 = some B.f18_checksum) {n : Nat} (hn : 1 ≤ n) {vs : List Int} {x : LV} {g : Option (Nat × List LV)} (hx : itVal x h = some ⟨vs.map fun v => .v (.int v), g⟩) (hg : Its.okIn g h = true) (w : Wf h) : run T P n 18 [x] h = .ok (.v (.int (chk vs))) h := by
  obtain ⟨n, rfl⟩ : ∃ m, n = m + 1 := ⟨n - 1, by omega⟩
  rw [run_succ hp rfl]
  refine Eq.trans (congrArg _ ?_) (finish_ret0 w)
  obtain ⟨r', e, ⟨z, er⟩⟩ := forL_pureG (g := g) (step := forStep T (run T P n) (.nm 2) (.cons (.asg (.nm 1) (.bin .mod (.blt .int1 (.cons (.bin .add (.bin .mul (.cst (.int 11)) (.var 1)) (.var 2)) .nil)) (.cst (.int 247)))) .nil)) (enc := fun v => LV.v (.int v)) (h := h) hg (fun s r => ∃ z, r = [some x, some (.v (.int s)), z]) (fun s v => (11 * s + v).fmod 247) vs 7 [some x, some (.v (.int 7)), none] (by
      rintro s v r _ ⟨z, rfl⟩
      refine ⟨_, by simp; rfl, ⟨some (.v (.int v)), by simp⟩⟩) ⟨none, rfl⟩
  simp [B.f18_checksum, B.c_f18_checksum, hx, e, er]
  rfl
theorem checked_spec (hp : P 45 = some B.f45__law_checked) {n : Nat} (hn : 1 ≤ n) {vs : List Int} (w : Wf h) : run T P n 45 [.v (iV vs)] h = .ok (.v (.int (chk vs))) h := by
  obtain ⟨n, rfl⟩ : ∃ m, n = m + 1 := ⟨n - 1, by omega⟩
  rw [run_succ hp rfl]
  refine Eq.trans (congrArg _ ?_) (finish_ret0 w)
  have hx : itVal (.v (iV vs)) h = some ⟨vs.map fun v => .v (.int v), none⟩ := by simp [iV]
  obtain ⟨r', e, ⟨z, er⟩⟩ := forL_pureG (g := none) (step := forStep T (run T P n) (.nm 2) (.cons (.asg (.nm 1) (.bin .mod (.blt .int1 (.cons (.bin .add (.bin .mul (.var 1) (.cst (.int 11))) (.var 2)) .nil)) (.cst (.int 247)))) .nil)) (enc := fun v => LV.v (.int v)) (h := h) rfl (fun s r => ∃ z, r = [some (.v (iV vs)), some (.v (.int s)), z]) (fun s v => (11 * s + v).fmod 247) vs 7 [some (.v (iV vs)), some (.v (.int 7)), none] (by
      rintro s v r _ ⟨z, rfl⟩
      refine ⟨_, by simp; rfl, ⟨some (.v (.int v)), by simp [Int.mul_comm]⟩⟩) ⟨none, rfl⟩
  simp [B.f45__law_checked, B.c_f45__law_checked, hx, e, er]
  rfl
theorem itVal_iV {vs : List Int} : itVal (.v (iV vs)) h = some ⟨vs.map fun v => .v (.int v), none⟩ := by simp [iV]
end
/-! ### rules as the law draws them -/
inductive DR where
  | mk (name : Str) (hold fail : List Str) (ruling : Str) (inner : List DR)
def DR.name : DR → Str | .mk n _ _ _ _ => n
def DR.hold : DR → List Str | .mk _ a _ _ _ => a
def DR.fail : DR → List Str | .mk _ _ b _ _ => b
def DR.ruling : DR → Str | .mk _ _ _ r _ => r
def DR.inner : DR → List DR | .mk _ _ _ _ i => i
def drV : DR → MV
  | .mk n a b r i => .tup [.str n, sT a, sT b, .str r, .tup (i.map drV)]
def condV (a b : List Str) : MV := .ins 2 [sT a, sT b]
def ruleV : DR → MV
  | .mk n a b r i => .ins 0 [.str n, condV a b, .str r, .tup (i.map ruleV)]
/-- the names of a rule and of all in it, in order -/
def dnames : DR → List Str
  | .mk n _ _ _ i => n :: (i.map dnames).flatten
theorem drV_mk {n a b r i} : drV (.mk n a b r i) = .tup [.str n, sT a, sT b, .str r, .tup (i.map drV)] := by rw [drV]
theorem ruleV_mk {n a b r i} : ruleV (.mk n a b r i) = .ins 0 [.str n, condV a b, .str r, .tup (i.map ruleV)] := by rw [ruleV]
theorem dnames_mk {n a b r i} : dnames (.mk n a b r i) = n :: (i.map dnames).flatten := by rw [dnames]
/-- the values of a rule -/
def ruleCode (fs : List Str) : DR → List Int
  | .mk n a b r i => nameCode n ++ nameCode r ++ sideCode fs a ++ sideCode fs b ++ (i.length : Int) :: (i.map (ruleCode fs)).flatten
theorem ruleCode_mk {fs n a b r i} : ruleCode fs (.mk n a b r i) = nameCode n ++ nameCode r ++ sideCode fs a ++ sideCode fs b ++ (i.length : Int) :: (i.map (ruleCode fs)).flatten := by rw [ruleCode]
def Asc (xs : List Str) : Prop := xs.Pairwise fun x y => ltS x y = true
/-- a condition as it must be -/
structure CondOk (a b : List Str) : Prop where
  na : ∀ x ∈ a, isName x = true
  nb : ∀ x ∈ b, isName x = true
  aa : Asc a
  ab : Asc b
  many : a.length + b.length ≤ 8
  apart : ∀ x ∈ b, x ∉ a
/-- a rule as it must be: with facts, so deep at most -/
def DRok (fs : List Str) : Nat → DR → Prop
  | 0, _ => False
  | d + 1, .mk n a b r i => isName n = true ∧ isName r = true ∧ CondOk a b ∧ (∀ x ∈ a, x ∈ fs) ∧ (∀ x ∈ b, x ∈ fs) ∧ i.length ≤ 60 ∧ ∀ x ∈ i, DRok fs d x
end SC

namespace SC
open PySem L2
/-! ### the part of a program that makes and asks books -/
structure BookEnv (T : Tab) (P : Nat → Option Fn) : Prop where
  p0 : P 0 = some B.f0_is_name
  p1 : P 1 = some B.f1_validate_facts
  p2 : P 2 = some B.f2_Rule___init__
  p3 : P 3 = some B.f3_Rule_name
  p4 : P 4 = some B.f4_Rule_condition
  p5 : P 5 = some B.f5_Rule_ruling
  p6 : P 6 = some B.f6_Rule_exceptions
  p7 : P 7 = some B.f7_rows_of
  p8 : P 8 = some B.f8_Book___init__
  p9 : P 9 = some B.f9_Book_validate_rows
  p10 : P 10 = some B.f10_Book_facts
  p11 : P 11 = some B.f11_Book_rules
  p12 : P 12 = some B.f12_Book_ruling
  p14 : P 14 = some B.f14_Condition___init__
  p15 : P 15 = some B.f15_Condition_holding
  p16 : P 16 = some B.f16_Condition_failing
  p17 : P 17 = some B.f17_Condition_names
  i0 : T.init 0 = some 2
  i1 : T.init 1 = some 8
  i2 : T.init 2 = some 14
  l0 : T.lay 0 = [0, 1, 2, 3]
  l1 : T.lay 1 = [4, 5, 6, 7]
  l2 : T.lay 2 = [8, 9]
  f0 : T.frozen 0 = true
  f1 : T.frozen 1 = true
  f2 : T.frozen 2 = true
  m1 : T.meth 1 14 = some 9
  q0 : T.prop 0 15 = some 3 ∧ T.prop 0 16 = some 4 ∧ T.prop 0 21 = some 5 ∧ T.prop 0 18 = some 6
  q1 : T.prop 1 23 = some 10 ∧ T.prop 1 22 = some 11 ∧ T.prop 1 21 = some 12
  q2 : T.prop 2 19 = some 15 ∧ T.prop 2 20 = some 16 ∧ T.prop 2 17 = some 17
  n0 : T.prop 0 0 = none ∧ T.prop 0 1 = none ∧ T.prop 0 2 = none ∧ T.prop 0 3 = none
  n1 : T.prop 1 4 = none ∧ T.prop 1 5 = none ∧ T.prop 1 6 = none ∧ T.prop 1 7 = none
  n2 : T.prop 2 8 = none ∧ T.prop 2 9 = none
section
variable {T : Tab} {P : Nat → Option Fn} {h : MH} {n : Nat}
@[simp] theorem insOf_v {c : Nat} {vs : List MV} : insOf T h (.v (.ins c vs)) = some (c, (T.lay c).zip (vs.map .v)) := rfl
/-- a property that returns a field -/
theorem prop_spec {k c f : Nat} {fn : Fn} {vs : List MV} {x : MV} (hp : P k = some fn) (hf : fn = ⟨1, 1, .cons (.ret (.attr f (.var 0))) .nil, false⟩) (hn : 1 ≤ n) (q : T.prop c f = none) (hm : f ∈ T.lay c) (hl : ((T.lay c).zip (vs.map LV.v)).lookup f = some (LV.v x)) (w : Wf h) : run T P n k [.v (.ins c vs)] h = .ok (.v x) h := by
  subst hf
  obtain ⟨n, rfl⟩ : ∃ m, n = m + 1 := ⟨n - 1, by omega⟩
  rw [run_succ hp rfl]
  refine Eq.trans (congrArg _ ?_) (finish_ret0 w)
  simp [q, hm, hl]
variable (E : BookEnv T P)
include E
theorem at_name {a b c d : MV} (hn : 1 ≤ n) (w : Wf h) : kAt T (run T P n) 15 (.ok (.v (.ins 0 [a, b, c, d])) h) = .ok (.v a) h := by
  simp [E.q0, prop_spec (vs := [a, b, c, d]) (x := a) E.p3 rfl hn E.n0.1 (by simp [E.l0]) (by rw [E.l0]; rfl) w]
theorem at_cond {a b c d : MV} (hn : 1 ≤ n) (w : Wf h) : kAt T (run T P n) 16 (.ok (.v (.ins 0 [a, b, c, d])) h) = .ok (.v b) h := by
  simp [E.q0, prop_spec (vs := [a, b, c, d]) (x := b) E.p4 rfl hn E.n0.2.1 (by simp [E.l0]) (by rw [E.l0]; rfl) w]
theorem at_ruling {a b c d : MV} (hn : 1 ≤ n) (w : Wf h) : kAt T (run T P n) 21 (.ok (.v (.ins 0 [a, b, c, d])) h) = .ok (.v c) h := by
  simp [E.q0, prop_spec (vs := [a, b, c, d]) (x := c) E.p5 rfl hn E.n0.2.2.1 (by simp [E.l0]) (by rw [E.l0]; rfl) w]
theorem at_exc {a b c d : MV} (hn : 1 ≤ n) (w : Wf h) : kAt T (run T P n) 18 (.ok (.v (.ins 0 [a, b, c, d])) h) = .ok (.v d) h := by
  simp [E.q0, prop_spec (vs := [a, b, c, d]) (x := d) E.p6 rfl hn E.n0.2.2.2 (by simp [E.l0]) (by rw [E.l0]; rfl) w]
theorem at_inner {F : Phi} {a b c d : MV} : kAt T F 3 (.ok (.v (.ins 0 [a, b, c, d])) h) = .ok (.v d) h := by
  simp [E.n0, E.l0]; rfl
theorem at_facts {a b c d : MV} (hn : 1 ≤ n) (w : Wf h) : kAt T (run T P n) 23 (.ok (.v (.ins 1 [a, b, c, d])) h) = .ok (.v a) h := by
  simp [E.q1, prop_spec (vs := [a, b, c, d]) (x := a) E.p10 rfl hn E.n1.1 (by simp [E.l1]) (by rw [E.l1]; rfl) w]
theorem at_rules {a b c d : MV} (hn : 1 ≤ n) (w : Wf h) : kAt T (run T P n) 22 (.ok (.v (.ins 1 [a, b, c, d])) h) = .ok (.v b) h := by
  simp [E.q1, prop_spec (vs := [a, b, c, d]) (x := b) E.p11 rfl hn E.n1.2.1 (by simp [E.l1]) (by rw [E.l1]; rfl) w]
theorem at_bruling {a b c d : MV} (hn : 1 ≤ n) (w : Wf h) : kAt T (run T P n) 21 (.ok (.v (.ins 1 [a, b, c, d])) h) = .ok (.v c) h := by
  simp [E.q1, prop_spec (vs := [a, b, c, d]) (x := c) E.p12 rfl hn E.n1.2.2.1 (by simp [E.l1]) (by rw [E.l1]; rfl) w]
theorem at_hold {a b : MV} (hn : 1 ≤ n) (w : Wf h) : kAt T (run T P n) 19 (.ok (.v (.ins 2 [a, b])) h) = .ok (.v a) h := by
  simp [E.q2, prop_spec (vs := [a, b]) (x := a) E.p15 rfl hn E.n2.1 (by simp [E.l2]) (by rw [E.l2]; rfl) w]
theorem at_fail {a b : MV} (hn : 1 ≤ n) (w : Wf h) : kAt T (run T P n) 20 (.ok (.v (.ins 2 [a, b])) h) = .ok (.v b) h := by
  simp [E.q2, prop_spec (vs := [a, b]) (x := b) E.p16 rfl hn E.n2.2 (by simp [E.l2]) (by rw [E.l2]; rfl) w]
end
end SC

namespace SC
open PySem L2
/-! ### lists of numbers -/
theorem iL_app {a b : List Int} : iL a ++ iL b = iL (a ++ b) := by simp [iL]
theorem iL_snoc {a : List Int} {x : Int} : iL a ++ [.v (.int x)] = iL (a ++ [x]) := by simp [iL]
theorem iL_pureC {a : List Int} : PureC (.lst (iL a)) := fun m => iL_below
section
variable {T : Tab} {P : Nat → Option Fn} {h : MH} {n : Nat}
theorem addL_ii {a b : List Int} (hl : a.length + b.length ≤ 16777216) : binF .addL (.v (iV a)) (.v (iV b)) h = .ok (.r h.length) (h ++ [.lst (iL (a ++ b))]) := by
  simp only [binF, addLF, lstOf, iV, List.map_map]
  rw [if_pos (by simpa using hl), ← iL_app]
  rfl
theorem add_ii {a b : List Int} (hl : a.length + b.length ≤ 16777216) : binF .add (.v (iV a)) (.v (iV b)) h = .ok (.v (iV (a ++ b))) h := by
  simp only [iV, add_ll]
  rw [if_pos (by simpa using hl)]
  simp
theorem ext_i {k : Nat} {a b : List Int} (e : h[k]? = some (.lst (iL a))) (hl : a.length + b.length ≤ 16777216) : bmF .extend (.r k) [.v (iV b)] h = .ok (.v .non) (h.set k (.lst (iL (a ++ b)))) := by
  simp only [bmF, un1, extendF, iV, lstOf, e, List.map_map]
  rw [if_pos (by simpa using hl), ← iL_app]
  rfl
theorem app_i {k : Nat} {a : List Int} {x : Int} (e : h[k]? = some (.lst (iL a))) (hl : a.length < 16777216) : bmF .append (.r k) [.v (.int x)] h = .ok (.v .non) (h.set k (.lst (iL (a ++ [x])))) := by
  rw [append_r e, iL_snoc, if_pos (by simpa using hl)]
theorem frz_i {k : Nat} {a : List Int} (e : h[k]? = some (.lst (iL a))) : freeze (.r k) h = .ok (.v (iV a)) (h.set k .dead) := by
  simp only [freeze, e, iL_pures]; rfl
@[simp] theorem top_get {o : MO} : (h ++ [o])[h.length]? = some o := by simp
@[simp] theorem top_set {o o' : MO} : (h ++ [o]).set h.length o' = h ++ [o'] := by simp [List.set_append]
@[simp] theorem recv_ext {k : Nat} {ls : List LV} (e : h[k]? = some (.lst ls)) : recvOk .extend (.r k) h = true := by simp [recvOk, lstOf, e]
@[simp] theorem recv_app {k : Nat} {ls : List LV} (e : h[k]? = some (.lst ls)) : recvOk .append (.r k) h = true := by simp [recvOk, lstOf, e]
theorem len_tup {α : Type} {f : α → MV} {xs : List α} : bltF T .len [.v (.tup (xs.map f))] h = .ok (.v (.int xs.length)) h := by simp
theorem it_tupP {α : Type} {f : α → MV} {xs : List α} : itVal (.v (.tup (xs.map f))) h = some ⟨xs.map fun x => .v (f x), none⟩ := by simp
theorem flat_len {α : Type} {f : α → List Int} {pre xs : List α} {x : α} (hp : (pre ++ [x]) <+: xs) : (pre.map f).flatten.length + (f x).length ≤ (xs.map f).flatten.length := by
  obtain ⟨t, rfl⟩ := hp
  simp
/-- what stands ahead of the inner rules -/
def headCode (fs : List Str) (n : Str) (a b : List Str) (r : Str) (k : Nat) : List Int := nameCode n ++ nameCode r ++ (sideCode fs a ++ sideCode fs b) ++ [(k : Int)]
theorem ruleCode_eq {fs n a b r i} : ruleCode fs (.mk n a b r i) = headCode fs n a b r i.length ++ (i.map (ruleCode fs)).flatten := by
  rw [ruleCode_mk, headCode]; simp
theorem rule_values_spec (E : BookEnv T P) (h19 : P 19 = some B.f19_name_values) (h20 : P 20 = some B.f20_side_values) (h21 : P 21 = some B.f21_rule_values) {fs : List Str} : ∀ (d n : Nat) (x : DR) (h : MH), d + 1 ≤ n → DRok fs d x → (ruleCode fs x).length ≤ 1000000 → Wf h → run T P n 21 [.v (ruleV x), .v (sT fs)] h = .ok (.v (iV (ruleCode fs x))) h
  | 0, _, _, _, _, h, _, _ => by simp [DRok] at h
  | d + 1, n, .mk nm a b r i, h, hn, ok, hl, w => by
    obtain ⟨n, rfl⟩ : ∃ m, n = m + 1 := ⟨n - 1, by omega⟩
    simp only [DRok] at ok
    obtain ⟨k1, k2, k3, k4, k5, k6, k7⟩ := ok
    rw [run_succ h21 rfl]
    have ha := k3.many
    have e1 : ∀ {h : MH}, Wf h → run T P n 19 [.v (.str nm)] h = .ok (.v (iV (nameCode nm))) h := fun w => name_values_spec h19 (by omega) k1 w
    have e2 : ∀ {h : MH}, Wf h → run T P n 19 [.v (.str r)] h = .ok (.v (iV (nameCode r))) h := fun w => name_values_spec h19 (by omega) k2 w
    have e3 : ∀ {h : MH}, Wf h → run T P n 20 [.v (sT a), .v (sT fs)] h = .ok (.v (iV (sideCode fs a))) h := fun w => side_values_spec h20 (by omega) k4 (by omega) w
    have e4 : ∀ {h : MH}, Wf h → run T P n 20 [.v (sT b), .v (sT fs)] h = .ok (.v (iV (sideCode fs b))) h := fun w => side_values_spec h20 (by omega) k5 (by omega) w
    have hn1 : 1 ≤ n := by omega
    rw [ruleCode_eq] at hl
    have hh : (headCode fs nm a b r i.length).length ≤ 1000000 := by simp at hl ⊢; omega
    have hh2 := hh
    simp only [headCode, List.length_append, List.length_cons, List.length_nil] at hh2
    have w1 : ∀ l : List Int, Wf (h ++ [.lst (iL l)]) := fun l => w.pushP iL_pureC
    obtain ⟨r', h', e, z, er, eh⟩ := forL_inv (step := forStep T (run T P n) (.nm 3) (.cons (.expr (.bm .extend (.var 2) (.cons (.call 21 (.cons (.var 3) (.cons (.var 1) .nil))) .nil))) .nil)) (enc := LV.v ∘ ruleV)
      (fun pre r' h' => ∃ z, r' = [some (.v (ruleV (.mk nm a b r i))), some (.v (sT fs)), some (.r h.length), z] ∧ h' = h ++ [.lst (iL (headCode fs nm a b r i.length ++ (pre.map (ruleCode fs)).flatten))]) i [some (.v (ruleV (.mk nm a b r i))), some (.v (sT fs)), some (.r h.length), none] (h ++ [.lst (iL (headCode fs nm a b r i.length))]) (by
        rintro pre x r' h' hp hx ⟨z, rfl, rfl⟩
        have hs := flat_len (f := ruleCode fs) hp
        rw [List.length_append] at hl
        have ih := rule_values_spec E h19 h20 h21 d n x (h ++ [.lst (iL (headCode fs nm a b r i.length ++ (pre.map (ruleCode fs)).flatten))]) (by omega) (k7 x hx) (by omega) (w1 _)
        have b1 := ext_i (h := h ++ [.lst (iL (headCode fs nm a b r i.length ++ (pre.map (ruleCode fs)).flatten))]) (b := ruleCode fs x) top_get (by rw [List.length_append]; omega)
        rw [top_set] at b1
        have v1 : ∀ {l : List Int}, recvOk .extend (.r h.length) (h ++ [.lst (iL l)]) = true := recv_ext top_get
        refine ⟨_, _, ?_, some (.v (ruleV x)), rfl, rfl⟩
        simp [-List.append_assoc, ih, b1, v1]
        simp) ⟨none, rfl, by simp⟩
    refine Eq.trans (congrArg _ ?_) (finish_ret (t := [.dead]) w)
    have q1 : (nameCode nm).length + (nameCode r).length ≤ 16777216 := by omega
    have q2 : (sideCode fs a).length + (sideCode fs b).length ≤ 16777216 := by omega
    have q3 : (nameCode nm ++ nameCode r).length + (sideCode fs a ++ sideCode fs b).length ≤ 16777216 := by simp; omega
    have q4 : (nameCode nm ++ nameCode r ++ (sideCode fs a ++ sideCode fs b)).length < 16777216 := by simp; omega
    have b1 := ext_i (h := h ++ [.lst (iL (nameCode nm ++ nameCode r))]) top_get q3
    have b2 := app_i (h := h ++ [.lst (iL (nameCode nm ++ nameCode r ++ (sideCode fs a ++ sideCode fs b)))]) (x := i.length) top_get q4
    rw [top_set] at b1 b2
    rw [show nameCode nm ++ nameCode r ++ (sideCode fs a ++ sideCode fs b) ++ [(i.length : Int)] = headCode fs nm a b r i.length from rfl] at b2
    rw [ruleV_mk, condV] at e er ⊢
    subst er eh
    have b3 := frz_i (h := h ++ [MO.lst (iL (headCode fs nm a b r i.length ++ (List.map (ruleCode fs) i).flatten))]) top_get
    rw [top_set] at b3
    have v1 : ∀ {l : List Int}, recvOk .extend (.r h.length) (h ++ [.lst (iL l)]) = true := recv_ext top_get
    have v2 : ∀ {l : List Int}, recvOk .append (.r h.length) (h ++ [.lst (iL l)]) = true := recv_app top_get
    simp [-List.append_assoc, B.f21_rule_values, B.c_f21_rule_values, at_name E hn1, at_ruling E hn1, at_cond E hn1, at_hold E hn1, at_fail E hn1, at_exc E hn1, w, w1, e1, e2, e3, e4, addL_ii q1, add_ii q2, b1, b2, b3, v1, v2, e]
    rw [ruleCode_eq]
end
end SC

namespace SC
open PySem L2
def bookV (fs : List Str) (ds : List DR) (ru : Str) (rows : MV) : MV := .ins 1 [sT fs, .tup (ds.map ruleV), .str ru, rows]
def factsCode (fs : List Str) : List Int := [66, (fs.length : Int)] ++ (fs.map nameCode).flatten
def rulesCode (fs : List Str) (ds : List DR) : List Int := [(ds.length : Int)] ++ (ds.map (ruleCode fs)).flatten
def bookCode (fs : List Str) (ds : List DR) (ru : Str) : List Int := factsCode fs ++ rulesCode fs ds ++ nameCode ru
section
variable {T : Tab} {P : Nat → Option Fn} {h : MH} {n : Nat}
theorem add_ri {k : Nat} {a : List Int} {x : Int} (e : h[k]? = some (.lst (iL a))) (hl : a.length < 16777216) : binF .add (.r k) (.v (.lst [.int x])) h = .ok (.v (iV (a ++ [x]))) h := by
  rw [add_rl e iL_pures, if_pos (by simp; omega)]
  simp [iV]
/-- a loop that extends a list -/
theorem ext_loop {α : Type} {f : α → List Int} {enc : α → LV} {step : LV → ME → MH → OutS} {mkr : Option LV → ME} : ∀ (xs : List α) (base : List Int) (z : Option LV), (∀ x ∈ xs, ∀ l z, l.length + (f x).length ≤ 1000000 → step (enc x) (mkr z) (h ++ [.lst (iL l)]) = .nxt (mkr (some (enc x))) (h ++ [.lst (iL (l ++ f x))])) → base.length + (xs.map f).flatten.length ≤ 1000000 → ∃ z', forL none step (xs.map enc) (mkr z) (h ++ [.lst (iL base)]) = .nxt (mkr z') (h ++ [.lst (iL (base ++ (xs.map f).flatten))])
  | [], base, z, _, _ => ⟨z, by simp⟩
  | x :: xs, base, z, hs, hl => by
    simp only [List.map_cons, List.flatten_cons, List.length_append] at hl
    obtain ⟨z', e⟩ := ext_loop xs (base ++ f x) (some (enc x)) (fun y hy => hs y (List.mem_cons_of_mem _ hy)) (by simp only [List.length_append]; omega)
    refine ⟨z', ?_⟩
    rw [List.map_cons, forL_cons, hs x List.mem_cons_self base z (by omega), kFL_nxt, e]
    simp
theorem encode_spec (E : BookEnv T P) (h18 : P 18 = some B.f18_checksum) (h19 : P 19 = some B.f19_name_values) (h20 : P 20 = some B.f20_side_values) (h21 : P 21 = some B.f21_rule_values) (h22 : P 22 = some B.f22_encode_book) {fs : List Str} {ds : List DR} {ru : Str} {rows : MV} {d : Nat} (hn : d + 2 ≤ n) (hf : ∀ x ∈ fs, isName x = true) (hd : ∀ x ∈ ds, DRok fs d x) (hr : isName ru = true) (hl : (bookCode fs ds ru).length ≤ 1000000) (w : Wf h) : run T P n 22 [.v (bookV fs ds ru rows)] h = .ok (.v (iV (bookCode fs ds ru ++ [chk (bookCode fs ds ru)]))) h := by
  obtain ⟨n, rfl⟩ : ∃ m, n = m + 1 := ⟨n - 1, by omega⟩
  rw [run_succ h22 rfl]
  have hn1 : 1 ≤ n := by omega
  have w1 : ∀ l : List Int, Wf (h ++ [.lst (iL l)]) := fun l => w.pushP iL_pureC
  have v1 : ∀ {l : List Int}, recvOk .extend (.r h.length) (h ++ [.lst (iL l)]) = true := recv_ext top_get
  have v2 : ∀ {l : List Int}, recvOk .append (.r h.length) (h ++ [.lst (iL l)]) = true := recv_app top_get
  have hl2 := hl
  simp only [bookCode, factsCode, rulesCode, List.length_append, List.length_cons, List.length_nil] at hl2
  obtain ⟨z1, e1⟩ := ext_loop (h := h) (f := nameCode) (enc := LV.v ∘ MV.str) (step := forStep T (run T P n) (.nm 2) (.cons (.expr (.bm .extend (.var 1) (.cons (.call 19 (.cons (.var 2) .nil)) .nil))) .nil)) (mkr := fun z => [some (.v (bookV fs ds ru rows)), some (.r h.length), z, none]) fs [66, (fs.length : Int)] none (by
        intro x hx l z hl
        have ih := name_values_spec (T := T) (P := P) h19 hn1 (hf x hx) (w1 l)
        have b1 := ext_i (h := h ++ [.lst (iL l)]) (b := nameCode x) top_get (by omega)
        rw [top_set] at b1
        simp [ih, b1, v1]) (by simp only [List.length_cons, List.length_nil]; omega)
  obtain ⟨z2, e2⟩ := ext_loop (h := h) (f := ruleCode fs) (enc := LV.v ∘ ruleV) (step := forStep T (run T P n) (.nm 3) (.cons (.expr (.bm .extend (.var 1) (.cons (.call 21 (.cons (.var 3) (.cons (.attr 23 (.var 0)) .nil))) .nil))) .nil)) (mkr := fun z => [some (.v (bookV fs ds ru rows)), some (.r h.length), z1, z]) ds (factsCode fs ++ [(ds.length : Int)]) none (by
        intro x hx l z hl
        have ih := rule_values_spec E h19 h20 h21 d n x (h ++ [.lst (iL l)]) (by omega) (hd x hx) (by omega) (w1 _)
        have b1 := ext_i (h := h ++ [.lst (iL l)]) (b := ruleCode fs x) top_get (by omega)
        rw [top_set] at b1
        simp [bookV, at_facts E hn1, w1, ih, b1, v1]) (by simp only [factsCode, List.length_append, List.length_cons, List.length_nil]; omega)
  refine Eq.trans (congrArg _ ?_) (finish_ret (t := [.lst (iL (bookCode fs ds ru))]) w)
  have b0 : (h ++ [MO.lst [LV.v (MV.int 66), LV.v (MV.int (fs.length : Int))]]) = h ++ [.lst (iL [66, (fs.length : Int)])] := rfl
  have b1 := app_i (h := h ++ [.lst (iL (factsCode fs))]) (x := ds.length) top_get (by simp only [factsCode, List.length_append, List.length_cons, List.length_nil]; omega)
  have b2 := ext_i (h := h ++ [.lst (iL (factsCode fs ++ rulesCode fs ds))]) (b := nameCode ru) top_get (by simp only [factsCode, rulesCode, List.length_append, List.length_cons, List.length_nil]; omega)
  have b3 := add_ri (h := h ++ [.lst (iL (bookCode fs ds ru))]) (x := chk (bookCode fs ds ru)) top_get (by omega)
  have b4 := checksum_gen (T := T) (P := P) h18 hn1 (h := h ++ [.lst (iL (bookCode fs ds ru))]) (x := .r h.length) (vs := bookCode fs ds ru) (g := some (h.length, iL (bookCode fs ds ru))) (itVal_r top_get) (by simp [Its.okIn]) (w1 _)
  have b5 := name_values_spec (T := T) (P := P) h19 hn1 hr (w1 (factsCode fs ++ rulesCode fs ds))
  rw [top_set] at b1 b2
  rw [show factsCode fs ++ rulesCode fs ds ++ nameCode ru = bookCode fs ds ru from rfl] at b2
  rw [← factsCode] at e1
  rw [show factsCode fs ++ [(ds.length : Int)] ++ (ds.map (ruleCode fs)).flatten = factsCode fs ++ rulesCode fs ds by simp [rulesCode]] at e2
  have l1 : bltF T .len [.v (sT fs)] h = .ok (.v (.int fs.length)) h := by simp [sT]
  have l2 : itVal (.v (sT fs)) (h ++ [.lst (iL [66, (fs.length : Int)])]) = some ⟨fs.map (LV.v ∘ MV.str), none⟩ := by simp [sT]
  have f1 : ∀ {h : MH}, Wf h → kAt T (run T P n) 23 (.ok (.v (bookV fs ds ru rows)) h) = .ok (.v (sT fs)) h := fun w => at_facts E hn1 w
  have f2 : ∀ {h : MH}, Wf h → kAt T (run T P n) 22 (.ok (.v (bookV fs ds ru rows)) h) = .ok (.v (.tup (ds.map ruleV))) h := fun w => at_rules E hn1 w
  have f3 : ∀ {h : MH}, Wf h → kAt T (run T P n) 21 (.ok (.v (bookV fs ds ru rows)) h) = .ok (.v (.str ru)) h := fun w => at_bruling E hn1 w
  simp [-List.append_assoc, -List.cons_append, B.f22_encode_book, B.c_f22_encode_book, f1, f2, f3, w, w1, l1, l2, b0, b1, b2, b3, b4, b5, v1, v2, e1, e2]
end
end SC

namespace SC
open PySem L2
@[simp] theorem asgT_tup {ts : List Tg} {xs : List MV} {r : ME} : asgT (.tup ts) (.v (.tup xs)) r = if xs.length = ts.length then asgT.asgTs ts xs r else none := by rw [asgT]
@[simp] theorem asgTs_nil {r : ME} : asgT.asgTs [] [] r = some r := by rw [asgT.asgTs]
@[simp] theorem asgTs_cons {t : Tg} {ts : List Tg} {x : MV} {xs : List MV} {r : ME} : asgT.asgTs (t :: ts) (x :: xs) r = (asgT t (.v x) r).bind fun r => asgT.asgTs ts xs r := by rw [asgT.asgTs]
section
variable {T : Tab} {P : Nat → Option Fn} {h : MH} {n : Nat}
theorem it_sT {xs : List Str} : itVal (.v (sT xs)) h = some ⟨xs.map (LV.v ∘ MV.str), none⟩ := by simp [sT]
theorem len_sT {xs : List Str} : bltF T .len [.v (sT xs)] h = .ok (.v (.int xs.length)) h := by simp [sT]
theorem kCo3_i {α : Type} {xs : List α} {f : α → Int} : kCo3 false (xs.map fun x => .v (.int (f x))) h = .ok (.v (iV (xs.map f))) h := by
  rw [kCo3_f (f := fun x => .int (f x))]; simp [iV]
theorem rules_code_spec (h42 : P 42 = some B.f42__law_name_code) (h43 : P 43 = some B.f43__law_rules_code) {fs : List Str} : ∀ (d n : Nat) (ds : List DR) (h : MH), d + 2 ≤ n → (∀ x ∈ ds, DRok fs d x) → (rulesCode fs ds).length ≤ 1000000 → Wf h → run T P n 43 [.v (.tup (ds.map drV)), .v (sT fs)] h = .ok (.v (iV (rulesCode fs ds))) h
  | d, n, ds, h, hn, ok, hl, w => by
    obtain ⟨n, rfl⟩ : ∃ m, n = m + 1 := ⟨n - 1, by omega⟩
    rw [run_succ h43 rfl]
    refine Eq.trans (congrArg _ ?_) (finish_ret0 w)
    obtain ⟨r1, h1, e1, rfl, z3, z4, z5, z6, z7, z8, er1⟩ := forL_inv (step := forStep T (run T P n) (.tup [(.nm 3), (.nm 4), (.nm 5), (.nm 6), (.nm 7)]) (.cons (.asg (.nm 2) (.bin .add (.bin .add (.var 2) (.call 42 (.cons (.var 3) .nil))) (.call 42 (.cons (.var 6) .nil)))) (.cons (.forr (.nm 8) (.val (.tup (.cons (.var 4) (.cons (.var 5) .nil)))) (.cons (.asg (.nm 2) (.bin .add (.bin .add (.var 2) (.lst (.cons (.blt .len (.cons (.var 8) .nil)) .nil))) (.comp false (.nm 9) (.val (.var 8)) (.cst (.bl true)) (.bm .index (.var 1) (.cons (.var 9) .nil))))) .nil)) (.cons (.asg (.nm 2) (.bin .add (.var 2) (.call 43 (.cons (.var 7) (.cons (.var 1) .nil))))) .nil)))) (enc := LV.v ∘ drV)
      (fun pre r' h' => h' = h ∧ ∃ z3 z4 z5 z6 z7 z8, r' = [some (.v (.tup (ds.map drV))), some (.v (sT fs)), some (.v (iV ([(ds.length : Int)] ++ (pre.map (ruleCode fs)).flatten))), z3, z4, z5, z6, z7, z8, none]) ds [some (.v (.tup (ds.map drV))), some (.v (sT fs)), some (.v (iV [(ds.length : Int)])), none, none, none, none, none, none, none] h (by
        rintro pre x r' h' hp hx ⟨rfl, z3, z4, z5, z6, z7, z8, rfl⟩
        have hs := flat_len (f := ruleCode fs) hp
        have hx1 := ok x hx
        rw [show [(ds.length : Int)] ++ (List.map (ruleCode fs) (pre ++ [x])).flatten = ([(ds.length : Int)] ++ (List.map (ruleCode fs) pre).flatten) ++ ruleCode fs x by simp]
        have hb : ([(ds.length : Int)] ++ (List.map (ruleCode fs) pre).flatten).length + (ruleCode fs x).length ≤ 1000000 := by
          simp only [rulesCode, List.length_append, List.length_cons, List.length_nil] at hl ⊢; omega
        generalize ([(ds.length : Int)] ++ (List.map (ruleCode fs) pre).flatten) = l at hb
        cases d with
        | zero => simp [DRok] at hx1
        | succ d =>
        obtain ⟨nm, a, b, ru, i⟩ := x
        simp only [DRok] at hx1
        obtain ⟨k1, k2, k3, k4, k5, k6, k7⟩ := hx1
        have hr : ruleCode fs (.mk nm a b ru i) = nameCode nm ++ nameCode ru ++ sideCode fs a ++ sideCode fs b ++ rulesCode fs i := by rw [ruleCode_mk, rulesCode]; simp
        rw [hr] at hb ⊢
        simp only [List.length_append, sideCode, List.length_cons, List.length_map] at hb
        have c1 := name_code_spec (T := T) (P := P) (n := n) h42 (by omega) k1 w
        have c2 := name_code_spec (T := T) (P := P) (n := n) h42 (by omega) k2 w
        have c3 := rules_code_spec h42 h43 d n i h' (by omega) k7 (by omega) w
        have side : ∀ (xs : List Str) (l : List Int) (a0 a3 a4 a5 a6 a7 : Option LV), (∀ x ∈ xs, x ∈ fs) → l.length + xs.length + 1 ≤ 1000000 →
            evSs T (run T P n) (.cons (.asg (.nm 2) (.bin .add (.bin .add (.var 2) (.lst (.cons (.blt .len (.cons (.var 8) .nil)) .nil))) (.comp false (.nm 9) (.val (.var 8)) (.cst (.bl true)) (.bm .index (.var 1) (.cons (.var 9) .nil))))) .nil) [a0, some (.v (sT fs)), some (.v (iV l)), a3, a4, a5, a6, a7, some (.v (sT xs)), none] h' = .nxt [a0, some (.v (sT fs)), some (.v (iV (l ++ sideCode fs xs))), a3, a4, a5, a6, a7, some (.v (sT xs)), none] h' := by
          intro xs l a0 a3 a4 a5 a6 a7 hx hl1
          have e := compL_map (step := compStep T (run T P n) (.nm 9) (.cst (.bl true)) (.bm .index (.var 1) (.cons (.var 9) .nil)) [a0, some (.v (sT fs)), some (.v (iV l)), a3, a4, a5, a6, a7, some (.v (sT xs)), none]) (enc := LV.v ∘ MV.str) (f := fun c => LV.v (.int (place fs c))) (h := h') xs [] (by
            intro c hc
            have q : recvOk .index (.v (sT fs)) h' = true := rfl
            simp [ix_tup (hx c hc), wipeR, q]) (by simp; omega)
          simp only [List.nil_append] at e
          have q1 : binF .add (.v (iV l)) (.v (.lst [.int (xs.length : Int)])) h' = _ := add_ii (h := h') (a := l) (b := [(xs.length : Int)]) (by simp; omega)
          have q2 := add_ii (h := h') (a := l ++ [(xs.length : Int)]) (b := xs.map fun c => (place fs c : Int)) (by simp; omega)
          simp [it_sT, len_sT, e, q1, kCo3_i, q2]
          simp [sideCode]
        have t1 := side a (l ++ nameCode nm ++ nameCode ru) (some (.v (.tup (ds.map drV)))) (some (.v (.str nm))) (some (.v (sT a))) (some (.v (sT b))) (some (.v (.str ru))) (some (.v (.tup (i.map drV)))) k4 (by simp; omega)
        have t2 := side b (l ++ nameCode nm ++ nameCode ru ++ sideCode fs a) (some (.v (.tup (ds.map drV)))) (some (.v (.str nm))) (some (.v (sT a))) (some (.v (sT b))) (some (.v (.str ru))) (some (.v (.tup (i.map drV)))) k5 (by simp [sideCode]; omega)
        have q1 := add_ii (h := h') (a := l) (b := nameCode nm) (by omega)
        have q2 := add_ii (h := h') (a := l ++ nameCode nm) (b := nameCode ru) (by simp; omega)
        have q3 := add_ii (h := h') (a := l ++ nameCode nm ++ nameCode ru ++ sideCode fs a ++ sideCode fs b) (b := rulesCode fs i) (by simp [sideCode]; omega)
        refine ⟨_, _, ?_, rfl, some (.v (.str nm)), some (.v (sT a)), some (.v (sT b)), some (.v (.str ru)), some (.v (.tup (i.map drV))), some (.v (sT b)), rfl⟩
        simp only [forStep_eq, Function.comp, drV_mk]
        generalize (CSs.cons (.asg (.nm 2) (.bin .add (.bin .add (.var 2) (.lst (.cons (.blt .len (.cons (.var 8) .nil)) .nil))) (.comp false (.nm 9) (.val (.var 8)) (.cst (.bl true)) (.bm .index (.var 1) (.cons (.var 9) .nil))))) .nil) = bd at t1 t2 ⊢
        simp [-List.append_assoc, c1, c2, c3, q1, q2, q3, t1, t2]
        simp) ⟨rfl, none, none, none, none, none, none, by simp⟩
    subst er1
    have b0 : (LV.v (MV.lst [MV.int (ds.length : Int)])) = LV.v (iV [(ds.length : Int)]) := rfl
    simp [-List.append_assoc, B.f43__law_rules_code, B.c_f43__law_rules_code, b0, e1]
    simp [rulesCode]
end
end SC

namespace SC
open PySem L2
def drawnV (fs : List Str) (ds : List DR) (ru : Str) : MV := .tup [sT fs, .tup (ds.map drV), .str ru]
section
variable {T : Tab} {P : Nat → Option Fn} {h : MH} {n : Nat}
theorem code_spec (h42 : P 42 = some B.f42__law_name_code) (h43 : P 43 = some B.f43__law_rules_code) (h44 : P 44 = some B.f44__law_code) {fs : List Str} {ds : List DR} {ru : Str} {d : Nat} (hn : d + 3 ≤ n) (hf : ∀ x ∈ fs, isName x = true) (hd : ∀ x ∈ ds, DRok fs d x) (hr : isName ru = true) (hl : (bookCode fs ds ru).length ≤ 1000000) (w : Wf h) : run T P n 44 [.v (drawnV fs ds ru)] h = .ok (.v (iV (bookCode fs ds ru))) h := by
  obtain ⟨n, rfl⟩ : ∃ m, n = m + 1 := ⟨n - 1, by omega⟩
  rw [run_succ h44 rfl]
  refine Eq.trans (congrArg _ ?_) (finish_ret0 w)
  simp only [bookCode, List.length_append] at hl
  obtain ⟨r1, h1, e1, rfl, z, er1⟩ := forL_inv (step := forStep T (run T P n) (.nm 2) (.cons (.asg (.nm 1) (.bin .add (.var 1) (.call 42 (.cons (.var 2) .nil)))) .nil)) (enc := LV.v ∘ MV.str)
      (fun pre r' h' => h' = h ∧ ∃ z, r' = [some (.v (drawnV fs ds ru)), some (.v (iV ([66, (fs.length : Int)] ++ (pre.map nameCode).flatten))), z]) fs [some (.v (drawnV fs ds ru)), some (.v (iV [66, (fs.length : Int)])), none] h (by
        rintro pre x r' h' hp hx ⟨rfl, z, rfl⟩
        have hs := flat_len (f := nameCode) hp
        rw [show [66, (fs.length : Int)] ++ (List.map nameCode (pre ++ [x])).flatten = ([66, (fs.length : Int)] ++ (List.map nameCode pre).flatten) ++ nameCode x by simp]
        have hb : ([66, (fs.length : Int)] ++ (List.map nameCode pre).flatten).length + (nameCode x).length ≤ 1000000 := by
          simp only [factsCode, List.length_append, List.length_cons, List.length_nil] at hl ⊢; omega
        generalize ([66, (fs.length : Int)] ++ (List.map nameCode pre).flatten) = l at hb
        have c1 := name_code_spec (T := T) (P := P) (n := n) h42 (by omega) (hf x hx) w
        have q1 := add_ii (h := h') (a := l) (b := nameCode x) (by omega)
        refine ⟨_, _, ?_, rfl, some (.v (.str x)), rfl⟩
        simp [c1, q1]) ⟨rfl, none, by simp⟩
  subst er1
  have b0 : (LV.v (MV.lst [MV.int 66, MV.int (fs.length : Int)])) = LV.v (iV [66, (fs.length : Int)]) := rfl
  have c1 := rules_code_spec (T := T) h42 h43 d n ds h1 (by omega) hd (by omega) w
  have c2 := name_code_spec (T := T) (P := P) (n := n) h42 (by omega) hr w
  have q1 := add_ii (h := h1) (a := factsCode fs) (b := rulesCode fs ds) (by omega)
  have q2 := add_ii (h := h1) (a := factsCode fs ++ rulesCode fs ds) (b := nameCode ru) (by simp; omega)
  have i0 : idxF (.v (drawnV fs ds ru)) (.v (.int 0)) h1 = .ok (.v (sT fs)) h1 := by simp [drawnV]
  have i1 : idxF (.v (drawnV fs ds ru)) (.v (.int 1)) h1 = .ok (.v (.tup (ds.map drV))) h1 := by simp [drawnV]
  have i2 : idxF (.v (drawnV fs ds ru)) (.v (.int 2)) h1 = .ok (.v (.str ru)) h1 := by simp [drawnV]
  rw [← factsCode] at e1
  simp [-List.append_assoc, B.f44__law_code, B.c_f44__law_code, i0, i1, i2, len_sT, it_sT, b0, e1, c1, c2, q1, q2]
  rfl
end
/-! ### alike -/
def datS : Nat → MV → Bool
  | _, .non => true
  | _, .bl _ => true
  | _, .int _ => true
  | _, .str s => strOk s
  | d + 1, .tup xs => decide (xs.length ≤ 1000000) && xs.all (datS d)
  | d + 1, .lst xs => decide (xs.length ≤ 1000000) && xs.all (datS d)
  | _, _ => false
theorem datS_dat : ∀ (d : Nat) (x : MV), datS d x = true → dat d x = true
  | _, .non, _ => by simp [dat]
  | _, .bl _, _ => by simp [dat]
  | _, .int _, _ => by simp [dat]
  | _, .str s, h => by simpa [dat, datS] using h
  | d + 1, .tup xs, h => by
    simp only [dat, datS, List.all_eq_true, Bool.and_eq_true] at h ⊢
    exact fun x hx => datS_dat d x (h.2 x hx)
  | d + 1, .lst xs, h => by
    simp only [dat, datS, List.all_eq_true, Bool.and_eq_true] at h ⊢
    exact fun x hx => datS_dat d x (h.2 x hx)
  | 0, .tup xs, h => by simp [datS] at h
  | 0, .lst xs, h => by simp [datS] at h
  | 0, .scr xs, h => by simp [datS] at h
  | 0, .ins _ xs, h => by simp [datS] at h
  | 0, .dct _ xs, h => by simp [datS] at h
  | 0, .exo _ _ _ xs, h => by simp [datS] at h
  | _ + 1, .scr xs, h => by simp [datS] at h
  | _ + 1, .ins _ xs, h => by simp [datS] at h
  | _ + 1, .dct _ xs, h => by simp [datS] at h
  | _ + 1, .exo _ _ _ xs, h => by simp [datS] at h
section
variable {T : Tab} {P : Nat → Option Fn} {h : MH} {n : Nat}
theorem isi_v {ts : List Ty} {x : MV} : bltF T (.isi ts) [.v x] h = match tyAny T h (.v x) ts with
    | some b => .ok (.v (.bl b)) h
    | none => .bad := rfl
theorem eq_non {x : MV} {d : Nat} (hx : dat d x = true) (hd : d ≤ 64) : cmpO .eq (.v x) (.v .non) h = .ok (.v (.bl (decide (x = .non)))) h := by
  obtain ⟨D, t1, c1, p1⟩ := dat_toD d x hx
  have s1 : SeqAt.shaped D = true := by simp only [SeqAt.shaped, c1, Bool.true_and, decide_eq_true_eq]; omega
  have s2 : SeqAt.shaped .none = true := by decide
  have q : PyData.eqv D .none = decide (x = .non) := by
    cases x <;> simp only [toD, Option.map_eq_some_iff, Option.some.injEq] at t1 <;> first | (subst t1; simp [PyData.eqv]; done) | (obtain ⟨_, _, rfl⟩ := t1; simp [PyData.eqv]; done) | (cases t1)
  have t2 : toD .non = some .none := by simp [toD]
  simp only [cmpO, cmpF, eqF, eqD, valOf, Option.bind, t1, t2, s1, s2, and_self, if_true, q]
  rfl
theorem eq_str {x : MV} {s : Str} {d : Nat} (hx : dat d x = true) (hs : strOk s = true) (hd : d ≤ 64) : cmpO .eq (.v x) (.v (.str s)) h = .ok (.v (.bl (decide (x = .str s)))) h := by
  obtain ⟨D, t1, c1, p1⟩ := dat_toD d x hx
  have s1 : SeqAt.shaped D = true := by simp only [SeqAt.shaped, c1, Bool.true_and, decide_eq_true_eq]; omega
  have s2 : SeqAt.shaped (.str s) = true := by simpa [SeqAt.shaped, PyData.canLay0, PyData.depth] using hs
  have q : PyData.eqv D (.str s) = decide (x = .str s) := by
    cases x <;> simp only [toD, Option.map_eq_some_iff, Option.some.injEq] at t1 <;> first | (subst t1; simp [PyData.eqv, BEq.beq]; done) | (obtain ⟨_, _, rfl⟩ := t1; simp [PyData.eqv]; done) | (cases t1)
  have t2 : toD (.str s) = some (.str s) := by simp [toD]
  simp only [cmpO, cmpF, eqF, eqD, valOf, Option.bind, t1, t2, s1, s2, and_self, if_true, q]
  rfl
theorem eq_bb {a b : Bool} : cmpO .eq (.v (.bl a)) (.v (.bl b)) h = .ok (.v (.bl (a == b))) h := by
  cases a <;> cases b <;> rfl
theorem ne_bb {a b : Bool} : cmpO .ne (.v (.bl a)) (.v (.bl b)) h = .ok (.v (.bl (!(a == b)))) h := by
  cases a <;> cases b <;> rfl
theorem eq_ii {a b : Int} : cmpO .eq (.v (.int a)) (.v (.int b)) h = .ok (.v (.bl (decide (a = b)))) h :=
  (eq_dat 0 0 rfl rfl rfl rfl (by decide) (by decide)).trans (by by_cases c : a = b <;> simp [c])
theorem ne_ii {a b : Int} : cmpO .ne (.v (.int a)) (.v (.int b)) h = .ok (.v (.bl (!decide (a = b)))) h :=
  (ne_dat 0 0 rfl rfl rfl rfl (by decide) (by decide)).trans (by by_cases c : a = b <;> simp [c])
end
end SC

namespace SC
open PySem L2
section
variable {T : Tab} {P : Nat → Option Fn} {h : MH} {n : Nat}
theorem idx_at {xs : List MV} {k : Nat} (hk : k < xs.length) : idxF (.v (.lst xs)) (.v (.int (0 + (k : Int)))) h = .ok (.v xs[k]) h ∧ idxF (.v (.tup xs)) (.v (.int (0 + (k : Int)))) h = .ok (.v xs[k]) h := by
  have e : atI (xs.map LV.v) (0 + (k : Int)) = some (.v xs[k]) := atI_nat (by omega) (by
    rw [show ((0 : Int) + (k : Int)).toNat = k by omega]; simp [hk])
  constructor
  · rw [idx_l, e]; rfl
  · rw [idx_t, e]; rfl
theorem lists_eq {xs ys : List MV} (hl : xs.length = ys.length) : (decide (((List.range ys.length).filter fun k => !decide (xs[k]? = ys[k]?)).map (fun k : Nat => MV.int (0 + (k : Int))) = [])) = decide (xs = ys) := by
  rw [Bool.eq_iff_iff, decide_eq_true_eq, decide_eq_true_eq]
  simp only [List.map_eq_nil_iff, List.filter_eq_nil_iff, List.mem_range, Bool.not_eq_true', decide_eq_false_iff_not, Decidable.not_not]
  constructor
  · intro hk
    apply List.ext_getElem? 
    intro i
    by_cases hi : i < ys.length
    · exact hk i hi
    · rw [List.getElem?_eq_none (by omega), List.getElem?_eq_none (by omega)]
  · rintro rfl _ _; rfl
theorem alike_comp {xs ys : List MV} {X Y : MV} (hX : ∀ k (hk : k < xs.length), idxF (.v X) (.v (.int (0 + (k : Int)))) h = .ok (.v xs[k]) h) (hY : ∀ k (hk : k < ys.length), idxF (.v Y) (.v (.int (0 + (k : Int)))) h = .ok (.v ys[k]) h) (hl : xs.length = ys.length) (hm : ys.length ≤ 1000000)
    (ih : ∀ x ∈ xs, ∀ y ∈ ys, run T P n 33 [.v x, .v y] h = .ok (.v (.bl (decide (x = y)))) h) :
    compL none (compStep T (run T P n) (.nm 2) (.not (.call 33 (.cons (.idx (.var 0) (.var 2)) (.cons (.idx (.var 1) (.var 2)) .nil)))) (.var 2) [some (.v X), some (.v Y), none]) (rangeL 0 ys.length) [] h = .ok (((List.range ys.length).filter fun k => !decide (xs[k]? = ys[k]?)).map (fun k : Nat => LV.v (.int (0 + (k : Int))))) h := by
  have := compL_filter (step := compStep T (run T P n) (.nm 2) (.not (.call 33 (.cons (.idx (.var 0) (.var 2)) (.cons (.idx (.var 1) (.var 2)) .nil)))) (.var 2) [some (.v X), some (.v Y), none]) (enc := fun k : Nat => LV.v (.int (0 + (k : Int)))) (p := fun k => !decide (xs[k]? = ys[k]?)) (f := fun k : Nat => LV.v (.int (0 + (k : Int)))) (h := h) (List.range ys.length) [] (by
      intro k hk
      have hk1 : k < ys.length := by simpa using hk
      have hk2 : k < xs.length := by omega
      have e1 := ih xs[k] (List.getElem_mem hk2) ys[k] (List.getElem_mem hk1)
      rw [List.getElem?_eq_getElem hk1, List.getElem?_eq_getElem hk2]
      by_cases c : xs[k] = ys[k]
      · have hX' := hX k hk2
        rw [c] at e1 hX'
        simp [-Int.zero_add, wipeR, hX', hY k hk1, c, e1]
      · simp [-Int.zero_add, wipeR, hX k hk2, hY k hk1, e1, c]) (by simp; omega)
  simpa [rangeL] using this
theorem ty_beq {a b : Ty} : (a == b) = decide (a = b) := by
  by_cases c : a = b <;> simp [c]
theorem alike_scal {d : Nat} (h33 : P 33 = some B.f33__law_alike) {x y : MV} (hn : 1 ≤ n) (hd : d ≤ 64) (hx : datS d x = true) (hy : datS 0 y = true) (w : Wf h) : run T P n 33 [.v x, .v y] h = .ok (.v (.bl (decide (x = y)))) h := by
  obtain ⟨n, rfl⟩ : ∃ m, n = m + 1 := ⟨n - 1, by omega⟩
  rw [run_succ h33 rfl]
  refine Eq.trans (congrArg _ ?_) (finish_ret0 w)
  have q := datS_dat _ _ hx
  have isn : ∀ x : MV, cmpO .isn (.v x) (.v .non) h = .ok (.v (.bl (decide (LV.v x = .v .non)))) h := fun x => rfl
  cases y with
  | non =>
    have e := eq_non (h := h) q hd
    cases x <;> (simp at e; simp [B.f33__law_alike, B.c_f33__law_alike, isi_v, ty_beq, tyAny, tyIs, isn, eq_bb, e])
    all_goals (cases d <;> simp [datS] at hx)
  | str s =>
    have e := eq_str (h := h) (s := s) q (by simpa [datS] using hy) hd
    cases x with
    | str t =>
      by_cases c : t = s
      · simp [c] at e; simp [B.f33__law_alike, B.c_f33__law_alike, isi_v, ty_beq, tyAny, tyIs, isn, eq_bb, c, e]
      · simp [c] at e; simp [B.f33__law_alike, B.c_f33__law_alike, isi_v, ty_beq, tyAny, tyIs, isn, eq_bb, c, e]
    | _ => simp at e; simp [B.f33__law_alike, B.c_f33__law_alike, isi_v, ty_beq, tyAny, tyIs, isn, eq_bb, e]
  | bl b =>
    cases x with
    | bl a => cases a <;> cases b <;> simp [B.f33__law_alike, B.c_f33__law_alike, isi_v, ty_beq, tyAny, tyIs, isn, eq_bb]
    | scr xs => cases d <;> simp [datS] at hx
    | ins c xs => cases d <;> simp [datS] at hx
    | dct c xs => cases d <;> simp [datS] at hx
    | exo c a0 d0 xs => cases d <;> simp [datS] at hx
    | _ => simp [B.f33__law_alike, B.c_f33__law_alike, isi_v, ty_beq, tyAny, tyIs, isn, eq_bb]
  | int j =>
    cases x with
    | int a => by_cases c : a = j <;> simp [B.f33__law_alike, B.c_f33__law_alike, isi_v, ty_beq, tyAny, tyIs, isn, eq_bb, eq_ii, c]
    | scr xs => cases d <;> simp [datS] at hx
    | ins c xs => cases d <;> simp [datS] at hx
    | dct c xs => cases d <;> simp [datS] at hx
    | exo c a0 d0 xs => cases d <;> simp [datS] at hx
    | _ => simp [B.f33__law_alike, B.c_f33__law_alike, isi_v, ty_beq, tyAny, tyIs, isn, eq_bb]
  | _ => simp [datS] at hy
theorem alike_e3 (zs : List Nat) : cmpO .eq (.v (.lst (zs.map fun k : Nat => MV.int (0 + (k : Int))))) (.v (.lst [])) h = .ok (.v (.bl (decide (zs.map (fun k : Nat => MV.int (0 + (k : Int))) = [])))) h :=
  (eq_dat 1 1 rfl rfl (by simp [datI]) rfl (by decide) (by decide)).trans (by simp)
theorem alike_spec (h33 : P 33 = some B.f33__law_alike) : ∀ (d n : Nat) (x y : MV) (h : MH), d + 1 ≤ n → d ≤ 64 → datS d x = true → datS d y = true → Wf h → run T P n 33 [.v x, .v y] h = .ok (.v (.bl (decide (x = y)))) h := by
  intro d
  induction d with
  | zero =>
    intro n x y h hn hd hx hy w
    exact alike_scal h33 hn hd hx hy w
  | succ d ih =>
    intro n x y h hn hd hx hy w
    by_cases hy0 : datS 0 y = true
    · exact alike_scal h33 (by omega) hd hx hy0 w
    obtain ⟨n, rfl⟩ : ∃ m, n = m + 1 := ⟨n - 1, by omega⟩
    rw [run_succ h33 rfl]
    refine Eq.trans (congrArg _ ?_) (finish_ret0 w)
    cases y with
    | tup ys =>
      simp only [datS, Bool.and_eq_true, decide_eq_true_eq, List.all_eq_true] at hy
      cases x with
      | tup xs =>
        simp only [datS, Bool.and_eq_true, decide_eq_true_eq, List.all_eq_true] at hx
        by_cases hl : xs.length = ys.length
        · have e := alike_comp (T := T) (P := P) (h := h) (n := n) (X := .tup xs) (Y := .tup ys) (fun k hk => (idx_at hk).2) (fun k hk => (idx_at hk).2) hl hy.1 (fun x hx' y hy' => ih n x y h (by omega) (by omega) (hx.2 x hx') (hy.2 y hy') w)
          have e2 := lists_eq hl
          have e4 := itRng_nat (n := ys.length) (by omega)
          have e5 : decide (MV.tup xs = MV.tup ys) = decide (xs = ys) := by by_cases c : xs = ys <;> simp [c]
          rw [e5, ← e2]
          simp -implicitDefEqProofs [-Int.zero_add, -List.map_eq_nil_iff, B.f33__law_alike, B.c_f33__law_alike, isi_v, ty_beq, tyAny, tyIs, ne_bb, ne_ii, hl, e4, e, kCo3_f, alike_e3]
        · have hl2 : ¬ (xs.length : Int) = ys.length := by omega
          have c : xs ≠ ys := by rintro rfl; exact hl rfl
          simp [B.f33__law_alike, B.c_f33__law_alike, isi_v, ty_beq, tyAny, tyIs, ne_bb, ne_ii, hl2, c]
      | scr xs => simp [datS] at hx
      | ins c xs => simp [datS] at hx
      | dct c xs => simp [datS] at hx
      | exo c a0 d0 xs => simp [datS] at hx
      | _ => simp [B.f33__law_alike, B.c_f33__law_alike, isi_v, ty_beq, tyAny, tyIs, ne_bb]
    | lst ys =>
      simp only [datS, Bool.and_eq_true, decide_eq_true_eq, List.all_eq_true] at hy
      cases x with
      | lst xs =>
        simp only [datS, Bool.and_eq_true, decide_eq_true_eq, List.all_eq_true] at hx
        by_cases hl : xs.length = ys.length
        · have e := alike_comp (T := T) (P := P) (h := h) (n := n) (X := .lst xs) (Y := .lst ys) (fun k hk => (idx_at hk).1) (fun k hk => (idx_at hk).1) hl hy.1 (fun x hx' y hy' => ih n x y h (by omega) (by omega) (hx.2 x hx') (hy.2 y hy') w)
          have e2 := lists_eq hl
          have e4 := itRng_nat (n := ys.length) (by omega)
          have e5 : decide (MV.lst xs = MV.lst ys) = decide (xs = ys) := by by_cases c : xs = ys <;> simp [c]
          rw [e5, ← e2]
          simp -implicitDefEqProofs [-Int.zero_add, -List.map_eq_nil_iff, B.f33__law_alike, B.c_f33__law_alike, isi_v, ty_beq, tyAny, tyIs, ne_bb, ne_ii, hl, e4, e, kCo3_f, alike_e3]
        · have hl2 : ¬ (xs.length : Int) = ys.length := by omega
          have c : xs ≠ ys := by rintro rfl; exact hl rfl
          simp [B.f33__law_alike, B.c_f33__law_alike, isi_v, ty_beq, tyAny, tyIs, ne_bb, ne_ii, hl2, c]
      | scr xs => simp [datS] at hx
      | ins c xs => simp [datS] at hx
      | dct c xs => simp [datS] at hx
      | exo c a0 d0 xs => simp [datS] at hx
      | _ => simp [B.f33__law_alike, B.c_f33__law_alike, isi_v, ty_beq, tyAny, tyIs, ne_bb]
    | non => simp [datS] at hy0
    | bl b => simp [datS] at hy0
    | int j => simp [datS] at hy0
    | str s => simp [datS] at hy hy0; rw [hy] at hy0; cases hy0
    | scr xs => simp [datS] at hy
    | ins c xs => simp [datS] at hy
    | dct c xs => simp [datS] at hy
    | exo c a0 d0 xs => simp [datS] at hy
end
end SC

namespace SC
open PySem L2
theorem enumL_eq {xs : List MV} : enumL xs = xs.zipIdx.map fun p => .v (.tup [.int (p.2 : Int), p.1]) := by
  unfold enumL
  apply List.ext_getElem?
  intro i
  simp only [List.getElem?_zipWith, List.getElem?_map, List.getElem?_zipIdx, List.getElem?_range]
  by_cases hi : i < xs.length
  · simp [hi]
  · simp [hi]
section
variable {T : Tab} {P : Nat → Option Fn} {h : MH} {n : Nat}
theorem in_L {x : MV} {ys : List LV} (hx : flat (.v x) = true) (hy : ys.all flat = true) {Y : LV} (e : seqOf h Y = some ys) (hs : ∀ s, Y ≠ .v (.str s)) : inF (.v x) Y h = some (ys.any fun z => eqL z (.v x)) := by
  unfold inF
  split
  · rename_i a b e1; exact absurd rfl (hs _)
  · simp [e, hx, hy]
theorem any_str {xs : List Str} {x : Str} : ((xs.map fun x => LV.v (.str x)).any fun z => eqL z (.v (.str x))) = decide (x ∈ xs) := by
  rw [Bool.eq_iff_iff, List.any_eq_true, decide_eq_true_eq]
  constructor
  · rintro ⟨z, hz, e⟩
    simp only [List.mem_map] at hz
    obtain ⟨y, hy, rfl⟩ := hz
    simp [eqL, eqM] at e
    rw [← e]; exact hy
  · intro hx
    exact ⟨_, List.mem_map.mpr ⟨x, hx, rfl⟩, by simp [eqL, eqM]⟩
theorem in_sT {xs : List Str} {x : Str} : cmpO .isin (.v (.str x)) (.v (sT xs)) h = .ok (.v (.bl (decide (x ∈ xs)))) h := by
  have e : inF (.v (.str x)) (.v (sT xs)) h = some (decide (x ∈ xs)) := by
    rw [in_L (ys := xs.map fun x => LV.v (.str x)) rfl (by simp [flat]) (by simp [seqOf, sT]) (by intro s; simp [sT]), any_str]
  simp only [cmpO, cmpF, e]; rfl
theorem notin_sT {xs : List Str} {x : Str} : cmpO .notin (.v (.str x)) (.v (sT xs)) h = .ok (.v (.bl (!decide (x ∈ xs)))) h := by
  have e : inF (.v (.str x)) (.v (sT xs)) h = some (decide (x ∈ xs)) := by
    rw [in_L (ys := xs.map fun x => LV.v (.str x)) rfl (by simp [flat]) (by simp [seqOf, sT]) (by intro s; simp [sT]), any_str]
  simp only [cmpO, cmpF, e]; rfl
theorem in_sR {k : Nat} {xs : List Str} {x : Str} (q : h[k]? = some (.lst (sL xs))) : cmpO .isin (.v (.str x)) (.r k) h = .ok (.v (.bl (decide (x ∈ xs)))) h := by
  have e : inF (.v (.str x)) (.r k) h = some (decide (x ∈ xs)) := by
    rw [in_L (ys := xs.map fun x => LV.v (.str x)) rfl (by simp [flat]) (by simp [seqOf, q, sL]) (by intro s; simp), any_str]
  simp only [cmpO, cmpF, e]; rfl
theorem idx_sT {xs : List Str} {i : Int} (h0 : 0 ≤ i) (hi : i.toNat < xs.length) : idxF (.v (sT xs)) (.v (.int i)) h = .ok (.v (.str xs[i.toNat])) h := by
  have e : atI ((xs.map MV.str).map LV.v) i = some (.v (.str xs[i.toNat])) := atI_nat h0 (by simp [hi])
  rw [sT, idx_t, e]; rfl
theorem finish_nxt' {m : Nat} {h' : MH} {r : ME} (hm : h'.length = m) (w : Wf h') : finish false m (.nxt r h') = .ok (.v .non) h' := by
  subst hm; exact finish_nxt0 w
theorem asc_at {xs : List Str} (ha : Asc xs) {i : Nat} (hi : i + 1 < xs.length) : leS xs[i + 1] xs[i] = false := by
  have := List.pairwise_iff_getElem.mp ha i (i + 1) (by omega) hi (by omega)
  simp [leS, this]
abbrev condBody : CSs := (.cons (.asg (.nm 7) (.and (.cmp .gt (.var 5) (.cst (.int 0))) (.and (.call 0 (.cons (.var 6) .nil)) (.cmp .le (.var 6) (.idx (.var 4) (.bin .sub (.var 5) (.cst (.int 1)))))))) (.cons (.ife (.or (.not (.call 0 (.cons (.var 6) .nil))) (.or (.var 7) (.cmp .ge (.bin .add (.bin .mul (.var 3) (.blt .len (.cons (.var 1) .nil))) (.var 5)) (.cst (.int 8))))) (.cons .never .nil) .nil) (.cons (.ife (.and (.cmp .eq (.var 3) (.cst (.int 1))) (.cmp .isin (.var 6) (.var 1))) (.cons .never .nil) .nil) .nil)))
/-- the names of one side of a condition are looked at -/
theorem cond_side (E : BookEnv T P) (hn : 1 ≤ n) {a xs : List Str} {b x0 : Option LV} {p : Int} (hx : ∀ x ∈ xs, isName x = true) (asc : Asc xs) (hp : p = 0 ∨ (p = 1 ∧ ∀ x ∈ xs, x ∉ a)) (hm : p * a.length + xs.length ≤ 8) (w : Wf h) (z5 z6 z7 : Option LV) :
    ∃ y5 y6 y7, forL none (forStep T (run T P n) (.tup [(.nm 5), (.nm 6)]) condBody) (enumL (xs.map .str)) [x0, some (.v (sT a)), b, some (.v (.int p)), some (.v (sT xs)), z5, z6, z7] h = .nxt [x0, some (.v (sT a)), b, some (.v (.int p)), some (.v (sT xs)), y5, y6, y7] h := by
  rw [enumL_eq]
  obtain ⟨r', e, y5, y6, y7, er⟩ := forL_pureG (g := none) (h := h) (enc := fun q : MV × Nat => LV.v (.tup [.int (q.2 : Int), q.1])) (step := forStep T (run T P n) (.tup [(.nm 5), (.nm 6)]) condBody) rfl (σ := Unit)
    (fun _ r => ∃ z5 z6 z7, r = [x0, some (.v (sT a)), b, some (.v (.int p)), some (.v (sT xs)), z5, z6, z7]) (fun _ _ => ()) (xs.map MV.str).zipIdx () [x0, some (.v (sT a)), b, some (.v (.int p)), some (.v (sT xs)), z5, z6, z7] (by
      rintro _ ⟨y, i⟩ r hy ⟨z5, z6, z7, rfl⟩
      rw [List.mem_zipIdx_iff_getElem?] at hy
      have hi : i < xs.length := by
        have := (List.getElem?_eq_some_iff.mp hy).1; simpa using this
      obtain rfl : y = .str xs[i] := by
        have := (List.getElem?_eq_some_iff.mp hy).2; simpa using this.symm
      have nm := name_spec (T := T) E.p0 hn xs[i] (by have := isName_len (hx _ (List.getElem_mem hi)); omega) (isName_ok (hx _ (List.getElem_mem hi))) w
      rw [hx _ (List.getElem_mem hi)] at nm
      have m8 : ¬ (8 : Int) ≤ p * a.length + i := by omega
      have p64 : -(2 ^ 64 : Int) < p ∧ p < 2 ^ 64 := by rcases hp with rfl | ⟨rfl, _⟩ <;> omega
      refine ⟨[x0, some (.v (sT a)), b, some (.v (.int p)), some (.v (sT xs)), some (.v (.int i)), some (.v (.str xs[i])), some (.v (.bl false))], ?_, _, _, _, rfl⟩
      have last : ∀ {v5 v7 : Option LV}, evS T (run T P n) (.ife (.and (.cmp .eq (.var 3) (.cst (.int 1))) (.cmp .isin (.var 6) (.var 1))) (.cons .never .nil) .nil) [x0, some (.v (sT a)), b, some (.v (.int p)), some (.v (sT xs)), v5, some (.v (.str xs[i])), v7] h = .nxt [x0, some (.v (sT a)), b, some (.v (.int p)), some (.v (sT xs)), v5, some (.v (.str xs[i])), v7] h := by
        intro v5 v7
        rcases hp with rfl | ⟨rfl, q⟩
        · simp [eq_ii]
        · simp [eq_ii, in_sT, q _ (List.getElem_mem hi)]
      have mul : binF .mul (.v (.int p)) (.v (.int (a.length : Int))) h = .ok (.v (.int (p * a.length))) h := by
        rw [mul_i, if_pos (Or.inl p64)]; rfl
      generalize hl : CS.ife (.and (.cmp .eq (.var 3) (.cst (.int 1))) (.cmp .isin (.var 6) (.var 1))) (.cons .never .nil) .nil = lastS at last
      simp only [forStep_eq, condBody, hl]
      cases i with
      | zero =>
        have m8' : ¬ (8 : Int) ≤ p * a.length := by simpa using m8
        simp -implicitDefEqProofs [nm, len_sT, mul, m8', last]
      | succ i =>
        have e1 := idx_sT (h := h) (xs := xs) (i := ((i + 1 : Nat) : Int) - 1) (by omega) (by omega)
        have e2 := asc_at asc hi
        have e3 : (((i + 1 : Nat) : Int) - 1).toNat = i := by omega
        simp only [e3] at e1
        have g0 : (0 : Int) < ((i + 1 : Nat) : Int) := by omega
        simp -implicitDefEqProofs [-Int.natCast_add, nm, len_sT, mul, m8, last, e1, e2, g0]) ⟨z5, z6, z7, rfl⟩
  exact ⟨y5, y6, y7, by rw [e, er]⟩
end
end SC

namespace SC
open PySem L2
section
variable {T : Tab} {P : Nat → Option Fn} {h : MH} {n : Nat}
theorem setF_top {f c : Nat} {x : LV} {fs : List (Nat × LV)} (hf : fs.length < 1000) (hm : f ∈ T.lay c) : setFO T f (.r h.length) x (h ++ [.ins c fs]) = some (h ++ [.ins c (setFs f x fs)]) := by
  simp only [setFO, top_get, hf, hm, and_self, if_true, top_set]
theorem wfTo_app {t : MH} (w : Wf h) : wfTo h.length (h ++ t) = true := by rw [wfTo_iff, List.take_left]; exact w
/-- an object that never changes is made -/
theorem makeEnd_v {c : Nat} {fs : List (Nat × LV)} {vs : List MV} (hf : T.frozen c = true) (hl : fs.map (·.1) = T.lay c) (hv : fs.map (·.2) = vs.map .v) (w : Wf h) : makeEnd T c h.length (h ++ [.ins c fs]) = .ok (.v (.ins c vs)) h := by
  simp only [makeEnd, hf, if_true, top_get]
  rw [if_pos ⟨by trivial, hl, by simp, wfTo_app w⟩, hv, pures_v]
  simp
variable (E : BookEnv T P)
include E
theorem cond_init {a b : List Str} (ok : CondOk a b) (hn : 2 ≤ n) (w : Wf h) : run T P n 14 [.r h.length, .v (sT a), .v (sT b)] (h ++ [.ins 2 []]) = .ok (.v .non) (h ++ [.ins 2 [(8, .v (sT a)), (9, .v (sT b))]]) := by
  obtain ⟨n, rfl⟩ : ∃ m, n = m + 1 := ⟨n - 1, by omega⟩
  rw [run_succ E.p14 rfl]
  have w0 : Wf (h ++ [.ins 2 []]) := w.push rfl
  have w2 : Wf (h ++ [.ins 2 [(8, .v (sT a)), (9, .v (sT b))]]) := w.push rfl
  have m := ok.many
  obtain ⟨y5, y6, y7, e1⟩ := cond_side E (n := n) (h := h ++ [.ins 2 []]) (a := a) (xs := a) (b := some (.v (sT b))) (x0 := some (.r h.length)) (p := 0) (by omega) ok.na ok.aa (.inl rfl) (by omega) w0 none none none
  obtain ⟨u5, u6, u7, e2⟩ := cond_side E (n := n) (h := h ++ [.ins 2 []]) (a := a) (xs := b) (b := some (.v (sT b))) (x0 := some (.r h.length)) (p := 1) (by omega) ok.nb ok.ab (.inr ⟨rfl, ok.apart⟩) (by omega) w0 y5 y6 y7
  have i1 : itEnum (.v (.tup [sT a, sT b])) (h ++ [.ins 2 []]) = some ⟨[.v (.tup [.int 0, sT a]), .v (.tup [.int 1, sT b])], none⟩ := by simp [itEnum_tup, enumL, List.range, List.range.loop]
  have i2 : ∀ xs : List Str, itEnum (.v (sT xs)) (h ++ [.ins 2 []]) = some ⟨enumL (xs.map .str), none⟩ := fun xs => by simp [sT]
  have s1 := setF_top (T := T) (h := h) (f := 8) (c := 2) (x := .v (sT a)) (fs := []) (by decide) (by simp [E.l2])
  have s2 := setF_top (T := T) (h := h) (f := 9) (c := 2) (x := .v (sT b)) (fs := [(8, .v (sT a))]) (by simp) (by simp [E.l2])
  refine Eq.trans (congrArg _ ?_) (finish_nxt' (r := [some (.r h.length), some (.v (sT a)), some (.v (sT b)), some (.v (.int 1)), some (.v (sT b)), u5, u6, u7]) (by simp) w2)
  simp only [setFs, if_neg (show ¬ (8 : Nat) = 9 by decide)] at s1 s2
  simp -implicitDefEqProofs [B.f14_Condition___init__, B.c_f14_Condition___init__, i1, i2, e1, e2, s1, s2]
theorem mk_cond {a b : List Str} (ok : CondOk a b) (hn : 2 ≤ n) (w : Wf h) : kMk T (run T P n) 2 (.ok [.v (sT a), .v (sT b)] h) = .ok (.v (condV a b)) h := by
  rw [kMk_ok, E.i2, kMk1_some, cond_init E ok hn w, kMk2_ok, kMk3_non]
  exact makeEnd_v E.f2 (by simp [E.l2]) (by simp [condV]) w
theorem rule_init {nm ru : Str} {c i : MV} (h1 : isName nm = true) (h2 : isName ru = true) (hn : 2 ≤ n) (w : Wf h) : run T P n 2 [.r h.length, .v (.str nm), .v c, .v (.str ru), .v i] (h ++ [.ins 0 []]) = .ok (.v .non) (h ++ [.ins 0 [(0, .v (.str nm)), (1, .v c), (2, .v (.str ru)), (3, .v i)]]) := by
  obtain ⟨n, rfl⟩ : ∃ m, n = m + 1 := ⟨n - 1, by omega⟩
  rw [run_succ E.p2 rfl]
  have w0 : Wf (h ++ [.ins 0 []]) := w.push rfl
  have w2 : Wf (h ++ [.ins 0 [(0, .v (.str nm)), (1, .v c), (2, .v (.str ru)), (3, .v i)]]) := w.push rfl
  have e1 := name_spec (T := T) E.p0 (n := n) (by omega) nm (by have := isName_len h1; omega) (isName_ok h1) w0
  have e2 := name_spec (T := T) E.p0 (n := n) (by omega) ru (by have := isName_len h2; omega) (isName_ok h2) w0
  rw [h1] at e1
  rw [h2] at e2
  have s1 := setF_top (T := T) (h := h) (f := 0) (c := 0) (x := .v (.str nm)) (fs := []) (by simp) (by simp [E.l0])
  have s2 := setF_top (T := T) (h := h) (f := 1) (c := 0) (x := .v c) (fs := [(0, .v (.str nm))]) (by simp) (by simp [E.l0])
  have s3 := setF_top (T := T) (h := h) (f := 2) (c := 0) (x := .v (.str ru)) (fs := [(0, .v (.str nm)), (1, .v c)]) (by simp) (by simp [E.l0])
  have s4 := setF_top (T := T) (h := h) (f := 3) (c := 0) (x := .v i) (fs := [(0, .v (.str nm)), (1, .v c), (2, .v (.str ru))]) (by simp) (by simp [E.l0])
  simp [setFs] at s1 s2 s3 s4
  refine Eq.trans (congrArg _ ?_) (finish_nxt' (r := [some (.r h.length), some (.v (.str nm)), some (.v c), some (.v (.str ru)), some (.v i)]) (by simp) w2)
  simp -implicitDefEqProofs [B.f2_Rule___init__, B.c_f2_Rule___init__, e1, e2, s1, s2, s3, s4]
theorem mk_rule {nm ru : Str} {c i : MV} (h1 : isName nm = true) (h2 : isName ru = true) (hn : 2 ≤ n) (w : Wf h) : kMk T (run T P n) 0 (.ok [.v (.str nm), .v c, .v (.str ru), .v i] h) = .ok (.v (.ins 0 [.str nm, c, .str ru, i])) h := by
  rw [kMk_ok, E.i0, kMk1_some, rule_init E h1 h2 hn w, kMk2_ok, kMk3_non]
  exact makeEnd_v E.f0 (by simp [E.l0]) (by simp) w
theorem made_spec (h38 : P 38 = some B.f38__law_made) {fs : List Str} : ∀ (d n : Nat) (ds : List DR) (h : MH), d + 3 ≤ n → (∀ x ∈ ds, DRok fs d x) → ds.length ≤ 1000 → Wf h → run T P n 38 [.v (.tup (ds.map drV))] h = .ok (.v (.tup (ds.map ruleV))) h
  | d, n, ds, h, hn, ok, hl, w => by
    obtain ⟨n, rfl⟩ : ∃ m, n = m + 1 := ⟨n - 1, by omega⟩
    rw [run_succ h38 rfl]
    refine Eq.trans (congrArg _ ?_) (finish_ret (t := [.lst ((ds.map ruleV).map .v)]) w)
    have w1 : ∀ xs : List MV, Wf (h ++ [.lst (xs.map .v)]) := fun xs => w.pushP pureC_v
    obtain ⟨r1, h1, e1, rfl, z2, z3, z4, z5, z6, rfl⟩ := forL_inv (step := forStep T (run T P n) (.tup [(.nm 2), (.nm 3), (.nm 4), (.nm 5), (.nm 6)]) (.cons (.expr (.bm .append (.var 1) (.cons (.make 0 (.cons (.var 2) (.cons (.make 2 (.cons (.var 3) (.cons (.var 4) .nil))) (.cons (.var 5) (.cons (.call 38 (.cons (.var 6) .nil)) .nil))))) .nil))) .nil)) (enc := LV.v ∘ drV)
      (fun pre r' h' => h' = h ++ [.lst ((pre.map ruleV).map .v)] ∧ ∃ z2 z3 z4 z5 z6, r' = [some (.v (.tup (ds.map drV))), some (.r h.length), z2, z3, z4, z5, z6]) ds [some (.v (.tup (ds.map drV))), some (.r h.length), none, none, none, none, none] (h ++ [.lst []]) (by
        rintro pre x r' h' hp hx ⟨rfl, z2, z3, z4, z5, z6, rfl⟩
        have hx1 := ok x hx
        cases d with
        | zero => simp [DRok] at hx1
        | succ d =>
        obtain ⟨nm, a, b, ru, i⟩ := x
        simp only [DRok] at hx1
        obtain ⟨k1, k2, k3, k4, k5, k6, k7⟩ := hx1
        have c1 := made_spec h38 d n i (h ++ [.lst ((pre.map ruleV).map .v)]) (by omega) k7 (by omega) (w1 _)
        have c2 := mk_cond E (n := n) k3 (by omega) (w1 (pre.map ruleV))
        have c3 := mk_rule E (n := n) (c := condV a b) (i := .tup (i.map ruleV)) k1 k2 (by omega) (w1 (pre.map ruleV))
        have hq : pre.length < 16777216 := by have := hp.length_le; simp at this; omega
        have c4 := append_r (h := h ++ [.lst ((pre.map ruleV).map .v)]) (k := h.length) (x := .v (ruleV (.mk nm a b ru i))) top_get
        rw [top_set, if_pos (by simpa using hq)] at c4
        have v2 : recvOk .append (.r h.length) (h ++ [.lst ((pre.map ruleV).map .v)]) = true := recv_app top_get
        refine ⟨_, _, ?_, rfl, some (.v (.str nm)), some (.v (sT a)), some (.v (sT b)), some (.v (.str ru)), some (.v (.tup (i.map drV))), rfl⟩
        simp only [forStep_eq, Function.comp, drV_mk]
        rw [ruleV_mk] at c4
        simp -implicitDefEqProofs [-List.map_map, v2, c1, c2, c3, c4]
        simp [ruleV_mk]) ⟨rfl, none, none, none, none, none, rfl⟩
    rw [← List.map_map] at e1
    have t1 := tuple_r (T := T) (h := h ++ [.lst ((ds.map ruleV).map .v)]) (k := h.length) top_get pures_v
    simp -implicitDefEqProofs [-List.map_map, B.f38__law_made, B.c_f38__law_made, e1, t1]
end
end SC

namespace SC
open PySem L2
theorem flat_len' {α β : Type} {f : α → List β} {pre xs : List α} {x : α} (hp : (pre ++ [x]) <+: xs) : (pre.map f).flatten.length + (f x).length ≤ (xs.map f).flatten.length := by
  obtain ⟨t, rfl⟩ := hp
  simp
/-! ### rows of a book -/
abbrev Row := DR × List MV × Nat
def rowV (q : Row) : MV := .tup [ruleV q.1, .lst q.2.1, .int (q.2.2 : Int)]
def rowsS : Nat → List MV → List DR → List Row
  | 0, _, _ => []
  | d + 1, o, ds => (ds.zipIdx.map fun p => (p.1, o, p.2) :: rowsS d (o ++ [ruleV p.1]) p.1.inner).flatten
theorem DRok.inner {fs : List Str} {d : Nat} {x : DR} (h : DRok fs (d + 1) x) : ∀ y ∈ x.inner, DRok fs d y := by
  obtain ⟨n, a, b, r, i⟩ := x
  simp only [DRok] at h
  exact h.2.2.2.2.2.2
theorem rowsS_mem {fs : List Str} : ∀ (d : Nat) (o : List MV) (ds : List DR), (∀ x ∈ ds, DRok fs d x) → ∀ q ∈ rowsS d o ds, (∃ e, DRok fs (e + 1) q.1) ∧ q.2.1.length < o.length + d ∧ (q.2.1 = [] → q.2.2 < ds.length)
  | 0, _, _, _, q, hq => by simp [rowsS] at hq
  | d + 1, o, ds, ok, q, hq => by
    simp only [rowsS, List.mem_flatten, List.mem_map] at hq
    obtain ⟨l, ⟨⟨x, k⟩, hp, rfl⟩, hq⟩ := hq
    rw [List.mem_zipIdx_iff_getElem?] at hp
    have hx : x ∈ ds := List.mem_of_getElem? hp
    have hk : k < ds.length := (List.getElem?_eq_some_iff.mp hp).1
    simp only [List.mem_cons] at hq
    rcases hq with rfl | hq
    · exact ⟨⟨d, ok x hx⟩, by simp, fun _ => hk⟩
    · obtain ⟨a, b, c⟩ := rowsS_mem d (o ++ [ruleV x]) x.inner (ok x hx).inner q hq
      refine ⟨a, by simp at b; omega, fun e => ?_⟩
      exfalso
      have := rowsS_out d (o ++ [ruleV x]) x.inner q hq
      rw [e] at this
      simp at this
where rowsS_out : ∀ (d : Nat) (o : List MV) (ds : List DR) (q : Row), q ∈ rowsS d o ds → o.length ≤ q.2.1.length
  | 0, _, _, q, hq => by simp [rowsS] at hq
  | d + 1, o, ds, q, hq => by
    simp only [rowsS, List.mem_flatten, List.mem_map] at hq
    obtain ⟨l, ⟨⟨x, k⟩, hp, rfl⟩, hq⟩ := hq
    simp only [List.mem_cons] at hq
    rcases hq with rfl | hq
    · simp
    · have := rowsS_out d (o ++ [ruleV x]) x.inner q hq
      simp at this; omega
theorem rowsS_names {fs : List Str} : ∀ (d : Nat) (o : List MV) (ds : List DR), (∀ x ∈ ds, DRok fs d x) → (rowsS d o ds).map (fun q => q.1.name) = (ds.map dnames).flatten
  | 0, _, ds, ok => by
    cases ds with
    | nil => rfl
    | cons x ds => exact absurd (ok x List.mem_cons_self) (by simp [DRok])
  | d + 1, o, ds, ok => by
    simp only [rowsS, List.map_flatten, List.map_map]
    congr 1
    have : ds.map dnames = ds.zipIdx.map (dnames ∘ Prod.fst) := by rw [← List.map_map, List.zipIdx_map_fst]
    rw [this]
    apply List.map_congr_left
    rintro ⟨x, k⟩ hp
    rw [List.mem_zipIdx_iff_getElem?] at hp
    have hx : x ∈ ds := List.mem_of_getElem? hp
    have ih := rowsS_names d (o ++ [ruleV x]) x.inner (ok x hx).inner
    obtain ⟨n, a, b, r, i⟩ := x
    simp only [Function.comp, List.map_cons, dnames_mk]
    exact congrArg (n :: ·) ih
section
variable {T : Tab} {P : Nat → Option Fn} {h : MH} {n : Nat}
theorem ext_v {k : Nat} {xs ys : List MV} (e : h[k]? = some (.lst (xs.map .v))) (hl : xs.length + ys.length ≤ 16777216) : bmF .extend (.r k) [.v (.lst ys)] h = .ok (.v .non) (h.set k (.lst ((xs ++ ys).map .v))) := by
  simp only [bmF, un1, extendF, lstOf, e]
  rw [if_pos (by simpa using hl)]
  simp
theorem app_v {k : Nat} {xs : List MV} {x : MV} (e : h[k]? = some (.lst (xs.map .v))) (hl : xs.length < 16777216) : bmF .append (.r k) [.v x] h = .ok (.v .non) (h.set k (.lst ((xs ++ [x]).map .v))) := by
  rw [append_r e, if_pos (by simpa using hl)]
  simp
theorem frz_v {k : Nat} {xs : List MV} (e : h[k]? = some (.lst (xs.map .v))) : freeze (.r k) h = .ok (.v (.lst xs)) (h.set k .dead) := by
  simp only [freeze, e, pures_v]; rfl
theorem enum_map {α : Type} {f : α → MV} {xs : List α} : enumL (xs.map f) = xs.zipIdx.map fun p => .v (.tup [.int (p.2 : Int), f p.1]) := by
  rw [enumL_eq, List.zipIdx_map, List.map_map]; rfl
theorem rows_spec (E : BookEnv T P) {fs : List Str} : ∀ (d n : Nat) (ds : List DR) (o : List MV) (h : MH), d + 1 ≤ n → (∀ x ∈ ds, DRok fs d x) → o.length + d ≤ 100 → (rowsS d o ds).length ≤ 1000000 → Wf h → run T P n 7 [.v (.tup (ds.map ruleV)), .v (.lst o)] h = .ok (.v (.lst ((rowsS d o ds).map rowV))) h
  | d, n, ds, o, h, hn, ok, ho, hl, w => by
    obtain ⟨n, rfl⟩ : ∃ m, n = m + 1 := ⟨n - 1, by omega⟩
    rw [run_succ E.p7 rfl]
    refine Eq.trans (congrArg _ ?_) (finish_ret (t := [.dead]) w)
    have w1 : ∀ xs : List MV, Wf (h ++ [.lst (xs.map .v)]) := fun xs => w.pushP pureC_v
    have v1 : ∀ {xs : List MV}, recvOk .extend (.r h.length) (h ++ [.lst (xs.map .v)]) = true := recv_ext top_get
    have v2 : ∀ {xs : List MV}, recvOk .append (.r h.length) (h ++ [.lst (xs.map .v)]) = true := recv_app top_get
    cases d with
    | zero =>
      obtain rfl : ds = [] := by
        cases ds with
        | nil => rfl
        | cons x ds => exact absurd (ok x List.mem_cons_self) (by simp [DRok])
      have f1 := frz_v (h := h ++ [.lst (([] : List MV).map .v)]) (k := h.length) top_get
      rw [top_set] at f1
      simp only [List.map_nil] at f1
      simp -implicitDefEqProofs [B.f7_rows_of, B.c_f7_rows_of, enumL, rowsS, f1]
    | succ d =>
      have g : ∀ p : DR × Nat, (p.1, o, p.2) :: rowsS d (o ++ [ruleV p.1]) p.1.inner = (fun p : DR × Nat => (p.1, o, p.2) :: rowsS d (o ++ [ruleV p.1]) p.1.inner) p := fun _ => rfl
      obtain ⟨r1, h1, e1, rfl, z3, z4, rfl⟩ := forL_inv (step := forStep T (run T P n) (.tup [(.nm 3), (.nm 4)]) (.cons (.expr (.bm .append (.var 2) (.cons (.tup (.cons (.var 4) (.cons (.var 1) (.cons (.var 3) .nil)))) .nil))) (.cons (.expr (.bm .extend (.var 2) (.cons (.call 7 (.cons (.attr 3 (.var 4)) (.cons (.bin .add (.var 1) (.lst (.cons (.var 4) .nil))) .nil))) .nil))) .nil))) (enc := fun p : DR × Nat => LV.v (.tup [.int (p.2 : Int), ruleV p.1]))
        (fun pre r' h' => h' = h ++ [.lst ((((pre.map fun p => (p.1, o, p.2) :: rowsS d (o ++ [ruleV p.1]) p.1.inner).flatten).map rowV).map .v)] ∧ ∃ z3 z4, r' = [some (.v (.tup (ds.map ruleV))), some (.v (.lst o)), some (.r h.length), z3, z4]) ds.zipIdx [some (.v (.tup (ds.map ruleV))), some (.v (.lst o)), some (.r h.length), none, none] (h ++ [.lst []]) (by
          rintro pre ⟨x, k⟩ r' h' hp hx ⟨rfl, z3, z4, rfl⟩
          have hs := flat_len' (f := fun p : DR × Nat => (p.1, o, p.2) :: rowsS d (o ++ [ruleV p.1]) p.1.inner) hp
          simp only [rowsS] at hl
          simp only [List.length_cons] at hs
          rw [List.mem_zipIdx_iff_getElem?] at hx
          have hx' : x ∈ ds := List.mem_of_getElem? hx
          have okx := (ok x hx').inner
          rw [List.map_append, List.flatten_append]
          generalize (List.map (fun p : DR × Nat => (p.1, o, p.2) :: rowsS d (o ++ [ruleV p.1]) p.1.inner) pre).flatten = l at hs
          have b1 := app_v (h := h ++ [.lst ((l.map rowV).map .v)]) (k := h.length) (x := rowV (x, o, k)) top_get (by simp; omega)
          have b2 := ext_v (h := h ++ [.lst ((l.map rowV ++ [rowV (x, o, k)]).map .v)]) (k := h.length) (ys := (rowsS d (o ++ [ruleV x]) x.inner).map rowV) top_get (by simp; omega)
          rw [top_set] at b1 b2
          have ih := rows_spec E d n x.inner (o ++ [ruleV x]) (h ++ [.lst ((l.map rowV ++ [rowV (x, o, k)]).map .v)]) (by omega) okx (by simp; omega) (by omega) (w1 _)
          have a1 : ∀ {h : MH}, binF .add (.v (.lst o)) (.v (.lst [ruleV x])) h = .ok (.v (.lst (o ++ [ruleV x]))) h := by
            intro h; rw [add_ll, if_pos (by simp; omega)]
          refine ⟨_, _, ?_, rfl, some (.v (.int k)), some (.v (ruleV x)), rfl⟩
          obtain ⟨nm, a, b, ru, i⟩ := x
          simp only [rowV] at b1
          simp only [DR.inner] at ih b2 ⊢
          have a2 : ∀ {h : MH}, kAt T (run T P n) 3 (.ok (.v (ruleV (.mk nm a b ru i))) h) = .ok (.v (.tup (i.map ruleV))) h := by
            intro h; rw [ruleV_mk]; exact at_inner E
          simp -implicitDefEqProofs [-List.map_map, -List.map_append, rowV, v1, v2, b1, a1, a2]
          simp only [rowV] at ih b2
          simp -implicitDefEqProofs [-List.map_map, -List.map_append, rowV, ih, v1, b2]
          simp [rowV]) ⟨rfl, none, none, rfl⟩
      have f1 := frz_v (h := h ++ [.lst (((rowsS (d + 1) o ds).map rowV).map .v)]) (k := h.length) top_get
      rw [top_set] at f1
      rw [← rowsS] at e1
      simp -implicitDefEqProofs [-List.map_map, B.f7_rows_of, B.c_f7_rows_of, enum_map, e1, f1]
end
end SC

namespace SC
open PySem L2
/-! ### sorted texts -/
theorem insS_permP {x : Str} : ∀ {xs : List Str}, (insS x xs).Perm (x :: xs)
  | [] => by simp [insS]
  | y :: ys => by
    rw [insS]
    split
    · exact .refl _
    · exact (List.Perm.cons y insS_permP).trans (List.Perm.swap x y ys)
theorem sortS_permP : ∀ {xs : List Str}, (sortS xs).Perm xs
  | [] => by simp [sortS]
  | x :: xs => by rw [sortS]; exact insS_permP.trans (List.Perm.cons x sortS_permP)
section
variable {T : Tab} {P : Nat → Option Fn} {h : MH} {n : Nat}
theorem sorted_sT {xs : List Str} (hl : xs.length < 64) : bltF T .sorted [.v (sT xs)] h = .ok (.v (.lst ((sortS xs).map .str))) h := by
  have e : (seqOf h (.v (sT xs))).bind strsL = some xs := by
    simp only [seqOf, sT, Option.bind, List.map_map]; exact strsL_map
  simp only [bltF, un1, sortedF, e, hl, if_true]; rfl
theorem add_sT {xs ys : List Str} (hl : xs.length + ys.length ≤ 16777216) : binF .add (.v (sT xs)) (.v (sT ys)) h = .ok (.v (sT (xs ++ ys))) h := by
  simp only [sT, add_tt]
  rw [if_pos (by simpa using hl)]
  simp
theorem tuple_strs {xs : List Str} : bltF T .tuple [.v (.lst (xs.map .str))] h = .ok (.v (sT xs)) h := by rw [tuple_l]; rfl
theorem at_names (E : BookEnv T P) {a b : List Str} (hl : a.length + b.length < 64) (hn : 1 ≤ n) (w : Wf h) : kAt T (run T P n) 17 (.ok (.v (condV a b)) h) = .ok (.v (sT (sortS (a ++ b)))) h := by
  obtain ⟨n, rfl⟩ : ∃ m, n = m + 1 := ⟨n - 1, by omega⟩
  have e : run T P (n + 1) 17 [.v (condV a b)] h = .ok (.v (sT (sortS (a ++ b)))) h := by
    rw [run_succ E.p17 rfl]
    refine Eq.trans (congrArg _ ?_) (finish_ret0 w)
    have q1 : ∀ {F : Phi}, kAt T F 8 (.ok (.v (condV a b)) h) = .ok (.v (sT a)) h := by intro F; simp [condV, E.n2, E.l2]
    have q2 : ∀ {F : Phi}, kAt T F 9 (.ok (.v (condV a b)) h) = .ok (.v (sT b)) h := by intro F; simp [condV, E.n2, E.l2]; rfl
    have q3 := add_sT (h := h) (xs := a) (ys := b) (by omega)
    have q4 := sorted_sT (T := T) (h := h) (xs := a ++ b) (by simpa using hl)
    simp -implicitDefEqProofs [B.f17_Condition_names, B.c_f17_Condition_names, q1, q2, q3, q4, tuple_strs]
    rfl
  simp [condV, E.q2]
  rw [condV] at e
  rw [e]; rfl
def FactsOk (fs : List Str) : Prop := (∀ x ∈ fs, isName x = true) ∧ Asc fs ∧ 1 ≤ fs.length ∧ fs.length ≤ 60
theorem sT_datI {xs : List Str} (hx : ∀ x ∈ xs, strOk x = true) : datI 1 (sT xs) = true := by
  simp only [sT, datI, List.all_map, List.all_eq_true]
  intro x hx'
  simpa [datI] using hx x hx'
theorem facts_ok_spec (E : BookEnv T P) {fs : List Str} (ok : FactsOk fs) (hn : 2 ≤ n) (w : Wf h) : run T P n 1 [.v (sT fs)] h = .ok (.v .non) h := by
  obtain ⟨n, rfl⟩ : ∃ m, n = m + 1 := ⟨n - 1, by omega⟩
  obtain ⟨f1, f2, f3, f4⟩ := ok
  rw [run_succ E.p1 rfl]
  have e0 := eq_dat (h := h) (x := .v (sT fs)) (y := .v (.tup [])) 1 1 rfl rfl (sT_datI fun x hx => isName_ok (f1 x hx)) rfl (by decide) (by decide)
  have e00 : decide (sT fs = .tup []) = false := by
    cases fs with
    | nil => simp at f3
    | cons x fs => simp [sT]
  rw [e00] at e0
  obtain ⟨r', e1, y1, y2, er⟩ := forL_pureG (g := none) (h := h) (enc := fun q : Str × Nat => LV.v (.tup [.int (q.2 : Int), .str q.1])) (step := forStep T (run T P n) (.tup [(.nm 1), (.nm 2)]) (.cons (.ife (.or (.cmp .eq (.var 1) (.cst (.int 60))) (.or (.not (.call 0 (.cons (.var 2) .nil))) (.and (.cmp .gt (.var 1) (.cst (.int 0))) (.cmp .le (.var 2) (.idx (.var 0) (.bin .sub (.var 1) (.cst (.int 1)))))))) (.cons .never .nil) .nil) .nil)) rfl (σ := Unit)
    (fun _ r => ∃ z1 z2, r = [some (.v (sT fs)), z1, z2]) (fun _ _ => ()) fs.zipIdx () [some (.v (sT fs)), none, none] (by
      rintro _ ⟨y, i⟩ r hy ⟨z1, z2, rfl⟩
      rw [List.mem_zipIdx_iff_getElem?] at hy
      have hi : i < fs.length := (List.getElem?_eq_some_iff.mp hy).1
      obtain rfl : y = fs[i] := ((List.getElem?_eq_some_iff.mp hy).2).symm
      have nm := name_spec (T := T) E.p0 (n := n) (by omega) fs[i] (by have := isName_len (f1 _ (List.getElem_mem hi)); omega) (isName_ok (f1 _ (List.getElem_mem hi))) w
      rw [f1 _ (List.getElem_mem hi)] at nm
      have m60 : ¬ (i : Int) = 60 := by omega
      refine ⟨[some (.v (sT fs)), some (.v (.int i)), some (.v (.str fs[i]))], ?_, _, _, rfl⟩
      cases i with
      | zero => simp -implicitDefEqProofs [nm, eq_ii]
      | succ i =>
        have e1 := idx_sT (h := h) (xs := fs) (i := ((i + 1 : Nat) : Int) - 1) (by omega) (by omega)
        have e2 := asc_at f2 hi
        have e3 : (((i + 1 : Nat) : Int) - 1).toNat = i := by omega
        simp only [e3] at e1
        have g0 : (0 : Int) < ((i + 1 : Nat) : Int) := by omega
        simp -implicitDefEqProofs [-Int.natCast_add, nm, eq_ii, m60, e1, e2, g0]) ⟨none, none, rfl⟩
  subst er
  refine Eq.trans (congrArg _ ?_) (finish_nxt0 (r := [some (.v (sT fs)), y1, y2]) w)
  have i2 : itEnum (.v (sT fs)) h = some ⟨fs.zipIdx.map (fun q : Str × Nat => LV.v (.tup [.int (q.2 : Int), .str q.1])), none⟩ := by simp [sT, enum_map]
  simp -implicitDefEqProofs [B.f1_validate_facts, B.c_f1_validate_facts, e0, i2, e1]
end
end SC

namespace SC
open PySem L2
section
variable {T : Tab} {P : Nat → Option Fn} {h : MH} {n : Nat}
theorem eqF_nil {o : List MV} : eqF (.v (.lst o)) (.v (.lst [])) h = some (decide (o = [])) := by
  have s2 : SeqAt.shaped (.list []) = true := by decide
  cases o with
  | nil => simp [eqF, eqD, valOf, Option.bind, toD, toDs, s2, PyData.eqv, PyData.eqvAll]
  | cons x o =>
    simp only [eqF, eqD, valOf, Option.bind, toD, toDs, Option.map]
    cases e1 : toD x with
    | none => simp [eqN, lstOf]
    | some D =>
      cases e2 : toDs o with
      | none => simp [eqN, lstOf]
      | some Ds =>
        simp only [s2, and_true]
        by_cases c : SeqAt.shaped (.list (D :: Ds)) = true
        · simp [c, PyData.eqv, PyData.eqvAll]
        · simp [c, eqN, lstOf]
theorem eq_nilL {o : List MV} : cmpO .eq (.v (.lst o)) (.v (.lst [])) h = .ok (.v (.bl (decide (o = [])))) h := by
  simp only [cmpO, cmpF, eqF_nil]; rfl
theorem ne_nilL {o : List MV} : cmpO .ne (.v (.lst o)) (.v (.lst [])) h = .ok (.v (.bl (!decide (o = [])))) h := by
  simp only [cmpO, cmpF, eqF_nil]; rfl
theorem sL_snoc {xs : List Str} {x : Str} : sL xs ++ [.v (.str x)] = sL (xs ++ [x]) := by simp [sL]
theorem app_s {k : Nat} {xs : List Str} {x : Str} (e : h[k]? = some (.lst (sL xs))) (hl : xs.length < 16777216) : bmF .append (.r k) [.v (.str x)] h = .ok (.v .non) (h.set k (.lst (sL (xs ++ [x])))) := by
  rw [append_r e, sL_snoc, if_pos (by simpa using hl)]
theorem at_live {F : Phi} {m f c : Nat} {fl : List (Nat × LV)} {x : LV} (e : h[m]? = some (.ins c fl)) (hp : T.prop c f = none) (hm : f ∈ T.lay c) (hl : fl.lookup f = some x) : kAt T F f (.ok (.r m) h) = .ok x h := by
  simp [insOf, e, hp, hm, hl]
def bookF (fs : List Str) (rules : MV) (ru : Str) (rows : List Row) : List (Nat × LV) := [(4, .v (sT fs)), (5, .v rules), (6, .v (.str ru)), (7, .v (.lst (rows.map rowV)))]
/-- what is asked of a row -/
structure RowOk (fs : List Str) (q : Row) : Prop where
  cond : CondOk q.1.hold q.1.fail
  sub : ∀ x ∈ q.1.hold ++ q.1.fail, x ∈ fs
  deep : q.2.1.length ≤ 5
  many : q.2.1 = [] → q.2.2 < 40
theorem rows_ok_spec (E : BookEnv T P) {fs : List Str} {rules : MV} {ru : Str} {rows : List Row} {m : Nat} (e : h[m]? = some (.ins 1 (bookF fs rules ru rows))) (hr : ∀ q ∈ rows, RowOk fs q) (hd : (rows.map fun q => q.1.name).Nodup) (hl : rows.length ≤ 60) (hn : 2 ≤ n) (w : Wf h) : run T P n 9 [.r m] h = .ok (.v .non) h := by
  obtain ⟨n, rfl⟩ : ∃ m, n = m + 1 := ⟨n - 1, by omega⟩
  rw [run_succ E.p9 rfl]
  have w1 : ∀ xs : List Str, Wf (h ++ [.lst (sL xs)]) := fun xs => w.pushP sL_pureC
  have hm : m < h.length := (List.getElem?_eq_some_iff.mp e).1
  have e' : ∀ o, (h ++ [o])[m]? = some (.ins 1 (bookF fs rules ru rows)) := fun o => by rw [List.getElem?_append_left hm, e]
  have v2 : ∀ {xs : List Str}, recvOk .append (.r h.length) (h ++ [.lst (sL xs)]) = true := recv_app top_get
  have a7 : ∀ o, kAt T (run T P n) 7 (.ok (.r m) (h ++ [o])) = .ok (.v (.lst (rows.map rowV))) (h ++ [o]) := fun o => at_live (e' o) E.n1.2.2.2 (by simp [E.l1]) rfl
  have a4 : ∀ o, kAt T (run T P n) 4 (.ok (.r m) (h ++ [o])) = .ok (.v (sT fs)) (h ++ [o]) := fun o => at_live (e' o) E.n1.1 (by simp [E.l1]) rfl
  have hn1 : 1 ≤ n := by omega
  obtain ⟨r1, h1, e1, rfl, z2, z3, z4, z5, rfl⟩ := forL_inv (step := forStep T (run T P n) (.tup [(.nm 2), (.tup [(.nm 3), (.nm 4), (.nm 5)])]) (.cons (.ife (.cmp .isin (.attr 15 (.var 3)) (.var 1)) (.cons .never .nil) .nil) (.cons (.ife (.cmp .ne (.comp false (.nm 6) (.val (.attr 17 (.attr 16 (.var 3)))) (.cmp .notin (.var 6) (.attr 4 (.var 0))) (.var 6)) (.lst .nil)) (.cons .never .nil) .nil) (.cons (.ife (.cmp .gt (.blt .len (.cons (.var 4) .nil)) (.cst (.int 5))) (.cons .never .nil) .nil) (.cons (.ife (.or (.cmp .ge (.var 2) (.cst (.int 60))) (.and (.cmp .eq (.var 4) (.lst .nil)) (.cmp .ge (.var 5) (.cst (.int 40))))) (.cons .never .nil) .nil) (.cons (.expr (.bm .append (.var 1) (.cons (.attr 15 (.var 3)) .nil))) .nil)))))) (enc := fun p : Row × Nat => LV.v (.tup [.int (p.2 : Int), rowV p.1]))
        (fun pre r' h' => h' = h ++ [.lst (sL (pre.map fun p => p.1.1.name))] ∧ ∃ z2 z3 z4 z5, r' = [some (.r m), some (.r h.length), z2, z3, z4, z5, none]) rows.zipIdx [some (.r m), some (.r h.length), none, none, none, none, none] (h ++ [.lst []]) (by
          rintro pre ⟨⟨⟨nm, a, b, ru', i⟩, o, k⟩, j⟩ r' h' hp hx ⟨rfl, z2, z3, z4, z5, rfl⟩
          rw [List.mem_zipIdx_iff_getElem?] at hx
          have hj : j < rows.length := (List.getElem?_eq_some_iff.mp hx).1
          have ok := hr _ (List.mem_of_getElem? hx)
          obtain ⟨o1, o2, o3, o4⟩ := ok
          simp only [DR.hold, DR.fail] at o1 o2 o3 o4
          have hpl : pre.length < 16777216 := by have := hp.length_le; simp at this; omega
          have hnot : nm ∉ pre.map fun p => p.1.1.name := by
            obtain ⟨t, ht⟩ := hp
            have : rows.map (fun q => q.1.name) = (rows.zipIdx.map Prod.fst).map (fun q => q.1.name) := by rw [List.zipIdx_map_fst]
            rw [this, ← ht] at hd
            simp only [List.map_append, List.append_assoc, List.map_map] at hd
            rw [List.nodup_append] at hd
            intro hm
            exact hd.2.2 nm (by simpa [Function.comp] using hm) nm (by simp [DR.name]) rfl
          have c1 := in_sR (h := h ++ [.lst (sL (pre.map fun p => p.1.1.name))]) (k := h.length) (x := nm) top_get
          have c2 := app_s (h := h ++ [.lst (sL (pre.map fun p => p.1.1.name))]) (k := h.length) (x := nm) top_get (by simpa using hpl)
          rw [top_set] at c2
          rw [decide_eq_false hnot] at c1
          have mm := o1.many
          have c3 := at_names E (n := n) (a := a) (b := b) (by omega) hn1 (w1 (pre.map fun p => p.1.1.name))
          have fe : (sortS (a ++ b)).filter (fun x => !decide (x ∈ fs)) = [] := by
            rw [List.filter_eq_nil_iff]
            intro x hx
            have := o2 x (sortS_permP.mem_iff.mp hx)
            simp [this]
          have c4 := compL_filter (step := compStep T (run T P n) (.nm 6) (.cmp .notin (.var 6) (.attr 4 (.var 0))) (.var 6) [some (.r m), some (.r h.length), some (.v (.int j)), some (.v (ruleV (.mk nm a b ru' i))), some (.v (.lst o)), some (.v (.int k)), none]) (enc := LV.v ∘ MV.str) (p := fun x => !decide (x ∈ fs)) (f := fun x => LV.v (.str x)) (h := h ++ [.lst (sL (pre.map fun p => p.1.1.name))]) (sortS (a ++ b)) [] (by
            intro x hx
            have := o2 x (sortS_permP.mem_iff.mp hx)
            simp -implicitDefEqProofs [wipeR, a4, notin_sT, this]) (by have := (sortS_permP (xs := a ++ b)).length_eq; simp at this ⊢; omega)
          rw [fe] at c4
          have j60 : ¬ (60 : Int) ≤ j := by omega
          have g5 : ¬ (5 : Int) < o.length := by omega
          have last : evE T (run T P n) (.or (.cmp .ge (.var 2) (.cst (.int 60))) (.and (.cmp .eq (.var 4) (.lst .nil)) (.cmp .ge (.var 5) (.cst (.int 40))))) [some (.r m), some (.r h.length), some (.v (.int j)), some (.v (ruleV (.mk nm a b ru' i))), some (.v (.lst o)), some (.v (.int k)), none] (h ++ [.lst (sL (pre.map fun p => p.1.1.name))]) = .ok (.v (.bl false)) (h ++ [.lst (sL (pre.map fun p => p.1.1.name))]) := by
            by_cases c : o = []
            · have := o4 c
              have k40 : ¬ (40 : Int) ≤ k := by omega
              simp -implicitDefEqProofs [j60, eq_nilL, c, k40]
            · simp -implicitDefEqProofs [j60, eq_nilL, c]
          generalize hq : CE.or (.cmp .ge (.var 2) (.cst (.int 60))) (.and (.cmp .eq (.var 4) (.lst .nil)) (.cmp .ge (.var 5) (.cst (.int 40)))) = lastE at last
          have p1 : ∀ {h : MH}, Wf h → kAt T (run T P n) 15 (.ok (.v (ruleV (.mk nm a b ru' i))) h) = .ok (.v (.str nm)) h := fun w => by rw [ruleV_mk]; exact at_name E hn1 w
          have p2 : ∀ {h : MH}, Wf h → kAt T (run T P n) 16 (.ok (.v (ruleV (.mk nm a b ru' i))) h) = .ok (.v (condV a b)) h := fun w => by rw [ruleV_mk]; exact at_cond E hn1 w
          refine ⟨_, _, ?_, rfl, some (.v (.int j)), some (.v (ruleV (.mk nm a b ru' i))), some (.v (.lst o)), some (.v (.int k)), rfl⟩
          have w2 := w1 (pre.map fun p => p.1.1.name)
          simp only [forStep_eq, rowV, hq, List.map_append, List.map_cons, List.map_nil]
          simp only [List.map_nil, List.nil_append] at c4
          generalize (pre.map fun p => p.1.1.name) = l at c1 c2 c3 c4 last w2
          simp -implicitDefEqProofs [p1, p2, w2, c1, c2, c3, it_sT, c4, ne_nilL, g5, last, v2, kCo3]
          simp [DR.name]) ⟨rfl, none, none, none, none, rfl⟩
  refine Eq.trans (congrArg _ ?_) (finish_nxt (r := [some (.r m), some (.r h.length), z2, z3, z4, z5, none]) (t := [.lst (sL (rows.zipIdx.map fun p => p.1.1.name))]) w)
  have i2 : ∀ {h : MH}, itEnum (.v (.lst (rows.map rowV))) h = some ⟨rows.zipIdx.map (fun p : Row × Nat => LV.v (.tup [.int (p.2 : Int), rowV p.1])), none⟩ := by intro h; simp [enum_map]
  simp -implicitDefEqProofs [B.f9_Book_validate_rows, B.c_f9_Book_validate_rows, a7, i2, e1]
end
end SC

namespace SC
open PySem L2
/-- a book as it must be -/
structure BookOk (d : Nat) (fs : List Str) (ds : List DR) (ru : Str) : Prop where
  facts : FactsOk fs
  rules : ∀ x ∈ ds, DRok fs d x
  deep : d ≤ 6
  outer : ds.length ≤ 40
  nodup : (ds.map dnames).flatten.Nodup
  many : (ds.map dnames).flatten.length ≤ 60
  ruling : isName ru = true
def bkV (d : Nat) (fs : List Str) (ds : List DR) (ru : Str) : MV := bookV fs ds ru (.lst ((rowsS d [] ds).map rowV))
theorem BookOk.rowsOk {d : Nat} {fs : List Str} {ds : List DR} {ru : Str} (ok : BookOk d fs ds ru) : ∀ q ∈ rowsS d [] ds, RowOk fs q := by
  intro q hq
  obtain ⟨⟨e, h1⟩, h2, h3⟩ := rowsS_mem d [] ds ok.rules q hq
  have := ok.deep
  have := ok.outer
  obtain ⟨⟨nm, a, b, r, i⟩, o, k⟩ := q
  simp only [DRok] at h1
  obtain ⟨k1, k2, k3, k4, k5, k6, k7⟩ := h1
  simp only [List.length_nil, Nat.zero_add] at h2
  refine ⟨k3, ?_, by simp only; omega, fun c => by have := h3 c; simp only at this ⊢; omega⟩
  intro x hx
  rcases List.mem_append.mp hx with hx | hx
  · exact k4 x hx
  · exact k5 x hx
section
variable {T : Tab} {P : Nat → Option Fn} {h : MH} {n : Nat}
variable (E : BookEnv T P)
include E
theorem book_init {d : Nat} {fs : List Str} {ds : List DR} {ru : Str} (ok : BookOk d fs ds ru) (hn : d + 3 ≤ n) (w : Wf h) : run T P n 8 [.r h.length, .v (sT fs), .v (.tup (ds.map ruleV)), .v (.str ru)] (h ++ [.ins 1 []]) = .ok (.v .non) (h ++ [.ins 1 (bookF fs (.tup (ds.map ruleV)) ru (rowsS d [] ds))]) := by
  obtain ⟨n, rfl⟩ : ∃ m, n = m + 1 := ⟨n - 1, by omega⟩
  rw [run_succ E.p8 rfl]
  have nl : (rowsS d [] ds).length ≤ 60 := by
    have := congrArg List.length (rowsS_names (fs := fs) d [] ds ok.rules)
    rw [List.length_map] at this
    rw [this]; exact ok.many
  have hd := ok.deep
  have w0 : Wf (h ++ [.ins 1 []]) := w.push rfl
  have w3 : Wf (h ++ [.ins 1 [(4, .v (sT fs)), (5, .v (.tup (ds.map ruleV))), (6, .v (.str ru))]]) := w.push rfl
  have w4 : Wf (h ++ [.ins 1 (bookF fs (.tup (ds.map ruleV)) ru (rowsS d [] ds))]) := w.push rfl
  have c1 := facts_ok_spec E (n := n) ok.facts (by omega) w0
  have c2 := rows_spec E (fs := fs) d n ds [] _ (by omega) ok.rules (by simp; omega) (by omega) w3
  have c3 := rows_ok_spec E (n := n) (h := h ++ [.ins 1 (bookF fs (.tup (ds.map ruleV)) ru (rowsS d [] ds))]) (m := h.length) top_get ok.rowsOk (by rw [rowsS_names d [] ds ok.rules]; exact ok.nodup) nl (by omega) w4
  have c4 := name_spec (T := T) E.p0 (n := n) (by omega) ru (by have := isName_len ok.ruling; omega) (isName_ok ok.ruling) w4
  rw [ok.ruling] at c4
  have s1 := setF_top (T := T) (h := h) (f := 4) (c := 1) (x := .v (sT fs)) (fs := []) (by simp) (by simp [E.l1])
  have s2 := setF_top (T := T) (h := h) (f := 5) (c := 1) (x := .v (.tup (ds.map ruleV))) (fs := [(4, .v (sT fs))]) (by simp) (by simp [E.l1])
  have s3 := setF_top (T := T) (h := h) (f := 6) (c := 1) (x := .v (.str ru)) (fs := [(4, .v (sT fs)), (5, .v (.tup (ds.map ruleV)))]) (by simp) (by simp [E.l1])
  have s4 := setF_top (T := T) (h := h) (f := 7) (c := 1) (x := .v (.lst ((rowsS d [] ds).map rowV))) (fs := [(4, .v (sT fs)), (5, .v (.tup (ds.map ruleV))), (6, .v (.str ru))]) (by simp) (by simp [E.l1])
  simp [setFs] at s1 s2 s3 s4
  have s5 : (h ++ [MO.ins 1 [(4, LV.v (sT fs)), (5, LV.v (.tup (ds.map ruleV))), (6, LV.v (.str ru)), (7, .v (.lst ((rowsS d [] ds).map rowV)))]]) = h ++ [.ins 1 (bookF fs (.tup (ds.map ruleV)) ru (rowsS d [] ds))] := rfl
  rw [s5] at s4
  have m1 : ∀ {F : Phi} {r : ME}, kMe T F r 14 .nil (.ok (.r h.length) (h ++ [.ins 1 (bookF fs (.tup (ds.map ruleV)) ru (rowsS d [] ds))])) = F 9 [.r h.length] (h ++ [.ins 1 (bookF fs (.tup (ds.map ruleV)) ru (rowsS d [] ds))]) := by
    intro F r; simp [insOf, E.m1]
  refine Eq.trans (congrArg _ ?_) (finish_nxt' (r := [some (.r h.length), some (.v (sT fs)), some (.v (.tup (ds.map ruleV))), some (.v (.str ru))]) (by simp) w4)
  simp -implicitDefEqProofs [B.f8_Book___init__, B.c_f8_Book___init__, c1, s1, s2, s3, c2, s4, m1, c3, c4]
theorem mk_book {d : Nat} {fs : List Str} {ds : List DR} {ru : Str} (ok : BookOk d fs ds ru) (hn : d + 3 ≤ n) (w : Wf h) : kMk T (run T P n) 1 (.ok [.v (sT fs), .v (.tup (ds.map ruleV)), .v (.str ru)] h) = .ok (.v (bkV d fs ds ru)) h := by
  rw [kMk_ok, E.i1, kMk1_some, book_init E ok hn w, kMk2_ok, kMk3_non]
  exact makeEnd_v E.f1 (by simp [E.l1, bookF]) (by simp [bookF]) w
theorem book_spec (h38 : P 38 = some B.f38__law_made) (h39 : P 39 = some B.f39__law_book) {d : Nat} {fs : List Str} {ds : List DR} {ru : Str} (ok : BookOk d fs ds ru) (hn : d + 4 ≤ n) (w : Wf h) : run T P n 39 [.v (drawnV fs ds ru)] h = .ok (.v (bkV d fs ds ru)) h := by
  obtain ⟨n, rfl⟩ : ∃ m, n = m + 1 := ⟨n - 1, by omega⟩
  rw [run_succ h39 rfl]
  refine Eq.trans (congrArg _ ?_) (finish_ret0 w)
  have i0 : idxF (.v (drawnV fs ds ru)) (.v (.int 0)) h = .ok (.v (sT fs)) h := by simp [drawnV]
  have i1 : idxF (.v (drawnV fs ds ru)) (.v (.int 1)) h = .ok (.v (.tup (ds.map drV))) h := by simp [drawnV]
  have i2 : idxF (.v (drawnV fs ds ru)) (.v (.int 2)) h = .ok (.v (.str ru)) h := by simp [drawnV]
  have ho := ok.outer
  have c1 := made_spec E h38 (fs := fs) d n ds h (by omega) ok.rules (by omega) w
  have c2 := mk_book E (n := n) ok (by omega) w
  simp -implicitDefEqProofs [B.f39__law_book, B.c_f39__law_book, i0, i1, i2, c1, c2]
/-- a book told -/
theorem told_spec (h40 : P 40 = some B.f40__law_told) {fs : List Str} : ∀ (d n : Nat) (ds : List DR) (h : MH), d + 2 ≤ n → (∀ x ∈ ds, DRok fs d x) → ds.length ≤ 1000 → Wf h → run T P n 40 [.v (.tup (ds.map ruleV))] h = .ok (.v (.tup (ds.map drV))) h
  | d, n, ds, h, hn, ok, hl, w => by
    obtain ⟨n, rfl⟩ : ∃ m, n = m + 1 := ⟨n - 1, by omega⟩
    rw [run_succ h40 rfl]
    refine Eq.trans (congrArg _ ?_) (finish_ret (t := [.lst ((ds.map drV).map .v)]) w)
    have w1 : ∀ xs : List MV, Wf (h ++ [.lst (xs.map .v)]) := fun xs => w.pushP pureC_v
    have hn1 : 1 ≤ n := by omega
    obtain ⟨r1, h1, e1, rfl, z2, z3, rfl⟩ := forL_inv (step := forStep T (run T P n) (.nm 2) (.cons (.asg (.nm 3) (.attr 16 (.var 2))) (.cons (.expr (.bm .append (.var 1) (.cons (.tup (.cons (.attr 15 (.var 2)) (.cons (.attr 19 (.var 3)) (.cons (.attr 20 (.var 3)) (.cons (.attr 21 (.var 2)) (.cons (.call 40 (.cons (.attr 18 (.var 2)) .nil)) .nil)))))) .nil))) .nil))) (enc := LV.v ∘ ruleV)
      (fun pre r' h' => h' = h ++ [.lst ((pre.map drV).map .v)] ∧ ∃ z2 z3, r' = [some (.v (.tup (ds.map ruleV))), some (.r h.length), z2, z3]) ds [some (.v (.tup (ds.map ruleV))), some (.r h.length), none, none] (h ++ [.lst []]) (by
        rintro pre x r' h' hp hx ⟨rfl, z2, z3, rfl⟩
        have hx1 := ok x hx
        cases d with
        | zero => simp [DRok] at hx1
        | succ d =>
        obtain ⟨nm, a, b, ru, i⟩ := x
        simp only [DRok] at hx1
        obtain ⟨k1, k2, k3, k4, k5, k6, k7⟩ := hx1
        have c1 := told_spec h40 d n i (h ++ [.lst ((pre.map drV).map .v)]) (by omega) k7 (by omega) (w1 _)
        have hq : pre.length < 16777216 := by have := hp.length_le; simp at this; omega
        have c4 := app_v (h := h ++ [.lst ((pre.map drV).map .v)]) (k := h.length) (x := drV (.mk nm a b ru i)) top_get (by simpa using hq)
        rw [top_set] at c4
        have v2 : recvOk .append (.r h.length) (h ++ [.lst ((pre.map drV).map .v)]) = true := recv_app top_get
        have w2 := w1 (pre.map drV)
        refine ⟨_, _, ?_, rfl, some (.v (ruleV (.mk nm a b ru i))), some (.v (condV a b)), rfl⟩
        simp only [Function.comp, ruleV_mk, condV]
        rw [drV_mk] at c4
        simp -implicitDefEqProofs [-List.map_map, -List.map_append, at_cond E hn1, at_name E hn1, at_hold E hn1, at_fail E hn1, at_ruling E hn1, at_exc E hn1, w2, v2, c1, c4]
        simp [drV_mk]) ⟨rfl, none, none, rfl⟩
    rw [← List.map_map] at e1
    have t1 := tuple_r (T := T) (h := h ++ [.lst ((ds.map drV).map .v)]) (k := h.length) top_get pures_v
    simp -implicitDefEqProofs [-List.map_map, B.f40__law_told, B.c_f40__law_told, e1, t1]
theorem seen_spec (h40 : P 40 = some B.f40__law_told) (h41 : P 41 = some B.f41__law_seen) {d : Nat} {fs : List Str} {ds : List DR} {ru : Str} {rows : MV} (ok : ∀ x ∈ ds, DRok fs d x) (hl : ds.length ≤ 1000) (hn : d + 3 ≤ n) (w : Wf h) : run T P n 41 [.v (bookV fs ds ru rows)] h = .ok (.v (drawnV fs ds ru)) h := by
  obtain ⟨n, rfl⟩ : ∃ m, n = m + 1 := ⟨n - 1, by omega⟩
  rw [run_succ h41 rfl]
  refine Eq.trans (congrArg _ ?_) (finish_ret0 w)
  have hn1 : 1 ≤ n := by omega
  have c1 := told_spec E h40 (fs := fs) d n ds h (by omega) ok hl w
  simp -implicitDefEqProofs [B.f41__law_seen, B.c_f41__law_seen, bookV, at_facts E hn1, at_rules E hn1, at_bruling E hn1, w, c1]
  rfl
end
end SC

namespace SC
open PySem L2
/-! ### reading values one by one -/
def srcF (m : Nat) (vs : List Int) (k : Nat) (c : Nat) : List (Nat × LV) := [(10, .v (iV vs)), (11, .v (.int k)), (12, .r (m + 1)), (13, .v (.int c))]
def src (h : MH) (vs : List Int) (k : Nat) (nms : List Str) (c : Nat) (tl : MH) : MH := h ++ (.ins 3 (srcF h.length vs k c) :: .lst (sL nms) :: tl)
structure SrcEnv (T : Tab) (P : Nat → Option Fn) : Prop where
  p23 : P 23 = some B.f23_Source___init__
  p24 : P 24 = some B.f24_Source_take
  p25 : P 25 = some B.f25_Source_take_name
  p26 : P 26 = some B.f26_Source_take_facts
  p27 : P 27 = some B.f27_Source_take_side
  p28 : P 28 = some B.f28_Source_take_count
  p29 : P 29 = some B.f29_Source_take_rule
  p30 : P 30 = some B.f30_decode_book
  i3 : T.init 3 = some 23
  l3 : T.lay 3 = [10, 11, 12, 13]
  f3 : T.frozen 3 = false
  m3 : T.meth 3 24 = some 24 ∧ T.meth 3 25 = some 25 ∧ T.meth 3 29 = some 26 ∧ T.meth 3 28 = some 27 ∧ T.meth 3 27 = some 28 ∧ T.meth 3 26 = some 29
  n3 : T.prop 3 10 = none ∧ T.prop 3 11 = none ∧ T.prop 3 12 = none ∧ T.prop 3 13 = none
section
variable {h tl : MH} {vs : List Int} {k c : Nat} {nms : List Str}
@[simp] theorem src_len : (src h vs k nms c tl).length = h.length + 2 + tl.length := by simp [src]; omega
theorem src_0 : (src h vs k nms c tl)[h.length]? = some (.ins 3 (srcF h.length vs k c)) := by simp [src]
theorem src_1 : (src h vs k nms c tl)[h.length + 1]? = some (.lst (sL nms)) := by simp [src]
theorem src_set0 {fl : List (Nat × LV)} : (src h vs k nms c tl).set h.length (.ins 3 fl) = h ++ (.ins 3 fl :: .lst (sL nms) :: tl) := by simp [src, List.set_append]
theorem src_set1 {nms' : List Str} : (src h vs k nms c tl).set (h.length + 1) (.lst (sL nms')) = src h vs k nms' c tl := by simp [src, List.set_append]
theorem src_push {o : MO} : src h vs k nms c tl ++ [o] = src h vs k nms c (tl ++ [o]) := by simp [src]
theorem src_top {o : MO} : (src h vs k nms c (tl ++ [o]))[h.length + 2 + tl.length]? = some o := by
  rw [← src_push, ← src_len (h := h) (vs := vs) (k := k) (nms := nms) (c := c) (tl := tl)]; exact top_get
theorem src_settop {o o' : MO} : (src h vs k nms c (tl ++ [o])).set (h.length + 2 + tl.length) o' = src h vs k nms c (tl ++ [o']) := by
  rw [← src_push, ← src_len (h := h) (vs := vs) (k := k) (nms := nms) (c := c) (tl := tl), top_set, src_push]
theorem src_wf (w : Wf h) (wt : ∀ o ∈ tl, PureC o) : Wf (src h vs k nms c tl) := by
  intro o ho
  rw [src_len]
  simp only [src, List.mem_append, List.mem_cons] at ho
  rcases ho with ho | rfl | rfl | ho
  · exact MO.below_mono (by omega) (w o ho)
  · simp [MO.below, srcF, LV.below]; omega
  · exact sL_below
  · exact wt o ho _
theorem src_fin {x : MV} {k' : Nat} {nms' : List Str} {c' : Nat} {t : MH} (w : Wf h) (wt : ∀ o ∈ tl, PureC o) : finish false (src h vs k nms c tl).length (.ret (.v x) (src h vs k' nms' c' (tl ++ t))) = .ok (.v x) (src h vs k' nms' c' tl) := by
  have e : src h vs k' nms' c' (tl ++ t) = src h vs k' nms' c' tl ++ t := by simp [src]
  rw [e, src_len, ← src_len (h := h) (vs := vs) (k := k') (nms := nms') (c := c') (tl := tl)]
  exact finish_ret (src_wf w wt)
theorem src_fin0 {x : MV} {k' : Nat} {nms' : List Str} {c' : Nat} (w : Wf h) (wt : ∀ o ∈ tl, PureC o) : finish false (src h vs k nms c tl).length (.ret (.v x) (src h vs k' nms' c' tl)) = .ok (.v x) (src h vs k' nms' c' tl) := by
  have := src_fin (vs := vs) (k := k) (nms := nms) (c := c) (x := x) (k' := k') (nms' := nms') (c' := c') (t := []) w wt
  rwa [List.append_nil] at this
end
section
variable {T : Tab} {P : Nat → Option Fn} {h tl : MH} {n : Nat} {vs : List Int} {k c : Nat} {nms : List Str}
variable (S : SrcEnv T P)
include S
theorem sa_vals {F : Phi} : kAt T F 10 (.ok (.r h.length) (src h vs k nms c tl)) = .ok (.v (iV vs)) (src h vs k nms c tl) := at_live src_0 S.n3.1 (by simp [S.l3]) rfl
theorem sa_off {F : Phi} : kAt T F 11 (.ok (.r h.length) (src h vs k nms c tl)) = .ok (.v (.int k)) (src h vs k nms c tl) := at_live src_0 S.n3.2.1 (by simp [S.l3]) rfl
theorem sa_nms {F : Phi} : kAt T F 12 (.ok (.r h.length) (src h vs k nms c tl)) = .ok (.r (h.length + 1)) (src h vs k nms c tl) := at_live src_0 S.n3.2.2.1 (by simp [S.l3]) rfl
theorem sa_cnt {F : Phi} : kAt T F 13 (.ok (.r h.length) (src h vs k nms c tl)) = .ok (.v (.int c)) (src h vs k nms c tl) := at_live src_0 S.n3.2.2.2 (by simp [S.l3]) rfl
theorem take_spec {v lo hi : Int} {rest : List Int} (e : vs.drop k = v :: rest) (h1 : lo ≤ v) (h2 : v ≤ hi) (hn : 1 ≤ n) (w : Wf h) (wt : ∀ o ∈ tl, PureC o) : run T P n 24 [.r h.length, .v (.int lo), .v (.int hi)] (src h vs k nms c tl) = .ok (.v (.int v)) (src h vs (k + 1) nms c tl) := by
  obtain ⟨n, rfl⟩ : ∃ m, n = m + 1 := ⟨n - 1, by omega⟩
  rw [run_succ S.p24 rfl]
  refine Eq.trans (congrArg _ ?_) (src_fin0 w wt)
  have hk : k < vs.length := by
    rcases Nat.lt_or_ge k vs.length with hk | hk
    · exact hk
    · rw [List.drop_eq_nil_of_le hk] at e; cases e
  have hv : vs[k]? = some v := by
    have := congrArg (·[0]?) e
    simpa using this
  have b1 : ∀ {h : MH}, bltF T .len [.v (iV vs)] h = .ok (.v (.int vs.length)) h := by intro h; simp [iV]
  have b2 : ∀ {h : MH}, idxF (.v (iV vs)) (.v (.int (k : Int))) h = .ok (.v (.int v)) h := by
    intro h
    have e : atI ((vs.map MV.int).map LV.v) (k : Int) = some (.v (.int v)) := atI_nat (by omega) (by simp [hv])
    rw [iV, idx_l, e]; rfl
  have b3 : setFO T 11 (.r h.length) (.v (.int ((k : Int) + 1))) (src h vs k nms c tl) = some (src h vs (k + 1) nms c tl) := by
    simp only [setFO, src_0]
    rw [if_pos ⟨by simp [srcF], by simp [S.l3]⟩, src_set0]
    simp [src, srcF, setFs]
  have i0 : insOf T (src h vs k nms c tl) (.r h.length) = some (3, srcF h.length vs k c) := by simp [insOf, src_0]
  have g1 : ¬ (vs.length : Int) ≤ k := by omega
  have lk : (srcF h.length vs k c).lookup 11 = some (.v (.int k)) := rfl
  simp -implicitDefEqProofs [B.f24_Source_take, B.c_f24_Source_take, sa_off S, sa_vals S, b1, b2, g1, isi_v, ty_beq, tyAny, tyIs, h1, h2, i0, S.l3, lk, b3]
theorem me_take {F : Phi} {r : ME} {es : CEs} : kMe T F r 24 es (.ok (.r h.length) (src h vs k nms c tl)) = kMe3 F 24 (.r h.length) (evEs T F es r (src h vs k nms c tl)) := by
  simp [insOf, src_0, S.m3]
theorem me_name {F : Phi} {r : ME} {es : CEs} : kMe T F r 25 es (.ok (.r h.length) (src h vs k nms c tl)) = kMe3 F 25 (.r h.length) (evEs T F es r (src h vs k nms c tl)) := by
  simp [insOf, src_0, S.m3]
theorem me_facts {F : Phi} {r : ME} {es : CEs} : kMe T F r 29 es (.ok (.r h.length) (src h vs k nms c tl)) = kMe3 F 26 (.r h.length) (evEs T F es r (src h vs k nms c tl)) := by
  simp [insOf, src_0, S.m3]
theorem me_side {F : Phi} {r : ME} {es : CEs} : kMe T F r 28 es (.ok (.r h.length) (src h vs k nms c tl)) = kMe3 F 27 (.r h.length) (evEs T F es r (src h vs k nms c tl)) := by
  simp [insOf, src_0, S.m3]
theorem me_count {F : Phi} {r : ME} {es : CEs} : kMe T F r 27 es (.ok (.r h.length) (src h vs k nms c tl)) = kMe3 F 28 (.r h.length) (evEs T F es r (src h vs k nms c tl)) := by
  simp [insOf, src_0, S.m3]
theorem me_rule {F : Phi} {r : ME} {es : CEs} : kMe T F r 26 es (.ok (.r h.length) (src h vs k nms c tl)) = kMe3 F 29 (.r h.length) (evEs T F es r (src h vs k nms c tl)) := by
  simp [insOf, src_0, S.m3]
end
/-- a comprehension that goes on from state to state -/
theorem compL_st {step : LV → MH → Out (Option LV)} {H : Nat → MH} {g : Nat → LV} : ∀ (items acc : List LV) (i : Nat), (∀ x j, i ≤ j → j < i + items.length → step x (H j) = .ok (some (g j)) (H (j + 1))) → acc.length + items.length ≤ 16777216 → compL none step items acc (H i) = .ok (acc ++ (List.range' i items.length).map g) (H (i + items.length))
  | [], acc, i, _, _ => by simp [compL, Its.okIn]
  | x :: xs, acc, i, hs, hl => by
    have e := compL_st (step := step) (H := H) (g := g) xs (acc ++ [g i]) (i + 1) (fun y j h1 h2 => hs y j (by omega) (by simp; omega)) (by simp at hl ⊢; omega)
    have hl' : acc.length < 16777216 := by simp at hl; omega
    simp only [compL, Its.okIn, if_true, hs x i (Nat.le_refl _) (by simp), lt_size, hl', e]
    rw [show i + (x :: xs).length = i + 1 + xs.length by simp; omega]
    simp [List.range'_succ]
theorem foldl_ch : ∀ (cs : List Nat) (acc : Array Nat), (cs.map ch).foldl (fun acc p => acc ++ Str.cps (Str.ofString "") ++ p.cps) acc = acc ++ cs.toArray
  | [], acc => by simp
  | c :: cs, acc => by
    have e : Str.cps (Str.ofString "") = #[] := by decide
    rw [List.map_cons, List.foldl_cons, foldl_ch cs, e]
    simp [ch]
theorem join_ch {a : Str} (h1 : 1 ≤ a.length) : Txt.join (Str.ofString "") (a.cps.toList.map ch) = a := by
  obtain ⟨⟨cs⟩⟩ := a
  cases cs with
  | nil => simp [Str.length] at h1
  | cons c cs =>
    simp only [Txt.join, Builtin.Str.glued, List.map_cons, List.drop_succ_cons, List.drop_zero, List.headD_cons, foldl_ch]
    simp [ch]
end SC

namespace SC
open PySem L2
theorem nameCode_len {a : Str} : (nameCode a).length = a.length + 1 := by simp [nameCode, Str.length]
theorem drop_next {α : Type} {vs : List α} {k : Nat} {a b : List α} (e : vs.drop k = a ++ b) : vs.drop (k + a.length) = b := by
  rw [← List.drop_drop, e, List.drop_left]
section
variable {T : Tab} {P : Nat → Option Fn} {h tl : MH} {n : Nat} {vs : List Int} {k c : Nat} {nms : List Str}
theorem idx_letter {h : MH} {x : Nat} (hx : isLet x = true) : idxF (.v (.str letters)) (.v (.int ((x - 97 : Nat) : Int))) h = .ok (.v (.str (ch x))) h := by
  have e : ∀ i, i < 26 → letters.cps.toList[i]? = some (i + 97) := by decide +kernel
  simp only [isLet, decide_eq_true_eq] at hx
  have e1 := e (x - 97) (by omega)
  have e2 : atI letters.cps.toList ((x - 97 : Nat) : Int) = some x := atI_nat (by omega) (by
    rw [show ((x - 97 : Nat) : Int).toNat = x - 97 by omega, e1]
    congr 1; omega)
  have e3 : letters.length ≤ sizeLine := by decide
  simp only [idxF, e2, e3, if_true]; rfl
variable (S : SrcEnv T P)
include S
theorem take_name_spec {a : Str} {rest : List Int} (e : vs.drop k = nameCode a ++ rest) (ha : isName a = true) (hn : 2 ≤ n) (w : Wf h) (wt : ∀ o ∈ tl, PureC o) : run T P n 25 [.r h.length] (src h vs k nms c tl) = .ok (.v (.str a)) (src h vs (k + (nameCode a).length) nms c tl) := by
  obtain ⟨n, rfl⟩ : ∃ m, n = m + 1 := ⟨n - 1, by omega⟩
  rw [run_succ S.p25 rfl]
  refine Eq.trans (congrArg _ ?_) (src_fin0 w wt)
  have hl := isName_len ha
  have hs : a.cps.toList.length = a.length := by simp [Str.length]
  have t1 := take_spec S (n := n) (lo := 1) (hi := 8) (nms := nms) (c := c) (v := a.length) (by rw [e]; rfl) (by omega) (by omega) (by omega) w wt
  have hd : ∀ j (hj : j < a.cps.toList.length), ∃ r, vs.drop (k + 1 + j) = (((a.cps.toList[j] - 97 : Nat) : Int) + 1) :: r := by
    intro j hj
    refine ⟨(nameCode a ++ rest).drop (1 + j + 1), ?_⟩
    rw [Nat.add_assoc, ← List.drop_drop, e]
    rw [List.drop_eq_getElem_cons (by rw [List.length_append, nameCode_len]; omega)]
    congr 1
    rw [List.getElem_append_left (by rw [nameCode_len]; omega)]
    simp only [nameCode, Nat.add_comm 1 j, List.getElem_cons_succ, List.getElem_map]
  have cm := compL_st (step := compStep T (run T P n) (.nm 1) (.cst (.bl true)) (.idx (.cst (.str letters)) (.bin .sub (.meth 24 (.var 0) (.cons (.cst (.int 1)) (.cons (.blt .len (.cons (.cst (.str letters)) .nil)) .nil))) (.cst (.int 1)))) [some (.r h.length), none]) (H := fun j => src h vs (k + 1 + j) nms c tl) (g := fun j => .v (.str (ch (a.cps.toList[j]?.getD 0)))) (rangeL 0 a.length) [] 0 (by
      intro x j _ hj
      have hj : j < a.cps.toList.length := by simp [rangeL] at hj; omega
      obtain ⟨r, er⟩ := hd j hj
      have lc := isName_let ha _ (List.getElem_mem hj)
      have lc2 := lc
      simp only [isLet, decide_eq_true_eq] at lc2
      have t2 := take_spec S (n := n) (lo := 1) (hi := 26) (nms := nms) (c := c) er (by omega) (by omega) (by omega) w wt
      have ll : ∀ {h : MH}, bltF T .len [.v (.str letters)] h = .ok (.v (.int 26)) h := by intro h; rfl
      have ix := idx_letter (h := src h vs (k + 1 + j + 1) nms c tl) lc
      have hg : (a.cps.toList[j]?.getD 0) = a.cps.toList[j] := by rw [List.getElem?_eq_getElem hj]; rfl
      simp only [hg]
      simp -implicitDefEqProofs [-Array.getElem_toList, -Array.getElem?_toList, wipeR, me_take S, ll, t2, ix]
      rfl) (by simp [rangeL]; omega)
  have rl : (rangeL 0 a.length).length = a.length := by simp [rangeL]
  simp only [rl, List.nil_append, Nat.zero_add, Nat.add_zero] at cm
  have e4 := itRng_nat (n := a.length) (by omega)
  have ls : (List.range' 0 a.length).map (fun j => ch (a.cps.toList[j]?.getD 0)) = a.cps.toList.map ch := by
    apply List.ext_getElem
    · simp [Str.length]
    · intro i h1 h2
      simp only [List.length_map, List.length_range'] at h1
      have : i < a.cps.toList.length := by omega
      simp only [List.getElem_map, List.getElem_range', Nat.zero_add, Nat.one_mul, List.getElem?_eq_getElem this, Option.getD_some]
  have jn : ∀ {h : MH}, bmF .join (.v (.str "")) [.v (.lst ((List.range' 0 a.length).map fun j => .str (ch (a.cps.toList[j]?.getD 0))))] h = .ok (.v (.str a)) h := by
    intro h
    have q : (seqOf h (.v (.lst ((List.range' 0 a.length).map fun j => .str (ch (a.cps.toList[j]?.getD 0)))))).bind strsL = some (a.cps.toList.map ch) := by
      rw [← ls]
      simp only [seqOf, Option.bind, List.map_map]
      have := strsL_map (xs := (List.range' 0 a.length).map (fun j => ch (a.cps.toList[j]?.getD 0)))
      rw [List.map_map] at this
      exact this
    have q2 : ((a.cps.toList.map ch).map (·.length)).sum + (a.cps.toList.map ch).length * Str.length "" ≤ 16777216 := by
      have : (a.cps.toList.map ch).map (·.length) = a.cps.toList.map fun _ => 1 := by rw [List.map_map]; rfl
      rw [this]
      have e0 : Str.length "" = 0 := rfl
      rw [e0, Nat.mul_zero, Nat.add_zero, List.map_const', List.sum_replicate_nat]
      omega
    simp only [bmF, un1, joinF, q]
    rw [if_pos q2, join_ch hl.1]; rfl
  rw [nameCode_len, show k + (a.length + 1) = k + 1 + a.length by omega]
  simp -implicitDefEqProofs [-Array.getElem_toList, -Array.getElem?_toList, B.f25_Source_take_name, B.c_f25_Source_take_name, me_take S, t1, e4, cm, kCo3_f, jn]
end
end SC

namespace SC
open PySem L2
/-- a loop by counting its turns -/
theorem forL_cnt {step : LV → ME → MH → OutS} (I : Nat → ME → MH → Prop) : ∀ (items : List LV) (i : Nat) (r : ME) (h : MH), (∀ x j r h, i ≤ j → j < i + items.length → I j r h → ∃ r' h', step x r h = .nxt r' h' ∧ I (j + 1) r' h') → I i r h → ∃ r' h', forL none step items r h = .nxt r' h' ∧ I (i + items.length) r' h'
  | [], i, r, h, _, hi => ⟨r, h, by simp [forL, Its.okIn], hi⟩
  | x :: xs, i, r, h, hs, hi => by
    obtain ⟨r1, h1, e1, i1⟩ := hs x i r h (Nat.le_refl _) (by simp) hi
    obtain ⟨r2, h2, e2, i2⟩ := forL_cnt I xs (i + 1) r1 h1 (fun y j r h a b => hs y j r h (by omega) (by simp; omega)) i1
    refine ⟨r2, h2, ?_, ?_⟩
    · rw [forL_cons, e1]; exact e2
    · rw [show i + (x :: xs).length = i + 1 + xs.length by simp; omega]; exact i2
section
variable {T : Tab} {P : Nat → Option Fn} {h tl : MH} {n : Nat} {vs : List Int} {k c : Nat} {nms : List Str}
theorem eqF_nilR {m : Nat} {ls : List LV} (e : h[m]? = some (.lst ls)) : eqF (.r m) (.v (.lst [])) h = some (decide (ls = [])) := by
  have s2 : SeqAt.shaped (.list []) = true := by decide
  cases ls with
  | nil => simp [eqF, eqD, valOf, e, Option.bind, toD, toDs, s2, PyData.eqv, PyData.eqvAll]
  | cons x o =>
    have n1 : eqN (.r m) (.v (.lst [])) h = some false := by simp [eqN, lstOf, e]
    cases x with
    | r q => simp [eqF, eqD, valOf, e, pures, n1]
    | v x =>
      simp only [eqF, eqD, valOf, e, pures_cons]
      cases e0 : pures o with
      | none => simp [n1]
      | some zs =>
        simp only [Option.map_some, Option.bind, toD, toDs, Option.map]
        cases e1 : toD x with
        | none => simp [n1]
        | some D =>
          cases e2 : toDs zs with
          | none => simp [n1]
          | some Ds =>
            simp only [s2, and_true]
            by_cases c : SeqAt.shaped (.list (D :: Ds)) = true
            · simp [c, PyData.eqv, PyData.eqvAll]
            · simp [c, n1]
theorem ne_nilR {m : Nat} {ls : List LV} (e : h[m]? = some (.lst ls)) : cmpO .ne (.r m) (.v (.lst [])) h = .ok (.v (.bl (!decide (ls = [])))) h := by
  simp only [cmpO, cmpF, eqF_nilR e]; rfl
theorem atI_last {α : Type} {l : List α} {x : α} : atI (l ++ [x]) (-1) = some x := by
  unfold atI ixN
  rw [if_neg (by omega), if_pos (by simp; omega)]
  simp only [Option.bind]
  rw [show ((-1 : Int) + ((l ++ [x]).length : Int)).toNat = l.length by simp; omega]
  simp
theorem idx_lastR {m : Nat} {xs : List Str} {x : Str} (e : h[m]? = some (.lst (sL (xs ++ [x])))) : idxF (.r m) (.v (.int (-1))) h = .ok (.v (.str x)) h := by
  rw [idx_r e, ← sL_snoc, atI_last]; rfl
theorem take_getElem {α : Type} {l : List α} {j : Nat} (hj : j < l.length) : l.take (j + 1) = l.take j ++ [l[j]] := by
  rw [List.take_add_one, List.getElem?_eq_getElem hj]; rfl
theorem tuple_sR {m : Nat} {xs : List Str} (e : h[m]? = some (.lst (sL xs))) : bltF T .tuple [.r m] h = .ok (.v (sT xs)) h := by
  rw [tuple_r e sL_pures]; rfl
variable (S : SrcEnv T P)
include S
theorem take_facts_spec {fs : List Str} {rest : List Int} (e : vs.drop k = (fs.length : Int) :: (fs.map nameCode).flatten ++ rest) (ok : FactsOk fs) (hn : 3 ≤ n) (w : Wf h) (wt : ∀ o ∈ tl, PureC o) : run T P n 26 [.r h.length] (src h vs k nms c tl) = .ok (.v (sT fs)) (src h vs (k + 1 + (fs.map nameCode).flatten.length) nms c tl) := by
  obtain ⟨n, rfl⟩ : ∃ m, n = m + 1 := ⟨n - 1, by omega⟩
  obtain ⟨f1, f2, f3, f4⟩ := ok
  rw [run_succ S.p26 rfl]
  have wt1 : ∀ l : List Str, ∀ o ∈ tl ++ [.lst (sL l)], PureC o := fun l => WfR.push wt sL_pureC
  have t1 := take_spec S (n := n) (lo := 1) (hi := 60) (nms := nms) (c := c) (v := fs.length) (rest := (fs.map nameCode).flatten ++ rest) (by rw [e]; rfl) (by omega) (by omega) (by omega) w (wt1 [])
  have e1 : vs.drop (k + 1) = (fs.map nameCode).flatten ++ rest := by
    rw [← List.drop_drop, e]; rfl
  have rl : (rangeL 0 fs.length).length = fs.length := by simp [rangeL]
  obtain ⟨r', h', e2, rfl, z2, z3, z4, rfl⟩ := forL_cnt (step := forStep T (run T P n) (.nm 2) (.cons (.par [3, 4] (.cons (.attr 11 (.var 0)) (.cons (.meth 25 (.var 0) .nil) .nil))) (.cons (.ife (.and (.cmp .ne (.var 1) (.lst .nil)) (.cmp .le (.var 4) (.idx (.var 1) (.neg (.cst (.int 1)))))) (.cons .never .nil) .nil) (.cons (.expr (.bm .append (.var 1) (.cons (.var 4) .nil))) .nil))))
    (fun j r' h' => h' = src h vs (k + 1 + ((fs.take j).map nameCode).flatten.length) nms c (tl ++ [.lst (sL (fs.take j))]) ∧ ∃ z2 z3 z4, r' = [some (.r h.length), some (.r (h.length + 2 + tl.length)), z2, z3, z4]) (rangeL 0 fs.length) 0 [some (.r h.length), some (.r (h.length + 2 + tl.length)), none, none, none] (src h vs (k + 1) nms c (tl ++ [.lst []])) (by
      rintro x j r' h' _ hj ⟨rfl, z2, z3, z4, rfl⟩
      have hj : j < fs.length := by omega
      have ed : vs.drop (k + 1 + ((fs.take j).map nameCode).flatten.length) = nameCode fs[j] ++ (((fs.drop (j + 1)).map nameCode).flatten ++ rest) := by
        refine drop_next ?_
        rw [e1]
        have : fs.map nameCode = (fs.take j).map nameCode ++ nameCode fs[j] :: (fs.drop (j + 1)).map nameCode := by
          rw [← List.map_cons, ← List.drop_eq_getElem_cons hj, ← List.map_append, List.take_append_drop]
        rw [this, List.flatten_append, List.flatten_cons, List.append_assoc, List.append_assoc]
      have t2 := take_name_spec S (n := n) (nms := nms) (c := c) ed (f1 _ (List.getElem_mem hj)) (by omega) w (wt1 (fs.take j))
      rw [take_getElem hj, List.map_append, List.flatten_append, List.length_append, show (([fs[j]].map nameCode).flatten).length = (nameCode fs[j]).length by simp, ← Nat.add_assoc]
      generalize hq : ((fs.take j).map nameCode).flatten.length = q at t2 ed
      have a1 := app_s (h := src h vs (k + 1 + q + (nameCode fs[j]).length) nms c (tl ++ [.lst (sL (fs.take j))])) (k := h.length + 2 + tl.length) (x := fs[j]) src_top (by simp; omega)
      rw [src_settop] at a1
      have v2 : ∀ {k}, recvOk .append (.r (h.length + 2 + tl.length)) (src h vs k nms c (tl ++ [.lst (sL (fs.take j))])) = true := recv_app src_top
      have n1 : ∀ {k}, cmpO .ne (.r (h.length + 2 + tl.length)) (.v (.lst [])) (src h vs k nms c (tl ++ [.lst (sL (fs.take j))])) = .ok (.v (.bl (!decide (sL (fs.take j) = [])))) (src h vs k nms c (tl ++ [.lst (sL (fs.take j))])) := ne_nilR src_top
      refine ⟨[some (.r h.length), some (.r (h.length + 2 + tl.length)), some x, some (.v (.int ((k + 1 + q : Nat) : Int))), some (.v (.str fs[j]))], _, ?_, rfl, _, _, _, rfl⟩
      cases j with
      | zero =>
        have n2 : decide (sL (fs.take 0) = []) = true := by simp [sL]
        rw [n2] at n1
        generalize src h vs (k + 1 + q + (nameCode fs[0]).length) nms c (tl ++ [MO.lst (sL (List.take 0 fs ++ [fs[0]]))]) = H2 at a1
        generalize fs.take 0 = l0 at n1 v2 a1 t2
        simp -implicitDefEqProofs [-Int.natCast_add, -List.take_zero, sa_off S, me_name S, t2, n1, setsL, v2, a1]
      | succ j =>
        have n2 : decide (sL (fs.take (j + 1)) = []) = false := by
          rw [take_getElem (by omega)]; simp [sL]
          rintro rfl; simp at hj
        rw [n2] at n1
        have ix : ∀ {k}, idxF (.r (h.length + 2 + tl.length)) (.v (.int (-1))) (src h vs k nms c (tl ++ [.lst (sL (fs.take (j + 1)))])) = .ok (.v (.str fs[j])) (src h vs k nms c (tl ++ [.lst (sL (fs.take (j + 1)))])) := by
          intro k
          exact idx_lastR (xs := fs.take j) (by rw [← take_getElem (by omega)]; exact src_top)
        have asc := asc_at f2 hj
        generalize src h vs (k + 1 + q + (nameCode fs[j + 1]).length) nms c (tl ++ [MO.lst (sL (List.take (j + 1) fs ++ [fs[j + 1]]))]) = H2 at a1
        generalize fs.take (j + 1) = l0 at n1 v2 a1 t2 ix
        simp -implicitDefEqProofs [-Int.natCast_add, sa_off S, me_name S, t2, n1, setsL, ix, asc, v2, a1]) ⟨by simp [sL], none, none, none, rfl⟩
  have e4 := itRng_nat (n := fs.length) (by omega)
  have p1 : src h vs k nms c tl ++ [.lst []] = src h vs k nms c (tl ++ [.lst []]) := src_push
  have tp := tuple_sR (T := T) (h := src h vs (k + 1 + ((fs.take fs.length).map nameCode).flatten.length) nms c (tl ++ [.lst (sL (fs.take fs.length))])) (m := h.length + 2 + tl.length) src_top
  rw [rl, Nat.zero_add] at e2
  rw [List.take_length] at e2 tp
  refine Eq.trans (congrArg _ ?_) (src_fin (t := [.lst (sL fs)]) w wt)
  rw [show (sL ([] : List Str)) = [] from rfl] at t1
  simp -implicitDefEqProofs [-List.length_flatten, B.f26_Source_take_facts, B.c_f26_Source_take_facts, p1, me_take S, t1, e4, e2, tp]
end
end SC

namespace SC
open PySem L2
theorem ltS_trans {a b c : Str} (h1 : ltS a b = true) (h2 : ltS b c = true) : ltS a c = true := by
  simp only [ltS, decide_eq_true_eq] at *
  exact List.lt_trans h1 h2
theorem ltS_irreflP {a : Str} : ltS a a = false := by
  simp only [ltS, decide_eq_false_iff_not]
  exact List.lt_irrefl _
theorem place_lt {fs : List Str} {x : Str} (hx : x ∈ fs) : place fs x < fs.length := List.findIdx_lt_length.mpr ⟨x, hx, by simp⟩
theorem place_get {fs : List Str} {x : Str} (hx : x ∈ fs) : fs[place fs x]'(place_lt hx) = x := by
  have := List.findIdx_getElem (xs := fs) (p := (· == x)) (w := place_lt hx)
  exact eq_of_beq this
theorem place_mono {fs : List Str} (ha : Asc fs) {x y : Str} (hx : x ∈ fs) (hy : y ∈ fs) (h : ltS x y = true) : place fs x < place fs y := by
  rcases Nat.lt_trichotomy (place fs x) (place fs y) with c | c | c
  · exact c
  · have e1 := place_get hx
    have e2 := place_get hy
    simp only [c] at e1
    rw [e1] at e2
    rw [e2, ltS_irreflP] at h; cases h
  · have := List.pairwise_iff_getElem.mp ha _ _ (place_lt hy) (place_lt hx) c
    rw [place_get hx, place_get hy] at this
    have q := ltS_trans h this
    rw [ltS_irreflP] at q; cases q
section
variable {T : Tab} {P : Nat → Option Fn} {h tl : MH} {n : Nat} {vs : List Int} {k c : Nat} {nms : List Str}
variable (S : SrcEnv T P)
include S
theorem take_side_spec {fs xs bs : List Str} {most : Int} {rest : List Int} (e : vs.drop k = sideCode fs xs ++ rest) (hf : Asc fs) (hx : ∀ x ∈ xs, x ∈ fs) (asc : Asc xs) (hm : (xs.length : Int) ≤ most) (hl : xs.length ≤ 1000) (hb : ∀ x ∈ xs, x ∉ bs) (hn : 2 ≤ n) (w : Wf h) (wt : ∀ o ∈ tl, PureC o) : run T P n 27 [.r h.length, .v (sT fs), .v (sT bs), .v (.int most)] (src h vs k nms c tl) = .ok (.v (sT xs)) (src h vs (k + (sideCode fs xs).length) nms c tl) := by
  obtain ⟨n, rfl⟩ : ∃ m, n = m + 1 := ⟨n - 1, by omega⟩
  rw [run_succ S.p27 rfl]
  have sl : (sideCode fs xs).length = 1 + xs.length := by simp [sideCode]; omega
  have wt1 : ∀ l : List Str, ∀ o ∈ tl ++ [.lst (sL l)], PureC o := fun l => WfR.push wt sL_pureC
  have t1 := take_spec S (n := n) (lo := 0) (hi := most) (nms := nms) (c := c) (v := xs.length) (rest := (xs.map fun x => (place fs x : Int)) ++ rest) (by rw [e]; rfl) (by omega) (by omega) (by omega) w (wt1 [])
  have e1 : vs.drop (k + 1) = (xs.map fun x => (place fs x : Int)) ++ rest := by
    rw [← List.drop_drop, e]; rfl
  have rl : (rangeL 0 xs.length).length = xs.length := by simp [rangeL]
  obtain ⟨r', h', e2, rfl, z5, z6, rfl⟩ := forL_cnt (step := forStep T (run T P n) (.nm 5) (.cons (.asg (.nm 6) (.meth 24 (.var 0) (.cons (.ite (.cmp .ne (.var 4) (.lst .nil)) (.bin .add (.bm .index (.var 1) (.cons (.idx (.var 4) (.neg (.cst (.int 1)))) .nil)) (.cst (.int 1))) (.cst (.int 0))) (.cons (.bin .sub (.blt .len (.cons (.var 1) .nil)) (.cst (.int 1))) .nil)))) (.cons (.ife (.cmp .isin (.idx (.var 1) (.var 6)) (.var 2)) (.cons .never .nil) .nil) (.cons (.expr (.bm .append (.var 4) (.cons (.idx (.var 1) (.var 6)) .nil))) .nil))))
    (fun j r' h' => h' = src h vs (k + 1 + j) nms c (tl ++ [.lst (sL (xs.take j))]) ∧ ∃ z5 z6, r' = [some (.r h.length), some (.v (sT fs)), some (.v (sT bs)), some (.v (.int most)), some (.r (h.length + 2 + tl.length)), z5, z6]) (rangeL 0 xs.length) 0 [some (.r h.length), some (.v (sT fs)), some (.v (sT bs)), some (.v (.int most)), some (.r (h.length + 2 + tl.length)), none, none] (src h vs (k + 1) nms c (tl ++ [.lst []])) (by
      rintro x j r' h' _ hj ⟨rfl, z5, z6, rfl⟩
      have hj : j < xs.length := by omega
      have hxj := hx _ (List.getElem_mem hj)
      have pl := place_lt hxj
      have ed : vs.drop (k + 1 + j) = (place fs xs[j] : Int) :: ((xs.drop (j + 1)).map (fun x => (place fs x : Int)) ++ rest) := by
        rw [← List.drop_drop, e1, List.drop_append_of_le_length (by simp; omega), ← List.map_drop, List.drop_eq_getElem_cons hj]
        rfl
      rw [take_getElem hj, ← Nat.add_assoc]
      have a1 := app_s (h := src h vs (k + 1 + j + 1) nms c (tl ++ [.lst (sL (xs.take j))])) (k := h.length + 2 + tl.length) (x := xs[j]) src_top (by simp; omega)
      rw [src_settop] at a1
      have v2 : ∀ {k}, recvOk .append (.r (h.length + 2 + tl.length)) (src h vs k nms c (tl ++ [.lst (sL (xs.take j))])) = true := recv_app src_top
      have n1 : ∀ {k}, cmpO .ne (.r (h.length + 2 + tl.length)) (.v (.lst [])) (src h vs k nms c (tl ++ [.lst (sL (xs.take j))])) = .ok (.v (.bl (!decide (sL (xs.take j) = [])))) (src h vs k nms c (tl ++ [.lst (sL (xs.take j))])) := ne_nilR src_top
      have i1 : ∀ {h : MH}, idxF (.v (sT fs)) (.v (.int (place fs xs[j] : Int))) h = .ok (.v (.str xs[j])) h := by
        intro h
        have := idx_sT (h := h) (xs := fs) (i := (place fs xs[j] : Int)) (by omega) (by simpa using pl)
        rw [this]
        simp only [Int.toNat_natCast, place_get hxj]
      have nb := hb _ (List.getElem_mem hj)
      refine ⟨[some (.r h.length), some (.v (sT fs)), some (.v (sT bs)), some (.v (.int most)), some (.r (h.length + 2 + tl.length)), some x, some (.v (.int (place fs xs[j] : Int)))], _, ?_, rfl, _, _, rfl⟩
      cases j with
      | zero =>
        have n2 : decide (sL (xs.take 0) = []) = true := by simp [sL]
        rw [n2] at n1
        have t2 := take_spec S (n := n) (lo := 0) (hi := (fs.length : Int) - 1) (nms := nms) (c := c) ed (by omega) (by omega) (by omega) w (wt1 (xs.take 0))
        generalize src h vs (k + 1 + 0 + 1) nms c (tl ++ [MO.lst (sL (List.take 0 xs ++ [xs[0]]))]) = H2 at a1 ⊢
        generalize xs.take 0 = l0 at n1 v2 a1 t2 ⊢
        simp -implicitDefEqProofs [-Nat.add_zero, me_take S, t2, n1, len_sT, i1, in_sT, nb, v2, a1]
      | succ j =>
        have n2 : decide (sL (xs.take (j + 1)) = []) = false := by
          rw [take_getElem (by omega)]; simp [sL]
          rintro rfl; simp at hj
        rw [n2] at n1
        have ix : ∀ {k}, idxF (.r (h.length + 2 + tl.length)) (.v (.int (-1))) (src h vs k nms c (tl ++ [.lst (sL (xs.take (j + 1)))])) = .ok (.v (.str xs[j])) (src h vs k nms c (tl ++ [.lst (sL (xs.take (j + 1)))])) := by
          intro k
          exact idx_lastR (xs := xs.take j) (by rw [← take_getElem (by omega)]; exact src_top)
        have hxp := hx _ (List.getElem_mem (show j < xs.length by omega))
        have lt := place_mono hf hxp hxj (List.pairwise_iff_getElem.mp asc j (j + 1) (by omega) hj (by omega))
        have i2 : ∀ {h : MH}, bmF .index (.v (sT fs)) [.v (.str xs[j])] h = .ok (.v (.int (place fs xs[j]))) h := ix_tup hxp
        have q : ∀ {h : MH}, recvOk .index (.v (sT fs)) h = true := rfl
        have t2 := take_spec S (n := n) (lo := (place fs xs[j] : Int) + 1) (hi := (fs.length : Int) - 1) (nms := nms) (c := c) ed (by omega) (by omega) (by omega) w (wt1 (xs.take (j + 1)))
        generalize src h vs (k + 1 + (j + 1) + 1) nms c (tl ++ [MO.lst (sL (List.take (j + 1) xs ++ [xs[j + 1]]))]) = H2 at a1 ⊢
        generalize xs.take (j + 1) = l0 at n1 v2 a1 t2 ix ⊢
        simp -implicitDefEqProofs [me_take S, t2, n1, len_sT, q, ix, i2, i1, in_sT, nb, v2, a1]) ⟨by simp [sL], none, none, rfl⟩
  have e4 := itRng_nat (n := xs.length) (by omega)
  have p1 : src h vs k nms c tl ++ [.lst []] = src h vs k nms c (tl ++ [.lst []]) := src_push
  have tp := tuple_sR (T := T) (h := src h vs (k + 1 + xs.length) nms c (tl ++ [.lst (sL (xs.take xs.length))])) (m := h.length + 2 + tl.length) src_top
  rw [rl, Nat.zero_add] at e2
  rw [List.take_length] at e2 tp
  rw [sl, ← Nat.add_assoc]
  refine Eq.trans (congrArg _ ?_) (src_fin (t := [.lst (sL xs)]) w wt)
  rw [show (sL ([] : List Str)) = [] from rfl] at t1
  simp -implicitDefEqProofs [B.f27_Source_take_side, B.c_f27_Source_take_side, p1, me_take S, t1, e4, e2, tp]
theorem take_count_spec {v most : Nat} {rest : List Int} (e : vs.drop k = (v : Int) :: rest) (h1 : v ≤ most) (h2 : c + v ≤ 60) (hn : 2 ≤ n) (w : Wf h) (wt : ∀ o ∈ tl, PureC o) : run T P n 28 [.r h.length, .v (.int most)] (src h vs k nms c tl) = .ok (.v (.int v)) (src h vs (k + 1) nms (c + v) tl) := by
  obtain ⟨n, rfl⟩ : ∃ m, n = m + 1 := ⟨n - 1, by omega⟩
  rw [run_succ S.p28 rfl]
  refine Eq.trans (congrArg _ ?_) (src_fin0 w wt)
  have t1 := take_spec S (n := n) (lo := 0) (hi := if (60 : Int) - c < most then (60 : Int) - c else most) (nms := nms) (c := c) e (by omega) (by split <;> omega) (by omega) w wt
  have lk : (srcF h.length vs (k + 1) c).lookup 13 = some (.v (.int c)) := rfl
  have i0 : insOf T (src h vs (k + 1) nms c tl) (.r h.length) = some (3, srcF h.length vs (k + 1) c) := by simp [insOf, src_0]
  have b3 : setFO T 13 (.r h.length) (.v (.int ((c : Int) + v))) (src h vs (k + 1) nms c tl) = some (src h vs (k + 1) nms (c + v) tl) := by
    simp only [setFO, src_0]
    rw [if_pos ⟨by simp [srcF], by simp [S.l3]⟩, src_set0]
    simp [src, srcF, setFs]
  simp -implicitDefEqProofs [B.f28_Source_take_count, B.c_f28_Source_take_count, me_take S, sa_cnt S, t1, i0, S.l3, lk, b3]
end
end SC

namespace SC
open PySem L2
/-- how many rules stand in a rule -/
def desc (x : DR) : Nat := (x.inner.map dnames).flatten.length
theorem dnames_len {x : DR} : (dnames x).length = desc x + 1 := by
  obtain ⟨n, a, b, r, i⟩ := x
  rw [dnames_mk, desc]; rfl
theorem desc_sum : ∀ (i : List DR), (i.map dnames).flatten.length = i.length + (i.map desc).sum
  | [] => rfl
  | x :: i => by
    have := desc_sum i
    simp only [List.map_cons, List.flatten_cons, List.length_append, dnames_len, List.length_cons, List.sum_cons, this]
    omega
theorem flat_split {α β : Type} {f : α → List β} {l : List α} {j : Nat} (hj : j < l.length) : (l.map f).flatten = ((l.take j).map f).flatten ++ (f l[j] ++ ((l.drop (j + 1)).map f).flatten) := by
  have : l.map f = (l.take j).map f ++ f l[j] :: (l.drop (j + 1)).map f := by
    rw [← List.map_cons, ← List.drop_eq_getElem_cons hj, ← List.map_append, List.take_append_drop]
  rw [this, List.flatten_append, List.flatten_cons]
theorem sum_split {α : Type} {f : α → Nat} {l : List α} {j : Nat} (hj : j < l.length) : (l.map f).sum = ((l.take j).map f).sum + (f l[j] + ((l.drop (j + 1)).map f).sum) := by
  have : l.map f = (l.take j).map f ++ f l[j] :: (l.drop (j + 1)).map f := by
    rw [← List.map_cons, ← List.drop_eq_getElem_cons hj, ← List.map_append, List.take_append_drop]
  rw [this, List.sum_append, List.sum_cons]
section
variable {T : Tab} {P : Nat → Option Fn} {h tl : MH} {n : Nat} {vs : List Int} {fs : List Str}
/-- rules beside each other are read -/
theorem rules_comp {step : LV → MH → Out (Option LV)} {F : Phi} {dp : Int} {i : List DR} {k c : Nat} {nms : List Str} {rest : List Int}
    (hs : ∀ z k nms c H' y, F 29 [.r h.length, .v (sT fs), .v (.int dp)] (src h vs k nms c tl) = .ok y H' → step z (src h vs k nms c tl) = .ok (some y) H')
    (ih : ∀ x ∈ i, ∀ (k c : Nat) (nms : List Str) (rest : List Int), vs.drop k = ruleCode fs x ++ rest → (∀ y ∈ dnames x, y ∉ nms) → (dnames x).Nodup → c + desc x ≤ 60 → nms.length + (dnames x).length ≤ 1000 → F 29 [.r h.length, .v (sT fs), .v (.int dp)] (src h vs k nms c tl) = .ok (.v (ruleV x)) (src h vs (k + (ruleCode fs x).length) (nms ++ dnames x) (c + desc x) tl))
    (e : vs.drop k = (i.map (ruleCode fs)).flatten ++ rest) (hd : ∀ y ∈ (i.map dnames).flatten, y ∉ nms) (hnd : (i.map dnames).flatten.Nodup) (hc : c + (i.map desc).sum ≤ 60) (hN : nms.length + (i.map dnames).flatten.length ≤ 1000) (hl : i.length ≤ 1000) :
    compL none step (rangeL 0 i.length) [] (src h vs k nms c tl) = .ok (i.map fun x => .v (ruleV x)) (src h vs (k + (i.map (ruleCode fs)).flatten.length) (nms ++ (i.map dnames).flatten) (c + (i.map desc).sum) tl) := by
  have rl : (rangeL 0 i.length).length = i.length := by simp [rangeL]
  have cm := compL_st (step := step) (H := fun j => src h vs (k + ((i.take j).map (ruleCode fs)).flatten.length) (nms ++ ((i.take j).map dnames).flatten) (c + ((i.take j).map desc).sum) tl) (g := fun j => (i[j]?.map fun x => LV.v (ruleV x)).getD (.r 0)) (rangeL 0 i.length) [] 0 (by
    intro z j _ hj
    have hj : j < i.length := by omega
    apply hs
    have ed : vs.drop (k + ((i.take j).map (ruleCode fs)).flatten.length) = ruleCode fs i[j] ++ (((i.drop (j + 1)).map (ruleCode fs)).flatten ++ rest) := by
      refine drop_next ?_
      rw [e, flat_split hj, List.append_assoc, List.append_assoc]
    have fd := flat_split (f := dnames) hj
    rw [fd] at hd hnd hN
    simp only [List.length_append] at hN
    rw [sum_split hj] at hc
    rw [List.nodup_append, List.nodup_append] at hnd
    have := ih i[j] (List.getElem_mem hj) _ (c + ((i.take j).map desc).sum) (nms ++ ((i.take j).map dnames).flatten) _ ed (by
      intro y hy hm
      rcases List.mem_append.mp hm with hm | hm
      · exact hd y (by simp [hy]) hm
      · exact hnd.2.2 y hm y (by simp [hy]) rfl) hnd.2.1.1 (by omega) (by rw [List.length_append]; omega)
    rw [this, take_getElem hj]
    simp only [List.map_append, List.map_cons, List.map_nil, List.flatten_append, List.flatten_cons, List.flatten_nil, List.append_nil, List.length_append, List.sum_append, List.sum_cons, List.sum_nil, Nat.add_zero, Nat.add_assoc, List.append_assoc, List.getElem?_eq_getElem hj, Option.map_some, Option.getD_some]) (by simp; omega)
  simp only [rl, Nat.zero_add, List.take_zero, List.map_nil, List.flatten_nil, List.length_nil, Nat.add_zero, List.append_nil, List.sum_nil, List.take_length, List.nil_append] at cm
  rw [cm]
  congr 1
  apply List.ext_getElem
  · simp
  · intro j h1 h2
    simp only [List.length_map] at h2
    simp [List.getElem?_eq_getElem h2]
end
section
variable {T : Tab} {P : Nat → Option Fn} {h tl : MH} {vs : List Int} {fs : List Str}
theorem take_rule_spec (E : BookEnv T P) (S : SrcEnv T P) (hf : Asc fs) (w : Wf h) (wt : ∀ o ∈ tl, PureC o) : ∀ (d n : Nat) (x : DR) (dp k c : Nat) (nms : List Str) (rest : List Int), d + 2 ≤ n → DRok fs d x → dp + d ≤ 6 → vs.drop k = ruleCode fs x ++ rest → (∀ y ∈ dnames x, y ∉ nms) → (dnames x).Nodup → c + desc x ≤ 60 → nms.length + (dnames x).length ≤ 1000 → run T P n 29 [.r h.length, .v (sT fs), .v (.int dp)] (src h vs k nms c tl) = .ok (.v (ruleV x)) (src h vs (k + (ruleCode fs x).length) (nms ++ dnames x) (c + desc x) tl)
  | 0, _, _, _, _, _, _, _, _, ok, _, _, _, _, _, _ => by simp [DRok] at ok
  | d + 1, n, .mk nm a b ru i, dp, k, c, nms, rest, hn, ok, hdp, e, hnot, hnd, hc, hnl => by
    obtain ⟨n, rfl⟩ : ∃ m, n = m + 1 := ⟨n - 1, by omega⟩
    simp only [DRok] at ok
    obtain ⟨k1, k2, k3, k4, k5, k6, k7⟩ := ok
    have mm := k3.many
    rw [run_succ S.p29 rfl]
    refine Eq.trans (congrArg _ ?_) (src_fin0 w wt)
    rw [ruleCode_mk] at e
    simp only [List.append_assoc, List.cons_append] at e
    rw [dnames_mk] at hnot hnd
    have hnn : nm ∉ nms := hnot nm List.mem_cons_self
    rw [List.nodup_cons] at hnd
    rw [dnames_mk, List.length_cons, desc_sum] at hnl
    simp only [desc, DR.inner] at hc
    rw [desc_sum] at hc
    -- the parts, one behind another
    have t1 := take_name_spec S (n := n) (nms := nms) (c := c) (tl := tl) e k1 (by omega) w wt
    have e1 := drop_next e
    have a1 := app_s (h := src h vs (k + (nameCode nm).length) nms c tl) (k := h.length + 1) (x := nm) src_1 (by omega)
    rw [src_set1] at a1
    have v1 : recvOk .append (.r (h.length + 1)) (src h vs (k + (nameCode nm).length) nms c tl) = true := recv_app src_1
    have in1 := in_sR (h := src h vs (k + (nameCode nm).length) nms c tl) (k := h.length + 1) (x := nm) src_1
    rw [decide_eq_false hnn] at in1
    have t2 := take_name_spec S (n := n) (nms := nms ++ [nm]) (c := c) (tl := tl) e1 k2 (by omega) w wt
    have e2 := drop_next e1
    have t3 := take_side_spec S (n := n) (nms := nms ++ [nm]) (c := c) (tl := tl) (bs := []) (most := 8) e2 hf k4 k3.aa (by omega) (by omega) (by simp) (by omega) w wt
    have e3 := drop_next e2
    have t4 := take_side_spec S (n := n) (nms := nms ++ [nm]) (c := c) (tl := tl) (bs := a) (most := 8 - (a.length : Int)) e3 hf k5 k3.ab (by omega) (by omega) k3.apart (by omega) w wt
    have e4 := drop_next e3
    have t5 := take_count_spec S (n := n) (nms := nms ++ [nm]) (c := c) (tl := tl) (most := if dp < 5 then 60 else 0) e4 (by
      split
      · omega
      · cases i with
        | nil => simp
        | cons y i =>
          have := k7 y List.mem_cons_self
          cases d with
          | zero => simp [DRok] at this
          | succ d => omega) (by omega) (by omega) w wt
    have e5 := drop_next (a := [(i.length : Int)]) (b := (i.map (ruleCode fs)).flatten ++ rest) (by simpa using e4)
    simp only [List.length_cons, List.length_nil, Nat.zero_add] at e5
    generalize hK1 : k + (nameCode nm).length = K1 at t1 t2 t3 t4 t5 e5 a1 v1 in1
    generalize hK2 : K1 + (nameCode ru).length = K2 at t2 t3 t4 t5 e5
    generalize hK3 : K2 + (sideCode fs a).length = K3 at t3 t4 t5 e5
    generalize hK4 : K3 + (sideCode fs b).length = K4 at t4 t5 e5
    have t6 := rules_comp (h := h) (tl := tl) (vs := vs) (fs := fs) (step := compStep T (run T P n) (.nm 10) (.cst (.bl true)) (.meth 26 (.var 0) (.cons (.var 1) (.cons (.bin .add (.var 2) (.cst (.int 1))) .nil))) [some (.r h.length), some (.v (sT fs)), some (.v (.int dp)), some (.v (.int k)), some (.v (.str nm)), some (.v (.str ru)), some (.v (sT a)), some (.v (sT b)), some (.v (.int i.length)), none, none]) (F := run T P n) (dp := ((dp + 1 : Nat) : Int)) (i := i) (k := K4 + 1) (c := c + i.length) (nms := nms ++ [nm]) (rest := rest) (by
        intro z k nms c H' y hF
        have hdp : ((dp : Int) + 1) = ((dp + 1 : Nat) : Int) := by omega
        simp -implicitDefEqProofs [-Int.natCast_add, wipeR, me_rule S, hdp, hF])
      (fun x hx k c nms' rest e1 e2 e3 e4 e5 => take_rule_spec E S hf w wt d n x (dp + 1) k c nms' rest (by omega) (k7 x hx) (by omega) e1 e2 e3 e4 e5) e5 (by
        intro y hy hm
        rcases List.mem_append.mp hm with hm | hm
        · exact hnot y (List.mem_cons_of_mem _ hy) hm
        · simp at hm; subst hm; exact hnd.1 hy) hnd.2 (by omega) (by rw [List.length_append, desc_sum]; simp; omega) (by omega)
    have q4 := itRng_nat (n := i.length) (by omega)
    have hk1 : K4 + 1 + (i.map (ruleCode fs)).flatten.length = k + (ruleCode fs (.mk nm a b ru i)).length := by
      rw [ruleCode_mk]; simp only [List.length_append, List.length_cons]; omega
    have hk2 : nms ++ [nm] ++ (i.map dnames).flatten = nms ++ dnames (.mk nm a b ru i) := by rw [dnames_mk]; simp
    have hk3 : c + i.length + (i.map desc).sum = c + desc (.mk nm a b ru i) := by
      have : desc (.mk nm a b ru i) = (i.map dnames).flatten.length := rfl
      rw [this, desc_sum]; omega
    rw [hk1, hk2, hk3] at t6
    have wR : Wf (src h vs (k + (ruleCode fs (.mk nm a b ru i)).length) (nms ++ dnames (.mk nm a b ru i)) (c + desc (.mk nm a b ru i)) tl) := src_wf w wt
    have m1 := mk_cond E (n := n) k3 (by omega) wR
    have m2 := mk_rule E (n := n) (c := condV a b) (i := .tup (i.map ruleV)) k1 k2 (by omega) wR
    have hq : (if dp < 5 then (60 : Int) else 0) = (((if dp < 5 then 60 else 0 : Nat)) : Int) := by split <;> rfl
    have t5' : evE T (run T P n) (.ite (.cmp .lt (.var 2) (.cst (.int 5))) (.cst (.int 60)) (.cst (.int 0))) [some (.r h.length), some (.v (sT fs)), some (.v (.int dp)), some (.v (.int k)), some (.v (.str nm)), some (.v (.str ru)), some (.v (sT a)), some (.v (sT b)), none, none, none] (src h vs K4 (nms ++ [nm]) c tl) = .ok (.v (.int (((if dp < 5 then 60 else 0 : Nat)) : Int))) (src h vs K4 (nms ++ [nm]) c tl) := by
      by_cases c : dp < 5
      · have c' : (dp : Int) < 5 := by omega
        simp [c, c']
      · have c' : ¬ (dp : Int) < 5 := by omega
        simp [c, c']
    have se : ∀ {xs : List Str}, sT [] = .tup [] := rfl
    have t3' : run T P n 27 [.r h.length, .v (sT fs), .v (.tup []), .v (.int 8)] (src h vs K2 (nms ++ [nm]) c tl) = .ok (.v (sT a)) (src h vs K3 (nms ++ [nm]) c tl) := t3
    rw [ruleV_mk]
    generalize hite : CE.ite (.cmp .lt (.var 2) (.cst (.int 5))) (.cst (.int 60)) (.cst (.int 0)) = iteE at t5'
    generalize src h vs (k + (ruleCode fs (.mk nm a b ru i)).length) (nms ++ dnames (.mk nm a b ru i)) (c + desc (.mk nm a b ru i)) tl = HR at t6 m1 m2 ⊢
    simp only [B.f29_Source_take_rule, B.c_f29_Source_take_rule, hite]
    simp -implicitDefEqProofs [-Int.natCast_add, sa_off S, sa_nms S, me_name S, me_side S, me_count S, setsL, t1, in1, v1, a1, t2, t3', len_sT, t4, t5', t5, q4, t6, kCo3_f, m1, m2]
end
end SC

namespace SC
open PySem L2
section
variable {T : Tab} {P : Nat → Option Fn} {h : MH} {n : Nat} {vs : List Int}
theorem slc_i {xs : List Int} {k : Nat} (hk : k ≤ xs.length) : slcF false (.v (iV xs)) none (some (k : Int)) h = .ok (.v (iV (xs.take k))) h := by
  have e : cutM (xs.map MV.int) none (some (k : Int)) = (xs.take k).map MV.int := by
    have e1 : HT.sIx (xs.map MV.int).length 0 none = 0 := rfl
    have e2 : HT.sIx (xs.map MV.int).length (xs.map MV.int).length (some (k : Int)) = k := by
      rw [HT.sIx_nat, List.length_map]; omega
    rw [cutM, e1, e2]
    simp
  simp only [slcF, lstOf, iV, Option.bind, pures_v, e]
  rfl
variable (E : BookEnv T P) (S : SrcEnv T P)
include S
theorem src_init (hn : 1 ≤ n) : run T P n 23 [.r h.length, .v (iV vs)] (h ++ [.ins 3 []]) = .ok (.v .non) (src h vs 0 [] 0 []) := by
  obtain ⟨n, rfl⟩ : ∃ m, n = m + 1 := ⟨n - 1, by omega⟩
  rw [run_succ S.p23 rfl]
  have s1 := setF_top (T := T) (h := h) (f := 10) (c := 3) (x := .v (iV vs)) (fs := []) (by simp) (by simp [S.l3])
  have s2 := setF_top (T := T) (h := h) (f := 11) (c := 3) (x := .v (.int 0)) (fs := [(10, .v (iV vs))]) (by simp) (by simp [S.l3])
  simp [setFs] at s1 s2
  have s3 : setFO T 12 (.r h.length) (.r (h.length + 1)) (h ++ [.ins 3 [(10, .v (iV vs)), (11, .v (.int 0))], .lst []]) = some (h ++ [.ins 3 [(10, .v (iV vs)), (11, .v (.int 0)), (12, .r (h.length + 1))], .lst []]) := by
    simp [setFO, S.l3, List.set_append, setFs]
  have s4 : setFO T 13 (.r h.length) (.v (.int 0)) (h ++ [.ins 3 [(10, .v (iV vs)), (11, .v (.int 0)), (12, .r (h.length + 1))], .lst []]) = some (src h vs 0 [] 0 []) := by
    simp [setFO, S.l3, List.set_append, setFs, src, srcF, sL]
  simp -implicitDefEqProofs [B.f23_Source___init__, B.c_f23_Source___init__, s1, s2, s3, s4, finish, leave]
theorem mk_src (hn : 1 ≤ n) : kMk T (run T P n) 3 (.ok [.v (iV vs)] h) = .ok (.r h.length) (src h vs 0 [] 0 []) := by
  rw [kMk_ok, S.i3, kMk1_some, src_init S hn, kMk2_ok, kMk3_non]
  simp [makeEnd, S.f3]
include E
theorem decode_spec (h18 : P 18 = some B.f18_checksum) {d : Nat} {fs : List Str} {ds : List DR} {ru : Str} (ok : BookOk d fs ds ru) (hl : (bookCode fs ds ru).length ≤ 1000000) (hn : d + 4 ≤ n) (w : Wf h) : run T P n 30 [.v (iV (bookCode fs ds ru ++ [chk (bookCode fs ds ru)]))] h = .ok (.v (bkV d fs ds ru)) h := by
  obtain ⟨n, rfl⟩ : ∃ m, n = m + 1 := ⟨n - 1, by omega⟩
  rw [run_succ S.p30 rfl]
  have wt : ∀ o ∈ ([] : MH), PureC o := by simp
  have hdp := ok.deep
  have ho := ok.outer
  have hmany := ok.many
  rw [desc_sum] at hmany
  generalize hvs : bookCode fs ds ru ++ [chk (bookCode fs ds ru)] = vs
  have e0 : vs.drop 0 = (66 : Int) :: ((fs.length : Int) :: (fs.map nameCode).flatten ++ ((ds.length : Int) :: ((ds.map (ruleCode fs)).flatten ++ (nameCode ru ++ [chk (bookCode fs ds ru)])))) := by
    rw [List.drop_zero, ← hvs]; simp only [bookCode, factsCode, rulesCode]; simp
  have m1 := mk_src S (n := n) (h := h) (vs := vs) (by omega)
  have t1 := take_spec S (n := n) (h := h) (lo := 66) (hi := 66) (nms := []) (c := 0) (tl := []) e0 (by omega) (by omega) (by omega) w wt
  have e1 := drop_next (a := [(66 : Int)]) e0
  have t2 := take_facts_spec S (n := n) (h := h) (nms := []) (c := 0) (tl := []) e1 ok.facts (by omega) w wt
  have e2 := drop_next (a := (fs.length : Int) :: (fs.map nameCode).flatten) e1
  simp only [List.length_cons, List.length_nil, Nat.zero_add] at t1 t2 e1 e2
  generalize hK1 : 1 + 1 + (fs.map nameCode).flatten.length = K1 at t2
  rw [show 1 + ((fs.map nameCode).flatten.length + 1) = K1 by omega] at e2
  have t3 := take_count_spec S (n := n) (h := h) (nms := []) (c := 0) (tl := []) (most := 40) e2 (by omega) (by omega) (by omega) w wt
  have e3 := drop_next (a := [(ds.length : Int)]) e2
  simp only [List.length_cons, List.length_nil, Nat.zero_add] at t3 e3
  have t3' : run T P n 28 [.r h.length, .v (.int 40)] (src h vs K1 [] 0 []) = .ok (.v (.int (ds.length : Int))) (src h vs (K1 + 1) [] ds.length []) := t3
  have t4 := rules_comp (h := h) (tl := []) (vs := vs) (fs := fs) (step := compStep T (run T P n) (.nm 7) (.cst (.bl true)) (.meth 26 (.var 1) (.cons (.var 2) (.cons (.cst (.int 0)) .nil))) [some (.v (iV vs)), some (.r h.length), some (.v (sT fs)), some (.v (.int ds.length)), none, none, none, none]) (F := run T P n) (dp := ((0 : Nat) : Int)) (i := ds) (k := K1 + 1) (c := ds.length) (nms := []) (by
        intro z k nms c H' y hF
        simp -implicitDefEqProofs [wipeR, me_rule S]
        simp at hF
        simp [hF])
      (fun x hx k c nms' rest e1 e2 e3 e4 e5 => take_rule_spec E S ok.facts.2.1 w wt d n x 0 k c nms' rest (by omega) (ok.rules x hx) (by omega) e1 e2 e3 e4 e5) e3 (by simp) ok.nodup (by omega) (by rw [desc_sum]; simp; omega) (by omega)
  have e4 := drop_next e3
  simp only [List.nil_append] at t4
  generalize hK2 : K1 + 1 + (ds.map (ruleCode fs)).flatten.length = K2 at t4 e4
  generalize hC : ds.length + (ds.map desc).sum = C at t4
  generalize hN : (ds.map dnames).flatten = N at t4
  have t5 := take_name_spec S (n := n) (h := h) (nms := N) (c := C) (tl := []) e4 ok.ruling (by omega) w wt
  have e5 := drop_next e4
  generalize hK3 : K2 + (nameCode ru).length = K3 at t5 e5
  have hK : K3 = (bookCode fs ds ru).length := by
    simp only [bookCode, factsCode, rulesCode, List.length_append, List.length_cons, List.length_nil]; omega
  have c1 := slc_i (h := src h vs K3 N C []) (xs := vs) (k := K3) (by rw [← hvs, hK]; simp)
  have tk : vs.take K3 = bookCode fs ds ru := by rw [← hvs, hK]; simp
  rw [tk] at c1
  have c2 := checksum_gen (T := T) h18 (n := n) (h := src h vs K3 N C []) (vs := bookCode fs ds ru) (by omega) itVal_iV rfl (src_wf w wt)
  have t6 := take_spec S (n := n) (h := h) (lo := chk (bookCode fs ds ru)) (hi := chk (bookCode fs ds ru)) (nms := N) (c := C) (tl := []) e5 (by omega) (by omega) (by omega) w wt
  have ll : ∀ {h : MH}, bltF T .len [.v (iV vs)] h = .ok (.v (.int vs.length)) h := by intro h; simp [iV]
  have hlen : vs.length = K3 + 1 := by rw [← hvs, hK]; simp
  have g1 : ¬ ((K3 + 1 : Nat) : Int) < (vs.length : Int) := by omega
  have m2 := mk_book E (n := n) ok (by omega) (src_wf (vs := vs) (k := K3 + 1) (nms := N) (c := C) w wt)
  have q4 := itRng_nat (n := ds.length) (by omega)
  refine Eq.trans (congrArg _ ?_) (finish_ret (t := [.ins 3 (srcF h.length vs (K3 + 1) C), .lst (sL N)]) w)
  rw [show h ++ [.ins 3 (srcF h.length vs (K3 + 1) C), .lst (sL N)] = src h vs (K3 + 1) N C [] from rfl]
  simp -implicitDefEqProofs [-Int.natCast_add, B.f30_decode_book, B.c_f30_decode_book, m1, me_take S, t1, me_facts S, t2, me_count S, t3', q4, t4, kCo3_f, me_name S, t5, sa_off S, c1, c2, t6, ll, g1, m2]
end
end SC

namespace SC
open PySem L2
theorem leS_ne {a b : Str} (h : leS a b = true) (hne : a ≠ b) : ltS a b = true := by
  simp only [leS, ltS, Bool.not_eq_true', decide_eq_false_iff_not, decide_eq_true_eq] at *
  rcases List.le_iff_lt_or_eq.mp (List.not_lt.mp h) with h | h
  · exact h
  · exfalso; apply hne
    obtain ⟨⟨a⟩⟩ := a
    obtain ⟨⟨b⟩⟩ := b
    simp only at h
    rw [h]
theorem insS_asc {x : Str} : ∀ {xs : List Str}, Asc xs → x ∉ xs → Asc (insS x xs)
  | [], _, _ => by simp [insS, Asc]
  | y :: ys, h, hn => by
    simp only [Asc, List.pairwise_cons] at h
    rw [insS]
    split
    · rename_i c
      have lt := leS_ne c (fun e => hn (e ▸ List.mem_cons_self))
      simp only [Asc, List.pairwise_cons]
      refine ⟨fun z hz => ?_, h⟩
      rcases List.mem_cons.mp hz with rfl | hz
      · exact lt
      · exact ltS_trans lt (h.1 z hz)
    · rename_i c
      have ih := insS_asc (x := x) h.2 (fun e => hn (List.mem_cons_of_mem _ e))
      simp only [Asc, List.pairwise_cons]
      refine ⟨fun z hz => ?_, ih⟩
      rcases List.mem_cons.mp (insS_permP.mem_iff.mp hz) with rfl | hz
      · simp only [leS, Bool.not_eq_true', Bool.not_eq_false] at c; simpa using c
      · exact h.1 z hz
theorem sortS_asc : ∀ {xs : List Str}, xs.Nodup → Asc (sortS xs)
  | [], _ => by simp [sortS, Asc]
  | x :: xs, h => by
    rw [List.nodup_cons] at h
    rw [sortS]
    exact insS_asc (sortS_asc h.2) (fun e => h.1 (sortS_permP.mem_iff.mp e))
theorem Asc.nodup {xs : List Str} (h : Asc xs) : xs.Nodup :=
  List.Pairwise.imp (fun {a b} h e => by subst e; rw [ltS_irreflP] at h; cases h) h
/-- three lists on top -/
def h3 (s : Int) (xs : List Int) (p : Int) (rest : MH) (a b c : List Str) : MH := hs s xs p (rest ++ [.lst (sL a), .lst (sL b), .lst (sL c)])
section
variable {s : Int} {xs : List Int} {p : Int} {rest : MH} {a b c a' : List Str}
theorem h3_0 : (h3 s xs p rest a b c)[rest.length + 2]? = some (.lst (sL a)) := by simp [h3]
theorem h3_1 : (h3 s xs p rest a b c)[rest.length + 3]? = some (.lst (sL b)) := by
  rw [h3, show rest.length + 3 = (rest.length + 1) + 2 by omega, hs_2]; simp
theorem h3_2 : (h3 s xs p rest a b c)[rest.length + 4]? = some (.lst (sL c)) := by
  rw [h3, show rest.length + 4 = (rest.length + 2) + 2 by omega, hs_2]; simp
theorem h3_s0 : (h3 s xs p rest a b c).set (rest.length + 2) (.lst (sL a')) = h3 s xs p rest a' b c := by
  rw [h3, set_hs_2, h3]; simp [List.set_append]
theorem h3_s1 : (h3 s xs p rest a b c).set (rest.length + 3) (.lst (sL a')) = h3 s xs p rest a a' c := by
  rw [h3, show rest.length + 3 = (rest.length + 1) + 2 by omega, set_hs_2, h3]; simp [List.set_append]
theorem h3_s2 : (h3 s xs p rest a b c).set (rest.length + 4) (.lst (sL a')) = h3 s xs p rest a b a' := by
  rw [h3, show rest.length + 4 = (rest.length + 2) + 2 by omega, set_hs_2, h3]; simp [List.set_append]
end
section
variable {T : Tab} {P : Nat → Option Fn} {h : MH} {n : Nat}
theorem next3 (hp : P 32 = some B.f32__law_next) {n : Nat} (hn : 1 ≤ n) {s : Int} {xs : List Int} {p lim : Int} {rest : MH} {a b c : List Str} (w : ∀ o ∈ rest, PureC o) (h0 : 0 < lim) (h1 : lim < 1073741824) (hl : xs.length ≤ 63) :
    ∃ (r : Nat) (s' : Int) (xs' : List Int) (p' : Int), (r : Int) < lim ∧ xs'.length = xs.length ∧ run T P n 32 [.r 1, .v (.int lim)] (h3 s xs p rest a b c) = .ok (.v (.int r)) (h3 s' xs' p' rest a b c) := by
  obtain ⟨n, rfl⟩ : ∃ m, n = m + 1 := ⟨n - 1, by omega⟩
  obtain ⟨r, s', xs', p', g0, g1, g2, g3⟩ := next_spec (T := T) hp n s xs p lim (rest ++ [.lst (sL a), .lst (sL b), .lst (sL c)]) (WfR.of (by
    intro o ho
    rcases List.mem_append.mp ho with ho | ho
    · exact w o ho
    · simp at ho; rcases ho with rfl | rfl | rfl <;> exact sL_pureC)) h0 h1 hl
  refine ⟨r.toNat, s', xs', p', by omega, g2, ?_⟩
  rw [show ((r.toNat : Nat) : Int) = r by omega]
  exact g3
theorem popAt_s {m : Nat} {ls : List Str} {i : Nat} (e : h[m]? = some (.lst (sL ls))) (hi : i < ls.length) (hl : ls.length ≤ 1000) : bmF .popAt (.r m) [.v (.int i)] h = .ok (.v (.str ls[i])) (h.set m (.lst (sL (ls.eraseIdx i)))) := by
  have := popAt_r (h := h) (k := m) (i := (i : Int)) (z := .v (.str ls[i])) e (by omega) (by rw [Int.toNat_natCast]; exact sL_get hi) (by omega)
  rw [this, Int.toNat_natCast, sL_erase]
theorem sorted_sR {m : Nat} {ls : List Str} (e : h[m]? = some (.lst (sL ls))) (hl : ls.length < 64) : bltF T .sorted [.r m] h = .ok (.v (.lst ((sortS ls).map .str))) h := by
  have q : (seqOf h (.r m)).bind strsL = some ls := by
    simp only [seqOf, e, Option.bind, sL]; exact strsL_map
  simp only [bltF, un1, sortedF, q, hl, if_true]; rfl
theorem perm_erase {α : Type} {l : List α} {i : Nat} (hi : i < l.length) : l.Perm (l[i] :: l.eraseIdx i) := by
  have e : l = l.take i ++ l[i] :: l.drop (i + 1) := by rw [← List.drop_eq_getElem_cons hi, List.take_append_drop]
  rw [List.eraseIdx_eq_take_drop_succ]
  conv => lhs; rw [e]
  exact List.perm_middle
theorem perm_take {rs hd fl : List Str} {i : Nat} (hi : i < rs.length) {fs : List Str} (h : (rs ++ (hd ++ fl)).Perm fs) : (rs.eraseIdx i ++ ((hd ++ [rs[i]]) ++ fl)).Perm fs ∧ (rs.eraseIdx i ++ (hd ++ (fl ++ [rs[i]]))).Perm fs := by
  have e : rs.Perm (rs[i] :: rs.eraseIdx i) := perm_erase hi
  have q : (rs ++ (hd ++ fl)).Perm (rs[i] :: (rs.eraseIdx i ++ (hd ++ fl))) := (List.Perm.append_right _ e).trans (by simp)
  constructor
  · refine List.Perm.trans ?_ (q.symm.trans h)
    have : (rs.eraseIdx i ++ (hd ++ [rs[i]] ++ fl)) = (rs.eraseIdx i ++ hd) ++ rs[i] :: fl := by simp
    rw [this]
    refine List.perm_middle.trans ?_
    simp
  · refine List.Perm.trans ?_ (q.symm.trans h)
    have : (rs.eraseIdx i ++ (hd ++ (fl ++ [rs[i]]))) = (rs.eraseIdx i ++ (hd ++ fl)) ++ rs[i] :: [] := by simp
    rw [this]
    refine List.perm_middle.trans ?_
    simp
theorem sides_spec (h32 : P 32 = some B.f32__law_next) (h35 : P 35 = some B.f35__law_sides) {n : Nat} (hn : 2 ≤ n) {fs : List Str} {most : Nat} (hm : most ≤ 8) (hf : ∀ x ∈ fs, isName x = true) (hnd : fs.Nodup) (hfl : fs.length ≤ 60) {s : Int} {xs : List Int} {p : Int} {rest : MH} (w : ∀ o ∈ rest, PureC o) (hx : xs.length ≤ 63) :
    ∃ a b s' xs' p', CondOk a b ∧ (∀ x ∈ a, x ∈ fs) ∧ (∀ x ∈ b, x ∈ fs) ∧ a.length + b.length ≤ most ∧ xs'.length = xs.length ∧ run T P n 35 [.r 1, .v (sT fs), .v (.int most)] (hs s xs p rest) = .ok (.v (.tup [sT a, sT b])) (hs s' xs' p' rest) := by
  obtain ⟨n, rfl⟩ : ∃ m, n = m + 1 := ⟨n - 1, by omega⟩
  rw [run_succ h35 rfl]
  obtain ⟨m, s1, xs1, p1, m1, m2, m3⟩ := next3 (T := T) h32 (n := n) (by omega) (s := s) (xs := xs) (p := p) (lim := (if (fs.length : Int) < most then (fs.length : Int) else most) + 1) (a := fs) (b := []) (c := []) w (by split <;> omega) (by split <;> omega) hx
  have hm1 : m ≤ fs.length ∧ m ≤ most := by split at m1 <;> omega
  have rl : (rangeL 0 m).length = m := by simp [rangeL]
  obtain ⟨r', h', e2, s2, xs2, p2, rs, hd, fl, g1, g2, g3, rfl, z6, z7, rfl⟩ := forL_cnt (step := forStep T (run T P n) (.nm 6) (.cons (.asg (.nm 7) (.bm .popAt (.var 3) (.cons (.call 32 (.cons (.var 0) (.cons (.blt .len (.cons (.var 3) .nil)) .nil))) .nil))) (.cons (.ife (.cmp .gt (.call 32 (.cons (.var 0) (.cons (.cst (.int 3)) .nil))) (.cst (.int 0))) (.cons (.expr (.bm .append (.var 4) (.cons (.var 7) .nil))) .nil) (.cons (.expr (.bm .append (.var 5) (.cons (.var 7) .nil))) .nil)) .nil)))
    (fun j r' h' => ∃ s2 xs2 p2 rs hd fl, xs2.length = xs.length ∧ (rs ++ (hd ++ fl)).Perm fs ∧ hd.length + fl.length = j ∧ h' = h3 s2 xs2 p2 rest rs hd fl ∧ ∃ z6 z7, r' = [some (.r 1), some (.v (sT fs)), some (.v (.int most)), some (.r (rest.length + 2)), some (.r (rest.length + 3)), some (.r (rest.length + 4)), z6, z7]) (rangeL 0 m) 0 [some (.r 1), some (.v (sT fs)), some (.v (.int most)), some (.r (rest.length + 2)), some (.r (rest.length + 3)), some (.r (rest.length + 4)), none, none] (h3 s1 xs1 p1 rest fs [] []) (by
      rintro x j r' h' _ hj ⟨s2, xs2, p2, rs, hd, fl, g1, g2, g3, rfl, z6, z7, rfl⟩
      have hj : j < m := by omega
      have pl := g2.length_eq
      simp only [List.length_append] at pl
      obtain ⟨i, s3, xs3, p3, i1, i2, i3⟩ := next3 (T := T) h32 (n := n) (by omega) (s := s2) (xs := xs2) (p := p2) (lim := (rs.length : Int)) (a := rs) (b := hd) (c := fl) w (by omega) (by omega) (by omega)
      have hi : i < rs.length := by omega
      have b1 := popAt_s (h := h3 s3 xs3 p3 rest rs hd fl) (m := rest.length + 2) (i := i) h3_0 hi (by omega)
      rw [h3_s0] at b1
      obtain ⟨q, s4, xs4, p4, q1, q2, q3⟩ := next3 (T := T) h32 (n := n) (by omega) (s := s3) (xs := xs3) (p := p3) (lim := 3) (a := rs.eraseIdx i) (b := hd) (c := fl) w (by omega) (by omega) (by omega)
      have l0 : ∀ {s xs p}, bltF T .len [.r (rest.length + 2)] (h3 s xs p rest rs hd fl) = .ok (.v (.int rs.length)) (h3 s xs p rest rs hd fl) := by
        intro s xs p; rw [len_r h3_0]; simp
      have v0 : ∀ {s xs p}, recvOk .popAt (.r (rest.length + 2)) (h3 s xs p rest rs hd fl) = true := by intro s xs p; simp [recvOk, lstOf, h3_0]
      have v1 : ∀ {s xs p}, recvOk .append (.r (rest.length + 3)) (h3 s xs p rest (rs.eraseIdx i) hd fl) = true := recv_app h3_1
      have v2 : ∀ {s xs p}, recvOk .append (.r (rest.length + 4)) (h3 s xs p rest (rs.eraseIdx i) hd fl) = true := recv_app h3_2
      have a1 := app_s (h := h3 s4 xs4 p4 rest (rs.eraseIdx i) hd fl) (k := rest.length + 3) (x := rs[i]) h3_1 (by omega)
      have a2 := app_s (h := h3 s4 xs4 p4 rest (rs.eraseIdx i) hd fl) (k := rest.length + 4) (x := rs[i]) h3_2 (by omega)
      rw [h3_s1] at a1
      rw [h3_s2] at a2
      by_cases hq : 0 < q
      · refine ⟨[some (.r 1), some (.v (sT fs)), some (.v (.int most)), some (.r (rest.length + 2)), some (.r (rest.length + 3)), some (.r (rest.length + 4)), some x, some (.v (.str rs[i]))], _, ?_, s4, xs4, p4, rs.eraseIdx i, hd ++ [rs[i]], fl, by omega, (perm_take hi g2).1, by simp; omega, rfl, _, _, rfl⟩
        simp -implicitDefEqProofs [v0, l0, i3, b1, q3, hq, v1, a1]
      · refine ⟨[some (.r 1), some (.v (sT fs)), some (.v (.int most)), some (.r (rest.length + 2)), some (.r (rest.length + 3)), some (.r (rest.length + 4)), some x, some (.v (.str rs[i]))], _, ?_, s4, xs4, p4, rs.eraseIdx i, hd, fl ++ [rs[i]], by omega, (perm_take hi g2).2, by simp; omega, rfl, _, _, rfl⟩
        simp -implicitDefEqProofs [v0, l0, i3, b1, q3, hq, v2, a2]) ⟨s1, xs1, p1, fs, [], [], m2, by simp, rfl, rfl, none, none, rfl⟩
  rw [rl, Nat.zero_add] at g3
  have nd := (g2.nodup_iff).mpr hnd
  rw [List.nodup_append, List.nodup_append] at nd
  have mem : ∀ x, x ∈ hd ∨ x ∈ fl → x ∈ fs := by
    intro x hx
    refine g2.mem_iff.mp ?_
    simp only [List.mem_append]
    exact .inr hx
  have lh := (sortS_permP (xs := hd)).length_eq
  have lf := (sortS_permP (xs := fl)).length_eq
  refine ⟨sortS hd, sortS fl, s2, xs2, p2, ⟨?_, ?_, sortS_asc nd.2.1.1, sortS_asc nd.2.1.2.1, by omega, ?_⟩, ?_, ?_, by omega, g1, ?_⟩
  · exact fun x hx => hf x (mem x (.inl (sortS_permP.mem_iff.mp hx)))
  · exact fun x hx => hf x (mem x (.inr (sortS_permP.mem_iff.mp hx)))
  · exact fun x hx hx' => nd.2.1.2.2 x (sortS_permP.mem_iff.mp hx') x (sortS_permP.mem_iff.mp hx) rfl
  · exact fun x hx => mem x (.inl (sortS_permP.mem_iff.mp hx))
  · exact fun x hx => mem x (.inr (sortS_permP.mem_iff.mp hx))
  · refine Eq.trans (congrArg _ ?_) (fin_push (tail := [.lst (sL rs), .lst (sL hd), .lst (sL fl)]) (WfR.of w))
    have l1 : bltF T .listL [.v (sT fs)] (hs s xs p rest) = .ok (.r (rest.length + 2)) (hs s xs p (rest ++ [.lst (sL fs)])) := by
      rw [sT, listL_tup]; simp [sL]; rfl
    have s1' := sorted_sR (T := T) (h := h3 s2 xs2 p2 rest rs hd fl) (m := rest.length + 3) h3_1 (by omega)
    have s2' := sorted_sR (T := T) (h := h3 s2 xs2 p2 rest rs hd fl) (m := rest.length + 4) h3_2 (by omega)
    have h30 : hs s xs p (rest ++ [.lst (sL fs), .lst [], .lst []]) = h3 s xs p rest fs [] [] := rfl
    have e4 := itRng_nat (n := m) (by omega)
    rw [← h3]
    simp only [Int.ofNat_lt] at m3
    simp -implicitDefEqProofs [B.f35__law_sides, B.c_f35__law_sides, l1, setsL, h30, len_sT, m3, e4, e2, s1', s2', tuple_strs, Nat.add_assoc]
    exact ⟨rfl, rfl⟩
end
end SC

namespace SC
open PySem L2
section
variable {T : Tab} {P : Nat → Option Fn} {h : MH} {n : Nat}
theorem nextN (hp : P 32 = some B.f32__law_next) {n : Nat} (hn : 1 ≤ n) {s : Int} {xs : List Int} {p lim : Int} {rest : MH} (w : ∀ o ∈ rest, PureC o) (h0 : 0 < lim) (h1 : lim < 1073741824) (hl : xs.length ≤ 63) :
    ∃ (r : Nat) (s' : Int) (xs' : List Int) (p' : Int), (r : Int) < lim ∧ xs'.length = xs.length ∧ run T P n 32 [.r 1, .v (.int lim)] (hs s xs p rest) = .ok (.v (.int r)) (hs s' xs' p' rest) := by
  obtain ⟨n, rfl⟩ : ∃ m, n = m + 1 := ⟨n - 1, by omega⟩
  obtain ⟨r, s', xs', p', g0, g1, g2, g3⟩ := next_spec (T := T) hp n s xs p lim rest (WfR.of w) h0 h1 hl
  refine ⟨r.toNat, s', xs', p', by omega, g2, ?_⟩
  rw [show ((r.toNat : Nat) : Int) = r by omega]
  exact g3
theorem pure_set {rest : MH} {o : MO} {j : Nat} (w : ∀ o ∈ rest, PureC o) (h : PureC o) : ∀ o' ∈ rest.set j o, PureC o' := by
  intro o' ho
  rcases List.mem_or_eq_of_mem_set ho with ho | rfl
  · exact w o' ho
  · exact h
theorem ruling_pick {m : Nat} (hm : (m : Int) < 3) {h : MH} : ∃ ru : Str, isName ru = true ∧ idxF (.v (.lst [.str "fine", .str "free", .str "warn"])) (.v (.int m)) h = .ok (.v (.str ru)) h := by
  have : m = 0 ∨ m = 1 ∨ m = 2 := by omega
  rcases this with rfl | rfl | rfl
  · exact ⟨"fine", by decide +kernel, rfl⟩
  · exact ⟨"free", by decide +kernel, rfl⟩
  · exact ⟨"warn", by decide +kernel, rfl⟩
def three : List Str := ["fine", "free", "warn"]
theorem three_names : ∀ x ∈ three, isName x = true := by decide +kernel
def drulings : DR → List Str
  | .mk _ _ _ r i => r :: (i.map drulings).flatten
theorem drulings_mk {n a b r i} : drulings (.mk n a b r i) = r :: (i.map drulings).flatten := by rw [drulings]
theorem ruling_pick0 {m : Nat} (hm : (m : Int) < 3) {h : MH} : ∃ ru : Str, ru ∈ three ∧ idxF (.v (.lst [.str "fine", .str "free", .str "warn"])) (.v (.int m)) h = .ok (.v (.str ru)) h := by
  have : m = 0 ∨ m = 1 ∨ m = 2 := by omega
  rcases this with rfl | rfl | rfl
  · exact ⟨"fine", by decide +kernel, rfl⟩
  · exact ⟨"free", by decide +kernel, rfl⟩
  · exact ⟨"warn", by decide +kernel, rfl⟩
theorem rule_spec0 (h32 : P 32 = some B.f32__law_next) (h35 : P 35 = some B.f35__law_sides) (h36 : P 36 = some B.f36__law_rule) {fs : List Str} (hf : ∀ x ∈ fs, isName x = true) (hnd : fs.Nodup) (hfl : fs.length ≤ 60) :
    ∀ (deep n : Nat) (nm : Str) (ns : List Str) (s : Int) (xs : List Int) (p : Int) (rest : MH) (j : Nat), deep + 3 ≤ n → (∀ y ∈ nm :: ns, isName y = true) → ns.length ≤ 900 → (∀ o ∈ rest, PureC o) → rest[j]? = some (.lst (sL (nm :: ns))) → xs.length ≤ 63 →
    ∃ x ns' s' xs' p', DRok fs (deep + 1) x ∧ (∀ r ∈ drulings x, r ∈ three) ∧ nm :: ns = dnames x ++ ns' ∧ xs'.length = xs.length ∧ run T P n 36 [.r 1, .v (sT fs), .r (j + 2), .v (.int deep)] (hs s xs p rest) = .ok (.v (drV x)) (hs s' xs' p' (rest.set j (.lst (sL ns'))))
  | deep, n, nm, ns, s, xs, p, rest, j, hn, hnm, hnl, w, hj, hx => by
    obtain ⟨n, rfl⟩ : ∃ m, n = m + 1 := ⟨n - 1, by omega⟩
    have jl : j < rest.length := (List.getElem?_eq_some_iff.mp hj).1
    rw [run_succ h36 rfl]
    have v0 : recvOk .popAt (.r (j + 2)) (hs s xs p rest) = true := by simp [recvOk, lstOf, hj]
    have b1 := popAt_s (h := hs s xs p rest) (m := j + 2) (ls := nm :: ns) (i := 0) (by simpa using hj) (by simp) (by simp; omega)
    simp only [set_hs_2, List.getElem_cons_zero, List.eraseIdx_cons_zero] at b1
    have w1 : ∀ l : List Str, ∀ o ∈ rest.set j (.lst (sL l)), PureC o := fun l => pure_set w sL_pureC
    obtain ⟨a, b, s1, xs1, p1, c1, c2, c3, c4, c5, c6⟩ := sides_spec (T := T) h32 h35 (n := n) (by omega) (most := 2) (by omega) hf hnd hfl (s := s) (xs := xs) (p := p) (w1 ns) hx
    obtain ⟨m, s2, xs2, p2, m1, m2, m3⟩ := nextN (T := T) h32 (n := n) (by omega) (s := s1) (xs := xs1) (p := p1) (lim := 3) (w1 ns) (by omega) (by omega) (by omega)
    obtain ⟨ru, r0, r2⟩ := ruling_pick0 m1 (h := hs s2 xs2 p2 (rest.set j (.lst (sL ns))))
    have r1 := three_names ru r0
    have w2 : ∀ (l : List Str) (zs : List MV), ∀ o ∈ rest.set j (.lst (sL l)) ++ [.lst (zs.map .v)], PureC o := fun l zs => WfR.push (w1 l) pureC_v
    obtain ⟨cnt, s3, xs3, p3, q1, q2, q3⟩ : ∃ (cnt : Nat) (s3 : Int) (xs3 : List Int) (p3 : Int), (cnt ≤ 2 ∧ (deep = 0 → cnt = 0)) ∧ xs3.length = xs.length ∧ evE T (run T P n) (.ite (.cmp .gt (.var 3) (.cst (.int 0))) (.call 32 (.cons (.var 0) (.cons (.cst (.int 3)) .nil))) (.cst (.int 0))) [some (.r 1), some (.v (sT fs)), some (.r (j + 2)), some (.v (.int deep)), some (.v (.str nm)), some (.v (.tup [sT a, sT b])), some (.v (.str ru)), some (.r (rest.length + 2)), none] (hs s2 xs2 p2 (rest.set j (.lst (sL ns)) ++ [.lst []])) = .ok (.v (.int (cnt : Int))) (hs s3 xs3 p3 (rest.set j (.lst (sL ns)) ++ [.lst []])) := by
      by_cases hd : 0 < deep
      · obtain ⟨m, s3, xs3, p3, m1, m2, m3⟩ := nextN (T := T) h32 (n := n) (by omega) (s := s2) (xs := xs2) (p := p2) (lim := 3) (w2 ns []) (by omega) (by omega) (by omega)
        refine ⟨m, s3, xs3, p3, ⟨by omega, by omega⟩, by omega, ?_⟩
        simp only [List.map_nil] at m3
        simp -implicitDefEqProofs [hd, m3]
      · refine ⟨0, s2, xs2, p2, ⟨by omega, fun _ => rfl⟩, by omega, ?_⟩
        simp -implicitDefEqProofs [hd]
    have rl : (rangeL 0 cnt).length = cnt := by simp [rangeL]
    obtain ⟨r', h', e2, s4, xs4, p4, ns', i, g1, g2, g3, g4, rfl, z8, rfl⟩ := forL_cnt (step := forStep T (run T P n) (.nm 8) (.cons (.ife (.cmp .ne (.var 2) (.lst .nil)) (.cons (.expr (.bm .append (.var 7) (.cons (.call 36 (.cons (.var 0) (.cons (.var 1) (.cons (.var 2) (.cons (.bin .sub (.var 3) (.cst (.int 1))) .nil))))) .nil))) .nil) .nil) .nil))
      (fun k r' h' => ∃ s4 xs4 p4 ns' i, xs4.length = xs.length ∧ (∀ x ∈ i, DRok fs deep x ∧ ∀ r ∈ drulings x, r ∈ three) ∧ ns = (i.map dnames).flatten ++ ns' ∧ i.length ≤ k ∧ h' = hs s4 xs4 p4 (rest.set j (.lst (sL ns')) ++ [.lst ((i.map drV).map .v)]) ∧ ∃ z8, r' = [some (.r 1), some (.v (sT fs)), some (.r (j + 2)), some (.v (.int deep)), some (.v (.str nm)), some (.v (.tup [sT a, sT b])), some (.v (.str ru)), some (.r (rest.length + 2)), z8]) (rangeL 0 cnt) 0 [some (.r 1), some (.v (sT fs)), some (.r (j + 2)), some (.v (.int deep)), some (.v (.str nm)), some (.v (.tup [sT a, sT b])), some (.v (.str ru)), some (.r (rest.length + 2)), none] (hs s3 xs3 p3 (rest.set j (.lst (sL ns)) ++ [.lst []])) (by
        rintro x k r' h' _ hk ⟨s4, xs4, p4, ns', i, g1, g2, g3, g4, rfl, z8, rfl⟩
        have hk : k < cnt := by omega
        have get1 : (rest.set j (.lst (sL ns')) ++ [.lst ((i.map drV).map .v)])[j]? = some (.lst (sL ns')) := by
          rw [List.getElem?_append_left (by simpa using jl)]; simp [jl]
        have n1 : cmpO .ne (.r (j + 2)) (.v (.lst [])) (hs s4 xs4 p4 (rest.set j (.lst (sL ns')) ++ [.lst ((i.map drV).map .v)])) = .ok (.v (.bl (!decide (sL ns' = [])))) (hs s4 xs4 p4 (rest.set j (.lst (sL ns')) ++ [.lst ((i.map drV).map .v)])) := ne_nilR (by simpa using get1)
        cases ns' with
        | nil =>
          refine ⟨[some (.r 1), some (.v (sT fs)), some (.r (j + 2)), some (.v (.int deep)), some (.v (.str nm)), some (.v (.tup [sT a, sT b])), some (.v (.str ru)), some (.r (rest.length + 2)), some x], _, ?_, s4, xs4, p4, [], i, g1, g2, g3, by omega, rfl, _, rfl⟩
          rw [show decide (sL ([] : List Str) = []) = true from rfl] at n1
          simp -implicitDefEqProofs [-List.map_map, n1]
        | cons nm2 ns2 =>
          cases deep with
          | zero => omega
          | succ deep =>
          have hns : ∀ y ∈ nm2 :: ns2, isName y = true := by
            intro y hy
            exact hnm y (List.mem_cons_of_mem _ (by rw [g3]; exact List.mem_append_right _ hy))
          have hnl2 : ns2.length ≤ 900 := by
            have := congrArg List.length g3
            simp only [List.length_append, List.length_cons] at this
            omega
          obtain ⟨y, ns3, s5, xs5, p5, y1, y0, y2, y3, y4⟩ := rule_spec0 h32 h35 h36 hf hnd hfl deep n nm2 ns2 s4 xs4 p4 (rest.set j (.lst (sL (nm2 :: ns2))) ++ [.lst ((i.map drV).map .v)]) j (by omega) hns hnl2 (w2 _ _) get1 (by omega)
          have set2 : (rest.set j (.lst (sL (nm2 :: ns2))) ++ [MO.lst ((i.map drV).map LV.v)]).set j (.lst (sL ns3)) = rest.set j (.lst (sL ns3)) ++ [.lst ((i.map drV).map .v)] := by
            rw [List.set_append_left _ _ (by simpa using jl), List.set_set]
          rw [set2] at y4
          have get2 : (hs s5 xs5 p5 (rest.set j (.lst (sL ns3)) ++ [.lst ((i.map drV).map .v)]))[rest.length + 2]? = some (.lst ((i.map drV).map .v)) := by
            have : (rest.set j (.lst (sL ns3))).length = rest.length := by simp
            rw [hs_2, ← this]; exact top_get
          have a1 := app_v (x := drV y) get2 (by simp; omega)
          have set3 : (hs s5 xs5 p5 (rest.set j (.lst (sL ns3)) ++ [.lst ((i.map drV).map .v)])).set (rest.length + 2) (.lst ((i.map drV ++ [drV y]).map .v)) = hs s5 xs5 p5 (rest.set j (.lst (sL ns3)) ++ [.lst (((i ++ [y]).map drV).map .v)]) := by
            have : (rest.set j (.lst (sL ns3))).length = rest.length := by simp
            rw [set_hs_2, ← this, top_set]; simp
          rw [set3] at a1
          have v7 : ∀ {s xs p} {l : List Str}, recvOk .append (.r (rest.length + 2)) (hs s xs p (rest.set j (.lst (sL l)) ++ [.lst ((i.map drV).map .v)])) = true := by
            intro s xs p l
            refine recv_app (ls := (i.map drV).map .v) ?_
            have : (rest.set j (.lst (sL l))).length = rest.length := by simp
            rw [hs_2, ← this]; exact top_get
          refine ⟨[some (.r 1), some (.v (sT fs)), some (.r (j + 2)), some (.v (.int ((deep + 1 : Nat) : Int))), some (.v (.str nm)), some (.v (.tup [sT a, sT b])), some (.v (.str ru)), some (.r (rest.length + 2)), some x], _, ?_, s5, xs5, p5, ns3, i ++ [y], by omega, ?_, ?_, by simp; omega, rfl, _, rfl⟩
          · rw [show decide (sL (nm2 :: ns2) = []) = false by simp [sL]] at n1
            have hdd : ((deep + 1 : Nat) : Int) - 1 = (deep : Int) := by omega
            simp -implicitDefEqProofs [-List.map_map, -List.map_append, -Int.natCast_add, n1, v7, hdd, y4, a1]
          · intro z hz
            rcases List.mem_append.mp hz with hz | hz
            · exact g2 z hz
            · simp at hz; subst hz; exact ⟨y1, y0⟩
          · rw [g3, y2]; simp) ⟨s3, xs3, p3, ns, [], by omega, by simp, by simp, by simp, rfl, none, rfl⟩
    rw [rl, Nat.zero_add] at g4
    refine ⟨.mk nm a b ru i, ns', s4, xs4, p4, ?_, ?_, ?_, by omega, ?_⟩
    · simp only [DRok]
      exact ⟨hnm nm List.mem_cons_self, r1, c1, c2, c3, by omega, fun x hx => (g2 x hx).1⟩
    · intro r hr
      rw [drulings_mk] at hr
      rcases List.mem_cons.mp hr with rfl | hr
      · exact r0
      · obtain ⟨l, hl, hr⟩ := List.mem_flatten.mp hr
        obtain ⟨x, hx, rfl⟩ := List.mem_map.mp hl
        exact (g2 x hx).2 r hr
    · rw [dnames_mk, g3]; rfl
    · have wr : WfR (rest.set j (.lst (sL ns'))) := WfR.of (w1 ns')
      have hlen : (hs s xs p rest).length = (hs s xs p (rest.set j (.lst (sL ns')))).length := by simp
      rw [hlen]
      refine Eq.trans (congrArg _ ?_) (fin_push (tail := [.lst ((i.map drV).map .v)]) wr)
      have e4 := itRng_nat (n := cnt) (by omega)
      have tp : bltF T .tuple [.r (rest.length + 2)] (hs s4 xs4 p4 (rest.set j (.lst (sL ns')) ++ [.lst ((i.map drV).map .v)])) = .ok (.v (.tup (i.map drV))) (hs s4 xs4 p4 (rest.set j (.lst (sL ns')) ++ [.lst ((i.map drV).map .v)])) := by
        refine tuple_r (ls := (i.map drV).map .v) ?_ pures_v
        have : (rest.set j (.lst (sL ns'))).length = rest.length := by simp
        rw [hs_2, ← this]; exact top_get
      generalize hite : CE.ite (.cmp .gt (.var 3) (.cst (.int 0))) (.call 32 (.cons (.var 0) (.cons (.cst (.int 3)) .nil))) (.cst (.int 0)) = iteE at q3
      rw [drV_mk]
      simp only [B.f36__law_rule, B.c_f36__law_rule, hite]
      have b1' : bmF .popAt (.r (j + 2)) [.v (.int 0)] (hs s xs p rest) = .ok (.v (.str nm)) (hs s xs p (rest.set j (.lst (sL ns)))) := b1
      have c6' : run T P n 35 [.r 1, .v (sT fs), .v (.int 2)] (hs s xs p (rest.set j (.lst (sL ns)))) = .ok (.v (.tup [sT a, sT b])) (hs s1 xs1 p1 (rest.set j (.lst (sL ns)))) := c6
      simp -implicitDefEqProofs [-List.map_map, v0, b1', c6', setsL, m3, r2, q3, e4, e2, tp]
theorem rule_spec (h32 : P 32 = some B.f32__law_next) (h35 : P 35 = some B.f35__law_sides) (h36 : P 36 = some B.f36__law_rule) {fs : List Str} (hf : ∀ x ∈ fs, isName x = true) (hnd : fs.Nodup) (hfl : fs.length ≤ 60) :
    ∀ (deep n : Nat) (nm : Str) (ns : List Str) (s : Int) (xs : List Int) (p : Int) (rest : MH) (j : Nat), deep + 3 ≤ n → (∀ y ∈ nm :: ns, isName y = true) → ns.length ≤ 900 → (∀ o ∈ rest, PureC o) → rest[j]? = some (.lst (sL (nm :: ns))) → xs.length ≤ 63 →
    ∃ x ns' s' xs' p', DRok fs (deep + 1) x ∧ nm :: ns = dnames x ++ ns' ∧ xs'.length = xs.length ∧ run T P n 36 [.r 1, .v (sT fs), .r (j + 2), .v (.int deep)] (hs s xs p rest) = .ok (.v (drV x)) (hs s' xs' p' (rest.set j (.lst (sL ns'))))
  | deep, n, nm, ns, s, xs, p, rest, j, a1, a2, a3, a4, a5, a6 => by
    obtain ⟨x, ns', s', xs', p', b1, _, b2, b3, b4⟩ := rule_spec0 (T := T) h32 h35 h36 hf hnd hfl deep n nm ns s xs p rest j a1 a2 a3 a4 a5 a6
    exact ⟨x, ns', s', xs', p', b1, b2, b3, b4⟩
end
end SC

namespace SC
open PySem L2
def twelve : List Str := ["hue", "ox", "ab", "ivy", "tar", "bay", "elm", "sun", "cat", "zed", "kin", "rye"]
theorem twelve_names : ∀ x ∈ twelve, isName x = true := by decide +kernel
theorem twelve_nodup : twelve.Nodup := by decide +kernel
theorem ten_names : ∀ x ∈ ten, isName x = true := by decide +kernel
theorem ten_asc : Asc ten := by
  unfold Asc
  decide +kernel
/-- the cells of a book that is drawn -/
def h3d (s : Int) (xs : List Int) (p : Int) (rest : MH) (zs : List MV) (ns : List Str) : MH := hs s xs p (rest ++ [.lst (sL twelve), .lst (zs.map .v), .lst (sL ns)])
section
variable {T : Tab} {P : Nat → Option Fn} {h : MH} {n : Nat}
theorem slcL_s {k : Nat} {ls : List Str} {r : Nat} (e : h[k]? = some (.lst (sL ls))) : slcF true (.r k) (some (r : Int)) none h = .ok (.r h.length) (h ++ [.lst (sL (ls.drop r))]) := by
  have c : cutM (sL ls) (some (r : Int)) none = sL (ls.drop r) := by
    have e1 : HT.sIx (sL ls).length 0 (some (r : Int)) = min r ls.length := by rw [HT.sIx_nat, sL_len]
    have e2 : HT.sIx (sL ls).length (sL ls).length none = ls.length := by rw [HT.sIx_none, sL_len]
    rw [cutM, e1, e2]
    unfold sL
    rw [← List.map_drop, ← List.map_take]
    congr 1
    rcases Nat.le_total r ls.length with hr | hr
    · rw [Nat.min_eq_left hr, List.take_of_length_le (by simp)]
    · rw [Nat.min_eq_right hr]
      simp [List.drop_eq_nil_of_le hr]
  simp only [slcF, lstOf, e, c, if_true]
theorem drawn_spec0 (h32 : P 32 = some B.f32__law_next) (h35 : P 35 = some B.f35__law_sides) (h36 : P 36 = some B.f36__law_rule) (h37 : P 37 = some B.f37__law_drawn) {fs : List Str} (okf : FactsOk fs) {most : Nat} (hm : most ≤ 40) (hn : 6 ≤ n) {s : Int} {xs : List Int} {p : Int} {rest : MH} (w : ∀ o ∈ rest, PureC o) (hx : xs.length ≤ 63) :
    ∃ ds ru s' xs' p', BookOk 3 fs ds ru ∧ (∃ q ns', twelve.drop q = (ds.map dnames).flatten ++ ns') ∧ ((∀ x ∈ ds, ∀ r ∈ drulings x, r ∈ three) ∧ ru ∈ three) ∧ (ds.map dnames).flatten.length ≤ 12 ∧ xs'.length = xs.length ∧ run T P n 37 [.r 1, .v (sT fs), .v (.int most)] (hs s xs p rest) = .ok (.v (drawnV fs ds ru)) (hs s' xs' p' rest) := by
  obtain ⟨n, rfl⟩ : ∃ m, n = m + 1 := ⟨n - 1, by omega⟩
  rw [run_succ h37 rfl]
  have hf := okf.1
  have hnd := okf.2.1.nodup
  have hfl := okf.2.2.2
  have wA : ∀ o ∈ rest ++ [.lst (sL twelve), .lst []], PureC o := by
    intro o ho
    rcases List.mem_append.mp ho with ho | ho
    · exact w o ho
    · simp at ho; rcases ho with rfl | rfl
      · exact sL_pureC
      · exact sL_pureC (fs := [])
  have wB : ∀ (zs : List MV) (ns : List Str), ∀ o ∈ rest ++ [.lst (sL twelve), .lst (zs.map .v), .lst (sL ns)], PureC o := by
    intro zs ns o ho
    rcases List.mem_append.mp ho with ho | ho
    · exact w o ho
    · simp only [List.mem_cons, List.not_mem_nil, or_false] at ho; rcases ho with rfl | rfl | rfl
      · exact sL_pureC
      · exact pureC_v
      · exact sL_pureC
  obtain ⟨q, s1, xs1, p1, q1, q2, q3⟩ := nextN (T := T) h32 (n := n) (by omega) (s := s) (xs := xs) (p := p) (lim := 4) wA (by omega) (by omega) hx
  obtain ⟨m, s2, xs2, p2, m1, m2, m3⟩ := nextN (T := T) h32 (n := n) (by omega) (s := s1) (xs := xs1) (p := p1) (lim := (most : Int) + 1) (wB [] (twelve.drop q)) (by omega) (by omega) (by omega)
  have rl : (rangeL 0 m).length = m := by simp [rangeL]
  obtain ⟨r', h', e2, s4, xs4, p4, ns', i, g1, g2, g3, g4, rfl, z5, rfl⟩ := forL_cnt (step := forStep T (run T P n) (.nm 5) (.cons (.ife (.cmp .ne (.var 3) (.lst .nil)) (.cons (.expr (.bm .append (.var 4) (.cons (.call 36 (.cons (.var 0) (.cons (.var 1) (.cons (.var 3) (.cons (.cst (.int 2)) .nil))))) .nil))) .nil) .nil) .nil))
      (fun k r' h' => ∃ s4 xs4 p4 ns' i, xs4.length = xs.length ∧ (∀ x ∈ i, DRok fs 3 x ∧ ∀ r ∈ drulings x, r ∈ three) ∧ twelve.drop q = (i.map dnames).flatten ++ ns' ∧ i.length ≤ k ∧ h' = h3d s4 xs4 p4 rest (i.map drV) ns' ∧ ∃ z5, r' = [some (.r 1), some (.v (sT fs)), some (.v (.int most)), some (.r (rest.length + 4)), some (.r (rest.length + 3)), z5]) (rangeL 0 m) 0 [some (.r 1), some (.v (sT fs)), some (.v (.int most)), some (.r (rest.length + 4)), some (.r (rest.length + 3)), none] (h3d s2 xs2 p2 rest [] (twelve.drop q)) (by
        rintro x k r' h' _ hk ⟨s4, xs4, p4, ns', i, g1, g2, g3, g4, rfl, z5, rfl⟩
        have hk : k < m := by omega
        have get1 : ∀ {zs : List MV} {ns : List Str}, (rest ++ [MO.lst (sL twelve), .lst (zs.map .v), .lst (sL ns)])[rest.length + 2]? = some (.lst (sL ns)) := by intro zs ns; simp
        have get1' : ∀ {s xs p} {zs : List MV} {ns : List Str}, (h3d s xs p rest zs ns)[rest.length + 4]? = some (.lst (sL ns)) := by
          intro s xs p zs ns
          rw [h3d, show rest.length + 4 = (rest.length + 2) + 2 by omega, hs_2]; exact get1
        have get2' : ∀ {s xs p} {zs : List MV} {ns : List Str}, (h3d s xs p rest zs ns)[rest.length + 3]? = some (.lst (zs.map .v)) := by
          intro s xs p zs ns
          rw [h3d, show rest.length + 3 = (rest.length + 1) + 2 by omega, hs_2]; simp
        have n1 := ne_nilR (get1' (s := s4) (xs := xs4) (p := p4) (zs := i.map drV) (ns := ns'))
        cases ns' with
        | nil =>
          refine ⟨[some (.r 1), some (.v (sT fs)), some (.v (.int most)), some (.r (rest.length + 4)), some (.r (rest.length + 3)), some x], _, ?_, s4, xs4, p4, [], i, g1, g2, g3, by omega, rfl, _, rfl⟩
          rw [show decide (sL ([] : List Str) = []) = true from rfl] at n1
          simp -implicitDefEqProofs [-List.map_map, n1]
        | cons nm2 ns2 =>
          have hns : ∀ y ∈ nm2 :: ns2, isName y = true := by
            intro y hy
            have : y ∈ twelve.drop q := by rw [g3]; exact List.mem_append_right _ hy
            exact twelve_names y (List.mem_of_mem_drop this)
          have hnl2 : ns2.length ≤ 900 := by
            have := congrArg List.length g3
            simp only [List.length_append, List.length_cons, List.length_drop] at this
            have t12 : twelve.length = 12 := rfl
            omega
          obtain ⟨y, ns3, s5, xs5, p5, y1, y0, y2, y3, y4⟩ := rule_spec0 (T := T) h32 h35 h36 hf hnd hfl 2 n nm2 ns2 s4 xs4 p4 (rest ++ [.lst (sL twelve), .lst ((i.map drV).map .v), .lst (sL (nm2 :: ns2))]) (rest.length + 2) (by omega) hns hnl2 (wB _ _) get1 (by omega)
          have set2 : (rest ++ [MO.lst (sL twelve), .lst ((i.map drV).map .v), .lst (sL (nm2 :: ns2))]).set (rest.length + 2) (.lst (sL ns3)) = rest ++ [MO.lst (sL twelve), .lst ((i.map drV).map .v), .lst (sL ns3)] := by
            simp [List.set_append]
          rw [set2] at y4
          have y4' : run T P n 36 [.r 1, .v (sT fs), .r (rest.length + 4), .v (.int 2)] (h3d s4 xs4 p4 rest (i.map drV) (nm2 :: ns2)) = .ok (.v (drV y)) (h3d s5 xs5 p5 rest (i.map drV) ns3) := y4
          have a1 := app_v (x := drV y) (get2' (s := s5) (xs := xs5) (p := p5) (zs := i.map drV) (ns := ns3)) (by simp; omega)
          have set3 : (h3d s5 xs5 p5 rest (i.map drV) ns3).set (rest.length + 3) (.lst ((i.map drV ++ [drV y]).map .v)) = h3d s5 xs5 p5 rest ((i ++ [y]).map drV) ns3 := by
            rw [h3d, show rest.length + 3 = (rest.length + 1) + 2 by omega, set_hs_2, h3d]; simp [List.set_append]
          rw [set3] at a1
          have v7 : ∀ {s xs p} {ns : List Str}, recvOk .append (.r (rest.length + 3)) (h3d s xs p rest (i.map drV) ns) = true := recv_app get2'
          refine ⟨[some (.r 1), some (.v (sT fs)), some (.v (.int most)), some (.r (rest.length + 4)), some (.r (rest.length + 3)), some x], _, ?_, s5, xs5, p5, ns3, i ++ [y], by omega, ?_, ?_, by simp; omega, rfl, _, rfl⟩
          · rw [show decide (sL (nm2 :: ns2) = []) = false by simp [sL]] at n1
            simp -implicitDefEqProofs [-List.map_map, -List.map_append, n1, v7, y4', a1]
          · intro z hz
            rcases List.mem_append.mp hz with hz | hz
            · exact g2 z hz
            · simp at hz; subst hz; exact ⟨y1, y0⟩
          · rw [g3, y2]; simp) ⟨s2, xs2, p2, twelve.drop q, [], by omega, by simp, by simp, by simp, rfl, none, rfl⟩
  rw [rl, Nat.zero_add] at g4
  obtain ⟨mr, s5, xs5, p5, u1, u2, u3⟩ := nextN (T := T) h32 (n := n) (by omega) (s := s4) (xs := xs4) (p := p4) (lim := 3) (wB (i.map drV) ns') (by omega) (by omega) (by omega)
  obtain ⟨ru, r0, r2⟩ := ruling_pick0 u1 (h := h3d s5 xs5 p5 rest (i.map drV) ns')
  have r1 := three_names ru r0
  have t12 : twelve.length = 12 := rfl
  have hlen : (i.map dnames).flatten.length ≤ 12 := by
    have := congrArg List.length g3
    simp only [List.length_append, List.length_drop] at this
    omega
  refine ⟨i, ru, s5, xs5, p5, ⟨okf, fun x hx => (g2 x hx).1, by omega, by omega, ?_, by omega, r1⟩, ⟨q, ns', g3⟩, ⟨fun x hx => (g2 x hx).2, r0⟩, hlen, by omega, ?_⟩
  · have : (twelve.drop q).Nodup := twelve_nodup.sublist (List.drop_sublist _ _)
    rw [g3, List.nodup_append] at this
    exact this.1
  · refine Eq.trans (congrArg _ ?_) (fin_push (tail := [.lst (sL twelve), .lst ((i.map drV).map .v), .lst (sL ns')]) (WfR.of w))
    have e4 := itRng_nat (n := m) (by omega)
    have e0 : ([.v (.str "hue"), .v (.str "ox"), .v (.str "ab"), .v (.str "ivy"), .v (.str "tar"), .v (.str "bay"), .v (.str "elm"), .v (.str "sun"), .v (.str "cat"), .v (.str "zed"), .v (.str "kin"), .v (.str "rye")] : List LV) = sL twelve := rfl
    have sl : slcF true (.r (rest.length + 2)) (some (q : Int)) none (hs s1 xs1 p1 (rest ++ [.lst (sL twelve), .lst []])) = .ok (.r (rest.length + 4)) (h3d s1 xs1 p1 rest [] (twelve.drop q)) := by
      rw [slcL_s (ls := twelve) (by rw [hs_2]; simp)]
      simp [h3d]
    have u3' : run T P n 32 [.r 1, .v (.int 3)] (h3d s4 xs4 p4 rest (i.map drV) ns') = .ok (.v (.int mr)) (h3d s5 xs5 p5 rest (i.map drV) ns') := u3
    have m3' : run T P n 32 [.r 1, .v (.int ((most : Int) + 1))] (h3d s1 xs1 p1 rest [] (twelve.drop q)) = .ok (.v (.int m)) (h3d s2 xs2 p2 rest [] (twelve.drop q)) := m3
    have tp : bltF T .tuple [.r (rest.length + 3)] (h3d s4 xs4 p4 rest (i.map drV) ns') = .ok (.v (.tup (i.map drV))) (h3d s4 xs4 p4 rest (i.map drV) ns') := by
      refine tuple_r (ls := (i.map drV).map .v) ?_ pures_v
      rw [h3d, show rest.length + 3 = (rest.length + 1) + 2 by omega, hs_2]; simp
    have cat1 : rest ++ [MO.lst (sL twelve)] ++ [.lst []] = rest ++ [.lst (sL twelve), .lst []] := by simp
    rw [← h3d]
    simp -implicitDefEqProofs [-List.map_map, B.f37__law_drawn, B.c_f37__law_drawn, e0, t12, setsL, q3, sl, m3', e4, e2, tp, u3', r2]
    rfl
theorem drawn_spec (h32 : P 32 = some B.f32__law_next) (h35 : P 35 = some B.f35__law_sides) (h36 : P 36 = some B.f36__law_rule) (h37 : P 37 = some B.f37__law_drawn) {fs : List Str} (okf : FactsOk fs) {most : Nat} (hm : most ≤ 40) (hn : 6 ≤ n) {s : Int} {xs : List Int} {p : Int} {rest : MH} (w : ∀ o ∈ rest, PureC o) (hx : xs.length ≤ 63) :
    ∃ ds ru s' xs' p', BookOk 3 fs ds ru ∧ (ds.map dnames).flatten.length ≤ 12 ∧ xs'.length = xs.length ∧ run T P n 37 [.r 1, .v (sT fs), .v (.int most)] (hs s xs p rest) = .ok (.v (drawnV fs ds ru)) (hs s' xs' p' rest) := by
  obtain ⟨ds, ru, s', xs', p', a, _, _, b, c, e⟩ := drawn_spec0 (T := T) (P := P) (n := n) h32 h35 h36 h37 okf hm hn (s := s) (xs := xs) (p := p) (rest := rest) w hx
  exact ⟨ds, ru, s', xs', p', a, b, c, e⟩
end
end SC

namespace SC
open PySem L2
/-! ### how long codes are, how deep drawn books are -/
theorem flat_le {α β : Type} {f : α → List β} {g : α → Nat} {c : Nat} : ∀ {l : List α}, (∀ x ∈ l, (f x).length ≤ c * g x) → (l.map f).flatten.length ≤ c * (l.map g).sum
  | [], _ => by simp
  | x :: l, h => by
    have ih := flat_le (l := l) (fun y hy => h y (List.mem_cons_of_mem _ hy))
    have := h x List.mem_cons_self
    simp only [List.map_cons, List.flatten_cons, List.length_append, List.sum_cons, Nat.mul_add]
    omega
theorem sum_dnames (i : List DR) : (i.map fun x => (dnames x).length).sum = (i.map dnames).flatten.length := by
  rw [List.length_flatten, List.map_map]; rfl
theorem ruleCode_le {fs : List Str} : ∀ (d : Nat) (x : DR), DRok fs d x → (ruleCode fs x).length ≤ 37 * (dnames x).length
  | 0, _, h => by simp [DRok] at h
  | d + 1, .mk nm a b ru i, h => by
    simp only [DRok] at h
    obtain ⟨k1, k2, k3, k4, k5, k6, k7⟩ := h
    have l1 := isName_len k1
    have l2 := isName_len k2
    have l3 := k3.many
    have ih := flat_le (l := i) (f := ruleCode fs) (g := fun x => (dnames x).length) (c := 37) (fun x hx => ruleCode_le d x (k7 x hx))
    rw [sum_dnames] at ih
    rw [ruleCode_mk, dnames_mk]
    simp only [List.length_append, List.length_cons, nameCode_len, sideCode, List.length_map]
    omega
theorem bookCode_le {d : Nat} {fs : List Str} {ds : List DR} {ru : Str} (ok : BookOk d fs ds ru) : (bookCode fs ds ru).length ≤ 100000 := by
  have ih := flat_le (l := ds) (f := ruleCode fs) (g := fun x => (dnames x).length) (c := 37) (fun x hx => ruleCode_le d x (ok.rules x hx))
  rw [sum_dnames] at ih
  have ih2 := flat_le (l := fs) (f := nameCode) (g := fun _ => 1) (c := 9) (fun x hx => by rw [nameCode_len]; have := isName_len (ok.facts.1 x hx); omega)
  have e1 : (fs.map fun _ => 1).sum = fs.length := by rw [List.map_const', List.sum_replicate_nat, Nat.mul_one]
  rw [e1] at ih2
  have := ok.many
  have := ok.facts.2.2.2
  have := isName_len ok.ruling
  simp only [bookCode, factsCode, rulesCode, List.length_append, List.length_cons, List.length_nil, nameCode_len]
  omega
theorem datS_mono : ∀ (d : Nat) (x : MV), datS d x = true → datS (d + 1) x = true
  | _, .non, _ => by simp [datS]
  | _, .bl _, _ => by simp [datS]
  | _, .int _, _ => by simp [datS]
  | _, .str s, h => by simpa [datS] using h
  | d + 1, .tup xs, h => by
    simp only [datS, List.all_eq_true, Bool.and_eq_true] at h ⊢
    exact ⟨h.1, fun x hx => datS_mono d x (h.2 x hx)⟩
  | d + 1, .lst xs, h => by
    simp only [datS, List.all_eq_true, Bool.and_eq_true] at h ⊢
    exact ⟨h.1, fun x hx => datS_mono d x (h.2 x hx)⟩
  | 0, .tup xs, h => by simp [datS] at h
  | 0, .lst xs, h => by simp [datS] at h
  | 0, .scr xs, h => by simp [datS] at h
  | 0, .ins _ xs, h => by simp [datS] at h
  | 0, .dct _ xs, h => by simp [datS] at h
  | 0, .exo _ _ _ xs, h => by simp [datS] at h
  | _ + 1, .scr xs, h => by simp [datS] at h
  | _ + 1, .ins _ xs, h => by simp [datS] at h
  | _ + 1, .dct _ xs, h => by simp [datS] at h
  | _ + 1, .exo _ _ _ xs, h => by simp [datS] at h
theorem datS_le {d e : Nat} {x : MV} (h : datS d x = true) (hde : d ≤ e) : datS e x = true := by
  induction hde with
  | refl => exact h
  | step _ ih => exact datS_mono _ _ ih
theorem sT_datS {xs : List Str} (hx : ∀ x ∈ xs, isName x = true) (hl : xs.length ≤ 1000000) : datS 1 (sT xs) = true := by
  simp only [sT, datS, List.all_map, List.all_eq_true, List.length_map, Bool.and_eq_true, decide_eq_true_eq]
  refine ⟨hl, fun x hx' => ?_⟩
  simpa [datS] using isName_ok (hx x hx')
theorem drV_datS {fs : List Str} : ∀ (d : Nat) (x : DR), DRok fs d x → datS (2 * d) (drV x) = true
  | 0, _, h => by simp [DRok] at h
  | d + 1, .mk nm a b ru i, h => by
    simp only [DRok] at h
    obtain ⟨k1, k2, k3, k4, k5, k6, k7⟩ := h
    have m := k3.many
    rw [drV_mk, show 2 * (d + 1) = 2 * d + 1 + 1 by omega]
    have s1 : datS (2 * d + 1) (sT a) = true := datS_le (sT_datS k3.na (by omega)) (by omega)
    have s2 : datS (2 * d + 1) (sT b) = true := datS_le (sT_datS k3.nb (by omega)) (by omega)
    have s3 : datS (2 * d + 1) (.tup (i.map drV)) = true := by
      simp only [datS, List.all_map, List.all_eq_true, List.length_map, Bool.and_eq_true, decide_eq_true_eq]
      exact ⟨by omega, fun x hx => drV_datS d x (k7 x hx)⟩
    have n1 := isName_ok k1
    have n2 := isName_ok k2
    simp only [datS, List.all_cons, List.all_nil, Bool.and_true, Bool.and_eq_true, decide_eq_true_eq, List.length_cons, List.length_nil]
    exact ⟨by omega, n1, s1, s2, n2, by simpa only [datS, Bool.and_eq_true, decide_eq_true_eq] using s3⟩
theorem drawn_datS {d : Nat} {fs : List Str} {ds : List DR} {ru : Str} (ok : BookOk d fs ds ru) : datS (2 * d + 2) (drawnV fs ds ru) = true := by
  have ho := ok.outer
  have h60 := ok.facts.2.2.2
  have s1 : datS (2 * d + 1) (sT fs) = true := datS_le (sT_datS ok.facts.1 (by omega)) (by omega)
  have s3 : datS (2 * d + 1) (.tup (ds.map drV)) = true := by
    simp only [datS, List.all_map, List.all_eq_true, List.length_map, Bool.and_eq_true, decide_eq_true_eq]
    exact ⟨by omega, fun x hx => drV_datS d x (ok.rules x hx)⟩
  have n1 := isName_ok ok.ruling
  simp only [drawnV, datS, List.all_cons, List.all_nil, Bool.and_true, Bool.and_eq_true, decide_eq_true_eq, List.length_cons, List.length_nil]
  exact ⟨by omega, s1, by simpa only [datS, Bool.and_eq_true, decide_eq_true_eq] using s3, n1⟩
theorem iV_datS {vs : List Int} (h : vs.length ≤ 1000000) : datS 1 (iV vs) = true := by
  simp only [iV, datS, List.all_map, List.all_eq_true, List.length_map, Bool.and_eq_true, decide_eq_true_eq]
  exact ⟨h, fun x hx => rfl⟩
theorem sub_facts {gs : List Str} (h : gs.Sublist ten) (h1 : 1 ≤ gs.length) : FactsOk gs :=
  ⟨fun x hx => ten_names x (h.subset hx), List.Pairwise.sublist h ten_asc, h1, Nat.le_trans h.length_le (by decide)⟩
theorem wfR_nil : ∀ o ∈ ([] : MH), PureC o := by simp
end SC

namespace SC
open PySem
/-! steps for the suites that tell errors -/
theorem xe_ne {h : MH} {a b : Int} : cmpO .ne (.v (.int a)) (.v (.int b)) h = .ok (.v (.bl (!decide (a = b)))) h := by
  rw [ne_dat (h := h) 0 0 rfl rfl rfl rfl (by decide) (by decide)]; simp
theorem xe_eq {h : MH} {a b : Str} (ha : strOk a = true) (hb : strOk b = true) : cmpO .eq (.v (.str a)) (.v (.str b)) h = .ok (.v (.bl (decide (a = b)))) h := by
  rw [eq_dat (h := h) 0 0 rfl rfl (by simpa [datI, dat] using ha) (by simpa [datI, dat] using hb) (by decide) (by decide)]; simp
theorem xe_in {h : MH} {x a b : Str} : cmpO .isin (.v (.str x)) (.v (.tup [.str a, .str b])) h = .ok (.v (.bl (decide (a = x) || decide (b = x)))) h := by
  simp [cmpO, cmpF, inF, seqOf, flat, eqL, eqM]
  rfl
end SC

namespace SC
open PySem L2
/-! ### conditions, right or wrong -/
/-- a loop that ends at the first item of a kind -/
theorem forL_find {α : Type} {step : LV → ME → MH → OutS} {enc : α → LV} {h : MH} (E : ME → Prop) (bad : α → Bool) (out : α → OutS) (hk : ∀ x ls, kFL none step ls (out x) = out x) : ∀ (xs : List α) (r : ME),
    (∀ x ∈ xs, ∀ r, E r → bad x = false → ∃ r', step (enc x) r h = .nxt r' h ∧ E r') → (∀ x ∈ xs, ∀ r, E r → bad x = true → step (enc x) r h = out x) → E r →
    match xs.find? bad with
    | some x => forL none step (xs.map enc) r h = out x
    | none => ∃ r', forL none step (xs.map enc) r h = .nxt r' h ∧ E r'
  | [], r, _, _, hi => ⟨r, by simp [forL, Its.okIn], hi⟩
  | x :: xs, r, h1, h2, hi => by
    cases hb : bad x with
    | true =>
      simp only [List.find?_cons, hb, List.map_cons, forL_cons]
      rw [h2 x (List.mem_cons_self) r hi hb, hk]
    | false =>
      obtain ⟨r1, e1, i1⟩ := h1 x (List.mem_cons_self) r hi hb
      have := forL_find (enc := enc) E bad out hk xs r1 (fun y hy => h1 y (List.mem_cons_of_mem _ hy)) (fun y hy => h2 y (List.mem_cons_of_mem _ hy)) i1
      simp only [List.find?_cons, hb, List.map_cons, forL_cons, e1, kFL_nxt]
      exact this
theorem enumS {xs : List Str} : enumL (xs.map MV.str) = (List.range xs.length).map fun i : Nat => LV.v (.tup [.int (i : Int), .str (xs.getD i Str.empty)]) := by
  unfold enumL
  apply List.ext_getElem?
  intro i
  simp only [List.getElem?_zipWith, List.getElem?_map, List.getElem?_range, List.length_map]
  by_cases hi : i < xs.length
  · simp [hi]
  · simp [hi]
/-- the i-th of the names xs, on side p, is wrong -/
def badN (a xs : List Str) (p i : Nat) : Bool := !isName (xs.getD i Str.empty) || (decide (0 < i) && leS (xs.getD i Str.empty) (xs.getD (i - 1) Str.empty)) || decide (8 ≤ p * a.length + i) || (decide (p = 1) && decide (xs.getD i Str.empty ∈ a))
def fault (a b : List Str) : Option (Nat × Nat) := match (List.range a.length).find? (badN a a 0) with
  | some i => some (0, i)
  | none => match (List.range b.length).find? (badN a b 1) with
    | some i => some (1, i)
    | none => none
/-- a text that is handled -/
def Tx (x : Str) : Prop := strOk x = true ∧ x.length ≤ 1000
theorem getD_tx {xs : List Str} (hx : ∀ x ∈ xs, Tx x) {i : Nat} (hi : i < xs.length) : Tx (xs.getD i Str.empty) := by
  rw [List.getD_eq_getElem?_getD, List.getElem?_eq_getElem hi]
  exact hx _ (List.getElem_mem hi)
section
variable {T : Tab} {P : Nat → Option Fn} {h : MH} {n : Nat}
theorem idx_gS {xs : List Str} {i : Nat} (hi : i < xs.length) : idxF (.v (sT xs)) (.v (.int (i : Int))) h = .ok (.v (.str (xs.getD i Str.empty))) h := by
  have := idx_sT (h := h) (xs := xs) (i := (i : Int)) (by omega) (by simpa using hi)
  rw [this]
  simp [hi]
abbrev condR : CSs := (.cons (.asg (.nm 7) (.and (.cmp .gt (.var 5) (.cst (.int 0))) (.and (.call 0 (.cons (.var 6) .nil)) (.cmp .le (.var 6) (.idx (.var 4) (.bin .sub (.var 5) (.cst (.int 1)))))))) (.cons (.ife (.or (.not (.call 0 (.cons (.var 6) .nil))) (.or (.var 7) (.cmp .ge (.bin .add (.bin .mul (.var 3) (.blt .len (.cons (.var 1) .nil))) (.var 5)) (.cst (.int 8))))) (.cons (.rais 1 [38, 30] (.cons (.var 3) (.cons (.var 5) .nil))) .nil) .nil) (.cons (.ife (.and (.cmp .eq (.var 3) (.cst (.int 1))) (.cmp .isin (.var 6) (.var 1))) (.cons (.rais 1 [38, 30] (.cons (.var 3) (.cons (.var 5) .nil))) .nil) .nil) .nil)))
theorem condR_side (p0 : P 0 = some B.f0_is_name) (hn : 1 ≤ n) {a xs : List Str} {b x0 : Option LV} {p : Nat} (hp : p = 0 ∨ p = 1) (hx : ∀ x ∈ xs, Tx x) (hl : xs.length ≤ 1000) (ha : a.length ≤ 1000) (w : Wf h) (z5 z6 z7 : Option LV) :
    match (List.range xs.length).find? (badN a xs p) with
    | some i => forL none (forStep T (run T P n) (.tup [(.nm 5), (.nm 6)]) condR) (enumL (xs.map .str)) [x0, some (.v (sT a)), b, some (.v (.int p)), some (.v (sT xs)), z5, z6, z7] h = .exc 1 [(38, .int p), (30, .int i)] h
    | none => ∃ r', forL none (forStep T (run T P n) (.tup [(.nm 5), (.nm 6)]) condR) (enumL (xs.map .str)) [x0, some (.v (sT a)), b, some (.v (.int p)), some (.v (sT xs)), z5, z6, z7] h = .nxt r' h ∧ ∃ y5 y6 y7, r' = [x0, some (.v (sT a)), b, some (.v (.int p)), some (.v (sT xs)), y5, y6, y7] := by
  rw [enumS]
  have key : ∀ i ∈ List.range xs.length, ∀ r, (∃ z5 z6 z7, r = [x0, some (.v (sT a)), b, some (.v (.int p)), some (.v (sT xs)), z5, z6, z7]) →
      (badN a xs p i = false → ∃ r', forStep T (run T P n) (.tup [(.nm 5), (.nm 6)]) condR (LV.v (.tup [.int (i : Int), .str (xs.getD i Str.empty)])) r h = .nxt r' h ∧ ∃ y5 y6 y7, r' = [x0, some (.v (sT a)), b, some (.v (.int p)), some (.v (sT xs)), y5, y6, y7]) ∧
      (badN a xs p i = true → forStep T (run T P n) (.tup [(.nm 5), (.nm 6)]) condR (LV.v (.tup [.int (i : Int), .str (xs.getD i Str.empty)])) r h = .exc 1 [(38, .int p), (30, .int i)] h) := by
    rintro i hi r ⟨z5, z6, z7, rfl⟩
    have hi : i < xs.length := by simpa using hi
    obtain ⟨t1, t2⟩ := getD_tx hx hi
    have nm := name_spec (T := T) p0 hn (xs.getD i Str.empty) (by omega) t1 w
    have prev : 0 < i → idxF (.v (sT xs)) (.v (.int ((i : Int) - 1))) h = .ok (.v (.str (xs.getD (i - 1) Str.empty))) h := fun h0 => by
      have := idx_gS (h := h) (xs := xs) (i := i - 1) (by omega)
      rwa [show ((i - 1 : Nat) : Int) = (i : Int) - 1 by omega] at this
    have mul : binF .mul (.v (.int p)) (.v (.int (a.length : Int))) h = .ok (.v (.int ((p * a.length : Nat) : Int))) h := by
      rw [mul_i, if_pos (Or.inl (by rcases hp with rfl | rfl <;> omega))]; simp
    have c8 : ((8 : Int) ≤ ((p * a.length : Nat) : Int) + (i : Int)) ↔ 8 ≤ p * a.length + i := by omega
    have cp : ((p : Int) = 1) ↔ p = 1 := by omega
    have ci : ((0 : Int) < (i : Int)) ↔ 0 < i := by omega
    generalize hy : xs.getD i Str.empty = y at nm
    have hbad : badN a xs p i = (!isName y || (decide (0 < i) && leS y (xs.getD (i - 1) Str.empty)) || decide (8 ≤ p * a.length + i) || (decide (p = 1) && decide (y ∈ a))) := by
      rw [badN, hy]
    generalize hz : xs.getD (i - 1) Str.empty = z at prev hbad
    rw [hbad]
    generalize hm : p * a.length = m at mul c8
    have late : ∀ {v7 : Option LV}, evS T (run T P n) (.asg (.nm 7) (.and (.cmp .gt (.var 5) (.cst (.int 0))) (.and (.call 0 (.cons (.var 6) .nil)) (.cmp .le (.var 6) (.idx (.var 4) (.bin .sub (.var 5) (.cst (.int 1)))))))) [x0, some (.v (sT a)), b, some (.v (.int p)), some (.v (sT xs)), some (.v (.int i)), some (.v (.str y)), v7] h = .nxt [x0, some (.v (sT a)), b, some (.v (.int p)), some (.v (sT xs)), some (.v (.int i)), some (.v (.str y)), some (.v (.bl (decide (0 < i) && (isName y && leS y z))))] h := by
      intro v7
      by_cases h0 : 0 < i
      · cases hN : isName y <;> (rw [hN] at nm; simp -implicitDefEqProofs [nm, ci, h0, prev h0])
      · simp -implicitDefEqProofs [ci, h0]
    have last : ∀ {v7 : Option LV}, evS T (run T P n) (.ife (.and (.cmp .eq (.var 3) (.cst (.int 1))) (.cmp .isin (.var 6) (.var 1))) (.cons (.rais 1 [38, 30] (.cons (.var 3) (.cons (.var 5) .nil))) .nil) .nil) [x0, some (.v (sT a)), b, some (.v (.int p)), some (.v (sT xs)), some (.v (.int i)), some (.v (.str y)), v7] h = if (decide (p = 1) && decide (y ∈ a)) = true then .exc 1 [(38, .int p), (30, .int i)] h else .nxt [x0, some (.v (sT a)), b, some (.v (.int p)), some (.v (sT xs)), some (.v (.int i)), some (.v (.str y)), v7] h := by
      intro v7
      by_cases h1 : p = 1
      · by_cases h2 : y ∈ a <;> simp -implicitDefEqProofs [eq_ii, cp, h1, in_sT, h2, raisF]
      · simp -implicitDefEqProofs [eq_ii, cp, h1]
    have mid : ∀ {v : Bool}, evS T (run T P n) (.ife (.or (.not (.call 0 (.cons (.var 6) .nil))) (.or (.var 7) (.cmp .ge (.bin .add (.bin .mul (.var 3) (.blt .len (.cons (.var 1) .nil))) (.var 5)) (.cst (.int 8))))) (.cons (.rais 1 [38, 30] (.cons (.var 3) (.cons (.var 5) .nil))) .nil) .nil) [x0, some (.v (sT a)), b, some (.v (.int p)), some (.v (sT xs)), some (.v (.int i)), some (.v (.str y)), some (.v (.bl v))] h = if (!isName y || v || decide (8 ≤ m + i)) = true then .exc 1 [(38, .int p), (30, .int i)] h else .nxt [x0, some (.v (sT a)), b, some (.v (.int p)), some (.v (sT xs)), some (.v (.int i)), some (.v (.str y)), some (.v (.bl v))] h := by
      intro v
      cases hN : isName y <;> cases v <;> by_cases h8 : 8 ≤ m + i <;> (rw [hN] at nm; simp -implicitDefEqProofs [nm, len_sT, mul, c8, h8, raisF])
    have asg : asgT (.tup [(.nm 5), (.nm 6)]) (LV.v (.tup [.int (i : Int), .str y])) [x0, some (.v (sT a)), b, some (.v (.int p)), some (.v (sT xs)), z5, z6, z7] = some [x0, some (.v (sT a)), b, some (.v (.int p)), some (.v (sT xs)), some (.v (.int i)), some (.v (.str y)), z7] := rfl
    rw [forStep_eq, asg, kSt_some, condR, sSs_cons, late, kSq_nxt, sSs_cons, mid]
    have e1 : (!isName y || (decide (0 < i) && (isName y && leS y z)) || decide (8 ≤ m + i)) = (!isName y || (decide (0 < i) && leS y z) || decide (8 ≤ m + i)) := by
      cases isName y <;> simp
    rw [e1]
    constructor
    · intro hb
      obtain ⟨h1, h2⟩ := Bool.or_eq_false_iff.mp hb
      rw [h1, if_neg Bool.false_ne_true, kSq_nxt, sSs_cons, last, h2, if_neg Bool.false_ne_true]
      exact ⟨_, rfl, _, _, _, rfl⟩
    · intro hb
      cases h1 : (!isName y || (decide (0 < i) && leS y z) || decide (8 ≤ m + i)) with
      | true => rw [if_pos rfl]; rfl
      | false =>
        rw [h1, Bool.false_or] at hb
        rw [if_neg Bool.false_ne_true, kSq_nxt, sSs_cons, last, hb, if_pos rfl]; rfl
  have FF := forL_find (step := forStep T (run T P n) (.tup [(.nm 5), (.nm 6)]) condR) (enc := fun i : Nat => LV.v (.tup [.int (i : Int), .str (xs.getD i Str.empty)])) (h := h) (fun r => ∃ z5 z6 z7, r = [x0, some (.v (sT a)), b, some (.v (.int p)), some (.v (sT xs)), z5, z6, z7]) (badN a xs p) (fun i => .exc 1 [(38, .int p), (30, .int i)] h) (fun _ _ => rfl) (List.range xs.length) _ (fun i hi r hr hb => (key i hi r hr).1 hb) (fun i hi r hr hb => (key i hi r hr).2 hb) ⟨z5, z6, z7, rfl⟩
  cases q : (List.range xs.length).find? (badN a xs p) with
  | some i => rw [q] at FF; exact FF
  | none => rw [q] at FF; exact FF
/-- the making of a condition: it is made, or its first fault is told -/
theorem condR_init (p0 : P 0 = some B.f0_is_name) (p80 : P 80 = some B.f80_Condition___init__) (l2 : T.lay 2 = [8, 9]) {a b : List Str} (hn : 2 ≤ n) (hx : ∀ x ∈ a, Tx x) (hy : ∀ x ∈ b, Tx x) (ha : a.length ≤ 1000) (hb : b.length ≤ 1000) (w : Wf h) :
    run T P n 80 [.r h.length, .v (sT a), .v (sT b)] (h ++ [.ins 2 []]) = match fault a b with
      | some (p, i) => .exc 1 [(38, .int p), (30, .int i)] (h ++ [.ins 2 []])
      | none => .ok (.v .non) (h ++ [.ins 2 [(8, .v (sT a)), (9, .v (sT b))]]) := by
  obtain ⟨n, rfl⟩ : ∃ m, n = m + 1 := ⟨n - 1, by omega⟩
  rw [run_succ p80 rfl]
  have w0 : Wf (h ++ [.ins 2 []]) := w.push rfl
  have w2 : Wf (h ++ [.ins 2 [(8, .v (sT a)), (9, .v (sT b))]]) := w.push rfl
  have i1 : itEnum (.v (.tup [sT a, sT b])) (h ++ [.ins 2 []]) = some ⟨[.v (.tup [.int 0, sT a]), .v (.tup [.int 1, sT b])], none⟩ := by simp [itEnum_tup, enumL, List.range, List.range.loop]
  have i2 : ∀ xs : List Str, itEnum (.v (sT xs)) (h ++ [.ins 2 []]) = some ⟨enumL (xs.map .str), none⟩ := fun xs => by simp [sT]
  have s1 := setF_top (T := T) (h := h) (f := 8) (c := 2) (x := .v (sT a)) (fs := []) (by decide) (by simp [l2])
  have s2 := setF_top (T := T) (h := h) (f := 9) (c := 2) (x := .v (sT b)) (fs := [(8, .v (sT a))]) (by simp) (by simp [l2])
  simp only [setFs, if_neg (show ¬ (8 : Nat) = 9 by decide)] at s1 s2
  have c1 := condR_side (T := T) (P := P) (n := n) (h := h ++ [.ins 2 []]) p0 (by omega) (a := a) (xs := a) (b := some (.v (sT b))) (x0 := some (.r h.length)) (p := 0) (.inl rfl) hx ha ha w0 none none none
  have fexc : ∀ fs : List (Nat × MV), finish false (h ++ [MO.ins 2 []]).length (.exc 1 fs (h ++ [.ins 2 []])) = .exc 1 fs (h ++ [.ins 2 []]) := fun fs => by
    have e : wfTo (h ++ [MO.ins 2 []]).length (h ++ [MO.ins 2 []]) = true := by rw [wfTo_iff, List.take_length]; exact w0
    simp only [finish, Bool.false_eq_true, if_false, e, if_true, List.take_length]
  unfold fault
  cases q1 : (List.range a.length).find? (badN a a 0) with
  | some i =>
    rw [q1] at c1
    refine Eq.trans (congrArg _ ?_) (fexc _)
    simp only [Int.ofNat_zero] at c1
    simp -implicitDefEqProofs [B.f80_Condition___init__, B.c_f80_Condition___init__, i1, i2, c1]
  | none =>
    rw [q1] at c1
    obtain ⟨r1, e1, y5, y6, y7, rfl⟩ := c1
    simp only [Int.ofNat_zero] at e1
    have c2 := condR_side (T := T) (P := P) (n := n) (h := h ++ [.ins 2 []]) p0 (by omega) (a := a) (xs := b) (b := some (.v (sT b))) (x0 := some (.r h.length)) (p := 1) (.inr rfl) hy hb ha w0 y5 y6 y7
    simp only [Int.ofNat_one] at c2
    cases q2 : (List.range b.length).find? (badN a b 1) with
    | some i =>
      rw [q2] at c2
      refine Eq.trans (congrArg _ ?_) (fexc _)
      simp -implicitDefEqProofs [B.f80_Condition___init__, B.c_f80_Condition___init__, i1, i2, e1, c2]
    | none =>
      rw [q2] at c2
      obtain ⟨r2, e2, u5, u6, u7, rfl⟩ := c2
      refine Eq.trans (congrArg _ ?_) (finish_nxt' (r := [some (.r h.length), some (.v (sT a)), some (.v (sT b)), some (.v (.int 1)), some (.v (sT b)), u5, u6, u7]) (by simp) w2)
      simp -implicitDefEqProofs [B.f80_Condition___init__, B.c_f80_Condition___init__, i1, i2, e1, e2, s1, s2]
theorem mkR_cond (p0 : P 0 = some B.f0_is_name) (p80 : P 80 = some B.f80_Condition___init__) (l2 : T.lay 2 = [8, 9]) (i2 : T.init 2 = some 80) (f2 : T.frozen 2 = true) {a b : List Str} (hn : 2 ≤ n) (hx : ∀ x ∈ a, Tx x) (hy : ∀ x ∈ b, Tx x) (ha : a.length ≤ 1000) (hb : b.length ≤ 1000) (w : Wf h) :
    kMk T (run T P n) 2 (.ok [.v (sT a), .v (sT b)] h) = match fault a b with
      | some (p, i) => .exc 1 [(38, .int p), (30, .int i)] (h ++ [.ins 2 []])
      | none => .ok (.v (condV a b)) h := by
  rw [kMk_ok, i2, kMk1_some, condR_init p0 p80 l2 hn hx hy ha hb w]
  cases fault a b with
  | some q => rfl
  | none =>
    dsimp only
    rw [kMk2_ok, kMk3_non]
    exact makeEnd_v f2 (by simp [l2]) (by simp [condV]) w
end
end SC

namespace SC
open PySem L2
section
variable {T : Tab} {P : Nat → Option Fn} {h : MH} {n : Nat}
theorem d2_0 {x y : MV} : idxF (.v (.tup [x, y])) (.v (.int 0)) h = .ok (.v x) h := rfl
theorem d2_1 {x y : MV} : idxF (.v (.tup [x, y])) (.v (.int 1)) h = .ok (.v y) h := rfl
/-- the signs of a text that are no letters -/
def oddS (y : Str) : List MV := (y.cps.toList.filter fun c => !isLet c).map fun c => .str (ch c)
theorem odd_comp {F : Phi} {y : Str} {r : ME} (hl : r.length = 8) (hr : r[3]? = some (some (.v (.str y)))) (hy : y.length ≤ 1000) :
    evE T F (.comp false (.nm 7) (.val (.var 3)) (.cmp .notin (.var 7) (.cst (.str "abcdefghijklmnopqrstuvwxyz"))) (.var 7)) r h = .ok (.v (.lst (oddS y))) h := by
  have e := compL_filter (step := compStep T F (.nm 7) (.cmp .notin (.var 7) (.cst (.str letters))) (.var 7) r) (enc := fun c => LV.v (.str (ch c))) (p := fun c => !isLet c) (f := fun c => LV.v (.str (ch c))) (h := h) y.cps.toList [] (by
      intro c hc
      have g7 : ((wipeR r [7]).set 7 (some (LV.v (.str (ch c)))))[7]? = some (some (.v (.str (ch c)))) := by simp [wipeR, hl]
      cases hq : isLet c <;> simp [in_letters, hq, g7]) (by simp [Str.length] at hy ⊢; omega)
  have e2 : itVal (.v (.str y)) h = some ⟨y.cps.toList.map fun c => .v (.str (ch c)), none⟩ := rfl
  simp only [List.nil_append] at e
  simp -implicitDefEqProofs [hr, e2, e, kCo3_f, oddS]
theorem name_odd {y : Str} : isName y = (decide (oddS y = []) && decide (1 ≤ y.length ∧ y.length ≤ 8)) := by
  unfold isName oddS
  rw [Bool.and_comm]
  congr 1
  rw [Bool.eq_iff_iff, decide_eq_true_eq, List.map_eq_nil_iff, List.filter_eq_nil_iff, List.all_eq_true]
  simp
abbrev cDueB : CSs := (.cons (.asg (.nm 3) (.idx (.idx (.var 0) (.var 1)) (.var 2))) (.cons (.asg (.nm 4) (.comp false (.nm 7) (.val (.var 3)) (.cmp .notin (.var 7) (.cst (.str "abcdefghijklmnopqrstuvwxyz"))) (.var 7))) (.cons (.asg (.nm 5) (.and (.cmp .gt (.var 2) (.cst (.int 0))) (.cmp .le (.var 3) (.idx (.idx (.var 0) (.var 1)) (.bin .sub (.var 2) (.cst (.int 1))))))) (.cons (.asg (.nm 6) (.cmp .gt (.bin .add (.bin .add (.var 2) (.cst (.int 1))) (.bin .mul (.var 1) (.blt .len (.cons (.idx (.var 0) (.cst (.int 0))) .nil)))) (.cst (.int 8)))) (.cons (.ife (.or (.cmp .ne (.var 4) (.lst .nil)) (.or (.not (.chn .le .le (.cst (.int 1)) (.blt .len (.cons (.var 3) .nil)) (.cst (.int 8)))) (.or (.var 5) (.or (.var 6) (.and (.cmp .eq (.var 1) (.cst (.int 1))) (.cmp .isin (.var 3) (.idx (.var 0) (.cst (.int 0))))))))) (.cons (.ret (.tup (.cons (.cst (.str "condition")) (.cons (.var 1) (.cons (.var 2) .nil))))) .nil) .nil) .nil)))))
def cDue (p i : Nat) : MV := .tup [.str "condition", .int p, .int i]
theorem due_side {F : Phi} {a b xs : List Str} {p : Nat} (hp : p = 0 ∧ xs = a ∨ p = 1 ∧ xs = b) (hx : ∀ x ∈ xs, Tx x) (hl : xs.length ≤ 1000) (ha : a.length ≤ 1000) (z2 z3 z4 z5 z6 z7 : Option LV) :
    match (List.range xs.length).find? (badN a xs p) with
    | some i => forL none (forStep T F (.nm 2) cDueB) (rangeL 0 xs.length) [some (.v (.tup [sT a, sT b])), some (.v (.int p)), z2, z3, z4, z5, z6, z7] h = .ret (.v (cDue p i)) h
    | none => ∃ r', forL none (forStep T F (.nm 2) cDueB) (rangeL 0 xs.length) [some (.v (.tup [sT a, sT b])), some (.v (.int p)), z2, z3, z4, z5, z6, z7] h = .nxt r' h ∧ ∃ z2 z3 z4 z5 z6 z7, r' = [some (.v (.tup [sT a, sT b])), some (.v (.int p)), z2, z3, z4, z5, z6, z7] := by
  have pi : idxF (.v (.tup [sT a, sT b])) (.v (.int p)) h = .ok (.v (sT xs)) h := by
    rcases hp with ⟨rfl, rfl⟩ | ⟨rfl, rfl⟩
    · exact d2_0
    · exact d2_1
  have key : ∀ i ∈ List.range xs.length, ∀ r, (∃ z2 z3 z4 z5 z6 z7, r = [some (.v (.tup [sT a, sT b])), some (.v (.int p)), z2, z3, z4, z5, z6, z7]) →
      (badN a xs p i = false → ∃ r', forStep T F (.nm 2) cDueB (LV.v (.int (0 + (i : Int)))) r h = .nxt r' h ∧ ∃ z2 z3 z4 z5 z6 z7, r' = [some (.v (.tup [sT a, sT b])), some (.v (.int p)), z2, z3, z4, z5, z6, z7]) ∧
      (badN a xs p i = true → forStep T F (.nm 2) cDueB (LV.v (.int (0 + (i : Int)))) r h = .ret (.v (cDue p i)) h) := by
    rintro i hi r ⟨z2, z3, z4, z5, z6, z7, rfl⟩
    have hi : i < xs.length := by simpa using hi
    obtain ⟨t1, t2⟩ := getD_tx hx hi
    have ix := idx_gS (h := h) hi
    have prev : 0 < i → idxF (.v (sT xs)) (.v (.int ((i : Int) - 1))) h = .ok (.v (.str (xs.getD (i - 1) Str.empty))) h := fun h0 => by
      have := idx_gS (h := h) (xs := xs) (i := i - 1) (by omega)
      rwa [show ((i - 1 : Nat) : Int) = (i : Int) - 1 by omega] at this
    have mul : binF .mul (.v (.int p)) (.v (.int (a.length : Int))) h = .ok (.v (.int ((p * a.length : Nat) : Int))) h := by
      rw [mul_i, if_pos (Or.inl (by rcases hp with ⟨rfl, _⟩ | ⟨rfl, _⟩ <;> omega))]; simp
    have c8 : ((8 : Int) < (i : Int) + 1 + ((p * a.length : Nat) : Int)) ↔ 8 ≤ p * a.length + i := by omega
    have cp : ((p : Int) = 1) ↔ p = 1 := by omega
    have ci : ((0 : Int) < (i : Int)) ↔ 0 < i := by omega
    generalize hy : xs.getD i Str.empty = y at ix t1 t2
    have hbad : badN a xs p i = (!isName y || (decide (0 < i) && leS y (xs.getD (i - 1) Str.empty)) || decide (8 ≤ p * a.length + i) || (decide (p = 1) && decide (y ∈ a))) := by
      rw [badN, hy]
    generalize hz : xs.getD (i - 1) Str.empty = z at prev hbad
    generalize hm : p * a.length = m at mul c8 hbad
    rw [hbad, name_odd]
    rw [forStep_eq, asgT_nm, kSt_some]
    simp only [Int.zero_add]
    show (_ → ∃ r', evSs T F cDueB [some (.v (.tup [sT a, sT b])), some (.v (.int p)), some (.v (.int i)), z3, z4, z5, z6, z7] h = .nxt r' h ∧ _) ∧ (_ → evSs T F cDueB [some (.v (.tup [sT a, sT b])), some (.v (.int p)), some (.v (.int i)), z3, z4, z5, z6, z7] h = _)
    have s1 : ∀ {v3 : Option LV}, evS T F (.asg (.nm 3) (.idx (.idx (.var 0) (.var 1)) (.var 2))) [some (.v (.tup [sT a, sT b])), some (.v (.int p)), some (.v (.int i)), v3, z4, z5, z6, z7] h = .nxt [some (.v (.tup [sT a, sT b])), some (.v (.int p)), some (.v (.int i)), some (.v (.str y)), z4, z5, z6, z7] h := by
      intro v3
      simp -implicitDefEqProofs [pi, ix, -idx_t]
    have s2 : evS T F (.asg (.nm 4) (.comp false (.nm 7) (.val (.var 3)) (.cmp .notin (.var 7) (.cst (.str "abcdefghijklmnopqrstuvwxyz"))) (.var 7))) [some (.v (.tup [sT a, sT b])), some (.v (.int p)), some (.v (.int i)), some (.v (.str y)), z4, z5, z6, z7] h = .nxt [some (.v (.tup [sT a, sT b])), some (.v (.int p)), some (.v (.int i)), some (.v (.str y)), some (.v (.lst (oddS y))), z5, z6, z7] h := by
      rw [evS_asg, odd_comp rfl rfl t2]; rfl
    have s3 : evS T F (.asg (.nm 5) (.and (.cmp .gt (.var 2) (.cst (.int 0))) (.cmp .le (.var 3) (.idx (.idx (.var 0) (.var 1)) (.bin .sub (.var 2) (.cst (.int 1))))))) [some (.v (.tup [sT a, sT b])), some (.v (.int p)), some (.v (.int i)), some (.v (.str y)), some (.v (.lst (oddS y))), z5, z6, z7] h = .nxt [some (.v (.tup [sT a, sT b])), some (.v (.int p)), some (.v (.int i)), some (.v (.str y)), some (.v (.lst (oddS y))), some (.v (.bl (decide (0 < i) && leS y z))), z6, z7] h := by
      by_cases h0 : 0 < i
      · simp -implicitDefEqProofs [pi, -idx_t, ci, h0, prev h0]
      · simp -implicitDefEqProofs [ci, h0]
    have s4 : ∀ {v : Bool}, evS T F (.asg (.nm 6) (.cmp .gt (.bin .add (.bin .add (.var 2) (.cst (.int 1))) (.bin .mul (.var 1) (.blt .len (.cons (.idx (.var 0) (.cst (.int 0))) .nil)))) (.cst (.int 8)))) [some (.v (.tup [sT a, sT b])), some (.v (.int p)), some (.v (.int i)), some (.v (.str y)), some (.v (.lst (oddS y))), some (.v (.bl v)), z6, z7] h = .nxt [some (.v (.tup [sT a, sT b])), some (.v (.int p)), some (.v (.int i)), some (.v (.str y)), some (.v (.lst (oddS y))), some (.v (.bl v)), some (.v (.bl (decide (8 ≤ m + i)))), z7] h := by
      intro v
      simp -implicitDefEqProofs [d2_0, -idx_t, len_sT, mul, c8]
    have s5 : ∀ {v u : Bool}, evS T F (.ife (.or (.cmp .ne (.var 4) (.lst .nil)) (.or (.not (.chn .le .le (.cst (.int 1)) (.blt .len (.cons (.var 3) .nil)) (.cst (.int 8)))) (.or (.var 5) (.or (.var 6) (.and (.cmp .eq (.var 1) (.cst (.int 1))) (.cmp .isin (.var 3) (.idx (.var 0) (.cst (.int 0))))))))) (.cons (.ret (.tup (.cons (.cst (.str "condition")) (.cons (.var 1) (.cons (.var 2) .nil))))) .nil) .nil) [some (.v (.tup [sT a, sT b])), some (.v (.int p)), some (.v (.int i)), some (.v (.str y)), some (.v (.lst (oddS y))), some (.v (.bl v)), some (.v (.bl u)), z7] h = if (!(decide (oddS y = []) && decide (1 ≤ y.length ∧ y.length ≤ 8)) || v || u || (decide (p = 1) && decide (y ∈ a))) = true then .ret (.v (cDue p i)) h else .nxt [some (.v (.tup [sT a, sT b])), some (.v (.int p)), some (.v (.int i)), some (.v (.str y)), some (.v (.lst (oddS y))), some (.v (.bl v)), some (.v (.bl u)), z7] h := by
      intro v u
      have hyl : y.length ≤ 16777216 := by omega
      by_cases ho : oddS y = []
      · by_cases l1 : 1 ≤ y.length
        · by_cases l8 : y.length ≤ 8
          · have g1 : (1 : Int) ≤ y.length := by omega
            have g8 : (y.length : Int) ≤ 8 := by omega
            cases v <;> cases u <;> by_cases h1 : p = 1 <;> by_cases h2 : y ∈ a <;> simp -implicitDefEqProofs [ne_nilL, ho, hyl, g1, g8, l1, l8, eq_ii, cp, h1, d2_0, -idx_t, in_sT, h2, cDue]
          · have g1 : (1 : Int) ≤ y.length := by omega
            have g8 : ¬ (y.length : Int) ≤ 8 := by omega
            simp -implicitDefEqProofs [ne_nilL, ho, hyl, g1, g8, l1, l8, cDue]
        · have g1 : ¬ (1 : Int) ≤ y.length := by omega
          simp -implicitDefEqProofs [ne_nilL, ho, hyl, g1, l1, cDue]
      · simp -implicitDefEqProofs [ne_nilL, ho, cDue]
    rw [cDueB, sSs_cons, s1, kSq_nxt, sSs_cons, s2, kSq_nxt, sSs_cons, s3, kSq_nxt, sSs_cons, s4, kSq_nxt, sSs_cons, s5]
    constructor
    · intro hb
      rw [hb, if_neg Bool.false_ne_true]
      exact ⟨_, rfl, _, _, _, _, _, _, rfl⟩
    · intro hb
      rw [hb, if_pos rfl]; rfl
  have FF := forL_find (step := forStep T F (.nm 2) cDueB) (enc := fun i : Nat => LV.v (.int (0 + (i : Int)))) (h := h) (fun r => ∃ z2 z3 z4 z5 z6 z7, r = [some (.v (.tup [sT a, sT b])), some (.v (.int p)), z2, z3, z4, z5, z6, z7]) (badN a xs p) (fun i => .ret (.v (cDue p i)) h) (fun _ _ => rfl) (List.range xs.length) _ (fun i hi r hr hb => (key i hi r hr).1 hb) (fun i hi r hr hb => (key i hi r hr).2 hb) ⟨z2, z3, z4, z5, z6, z7, rfl⟩
  have er : rangeL 0 xs.length = (List.range xs.length).map (fun i : Nat => LV.v (.int (0 + (i : Int)))) := rfl
  rw [er]
  cases q : (List.range xs.length).find? (badN a xs p) with
  | some i => rw [q] at FF; exact FF
  | none => rw [q] at FF; exact FF
def cDueOf (o : Option (Nat × Nat)) : MV := match o with
  | some (p, i) => cDue p i
  | none => .tup [.str "none"]
theorem due_spec (p78 : P 78 = some B.f78__law_due) {a b : List Str} (hn : 1 ≤ n) (hx : ∀ x ∈ a, Tx x) (hy : ∀ x ∈ b, Tx x) (ha : a.length ≤ 1000) (hb : b.length ≤ 1000) (w : Wf h) :
    run T P n 78 [.v (.tup [sT a, sT b])] h = .ok (.v (cDueOf (fault a b))) h := by
  obtain ⟨n, rfl⟩ : ∃ m, n = m + 1 := ⟨n - 1, by omega⟩
  rw [run_succ p78 rfl]
  have i1 : itRng (.v (.int 0)) (.v (.int 2)) = some ⟨[.v (.int 0), .v (.int 1)], none⟩ := rfl
  have i2 : ∀ xs : List Str, xs.length ≤ 1000 → itRng (.v (.int 0)) (.v (.int (xs.length : Int))) = some ⟨rangeL 0 xs.length, none⟩ := fun xs hl => itRng_nat (by omega)
  have c1 := due_side (T := T) (F := run T P n) (h := h) (a := a) (b := b) (xs := a) (p := 0) (.inl ⟨rfl, rfl⟩) hx ha ha none none none none none none
  simp only [Int.ofNat_zero] at c1
  unfold fault
  cases q1 : (List.range a.length).find? (badN a a 0) with
  | some i =>
    rw [q1] at c1
    refine Eq.trans (congrArg _ ?_) (finish_ret0 w)
    simp -implicitDefEqProofs [B.f78__law_due, B.c_f78__law_due, i1, d2_0, -idx_t, len_sT, i2 a ha, c1, cDueOf]
  | none =>
    rw [q1] at c1
    obtain ⟨r1, e1, z2, z3, z4, z5, z6, z7, rfl⟩ := c1
    have c2 := due_side (T := T) (F := run T P n) (h := h) (a := a) (b := b) (xs := b) (p := 1) (.inr ⟨rfl, rfl⟩) hy hb ha z2 z3 z4 z5 z6 z7
    simp only [Int.ofNat_one] at c2
    cases q2 : (List.range b.length).find? (badN a b 1) with
    | some i =>
      rw [q2] at c2
      refine Eq.trans (congrArg _ ?_) (finish_ret0 w)
      simp -implicitDefEqProofs [B.f78__law_due, B.c_f78__law_due, i1, d2_0, d2_1, -idx_t, len_sT, i2 a ha, i2 b hb, e1, c2, cDueOf]
    | none =>
      rw [q2] at c2
      obtain ⟨r2, e2, y2, y3, y4, y5, y6, y7, rfl⟩ := c2
      refine Eq.trans (congrArg _ ?_) (finish_ret0 w)
      simp -implicitDefEqProofs [B.f78__law_due, B.c_f78__law_due, i1, d2_0, d2_1, -idx_t, len_sT, i2 a ha, i2 b hb, e1, e2, cDueOf]
end
end SC

namespace SC
open PySem L2
/-! ### drawing, with anything well formed behind the source -/
theorem WfR.pushW {rest : MH} {o : MO} (w : WfR rest) (h : MO.below (rest.length + 3) o = true) : WfR (rest ++ [o]) := by
  intro o' ho
  rw [List.length_append]
  rcases List.mem_append.mp ho with ho | ho
  · exact MO.below_mono (by simp) (w o' ho)
  · simp at ho; rw [ho]; exact h
theorem WfR.setW {rest : MH} {o : MO} {k : Nat} (w : WfR rest) (h : MO.below (rest.length + 2) o = true) : WfR (rest.set k o) := by
  intro o' ho
  rw [List.length_set]
  rcases List.mem_or_eq_of_mem_set ho with ho | rfl
  · exact w o' ho
  · exact h
section
variable {T : Tab} {P : Nat → Option Fn} {h : MH} {n : Nat}
theorem nextW (hp : P 32 = some B.f32__law_next) {n : Nat} (hn : 1 ≤ n) {s : Int} {xs : List Int} {p lim : Int} {rest : MH} (w : WfR rest) (h0 : 0 < lim) (h1 : lim < 1073741824) (hl : xs.length ≤ 63) :
    ∃ (r : Nat) (s' : Int) (xs' : List Int) (p' : Int), (r : Int) < lim ∧ xs'.length = xs.length ∧ run T P n 32 [.r 1, .v (.int lim)] (hs s xs p rest) = .ok (.v (.int r)) (hs s' xs' p' rest) := by
  obtain ⟨n, rfl⟩ : ∃ m, n = m + 1 := ⟨n - 1, by omega⟩
  obtain ⟨r, s', xs', p', g0, g1, g2, g3⟩ := next_spec (T := T) hp n s xs p lim rest w h0 h1 hl
  refine ⟨r.toNat, s', xs', p', by omega, g2, ?_⟩
  rw [show ((r.toNat : Nat) : Int) = r by omega]
  exact g3
def twelveF : List Str := ["age", "bad", "cold", "dear", "early", "first", "good", "hot", "idle", "just", "keen", "late"]
theorem twelveF_names : ∀ x ∈ twelveF, isName x = true := by decide +kernel
abbrev fctT : CE := .cmp .gt (.blt .len (.cons (.var 2) .nil)) (.var 1)
abbrev fctB : CSs := .cons (.expr (.bm .popAt (.var 2) (.cons (.call 32 (.cons (.var 0) (.cons (.blt .len (.cons (.var 2) .nil)) .nil))) .nil))) .nil
theorem fct_loop (hp : P 32 = some B.f32__law_next) (hn : 1 ≤ n) (m : Nat) (rest : MH) (w : WfR rest) : ∀ (k : Nat) (fs : List Str) (s : Int) (xs : List Int) (p : Int), fs.length < k → fs.length ≤ 1000 → m ≤ fs.length → xs.length ≤ 63 →
    ∃ gs s' xs' p', gs.Sublist fs ∧ gs.length = m ∧ xs'.length = xs.length ∧
      whil T (run T P n) fctT fctB k [some (.r 1), some (.v (.int m)), some (.r (rest.length + 2))] (hs s xs p (rest ++ [.lst (sL fs)])) = .nxt [some (.r 1), some (.v (.int m)), some (.r (rest.length + 2))] (hs s' xs' p' (rest ++ [.lst (sL gs)]))
  | 0, fs, s, xs, p, hk, _, _, _ => by omega
  | k + 1, fs, s, xs, p, hk, hf, hm, hx => by
    rw [whil_succ]
    by_cases hlt : m < fs.length
    · obtain ⟨r, s1, xs1, p1, h1, hl1, e1⟩ := nextW (T := T) hp hn (s := s) (xs := xs) (p := p) (lim := (fs.length : Int)) (rest := rest ++ [.lst (sL fs)]) (w.pushW (o := .lst (sL fs)) (sL_pureC _)) (by omega) (by omega) hx
      have hr : r < fs.length := by omega
      obtain ⟨gs, s', xs', p', g1, g2, g3, g4⟩ := fct_loop hp hn m rest w k (fs.eraseIdx r) s1 xs1 p1 (by rw [List.length_eraseIdx]; split <;> omega) (by rw [List.length_eraseIdx]; split <;> omega) (by rw [List.length_eraseIdx]; split <;> omega) (by omega)
      refine ⟨gs, s', xs', p', g1.trans (List.eraseIdx_sublist _ _), g2, by omega, ?_⟩
      rw [← g4]
      have e2 := popAt_s (h := hs s1 xs1 p1 (rest ++ [.lst (sL fs)])) (m := rest.length + 2) (ls := fs) (i := r) (by simp) hr hf
      simp [hlt, recvOk, lstOf, e1, e2]
    · have : fs.length = m := by omega
      refine ⟨fs, s, xs, p, List.Sublist.refl _, this, rfl, ?_⟩
      simp [this]
theorem fct_spec (hp : P 32 = some B.f32__law_next) (hq : P 77 = some B.f77__law_facts) (hn : 2 ≤ n) {m : Nat} (hm : m ≤ 12) {s : Int} {xs : List Int} {p : Int} {rest : MH} (w : WfR rest) (hx : xs.length ≤ 63) :
    ∃ (gs : List Str) (s' : Int) (xs' : List Int) (p' : Int), gs.Sublist twelveF ∧ gs.length = m ∧ xs'.length = xs.length ∧ run T P n 77 [.r 1, .v (.int m)] (hs s xs p rest) = .ok (.v (sT gs)) (hs s' xs' p' rest) := by
  obtain ⟨n, rfl⟩ : ∃ m, n = m + 1 := ⟨n - 1, by omega⟩
  obtain ⟨gs, s', xs', p', g1, g2, g3, g4⟩ := fct_loop (T := T) (P := P) hp (n := n) (by omega) m rest w 1000000 twelveF s xs p (by decide) (by decide) hm hx
  refine ⟨gs, s', xs', p', g1, g2, g3, ?_⟩
  rw [run_succ hq rfl]
  refine Eq.trans (congrArg _ ?_) (fin_push (tail := [.lst (sL gs)]) w)
  have e0 : ([.v (.str "age"), .v (.str "bad"), .v (.str "cold"), .v (.str "dear"), .v (.str "early"), .v (.str "first"), .v (.str "good"), .v (.str "hot"), .v (.str "idle"), .v (.str "just"), .v (.str "keen"), .v (.str "late")] : List LV) = sL twelveF := rfl
  have e3 : bltF T .tuple [.r (rest.length + 2)] (hs s' xs' p' (rest ++ [.lst (sL gs)])) = .ok (.v (sT gs)) (hs s' xs' p' (rest ++ [.lst (sL gs)])) := tuple_sR (by simp)
  have tl : twelveF.length ≤ 16777216 := by decide
  simp -implicitDefEqProofs [B.f77__law_facts, B.c_f77__law_facts, e0, g4, e3, tl]
/-! ### two live lists in a list -/
def hp2 (s : Int) (xs : List Int) (p : Int) (rest : MH) (a b : List Str) : MH := hs s xs p (rest ++ [.lst (sL a), .lst (sL b), .lst [.r (rest.length + 2), .r (rest.length + 3)]])
def pk {α : Type} (t : Nat) (a b : α) : α := if t = 0 then a else b
section
variable {s : Int} {xs : List Int} {p : Int} {rest : MH} {a b c : List Str}
theorem hp2_wr (w : WfR rest) : WfR (rest ++ [.lst (sL a), .lst (sL b), .lst [.r (rest.length + 2), .r (rest.length + 3)]]) := by
  intro o ho
  rcases List.mem_append.mp ho with ho | ho
  · exact MO.below_mono (by simp) (w o ho)
  · simp only [List.mem_cons, List.not_mem_nil, or_false] at ho
    rcases ho with rfl | rfl | rfl
    · exact sL_below
    · exact sL_below
    · simp [MO.below, LV.below]
theorem hp2_wf (w : WfR rest) : Wf (hp2 s xs p rest a b) := hs_wf (hp2_wr w)
theorem hp2_t {t : Nat} (ht : t < 2) : (hp2 s xs p rest a b)[rest.length + 2 + t]? = some (.lst (sL (pk t a b))) := by
  have : t = 0 ∨ t = 1 := by omega
  rcases this with rfl | rfl
  · simp [hp2, pk]
  · rw [hp2, show rest.length + 2 + 1 = (rest.length + 1) + 2 by omega, hs_2]; simp [pk]
theorem hp2_o : (hp2 s xs p rest a b)[rest.length + 4]? = some (.lst [.r (rest.length + 2), .r (rest.length + 3)]) := by
  rw [hp2, show rest.length + 4 = (rest.length + 2) + 2 by omega, hs_2]; simp
theorem hp2_s {t : Nat} (ht : t < 2) : (hp2 s xs p rest a b).set (rest.length + 2 + t) (.lst (sL c)) = hp2 s xs p rest (pk t c a) (pk t b c) := by
  have : t = 0 ∨ t = 1 := by omega
  rcases this with rfl | rfl
  · rw [hp2, show rest.length + 2 + 0 = rest.length + 2 by omega, set_hs_2, hp2]; simp [List.set_append, pk]
  · rw [hp2, show rest.length + 2 + 1 = (rest.length + 1) + 2 by omega, set_hs_2, hp2]; simp [List.set_append, pk]
theorem hp2_i {t : Nat} (ht : t < 2) : idxF (.r (rest.length + 4)) (.v (.int (t : Int))) (hp2 s xs p rest a b) = .ok (.r (rest.length + 2 + t)) (hp2 s xs p rest a b) := by
  have : t = 0 ∨ t = 1 := by omega
  rw [idx_r hp2_o]
  rcases this with rfl | rfl
  · rfl
  · rfl
theorem next2 (hp : P 32 = some B.f32__law_next) (hn : 1 ≤ n) {lim : Int} (w : WfR rest) (h0 : 0 < lim) (h1 : lim < 1073741824) (hl : xs.length ≤ 63) :
    ∃ (r : Nat) (s' : Int) (xs' : List Int) (p' : Int), (r : Int) < lim ∧ xs'.length = xs.length ∧ run T P n 32 [.r 1, .v (.int lim)] (hp2 s xs p rest a b) = .ok (.v (.int r)) (hp2 s' xs' p' rest a b) :=
  nextW (T := T) hp hn (hp2_wr w) h0 h1 hl
end
theorem ins_s {m k : Nat} {ls : List Str} {x : Str} (e : h[m]? = some (.lst (sL ls))) (hl : ls.length ≤ 1000) (hk : k ≤ 1000) : bmF .insert (.r m) [.v (.int (k : Int)), .v (.str x)] h = .ok (.v .non) (h.set m (.lst (sL (ls.take k ++ x :: ls.drop k)))) := by
  have q : (sL ls).length < sizeLine ∧ (0 : Int) ≤ (k : Int) ∧ (k : Int) < 2 ^ 63 := by
    rw [sL_len]; exact ⟨by show ls.length < 16777216; omega, by omega, by omega⟩
  simp only [bmF, un2, insertF, e, q, and_self, if_true, Int.toNat_natCast]
  congr 3
  simp [sL]
theorem rev_s {m : Nat} {ls : List Str} (e : h[m]? = some (.lst (sL ls))) : bmF .reverse (.r m) [] h = .ok (.v .non) (h.set m (.lst (sL ls.reverse))) := by
  simp only [bmF, un0, reverseF, e]
  congr 3
  simp [sL]
theorem recv_any {m : BMt} {k : Nat} {ls : List LV} (hm : m = .insert ∨ m = .reverse ∨ m = .append) (e : h[k]? = some (.lst ls)) : recvOk m (.r k) h = true := by
  rcases hm with rfl | rfl | rfl <;> simp [recvOk, lstOf, e]
end
end SC

set_option maxHeartbeats 4000000

namespace K02
open PySem PySem.Spec PyProof.Rows L2 SC
section
variable {K : PySem.W.Frag} {mg : Str → Option Value} {F : Phi}
theorem bv_ValueError : bootBuiltins "ValueError" = some (.type "ValueError") := by decide +kernel
theorem errD : ∀ c ∈ pd.errs, ∃ D, pd.excs.lookup c = some D := by
  show ∀ c ∈ [1], _
  simp only [List.forall_mem_cons]
  exact ⟨⟨_, rfl⟩, fun _ h => nomatch h⟩
theorem su_ok (T : Facts pd (pd.gm K) mg) {c a : Nat} {d : Option Nat} {X : Cx} (hc : c ∈ pd.errs) (xs : Xs (pd.gm K) X c a d) (C : Ctx0 (pd.gm K) mg nF 0 F E0 N_f76__law_error (defScope s_f76__law_error) X) : PSs X (exceptBody s_f76__law_error) (tMS (pd.gm K) E0 (evSs (pd.gm K).T F (su c a d))) := by
  have ET := T.errT rfl
  have ec := (ET.ec c hc).1
  obtain ⟨D, hD⟩ := errD c hc
  have hl : (pd.gm K).T.xlay c = D.flds := by
    show ((pd.excs.lookup c).map (·.flds)).getD [] = D.flds
    rw [hD]; rfl
  exact (fss_cons (C.asg (fe_lstL (fa_cons (C.isx ec ET xs 1 17 (by decide +kernel) (C.cl (ET.xts 17 _ rfl) (by decide +kernel)) (fun u h => h) (T.free 2 _ rfl) (by decide +kernel)) (fa_cons (C.isx ec ET xs 1 16 (by decide +kernel) (C.cl (ET.xts 16 _ rfl) (by decide +kernel)) (fun u h => h) (T.free 2 _ rfl) (by decide +kernel)) (fa_cons (C.isx ec ET xs 1 15 (by decide +kernel) (C.cl (ET.xts 15 _ rfl) (by decide +kernel)) (fun u h => h) (T.free 2 _ rfl) (by decide +kernel)) fa_nil)))) (C.pg 2 (by decide +kernel) _))
    (fss_cons (fs_expr (C.extend (C.var 2 (by decide +kernel) _) (fa_cons (fe_lst (fa_cons (C.isx ec ET xs 1 1 (by decide +kernel) (C.cl (ET.xts 1 _ rfl) (by decide +kernel)) (fun u h => h) (T.free 2 _ rfl) (by decide +kernel)) (fa_cons (C.isx ec ET xs 1 14 (by decide +kernel) (C.cl (ET.xts 14 _ rfl) (by decide +kernel)) (fun u h => h) (T.free 2 _ rfl) (by decide +kernel)) (fa_cons (C.isx ec ET xs 1 13 (by decide +kernel) (C.cl (ET.xts 13 _ rfl) (by decide +kernel)) (fun u h => h) (T.free 2 _ rfl) (by decide +kernel)) fa_nil)))) fa_nil)))
    (fss_cons (fs_expr (C.extend (C.var 2 (by decide +kernel) _) (fa_cons (fe_lst (fa_cons (C.isx ec ET xs 1 12 (by decide +kernel) (C.cl (ET.xts 12 _ rfl) (by decide +kernel)) (fun u h => h) (T.free 2 _ rfl) (by decide +kernel)) (fa_cons (C.isx ec ET xs 1 11 (by decide +kernel) (C.cl (ET.xts 11 _ rfl) (by decide +kernel)) (fun u h => h) (T.free 2 _ rfl) (by decide +kernel)) (fa_cons (C.isx ec ET xs 1 10 (by decide +kernel) (C.cl (ET.xts 10 _ rfl) (by decide +kernel)) (fun u h => h) (T.free 2 _ rfl) (by decide +kernel)) fa_nil)))) fa_nil)))
    (fss_cons (fs_expr (C.extend (C.var 2 (by decide +kernel) _) (fa_cons (fe_lst (fa_cons (C.isx ec ET xs 1 9 (by decide +kernel) (C.cl (ET.xts 9 _ rfl) (by decide +kernel)) (fun u h => h) (T.free 2 _ rfl) (by decide +kernel)) (fa_cons (C.isx ec ET xs 1 8 (by decide +kernel) (C.cl (ET.xts 8 _ rfl) (by decide +kernel)) (fun u h => h) (T.free 2 _ rfl) (by decide +kernel)) (fa_cons (C.isx ec ET xs 1 7 (by decide +kernel) (C.cl (ET.xts 7 _ rfl) (by decide +kernel)) (fun u h => h) (T.free 2 _ rfl) (by decide +kernel)) fa_nil)))) fa_nil)))
    (fss_cons (fs_expr (C.extend (C.var 2 (by decide +kernel) _) (fa_cons (fe_lst (fa_cons (C.isx ec ET xs 1 6 (by decide +kernel) (C.cl (ET.xts 6 _ rfl) (by decide +kernel)) (fun u h => h) (T.free 2 _ rfl) (by decide +kernel)) (fa_cons (C.isx ec ET xs 1 5 (by decide +kernel) (C.cl (ET.xts 5 _ rfl) (by decide +kernel)) (fun u h => h) (T.free 2 _ rfl) (by decide +kernel)) (fa_cons (C.isx ec ET xs 1 4 (by decide +kernel) (C.cl (ET.xts 4 _ rfl) (by decide +kernel)) (fun u h => h) (T.free 2 _ rfl) (by decide +kernel)) fa_nil)))) fa_nil)))
    (fss_cons (fs_expr (C.extend (C.var 2 (by decide +kernel) _) (fa_cons (fe_lst (fa_cons (C.isx ec ET xs 1 3 (by decide +kernel) (C.cl (ET.xts 3 _ rfl) (by decide +kernel)) (fun u h => h) (T.free 2 _ rfl) (by decide +kernel)) (fa_cons (C.isx ec ET xs 1 2 (by decide +kernel) (C.cl (ET.xts 2 _ rfl) (by decide +kernel)) (fun u h => h) (T.free 2 _ rfl) (by decide +kernel)) fa_nil))) fa_nil)))
    (fss_cons (fs_ife (PW.pt (ft_or (C.tcmp C.oNe (C.count (C.var 2 (by decide +kernel) _) (fa_cons C.bl fa_nil)) C.int) (pw_or1 (ft_not (ft_val (C.isx ec ET xs 1 1000 (by decide +kernel) (C.ty (T.free 13 _ rfl) (by decide +kernel) bv_ValueError) (fun u h => h) (T.free 2 _ rfl) (by decide +kernel))))))) (fss_cons (fs_ret (fe_tup (fa_cons C.str fa_nil)))
    fss_nil) fss_nil)
    (fss_cons (C.asg (fe_lst (fa_cons C.str (fa_cons C.str (fa_cons C.str (fa_cons C.str (fa_cons C.str (fa_cons C.str (fa_cons C.str (fa_cons C.str (fa_cons C.str (fa_cons C.str (fa_cons C.str fa_nil)))))))))))) (C.pg 3 (by decide +kernel) _))
    (fss_cons (C.asg (C.idx (C.add (C.var 3 (by decide +kernel) _) (fe_lst (fa_cons C.str (fa_cons C.str (fa_cons C.str (fa_cons C.str (fa_cons C.str (fa_cons C.str fa_nil)))))))) (fe_index C.hK (C.var 2 (by decide +kernel) _) (fa_cons C.bl fa_nil))) (C.pg 4 (by decide +kernel) _))
    (fss_cons (fs_ife (C.tcmp C.oIn (C.var 4 (by decide +kernel) _) (fe_tup (fa_cons C.str (fa_cons C.str fa_nil)))) (fss_cons (fs_ret (fe_tup (fa_cons (C.var 4 (by decide +kernel) _) (fa_cons (C.xat T xs 1 30 hD hl rfl (by decide +kernel)) fa_nil))))
    fss_nil) fss_nil)
    (fss_cons (fs_ife (C.tcmp C.oEq (C.var 4 (by decide +kernel) _) C.str) (fss_cons (fs_ret (fe_tup (fa_cons (C.var 4 (by decide +kernel) _) (fa_cons (C.xat T xs 1 38 hD hl rfl (by decide +kernel)) (fa_cons (C.xat T xs 1 30 hD hl rfl (by decide +kernel)) fa_nil)))))
    fss_nil) fss_nil)
    (fss_cons (fs_ife (C.tcmp C.oEq (C.var 4 (by decide +kernel) _) C.str) (fss_cons (fs_ret (fe_tup (fa_cons (C.var 4 (by decide +kernel) _) (fa_cons (C.xat T xs 1 40 hD hl rfl (by decide +kernel)) (fa_cons (C.xat T xs 1 30 hD hl rfl (by decide +kernel)) fa_nil)))))
    fss_nil) fss_nil)
    (fss_cons (fs_ife (C.tcmp C.oIn (C.var 4 (by decide +kernel) _) (fe_tup (fa_cons C.str (fa_cons C.str fa_nil)))) (fss_cons (fs_ret (fe_tup (fa_cons (C.var 4 (by decide +kernel) _) (fa_cons (fe_ite (C.tcmp C.oEq (C.var 4 (by decide +kernel) _) C.str) (C.xat T xs 1 38 hD hl rfl (by decide +kernel)) (C.xat T xs 1 39 hD hl rfl (by decide +kernel))) fa_nil))))
    fss_nil) fss_nil)
    (fss_cons (fs_ret (fe_tup (fa_cons (C.var 4 (by decide +kernel) _) fa_nil)))
    fss_nil))))))))))))))
theorem sc_f76__law_error : FnScope N_f76__law_error ["_law_call"] (defScope s_f76__law_error) := ⟨by decide +kernel, by decide +kernel, by decide +kernel, by decide +kernel, by decide +kernel, by decide +kernel, by decide +kernel⟩
theorem ev_1 {a : Nat} {d : Option Nat} {v0 v1 : MV} : ∃ h2, evSs pd.tab F (su 1 a d) ((List.replicate N_f76__law_error.length none).set 1 (some (.v (.exo 1 a d [v0, v1])))) [] = .ret (.v (.tup [.str "condition", v0, v1])) h2 := by
  have i2 : pd.tab.isx 1 2 = some false := rfl
  have i3 : pd.tab.isx 1 3 = some false := rfl
  have i4 : pd.tab.isx 1 4 = some false := rfl
  have i5 : pd.tab.isx 1 5 = some false := rfl
  have i6 : pd.tab.isx 1 6 = some false := rfl
  have i7 : pd.tab.isx 1 7 = some false := rfl
  have i8 : pd.tab.isx 1 8 = some false := rfl
  have i9 : pd.tab.isx 1 9 = some false := rfl
  have i10 : pd.tab.isx 1 10 = some false := rfl
  have i11 : pd.tab.isx 1 11 = some false := rfl
  have i12 : pd.tab.isx 1 12 = some false := rfl
  have i13 : pd.tab.isx 1 13 = some false := rfl
  have i14 : pd.tab.isx 1 14 = some false := rfl
  have i1 : pd.tab.isx 1 1 = some true := rfl
  have i15 : pd.tab.isx 1 15 = some false := rfl
  have i16 : pd.tab.isx 1 16 = some false := rfl
  have i17 : pd.tab.isx 1 17 = some false := rfl
  have i1000 : pd.tab.isx 1 1000 = some true := rfl
  have l0 : pd.tab.xlay 1 = [38, 30] := rfl
  have s0 : strOk ("book" : Str) = true := by decide +kernel
  have s1 : strOk ("case" : Str) = true := by decide +kernel
  have s2 : strOk ("chance" : Str) = true := by decide +kernel
  have s3 : strOk ("condition" : Str) = true := by decide +kernel
  have s4 : strOk ("fact" : Str) = true := by decide +kernel
  have s5 : strOk ("facts" : Str) = true := by decide +kernel
  have s6 : strOk ("known" : Str) = true := by decide +kernel
  have s7 : strOk ("many" : Str) = true := by decide +kernel
  have s8 : strOk ("neighbor" : Str) = true := by decide +kernel
  have s9 : strOk ("never" : Str) = true := by decide +kernel
  have s10 : strOk ("nofacts" : Str) = true := by decide +kernel
  have s11 : strOk ("none" : Str) = true := by decide +kernel
  have s12 : strOk ("norule" : Str) = true := by decide +kernel
  have s13 : strOk ("number" : Str) = true := by decide +kernel
  have s14 : strOk ("other" : Str) = true := by decide +kernel
  have s15 : strOk ("reason" : Str) = true := by decide +kernel
  have s16 : strOk ("rule" : Str) = true := by decide +kernel
  have s17 : strOk ("ruling" : Str) = true := by decide +kernel
  show ∃ h2, evSs pd.tab F (su 1 a d) [none, some (.v (.exo 1 a d [v0, v1])), none, none, none] [] = _
  simp -implicitDefEqProofs (decide := true) [su, i2, i3, i4, i5, i6, i7, i8, i9, i10, i11, i12, i13, i14, i1, i15, i16, i17, i1000, l0, s0, s1, s2, s3, s4, s5, s6, s7, s8, s9, s10, s11, s12, s13, s14, s15, s16, s17, bmF, un1, un2, un0, extendF, recvOk, lstOf, countF, flat, eqL, eqM, indexF, idxF, seqOf, atI, ixN, xe_ne, xe_eq, xe_in, List.lookup, List.findIdx?, List.findIdx?.go]
theorem su_ev (c a : Nat) (d : Option Nat) (vs : List MV) (v : MV) (h : errf c vs = some v) : c ∈ pd.errs ∧ ∃ h2, evSs pd.tab F (su c a d) ((List.replicate N_f76__law_error.length none).set 1 (some (.v (.exo c a d vs)))) [] = .ret (.v v) h2 := by
  unfold errf at h
  split at h
  · cases h
    exact ⟨by decide, ev_1⟩
  · cases h
def ef (T : Facts pd (pd.gm K) mg) : ErrFn pd (pd.gm K) mg nF F "_law_error" 76 where
  st := s_f76__law_error
  Ng := N_f76__law_error
  a := "_law_call"
  n := "e"
  i := 1
  b₀ := _
  suite := _
  cs := su
  p1 := _
  p2 := _
  p3 := _
  np := _
  pos' := _
  pos := _
  p4 := _
  p5 := _
  p6 := _
  j := _
  kk := _
  fn := by
    obtain ⟨fd, Fu⟩ := T.fn 76 _ rfl
    exact ⟨fd, Fu, Fu.binds (ps := ["_law_call"]) fun _ _ _ _ _ _ us hl => match us, hl with | [_], _ => rfl⟩
  S := sc_f76__law_error
  ha := by decide +kernel
  hva := by decide +kernel
  hi := by decide +kernel
  hln := by decide +kernel
  hg := by decide +kernel
  body := rfl
  hsu := fun c a d Y hc xs C => su_ok T hc xs C
  hev := fun c a d vs v h => su_ev c a d vs v h
  hda := by decide +kernel
  hdc := by decide +kernel
  hdk := by decide +kernel
end
end K02

namespace K02
open PySem PySem.Spec PyProof.Rows L2 SC
section
variable {K : PySem.W.Frag} {mg : Str → Option Value} {k : Nat} {F : Phi} {E : XK} {X : Cx}
theorem d_f0_is_name (T : Facts pd (pd.gm K) mg) (C : Ctx (pd.gm K) mg nF k F E N_f0_is_name (defScope s_f0_is_name) X) (tk : Tk (pd.gm K) k E X) : PSs X (defBody s_f0_is_name) (tMS (pd.gm K) E (evSs (pd.gm K).T F B.c_f0_is_name)) :=
  (fss_cons (fs_ife (PW.pt (ft_or (ft_not (ft_val (C.isi1 (cv_ty (t := .str) rfl) (C.var 0 (by decide +kernel) _) (C.ty (T.free 1 _ rfl) (by decide +kernel) bv_str) (T.free 2 _ rfl) (by decide +kernel)))) (pw_or1 (ft_not (ft_chn C.oLe C.oLe C.int (C.blt (crM_len C.hK) bv_len (T.free 0 _ rfl) (by decide +kernel) (fa_cons (C.var 0 (by decide +kernel) _) fa_nil)) (C.gInt (T.int 0 _ _ rfl) (by decide +kernel) _)))))) (fss_cons (fs_ret C.bl)
    fss_nil) fss_nil)
    (fss_cons (fs_ret (C.cmp C.oEq (C.lc false (own := [("sign", 1)]) (by decide +kernel) (fi_val (C.var 0 (by decide +kernel) _) C.hK) (fun _ C => (C.pg 1 (by decide +kernel) _)) (fun _ C => (pts_one (C.tcmp C.oNotIn (C.var 1 (by decide +kernel) _) (C.gStr (T.str 0 _ _ rfl) (by decide +kernel) _)))) (fun _ C => (C.var 1 (by decide +kernel) _))) (fe_lst fa_nil)))
    fss_nil))
theorem d_f80_Condition___init__ (T : Facts pd (pd.gm K) mg) (C : Ctx (pd.gm K) mg nF k F E N_f80_Condition___init__ (defScope s_f80_Condition___init__) X) (tk : Tk (pd.gm K) k E X) : PSs X (defBody s_f80_Condition___init__) (tMS (pd.gm K) E (evSs (pd.gm K).T F B.c_f80_Condition___init__)) :=
  (fss_cons (fs_for C.own C.calm (fi_enum (fe_tup (fa_cons (C.var 1 (by decide +kernel) _) (fa_cons (C.var 2 (by decide +kernel) _) fa_nil))) C.hK (C.m (T.free 3 _ rfl)) (C.gln (by decide +kernel))) (C.tup (fgs_cons (C.pg 3 (by decide +kernel) _) (fgs_cons (C.pg 4 (by decide +kernel) _) fgs_nil))) (fss_cons (fs_for C.own C.calm (fi_enum (C.var 4 (by decide +kernel) _) C.hK (C.m (T.free 3 _ rfl)) (C.gln (by decide +kernel))) (C.tup (fgs_cons (C.pg 5 (by decide +kernel) _) (fgs_cons (C.pg 6 (by decide +kernel) _) fgs_nil))) (fss_cons (C.asg (fe_and (C.cmp C.oGt (C.var 5 (by decide +kernel) _) C.int) (fe_and (C.call 0 (T.glo 0 _ rfl) (by decide) (by decide +kernel) (fa_cons (C.var 6 (by decide +kernel) _) fa_nil)) (fe_one (C.cmp C.oLe (C.var 6 (by decide +kernel) _) (C.idx (C.var 4 (by decide +kernel) _) (C.sub (C.var 5 (by decide +kernel) _) C.int)))))) (C.pg 7 (by decide +kernel) _))
    (fss_cons (fs_ife (PW.pt (ft_or (ft_not (ft_val (C.call 0 (T.glo 0 _ rfl) (by decide) (by decide +kernel) (fa_cons (C.var 6 (by decide +kernel) _) fa_nil)))) (ft_or (ft_val (C.var 7 (by decide +kernel) _)) (pw_or1 (C.tcmp C.oGe (C.add (C.mul (C.var 3 (by decide +kernel) _) (C.blt (crM_len C.hK) bv_len (T.free 0 _ rfl) (by decide +kernel) (fa_cons (C.var 1 (by decide +kernel) _) fa_nil))) (C.var 5 (by decide +kernel) _)) (C.gInt (T.int 1 _ _ rfl) (by decide +kernel) _)))))) (fss_cons (C.rais2 T tk 1 38 30 rfl rfl rfl rfl rfl xs_1 (T.free 4 _ rfl) (by decide +kernel) (C.var 3 (by decide +kernel) _) (C.var 5 (by decide +kernel) _))
    fss_nil) fss_nil)
    (fss_cons (fs_ife (PW.pt (ft_and (C.tcmp C.oEq (C.var 3 (by decide +kernel) _) C.int) (pw_and1 (C.tcmp C.oIn (C.var 6 (by decide +kernel) _) (C.var 1 (by decide +kernel) _))))) (fss_cons (C.rais2 T tk 1 38 30 rfl rfl rfl rfl rfl xs_1 (T.free 4 _ rfl) (by decide +kernel) (C.var 3 (by decide +kernel) _) (C.var 5 (by decide +kernel) _))
    fss_nil) fss_nil)
    fss_nil))))
    fss_nil))
    (fss_cons (C.setF 8 rfl (C.var 0 (by decide +kernel) _) (C.var 1 (by decide +kernel) _))
    (fss_cons (C.setF 9 rfl (C.var 0 (by decide +kernel) _) (C.var 2 (by decide +kernel) _))
    fss_nil)))
theorem d_f15_Condition_holding (T : Facts pd (pd.gm K) mg) (C : Ctx (pd.gm K) mg nF k F E N_f15_Condition_holding (defScope s_f15_Condition_holding) X) (tk : Tk (pd.gm K) k E X) : PSs X (defBody s_f15_Condition_holding) (tMS (pd.gm K) E (evSs (pd.gm K).T F B.c_f15_Condition_holding)) :=
  (fss_cons (fs_ret (C.at T 8 rfl rfl (C.var 0 (by decide +kernel) _)))
    fss_nil)
theorem d_f16_Condition_failing (T : Facts pd (pd.gm K) mg) (C : Ctx (pd.gm K) mg nF k F E N_f16_Condition_failing (defScope s_f16_Condition_failing) X) (tk : Tk (pd.gm K) k E X) : PSs X (defBody s_f16_Condition_failing) (tMS (pd.gm K) E (evSs (pd.gm K).T F B.c_f16_Condition_failing)) :=
  (fss_cons (fs_ret (C.at T 9 rfl rfl (C.var 0 (by decide +kernel) _)))
    fss_nil)
theorem d_f17_Condition_names (T : Facts pd (pd.gm K) mg) (C : Ctx (pd.gm K) mg nF k F E N_f17_Condition_names (defScope s_f17_Condition_names) X) (tk : Tk (pd.gm K) k E X) : PSs X (defBody s_f17_Condition_names) (tMS (pd.gm K) E (evSs (pd.gm K).T F B.c_f17_Condition_names)) :=
  (fss_cons (fs_ret (C.bltT (crM_tuple C.hK) bv_tuple (T.free 5 _ rfl) (by decide +kernel) (fa_cons (C.blt (crM_sorted C.hK) bv_sorted (T.free 6 _ rfl) (by decide +kernel) (fa_cons (C.add (C.at T 8 rfl rfl (C.var 0 (by decide +kernel) _)) (C.at T 9 rfl rfl (C.var 0 (by decide +kernel) _))) fa_nil)) fa_nil)))
    fss_nil)
theorem d_f74_Condition___len__ (T : Facts pd (pd.gm K) mg) (C : Ctx (pd.gm K) mg nF k F E N_f74_Condition___len__ (defScope s_f74_Condition___len__) X) (tk : Tk (pd.gm K) k E X) : PSs X (defBody s_f74_Condition___len__) (tMS (pd.gm K) E (evSs (pd.gm K).T F B.c_f74_Condition___len__)) :=
  (fss_cons (fs_ret (C.blt (crM_len C.hK) bv_len (T.free 0 _ rfl) (by decide +kernel) (fa_cons (C.add (C.at T 8 rfl rfl (C.var 0 (by decide +kernel) _)) (C.at T 9 rfl rfl (C.var 0 (by decide +kernel) _))) fa_nil)))
    fss_nil)
theorem d_f31__law_mix (T : Facts pd (pd.gm K) mg) (C : Ctx (pd.gm K) mg nF k F E N_f31__law_mix (defScope s_f31__law_mix) X) (tk : Tk (pd.gm K) k E X) : PSs X (defBody s_f31__law_mix) (tMS (pd.gm K) E (evSs (pd.gm K).T F B.c_f31__law_mix)) :=
  (fss_cons (C.asg (C.var 1 (by decide +kernel) _) (C.pg 2 (by decide +kernel) _))
    (fss_cons (fs_for C.own C.calm (fi_val (C.var 0 (by decide +kernel) _) C.hK) (C.pg 3 (by decide +kernel) _) (fss_cons (C.asg (C.mod (C.bltT (crM_int) bv_int (T.free 8 _ rfl) (by decide +kernel) (fa_cons (C.add (C.add (C.mul (C.var 2 (by decide +kernel) _) C.int) (C.mod (C.bltT (crM_int) bv_int (T.free 8 _ rfl) (by decide +kernel) (fa_cons (C.var 3 (by decide +kernel) _) fa_nil)) C.int)) C.int) fa_nil)) C.int) (C.pg 2 (by decide +kernel) _))
    fss_nil))
    (fss_cons (fs_ret (fe_lstL (fa_cons (C.var 2 (by decide +kernel) _) (fa_cons (C.bltT (crM_listL C.hK) bv_list (T.free 7 _ rfl) (by decide +kernel) (fa_cons (C.var 0 (by decide +kernel) _) fa_nil)) (fa_cons C.int fa_nil)))))
    fss_nil)))
theorem d_f32__law_next (T : Facts pd (pd.gm K) mg) (C : Ctx (pd.gm K) mg nF k F E N_f32__law_next (defScope s_f32__law_next) X) (tk : Tk (pd.gm K) k E X) : PSs X (defBody s_f32__law_next) (tMS (pd.gm K) E (evSs (pd.gm K).T F B.c_f32__law_next)) :=
  (fss_cons (C.asg (C.idx (C.add (C.idx (C.var 0 (by decide +kernel) _) C.int) (fe_lst (fa_cons C.int fa_nil))) (C.mod (C.bltT (crM_int) bv_int (T.free 8 _ rfl) (by decide +kernel) (fa_cons (C.idx (C.var 0 (by decide +kernel) _) C.int) fa_nil)) (C.blt (crM_max2 C.calm) bv_max (T.free 9 _ rfl) (by decide +kernel) (fa_cons C.int (fa_cons (C.blt (crM_len C.hK) bv_len (T.free 0 _ rfl) (by decide +kernel) (fa_cons (C.idx (C.var 0 (by decide +kernel) _) C.int) fa_nil)) fa_nil))))) (C.pg 2 (by decide +kernel) _))
    (fss_cons (fs_ife (C.tcmp C.oGe (C.var 2 (by decide +kernel) _) (C.pow C.int C.int)) (fss_cons (C.setI (C.idx (C.var 0 (by decide +kernel) _) C.int) (C.mod (C.bltT (crM_int) bv_int (T.free 8 _ rfl) (by decide +kernel) (fa_cons (C.idx (C.var 0 (by decide +kernel) _) C.int) fa_nil)) (C.blt (crM_len C.hK) bv_len (T.free 0 _ rfl) (by decide +kernel) (fa_cons (C.idx (C.var 0 (by decide +kernel) _) C.int) fa_nil))) (C.fdiv (C.var 2 (by decide +kernel) _) (C.var 1 (by decide +kernel) _)))
    (fss_cons (fs_ret (C.mod (C.bltT (crM_int) bv_int (T.free 8 _ rfl) (by decide +kernel) (fa_cons (C.var 2 (by decide +kernel) _) fa_nil)) (C.var 1 (by decide +kernel) _)))
    fss_nil)) fss_nil)
    (fss_cons (C.setI (C.var 0 (by decide +kernel) _) C.int (C.mod (C.bltT (crM_int) bv_int (T.free 8 _ rfl) (by decide +kernel) (fa_cons (C.add (C.add (C.mul (C.idx (C.var 0 (by decide +kernel) _) C.int) C.int) (C.mul (C.var 2 (by decide +kernel) _) C.int)) C.int) fa_nil)) C.int))
    (fss_cons (C.setI (C.var 0 (by decide +kernel) _) C.int (C.add (C.idx (C.var 0 (by decide +kernel) _) C.int) C.int))
    (fss_cons (fs_ret (C.mod (C.bltT (crM_int) bv_int (T.free 8 _ rfl) (by decide +kernel) (fa_cons (C.fdiv (C.idx (C.var 0 (by decide +kernel) _) C.int) C.int) fa_nil)) (C.var 1 (by decide +kernel) _)))
    fss_nil)))))
end
end K02

namespace K02
open PySem PySem.Spec PyProof.Rows L2 SC
section
variable {K : PySem.W.Frag} {mg : Str → Option Value} {k : Nat} {F : Phi} {E : XK} {X : Cx}
theorem d_f33__law_alike (T : Facts pd (pd.gm K) mg) (C : Ctx (pd.gm K) mg nF k F E N_f33__law_alike (defScope s_f33__law_alike) X) (tk : Tk (pd.gm K) k E X) : PSs X (defBody s_f33__law_alike) (tMS (pd.gm K) E (evSs (pd.gm K).T F B.c_f33__law_alike)) :=
  (fss_cons (fs_ife (ft_val (C.isi1 (cv_ty (t := .dict) rfl) (C.var 1 (by decide +kernel) _) (C.ty (T.free 12 _ rfl) (by decide +kernel) bv_dict) (T.free 2 _ rfl) (by decide +kernel))) (fss_cons (fs_ret (fe_and (C.isi1 (cv_ty (t := .dict) rfl) (C.var 0 (by decide +kernel) _) (C.ty (T.free 12 _ rfl) (by decide +kernel) bv_dict) (T.free 2 _ rfl) (by decide +kernel)) (fe_and (C.call 33 (T.glo 33 _ rfl) (by decide) (by decide +kernel) (fa_cons (C.blt (crM_sorted C.hK) bv_sorted (T.free 6 _ rfl) (by decide +kernel) (fa_cons (C.var 0 (by decide +kernel) _) fa_nil)) (fa_cons (C.blt (crM_sorted C.hK) bv_sorted (T.free 6 _ rfl) (by decide +kernel) (fa_cons (C.var 1 (by decide +kernel) _) fa_nil)) fa_nil))) (fe_one (C.cmp C.oEq (C.var 0 (by decide +kernel) _) (C.var 1 (by decide +kernel) _))))))
    fss_nil) fss_nil)
    (fss_cons (fs_ife (ft_val (C.isi2 (cv_ty (t := .tuple) rfl) (cv_ty (t := .list) rfl) (C.var 1 (by decide +kernel) _) (C.ty (T.free 5 _ rfl) (by decide +kernel) bv_tuple) (C.ty (T.free 7 _ rfl) (by decide +kernel) bv_list) (T.free 2 _ rfl) (by decide +kernel))) (fss_cons (fs_ife (PW.pt (ft_or (ft_not (ft_val (C.isi2 (cv_ty (t := .tuple) rfl) (cv_ty (t := .list) rfl) (C.var 0 (by decide +kernel) _) (C.ty (T.free 5 _ rfl) (by decide +kernel) bv_tuple) (C.ty (T.free 7 _ rfl) (by decide +kernel) bv_list) (T.free 2 _ rfl) (by decide +kernel)))) (pw_or1 (C.tcmp C.oNe (C.isi1 (cv_ty (t := .list) rfl) (C.var 0 (by decide +kernel) _) (C.ty (T.free 7 _ rfl) (by decide +kernel) bv_list) (T.free 2 _ rfl) (by decide +kernel)) (C.isi1 (cv_ty (t := .list) rfl) (C.var 1 (by decide +kernel) _) (C.ty (T.free 7 _ rfl) (by decide +kernel) bv_list) (T.free 2 _ rfl) (by decide +kernel)))))) (fss_cons (fs_ret C.bl)
    fss_nil) fss_nil)
    (fss_cons (fs_ife (C.tcmp C.oNe (C.blt (crM_len C.hK) bv_len (T.free 0 _ rfl) (by decide +kernel) (fa_cons (C.var 0 (by decide +kernel) _) fa_nil)) (C.blt (crM_len C.hK) bv_len (T.free 0 _ rfl) (by decide +kernel) (fa_cons (C.var 1 (by decide +kernel) _) fa_nil))) (fss_cons (fs_ret C.bl)
    fss_nil) fss_nil)
    (fss_cons (fs_ret (C.cmp C.oEq (C.lc false (own := [("_law_k", 2)]) (by decide +kernel) (fi_rng (C.blt (crM_len C.hK) bv_len (T.free 0 _ rfl) (by decide +kernel) (fa_cons (C.var 1 (by decide +kernel) _) fa_nil)) (C.m (T.free 11 _ rfl)) (C.gln (by decide +kernel))) (fun _ C => (C.pg 2 (by decide +kernel) _)) (fun _ C => (pts_one (ft_not (ft_val (C.call 33 (T.glo 33 _ rfl) (by decide) (by decide +kernel) (fa_cons (C.idx (C.var 0 (by decide +kernel) _) (C.var 2 (by decide +kernel) _)) (fa_cons (C.idx (C.var 1 (by decide +kernel) _) (C.var 2 (by decide +kernel) _)) fa_nil))))))) (fun _ C => (C.var 2 (by decide +kernel) _))) (fe_lst fa_nil)))
    fss_nil))) fss_nil)
    (fss_cons (fs_ife (PW.pt (ft_or (C.tcmp C.oIs (C.var 1 (by decide +kernel) _) C.non) (pw_or1 (ft_val (C.isi1 (cv_ty (t := .str) rfl) (C.var 1 (by decide +kernel) _) (C.ty (T.free 1 _ rfl) (by decide +kernel) bv_str) (T.free 2 _ rfl) (by decide +kernel)))))) (fss_cons (fs_ret (fe_and (C.cmp C.oEq (C.var 0 (by decide +kernel) _) (C.var 1 (by decide +kernel) _)) (fe_one (C.cmp C.oEq (C.isi1 (cv_ty (t := .str) rfl) (C.var 0 (by decide +kernel) _) (C.ty (T.free 1 _ rfl) (by decide +kernel) bv_str) (T.free 2 _ rfl) (by decide +kernel)) (C.isi1 (cv_ty (t := .str) rfl) (C.var 1 (by decide +kernel) _) (C.ty (T.free 1 _ rfl) (by decide +kernel) bv_str) (T.free 2 _ rfl) (by decide +kernel))))))
    fss_nil) fss_nil)
    (fss_cons (fs_ret (fe_and (C.isi1 (cv_ty (t := .int) rfl) (C.var 0 (by decide +kernel) _) (C.ty (T.free 8 _ rfl) (by decide +kernel) bv_int) (T.free 2 _ rfl) (by decide +kernel)) (fe_and (C.cmp C.oEq (C.isi1 (cv_ty (t := .bool) rfl) (C.var 0 (by decide +kernel) _) (C.ty (T.free 10 _ rfl) (by decide +kernel) bv_bool) (T.free 2 _ rfl) (by decide +kernel)) (C.isi1 (cv_ty (t := .bool) rfl) (C.var 1 (by decide +kernel) _) (C.ty (T.free 10 _ rfl) (by decide +kernel) bv_bool) (T.free 2 _ rfl) (by decide +kernel))) (fe_one (C.cmp C.oEq (C.var 0 (by decide +kernel) _) (C.var 1 (by decide +kernel) _))))))
    fss_nil))))
theorem d_f77__law_facts (T : Facts pd (pd.gm K) mg) (C : Ctx (pd.gm K) mg nF k F E N_f77__law_facts (defScope s_f77__law_facts) X) (tk : Tk (pd.gm K) k E X) : PSs X (defBody s_f77__law_facts) (tMS (pd.gm K) E (evSs (pd.gm K).T F B.c_f77__law_facts)) :=
  (fss_cons (C.asg (fe_lstL (fa_cons C.str (fa_cons C.str (fa_cons C.str (fa_cons C.str (fa_cons C.str (fa_cons C.str (fa_cons C.str (fa_cons C.str (fa_cons C.str (fa_cons C.str (fa_cons C.str (fa_cons C.str fa_nil))))))))))))) (C.pg 2 (by decide +kernel) _))
    (fss_cons (fs_whil C.own (C.tcmp C.oGt (C.blt (crM_len C.hK) bv_len (T.free 0 _ rfl) (by decide +kernel) (fa_cons (C.var 2 (by decide +kernel) _) fa_nil)) (C.var 1 (by decide +kernel) _)) (fss_cons (fs_expr (C.popAt (C.var 2 (by decide +kernel) _) (fa_cons (C.call 32 (T.glo 32 _ rfl) (by decide) (by decide +kernel) (fa_cons (C.var 0 (by decide +kernel) _) (fa_cons (C.blt (crM_len C.hK) bv_len (T.free 0 _ rfl) (by decide +kernel) (fa_cons (C.var 2 (by decide +kernel) _) fa_nil)) fa_nil))) fa_nil)))
    fss_nil))
    (fss_cons (fs_ret (C.bltT (crM_tuple C.hK) bv_tuple (T.free 5 _ rfl) (by decide +kernel) (fa_cons (C.var 2 (by decide +kernel) _) fa_nil)))
    fss_nil)))
theorem d_f78__law_due (T : Facts pd (pd.gm K) mg) (C : Ctx (pd.gm K) mg nF k F E N_f78__law_due (defScope s_f78__law_due) X) (tk : Tk (pd.gm K) k E X) : PSs X (defBody s_f78__law_due) (tMS (pd.gm K) E (evSs (pd.gm K).T F B.c_f78__law_due)) :=
  (fss_cons (fs_for C.own C.calm (fi_rng C.int (C.m (T.free 11 _ rfl)) (C.gln (by decide +kernel))) (C.pg 1 (by decide +kernel) _) (fss_cons (fs_for C.own C.calm (fi_rng (C.blt (crM_len C.hK) bv_len (T.free 0 _ rfl) (by decide +kernel) (fa_cons (C.idx (C.var 0 (by decide +kernel) _) (C.var 1 (by decide +kernel) _)) fa_nil)) (C.m (T.free 11 _ rfl)) (C.gln (by decide +kernel))) (C.pg 2 (by decide +kernel) _) (fss_cons (C.asg (C.idx (C.idx (C.var 0 (by decide +kernel) _) (C.var 1 (by decide +kernel) _)) (C.var 2 (by decide +kernel) _)) (C.pg 3 (by decide +kernel) _))
    (fss_cons (C.asgLc false 4 (own := [("_law_sign", 7)]) (by decide +kernel) (by decide +kernel) (fi_val (C.var 3 (by decide +kernel) _) C.hK) (fun _ C => (C.pg 7 (by decide +kernel) _)) (fun _ C => (pts_one (C.tcmp C.oNotIn (C.var 7 (by decide +kernel) _) C.str))) (fun _ C => (C.var 7 (by decide +kernel) _)))
    (fss_cons (C.asg (fe_and (C.cmp C.oGt (C.var 2 (by decide +kernel) _) C.int) (fe_one (C.cmp C.oLe (C.var 3 (by decide +kernel) _) (C.idx (C.idx (C.var 0 (by decide +kernel) _) (C.var 1 (by decide +kernel) _)) (C.sub (C.var 2 (by decide +kernel) _) C.int))))) (C.pg 5 (by decide +kernel) _))
    (fss_cons (C.asg (C.cmp C.oGt (C.add (C.add (C.var 2 (by decide +kernel) _) C.int) (C.mul (C.var 1 (by decide +kernel) _) (C.blt (crM_len C.hK) bv_len (T.free 0 _ rfl) (by decide +kernel) (fa_cons (C.idx (C.var 0 (by decide +kernel) _) C.int) fa_nil)))) C.int) (C.pg 6 (by decide +kernel) _))
    (fss_cons (fs_ife (PW.pt (ft_or (C.tcmp C.oNe (C.var 4 (by decide +kernel) _) (fe_lst fa_nil)) (ft_or (ft_not (ft_chn C.oLe C.oLe C.int (C.blt (crM_len C.hK) bv_len (T.free 0 _ rfl) (by decide +kernel) (fa_cons (C.var 3 (by decide +kernel) _) fa_nil)) C.int)) (ft_or (ft_val (C.var 5 (by decide +kernel) _)) (ft_or (ft_val (C.var 6 (by decide +kernel) _)) (pw_or1 (PW.pt (ft_and (C.tcmp C.oEq (C.var 1 (by decide +kernel) _) C.int) (pw_and1 (C.tcmp C.oIn (C.var 3 (by decide +kernel) _) (C.idx (C.var 0 (by decide +kernel) _) C.int))))))))))) (fss_cons (fs_ret (fe_tup (fa_cons C.str (fa_cons (C.var 1 (by decide +kernel) _) (fa_cons (C.var 2 (by decide +kernel) _) fa_nil)))))
    fss_nil) fss_nil)
    fss_nil))))))
    fss_nil))
    (fss_cons (fs_ret (fe_tup (fa_cons C.str fa_nil)))
    fss_nil))
theorem d_f81_law (T : Facts pd (pd.gm K) mg) (C : Ctx (pd.gm K) mg nF k F E N_f81_law (defScope s_f81_law) X) (tk : Tk (pd.gm K) k E X) (lk : Lk (pd.gm K) k 81 "law" X) : PSs X (defBody s_f81_law) (tMS (pd.gm K) E (evSs (pd.gm K).T F B.c_f81_law)) :=
  (fss_cons (C.asg (C.call 31 (T.glo 31 _ rfl) (by decide) (by decide +kernel) (fa_cons (C.var 0 (by decide +kernel) _) (fa_cons C.int fa_nil))) (C.pg 1 (by decide +kernel) _))
    (fss_cons (fs_for C.own C.calm (fi_rng C.int (C.m (T.free 11 _ rfl)) (C.gln (by decide +kernel))) (C.pg 2 (by decide +kernel) _) (fss_cons (C.asg (C.call 77 (T.glo 77 _ rfl) (by decide) (by decide +kernel) (fa_cons (C.var 1 (by decide +kernel) _) (fa_cons (C.add C.int (C.call 32 (T.glo 32 _ rfl) (by decide) (by decide +kernel) (fa_cons (C.var 1 (by decide +kernel) _) (fa_cons C.int fa_nil)))) fa_nil))) (C.pg 3 (by decide +kernel) _))
    (fss_cons (C.asg (fe_lstL (fa_cons (fe_lstL fa_nil) (fa_cons (fe_lstL fa_nil) fa_nil))) (C.pg 4 (by decide +kernel) _))
    (fss_cons (fs_for C.own C.calm (fi_val (C.var 3 (by decide +kernel) _) C.hK) (C.pg 5 (by decide +kernel) _) (fss_cons (fs_ife (C.tcmp C.oGt (C.call 32 (T.glo 32 _ rfl) (by decide) (by decide +kernel) (fa_cons (C.var 1 (by decide +kernel) _) (fa_cons C.int fa_nil))) C.int) (fss_cons (fs_expr (C.append (C.idx (C.var 4 (by decide +kernel) _) (C.call 32 (T.glo 32 _ rfl) (by decide) (by decide +kernel) (fa_cons (C.var 1 (by decide +kernel) _) (fa_cons C.int fa_nil)))) (fa_cons (C.var 5 (by decide +kernel) _) fa_nil)))
    fss_nil) fss_nil)
    fss_nil))
    (fss_cons (fs_for C.own C.calm (fi_rng (C.call 32 (T.glo 32 _ rfl) (by decide) (by decide +kernel) (fa_cons (C.var 1 (by decide +kernel) _) (fa_cons C.int fa_nil))) (C.m (T.free 11 _ rfl)) (C.gln (by decide +kernel))) (C.pg 6 (by decide +kernel) _) (fss_cons (C.asg (C.idx (C.var 4 (by decide +kernel) _) (C.call 32 (T.glo 32 _ rfl) (by decide) (by decide +kernel) (fa_cons (C.var 1 (by decide +kernel) _) (fa_cons C.int fa_nil)))) (C.pg 7 (by decide +kernel) _))
    (fss_cons (C.asg (C.call 32 (T.glo 32 _ rfl) (by decide) (by decide +kernel) (fa_cons (C.var 1 (by decide +kernel) _) (fa_cons (C.add (C.blt (crM_len C.hK) bv_len (T.free 0 _ rfl) (by decide +kernel) (fa_cons (C.var 7 (by decide +kernel) _) fa_nil)) C.int) fa_nil))) (C.pg 8 (by decide +kernel) _))
    (fss_cons (C.asg (C.idx (fe_lst (fa_cons C.str (fa_cons C.str (fa_cons C.str (fa_cons C.str (fa_cons C.str (fa_cons C.str (fa_cons C.str fa_nil)))))))) (C.call 32 (T.glo 32 _ rfl) (by decide) (by decide +kernel) (fa_cons (C.var 1 (by decide +kernel) _) (fa_cons C.int fa_nil)))) (C.pg 9 (by decide +kernel) _))
    (fss_cons (C.asg (C.call 32 (T.glo 32 _ rfl) (by decide) (by decide +kernel) (fa_cons (C.var 1 (by decide +kernel) _) (fa_cons C.int fa_nil))) (C.pg 10 (by decide +kernel) _))
    (fss_cons (fs_ife (C.tcmp C.oEq (C.var 10 (by decide +kernel) _) C.int) (fss_cons (fs_expr (C.insert (C.var 7 (by decide +kernel) _) (fa_cons (C.var 8 (by decide +kernel) _) (fa_cons (C.var 9 (by decide +kernel) _) fa_nil))))
    fss_nil) (fss_cons (fs_ife (PW.pt (ft_and (C.tcmp C.oEq (C.var 10 (by decide +kernel) _) C.int) (pw_and1 (C.tcmp C.oNe (C.var 7 (by decide +kernel) _) (fe_lst fa_nil))))) (fss_cons (fs_expr (C.insert (C.var 7 (by decide +kernel) _) (fa_cons (C.var 8 (by decide +kernel) _) (fa_cons (C.idx (C.var 7 (by decide +kernel) _) (C.blt (crM_min2 C.calm) bv_min (T.free 14 _ rfl) (by decide +kernel) (fa_cons (C.var 8 (by decide +kernel) _) (fa_cons (C.sub (C.blt (crM_len C.hK) bv_len (T.free 0 _ rfl) (by decide +kernel) (fa_cons (C.var 7 (by decide +kernel) _) fa_nil)) C.int) fa_nil)))) fa_nil))))
    fss_nil) (fss_cons (fs_ife (C.tcmp C.oEq (C.var 10 (by decide +kernel) _) C.int) (fss_cons (fs_expr (C.reverse (C.var 7 (by decide +kernel) _)))
    fss_nil) (fss_cons (fs_expr (C.insert (C.var 7 (by decide +kernel) _) (fa_cons (C.var 8 (by decide +kernel) _) (fa_cons (C.idx (C.var 3 (by decide +kernel) _) (C.call 32 (T.glo 32 _ rfl) (by decide) (by decide +kernel) (fa_cons (C.var 1 (by decide +kernel) _) (fa_cons (C.blt (crM_len C.hK) bv_len (T.free 0 _ rfl) (by decide +kernel) (fa_cons (C.var 3 (by decide +kernel) _) fa_nil)) fa_nil)))) fa_nil))))
    fss_nil))
    fss_nil))
    fss_nil))
    fss_nil))))))
    (fss_cons (C.asgC2 (by decide +kernel) (fe_tup (fa_cons (C.bltT (crM_tuple C.hK) bv_tuple (T.free 5 _ rfl) (by decide +kernel) (fa_cons (C.idx (C.var 4 (by decide +kernel) _) C.int) fa_nil)) (fa_cons (C.bltT (crM_tuple C.hK) bv_tuple (T.free 5 _ rfl) (by decide +kernel) (fa_cons (C.idx (C.var 4 (by decide +kernel) _) C.int) fa_nil)) fa_nil))) (PGM.l (C.tup (fgs_cons (C.pg 11 (by decide +kernel) _) (fgs_cons (C.pg 12 (by decide +kernel) _) fgs_nil)))))
    (fss_cons (C.asg (C.call 78 (T.glo 78 _ rfl) (by decide) (by decide +kernel) (fa_cons (fe_tup (fa_cons (C.var 11 (by decide +kernel) _) (fa_cons (C.var 12 (by decide +kernel) _) fa_nil))) fa_nil)) (C.pg 13 (by decide +kernel) _))
    (fss_cons (fs_ife (C.tcmp C.oNe (C.errL T rfl lk (ef T) (T.glo 76 _ rfl) (by decide +kernel) (by decide +kernel) (.head _) (.head _) (fun E X C => (C.make T 2 80 rfl rfl rfl (by decide +kernel) (fa_cons (C.var 11 (by decide +kernel) _) (fa_cons (C.var 12 (by decide +kernel) _) fa_nil))))) (C.var 13 (by decide +kernel) _)) (fss_cons (fs_ret C.bl)
    fss_nil) fss_nil)
    (fss_cons (fs_ife (C.tcmp C.oEq (C.var 13 (by decide +kernel) _) (fe_tup (fa_cons C.str fa_nil))) (fss_cons (C.asg (C.make T 2 80 rfl rfl rfl (by decide +kernel) (fa_cons (C.var 11 (by decide +kernel) _) (fa_cons (C.var 12 (by decide +kernel) _) fa_nil))) (C.pg 14 (by decide +kernel) _))
    (fss_cons (C.asg (C.bltT (crM_tuple C.hK) bv_tuple (T.free 5 _ rfl) (by decide +kernel) (fa_cons (C.blt (crM_sorted C.hK) bv_sorted (T.free 6 _ rfl) (by decide +kernel) (fa_cons (C.add (C.idx (C.var 4 (by decide +kernel) _) C.int) (C.idx (C.var 4 (by decide +kernel) _) C.int)) fa_nil)) fa_nil)) (C.pg 15 (by decide +kernel) _))
    (fss_cons (C.asg (fe_lst (fa_cons (C.at T 19 rfl rfl (C.var 14 (by decide +kernel) _)) (fa_cons (C.at T 20 rfl rfl (C.var 14 (by decide +kernel) _)) (fa_cons (C.at T 17 rfl rfl (C.var 14 (by decide +kernel) _)) (fa_cons (C.lenO T 41 rfl rfl (T.free 0 _ rfl) (by decide +kernel) (C.var 14 (by decide +kernel) _)) fa_nil))))) (C.pg 16 (by decide +kernel) _))
    (fss_cons (fs_ife (ft_not (ft_val (C.call 33 (T.glo 33 _ rfl) (by decide) (by decide +kernel) (fa_cons (C.var 16 (by decide +kernel) _) (fa_cons (fe_lst (fa_cons (C.var 11 (by decide +kernel) _) (fa_cons (C.var 12 (by decide +kernel) _) (fa_cons (C.var 15 (by decide +kernel) _) (fa_cons (C.blt (crM_len C.hK) bv_len (T.free 0 _ rfl) (by decide +kernel) (fa_cons (C.var 15 (by decide +kernel) _) fa_nil)) fa_nil))))) fa_nil))))) (fss_cons (fs_ret C.bl)
    fss_nil) fss_nil)
    fss_nil)))) fss_nil)
    fss_nil)))))))))
    (fss_cons (fs_ret C.bl)
    fss_nil)))
end
end K02

namespace K02
open PySem PySem.Spec PyProof.Rows L2 SC
section
variable {K : PySem.W.Frag} {mg : Str → Option Value} {P : Program} {w : World} {base : Heap}
theorem sc_f0_is_name : FnScope N_f0_is_name ["thing"] (defScope s_f0_is_name) := ⟨by decide +kernel, by decide +kernel, by decide +kernel, by decide +kernel, by decide +kernel, by decide +kernel, by decide +kernel⟩
theorem z_f0_is_name (T : Facts pd (pd.gm K) mg) : FnC (pd.gm K) P w mg base 4 (run (pd.gm K).T fns 0) 0 := by
  obtain ⟨fd, Fu⟩ := T.fn 0 _ rfl
  exact fn_zero Fu (Fu.binds (ps := ["thing"]) fun _ _ _ _ _ _ us hl => match us, hl with | [_], _ => rfl)
theorem n_f0_is_name {n : Nat} (hP : P = pd.prog) (hTb : TbOk (pd.gm K) base mg) (T : Facts pd (pd.gm K) mg) (IH : ∀ f, f ∈ nF → FnC (pd.gm K) P w mg base (4 * n + 4) (run (pd.gm K).T fns n) f) : FnC (pd.gm K) P w mg base (4 * (n + 1) + 4) (run (pd.gm K).T fns (n + 1)) 0 := by
  obtain ⟨fd, Fu⟩ := T.fn 0 _ rfl
  exact fn_sound (nF := nF) Fu sc_f0_is_name (Fu.binds (ps := ["thing"]) fun _ _ _ _ _ _ us hl => match us, hl with | [_], _ => rfl) (by rfl) (by rfl) (by rfl) (by decide) IH hP hTb (fun E X C tk lk => d_f0_is_name T C tk)
theorem sc_f80_Condition___init__ : FnScope N_f80_Condition___init__ ["self", "holding", "failing"] (defScope s_f80_Condition___init__) := ⟨by decide +kernel, by decide +kernel, by decide +kernel, by decide +kernel, by decide +kernel, by decide +kernel, by decide +kernel⟩
theorem z_f80_Condition___init__ (T : Facts pd (pd.gm K) mg) : FnC (pd.gm K) P w mg base 4 (run (pd.gm K).T fns 0) 80 := by
  obtain ⟨fd, Fu⟩ := T.fn 80 _ rfl
  exact fn_zero Fu (Fu.binds (ps := ["self", "holding", "failing"]) fun _ _ _ _ _ _ us hl => match us, hl with | [_, _, _], _ => rfl)
theorem n_f80_Condition___init__ {n : Nat} (hP : P = pd.prog) (hTb : TbOk (pd.gm K) base mg) (T : Facts pd (pd.gm K) mg) (IH : ∀ f, f ∈ nF → FnC (pd.gm K) P w mg base (4 * n + 4) (run (pd.gm K).T fns n) f) : FnC (pd.gm K) P w mg base (4 * (n + 1) + 4) (run (pd.gm K).T fns (n + 1)) 80 := by
  obtain ⟨fd, Fu⟩ := T.fn 80 _ rfl
  exact fn_sound (nF := nF) Fu sc_f80_Condition___init__ (Fu.binds (ps := ["self", "holding", "failing"]) fun _ _ _ _ _ _ us hl => match us, hl with | [_, _, _], _ => rfl) (by rfl) (by rfl) (by rfl) (by decide) IH hP hTb (fun E X C tk lk => d_f80_Condition___init__ T C tk)
theorem sc_f15_Condition_holding : FnScope N_f15_Condition_holding ["self"] (defScope s_f15_Condition_holding) := ⟨by decide +kernel, by decide +kernel, by decide +kernel, by decide +kernel, by decide +kernel, by decide +kernel, by decide +kernel⟩
theorem z_f15_Condition_holding (T : Facts pd (pd.gm K) mg) : FnC (pd.gm K) P w mg base 4 (run (pd.gm K).T fns 0) 15 := by
  obtain ⟨fd, Fu⟩ := T.fn 15 _ rfl
  exact fn_zero Fu (Fu.binds (ps := ["self"]) fun _ _ _ _ _ _ us hl => match us, hl with | [_], _ => rfl)
theorem n_f15_Condition_holding {n : Nat} (hP : P = pd.prog) (hTb : TbOk (pd.gm K) base mg) (T : Facts pd (pd.gm K) mg) (IH : ∀ f, f ∈ nF → FnC (pd.gm K) P w mg base (4 * n + 4) (run (pd.gm K).T fns n) f) : FnC (pd.gm K) P w mg base (4 * (n + 1) + 4) (run (pd.gm K).T fns (n + 1)) 15 := by
  obtain ⟨fd, Fu⟩ := T.fn 15 _ rfl
  exact fn_sound (nF := nF) Fu sc_f15_Condition_holding (Fu.binds (ps := ["self"]) fun _ _ _ _ _ _ us hl => match us, hl with | [_], _ => rfl) (by rfl) (by rfl) (by rfl) (by decide) IH hP hTb (fun E X C tk lk => d_f15_Condition_holding T C tk)
theorem sc_f16_Condition_failing : FnScope N_f16_Condition_failing ["self"] (defScope s_f16_Condition_failing) := ⟨by decide +kernel, by decide +kernel, by decide +kernel, by decide +kernel, by decide +kernel, by decide +kernel, by decide +kernel⟩
theorem z_f16_Condition_failing (T : Facts pd (pd.gm K) mg) : FnC (pd.gm K) P w mg base 4 (run (pd.gm K).T fns 0) 16 := by
  obtain ⟨fd, Fu⟩ := T.fn 16 _ rfl
  exact fn_zero Fu (Fu.binds (ps := ["self"]) fun _ _ _ _ _ _ us hl => match us, hl with | [_], _ => rfl)
theorem n_f16_Condition_failing {n : Nat} (hP : P = pd.prog) (hTb : TbOk (pd.gm K) base mg) (T : Facts pd (pd.gm K) mg) (IH : ∀ f, f ∈ nF → FnC (pd.gm K) P w mg base (4 * n + 4) (run (pd.gm K).T fns n) f) : FnC (pd.gm K) P w mg base (4 * (n + 1) + 4) (run (pd.gm K).T fns (n + 1)) 16 := by
  obtain ⟨fd, Fu⟩ := T.fn 16 _ rfl
  exact fn_sound (nF := nF) Fu sc_f16_Condition_failing (Fu.binds (ps := ["self"]) fun _ _ _ _ _ _ us hl => match us, hl with | [_], _ => rfl) (by rfl) (by rfl) (by rfl) (by decide) IH hP hTb (fun E X C tk lk => d_f16_Condition_failing T C tk)
theorem sc_f17_Condition_names : FnScope N_f17_Condition_names ["self"] (defScope s_f17_Condition_names) := ⟨by decide +kernel, by decide +kernel, by decide +kernel, by decide +kernel, by decide +kernel, by decide +kernel, by decide +kernel⟩
theorem z_f17_Condition_names (T : Facts pd (pd.gm K) mg) : FnC (pd.gm K) P w mg base 4 (run (pd.gm K).T fns 0) 17 := by
  obtain ⟨fd, Fu⟩ := T.fn 17 _ rfl
  exact fn_zero Fu (Fu.binds (ps := ["self"]) fun _ _ _ _ _ _ us hl => match us, hl with | [_], _ => rfl)
theorem n_f17_Condition_names {n : Nat} (hP : P = pd.prog) (hTb : TbOk (pd.gm K) base mg) (T : Facts pd (pd.gm K) mg) (IH : ∀ f, f ∈ nF → FnC (pd.gm K) P w mg base (4 * n + 4) (run (pd.gm K).T fns n) f) : FnC (pd.gm K) P w mg base (4 * (n + 1) + 4) (run (pd.gm K).T fns (n + 1)) 17 := by
  obtain ⟨fd, Fu⟩ := T.fn 17 _ rfl
  exact fn_sound (nF := nF) Fu sc_f17_Condition_names (Fu.binds (ps := ["self"]) fun _ _ _ _ _ _ us hl => match us, hl with | [_], _ => rfl) (by rfl) (by rfl) (by rfl) (by decide) IH hP hTb (fun E X C tk lk => d_f17_Condition_names T C tk)
theorem sc_f74_Condition___len__ : FnScope N_f74_Condition___len__ ["self"] (defScope s_f74_Condition___len__) := ⟨by decide +kernel, by decide +kernel, by decide +kernel, by decide +kernel, by decide +kernel, by decide +kernel, by decide +kernel⟩
theorem z_f74_Condition___len__ (T : Facts pd (pd.gm K) mg) : FnC (pd.gm K) P w mg base 4 (run (pd.gm K).T fns 0) 74 := by
  obtain ⟨fd, Fu⟩ := T.fn 74 _ rfl
  exact fn_zero Fu (Fu.binds (ps := ["self"]) fun _ _ _ _ _ _ us hl => match us, hl with | [_], _ => rfl)
theorem n_f74_Condition___len__ {n : Nat} (hP : P = pd.prog) (hTb : TbOk (pd.gm K) base mg) (T : Facts pd (pd.gm K) mg) (IH : ∀ f, f ∈ nF → FnC (pd.gm K) P w mg base (4 * n + 4) (run (pd.gm K).T fns n) f) : FnC (pd.gm K) P w mg base (4 * (n + 1) + 4) (run (pd.gm K).T fns (n + 1)) 74 := by
  obtain ⟨fd, Fu⟩ := T.fn 74 _ rfl
  exact fn_sound (nF := nF) Fu sc_f74_Condition___len__ (Fu.binds (ps := ["self"]) fun _ _ _ _ _ _ us hl => match us, hl with | [_], _ => rfl) (by rfl) (by rfl) (by rfl) (by decide) IH hP hTb (fun E X C tk lk => d_f74_Condition___len__ T C tk)
theorem sc_f31__law_mix : FnScope N_f31__law_mix ["_law_script", "_law_seed"] (defScope s_f31__law_mix) := ⟨by decide +kernel, by decide +kernel, by decide +kernel, by decide +kernel, by decide +kernel, by decide +kernel, by decide +kernel⟩
theorem z_f31__law_mix (T : Facts pd (pd.gm K) mg) : FnC (pd.gm K) P w mg base 4 (run (pd.gm K).T fns 0) 31 := by
  obtain ⟨fd, Fu⟩ := T.fn 31 _ rfl
  exact fn_zero Fu (Fu.binds (ps := ["_law_script", "_law_seed"]) fun _ _ _ _ _ _ us hl => match us, hl with | [_, _], _ => rfl)
theorem n_f31__law_mix {n : Nat} (hP : P = pd.prog) (hTb : TbOk (pd.gm K) base mg) (T : Facts pd (pd.gm K) mg) (IH : ∀ f, f ∈ nF → FnC (pd.gm K) P w mg base (4 * n + 4) (run (pd.gm K).T fns n) f) : FnC (pd.gm K) P w mg base (4 * (n + 1) + 4) (run (pd.gm K).T fns (n + 1)) 31 := by
  obtain ⟨fd, Fu⟩ := T.fn 31 _ rfl
  exact fn_sound (nF := nF) Fu sc_f31__law_mix (Fu.binds (ps := ["_law_script", "_law_seed"]) fun _ _ _ _ _ _ us hl => match us, hl with | [_, _], _ => rfl) (by rfl) (by rfl) (by rfl) (by decide) IH hP hTb (fun E X C tk lk => d_f31__law_mix T C tk)
theorem sc_f32__law_next : FnScope N_f32__law_next ["_law_h", "_law_limit"] (defScope s_f32__law_next) := ⟨by decide +kernel, by decide +kernel, by decide +kernel, by decide +kernel, by decide +kernel, by decide +kernel, by decide +kernel⟩
theorem z_f32__law_next (T : Facts pd (pd.gm K) mg) : FnC (pd.gm K) P w mg base 4 (run (pd.gm K).T fns 0) 32 := by
  obtain ⟨fd, Fu⟩ := T.fn 32 _ rfl
  exact fn_zero Fu (Fu.binds (ps := ["_law_h", "_law_limit"]) fun _ _ _ _ _ _ us hl => match us, hl with | [_, _], _ => rfl)
theorem n_f32__law_next {n : Nat} (hP : P = pd.prog) (hTb : TbOk (pd.gm K) base mg) (T : Facts pd (pd.gm K) mg) (IH : ∀ f, f ∈ nF → FnC (pd.gm K) P w mg base (4 * n + 4) (run (pd.gm K).T fns n) f) : FnC (pd.gm K) P w mg base (4 * (n + 1) + 4) (run (pd.gm K).T fns (n + 1)) 32 := by
  obtain ⟨fd, Fu⟩ := T.fn 32 _ rfl
  exact fn_sound (nF := nF) Fu sc_f32__law_next (Fu.binds (ps := ["_law_h", "_law_limit"]) fun _ _ _ _ _ _ us hl => match us, hl with | [_, _], _ => rfl) (by rfl) (by rfl) (by rfl) (by decide) IH hP hTb (fun E X C tk lk => d_f32__law_next T C tk)
theorem sc_f33__law_alike : FnScope N_f33__law_alike ["_law_found", "_law_due_here"] (defScope s_f33__law_alike) := ⟨by decide +kernel, by decide +kernel, by decide +kernel, by decide +kernel, by decide +kernel, by decide +kernel, by decide +kernel⟩
theorem z_f33__law_alike (T : Facts pd (pd.gm K) mg) : FnC (pd.gm K) P w mg base 4 (run (pd.gm K).T fns 0) 33 := by
  obtain ⟨fd, Fu⟩ := T.fn 33 _ rfl
  exact fn_zero Fu (Fu.binds (ps := ["_law_found", "_law_due_here"]) fun _ _ _ _ _ _ us hl => match us, hl with | [_, _], _ => rfl)
theorem n_f33__law_alike {n : Nat} (hP : P = pd.prog) (hTb : TbOk (pd.gm K) base mg) (T : Facts pd (pd.gm K) mg) (IH : ∀ f, f ∈ nF → FnC (pd.gm K) P w mg base (4 * n + 4) (run (pd.gm K).T fns n) f) : FnC (pd.gm K) P w mg base (4 * (n + 1) + 4) (run (pd.gm K).T fns (n + 1)) 33 := by
  obtain ⟨fd, Fu⟩ := T.fn 33 _ rfl
  exact fn_sound (nF := nF) Fu sc_f33__law_alike (Fu.binds (ps := ["_law_found", "_law_due_here"]) fun _ _ _ _ _ _ us hl => match us, hl with | [_, _], _ => rfl) (by rfl) (by rfl) (by rfl) (by decide) IH hP hTb (fun E X C tk lk => d_f33__law_alike T C tk)
theorem z_f76__law_error (T : Facts pd (pd.gm K) mg) : FnC (pd.gm K) P w mg base 4 (run (pd.gm K).T fns 0) 76 := by
  obtain ⟨fd, Fu⟩ := T.fn 76 _ rfl
  exact fn_zero Fu (Fu.binds (ps := ["_law_call"]) fun _ _ _ _ _ _ us hl => match us, hl with | [_], _ => rfl)
theorem n_f76__law_error {n : Nat} (hP : P = pd.prog) (hTb : TbOk (pd.gm K) base mg) (T : Facts pd (pd.gm K) mg) (IH : ∀ f, f ∈ nF → FnC (pd.gm K) P w mg base (4 * n + 4) (run (pd.gm K).T fns n) f) : FnC (pd.gm K) P w mg base (4 * (n + 1) + 4) (run (pd.gm K).T fns (n + 1)) 76 := by
  obtain ⟨fd, Fu⟩ := T.fn 76 _ rfl
  exact fn_none Fu (Fu.binds (ps := ["_law_call"]) fun _ _ _ _ _ _ us hl => match us, hl with | [_], _ => rfl) (by rfl)
theorem sc_f77__law_facts : FnScope N_f77__law_facts ["_law_h", "_law_count"] (defScope s_f77__law_facts) := ⟨by decide +kernel, by decide +kernel, by decide +kernel, by decide +kernel, by decide +kernel, by decide +kernel, by decide +kernel⟩
theorem z_f77__law_facts (T : Facts pd (pd.gm K) mg) : FnC (pd.gm K) P w mg base 4 (run (pd.gm K).T fns 0) 77 := by
  obtain ⟨fd, Fu⟩ := T.fn 77 _ rfl
  exact fn_zero Fu (Fu.binds (ps := ["_law_h", "_law_count"]) fun _ _ _ _ _ _ us hl => match us, hl with | [_, _], _ => rfl)
theorem n_f77__law_facts {n : Nat} (hP : P = pd.prog) (hTb : TbOk (pd.gm K) base mg) (T : Facts pd (pd.gm K) mg) (IH : ∀ f, f ∈ nF → FnC (pd.gm K) P w mg base (4 * n + 4) (run (pd.gm K).T fns n) f) : FnC (pd.gm K) P w mg base (4 * (n + 1) + 4) (run (pd.gm K).T fns (n + 1)) 77 := by
  obtain ⟨fd, Fu⟩ := T.fn 77 _ rfl
  exact fn_sound (nF := nF) Fu sc_f77__law_facts (Fu.binds (ps := ["_law_h", "_law_count"]) fun _ _ _ _ _ _ us hl => match us, hl with | [_, _], _ => rfl) (by rfl) (by rfl) (by rfl) (by decide) IH hP hTb (fun E X C tk lk => d_f77__law_facts T C tk)
theorem sc_f78__law_due : FnScope N_f78__law_due ["_law_parts"] (defScope s_f78__law_due) := ⟨by decide +kernel, by decide +kernel, by decide +kernel, by decide +kernel, by decide +kernel, by decide +kernel, by decide +kernel⟩
theorem z_f78__law_due (T : Facts pd (pd.gm K) mg) : FnC (pd.gm K) P w mg base 4 (run (pd.gm K).T fns 0) 78 := by
  obtain ⟨fd, Fu⟩ := T.fn 78 _ rfl
  exact fn_zero Fu (Fu.binds (ps := ["_law_parts"]) fun _ _ _ _ _ _ us hl => match us, hl with | [_], _ => rfl)
theorem n_f78__law_due {n : Nat} (hP : P = pd.prog) (hTb : TbOk (pd.gm K) base mg) (T : Facts pd (pd.gm K) mg) (IH : ∀ f, f ∈ nF → FnC (pd.gm K) P w mg base (4 * n + 4) (run (pd.gm K).T fns n) f) : FnC (pd.gm K) P w mg base (4 * (n + 1) + 4) (run (pd.gm K).T fns (n + 1)) 78 := by
  obtain ⟨fd, Fu⟩ := T.fn 78 _ rfl
  exact fn_sound (nF := nF) Fu sc_f78__law_due (Fu.binds (ps := ["_law_parts"]) fun _ _ _ _ _ _ us hl => match us, hl with | [_], _ => rfl) (by rfl) (by rfl) (by rfl) (by decide) IH hP hTb (fun E X C tk lk => d_f78__law_due T C tk)
theorem sc_f81_law : FnScope N_f81_law ["_law_script"] (defScope s_f81_law) := ⟨by decide +kernel, by decide +kernel, by decide +kernel, by decide +kernel, by decide +kernel, by decide +kernel, by decide +kernel⟩
theorem z_f81_law (T : Facts pd (pd.gm K) mg) : FnC (pd.gm K) P w mg base 4 (run (pd.gm K).T fns 0) 81 := by
  obtain ⟨fd, Fu⟩ := T.fn 81 _ rfl
  exact fn_zero Fu (Fu.binds (ps := ["_law_script"]) fun _ _ _ _ _ _ us hl => match us, hl with | [_], _ => rfl)
theorem n_f81_law {n : Nat} (hP : P = pd.prog) (hTb : TbOk (pd.gm K) base mg) (T : Facts pd (pd.gm K) mg) (IH : ∀ f, f ∈ nF → FnC (pd.gm K) P w mg base (4 * n + 4) (run (pd.gm K).T fns n) f) : FnC (pd.gm K) P w mg base (4 * (n + 1) + 4) (run (pd.gm K).T fns (n + 1)) 81 := by
  obtain ⟨fd, Fu⟩ := T.fn 81 _ rfl
  exact fn_sound (nF := nF) Fu sc_f81_law (Fu.binds (ps := ["_law_script"]) fun _ _ _ _ _ _ us hl => match us, hl with | [_], _ => rfl) (by rfl) (by rfl) (by rfl) (by decide) IH hP hTb (fun E X C tk lk => d_f81_law T C tk lk)
theorem all_fc (hP : P = pd.prog) (hTb : TbOk (pd.gm K) base mg) (T : Facts pd (pd.gm K) mg) : ∀ n f, f ∈ nF → FnC (pd.gm K) P w mg base (4 * n + 4) (run (pd.gm K).T fns n) f
  | 0 => by
    simp only [nF, List.forall_mem_cons]
    exact ⟨z_f0_is_name T, z_f80_Condition___init__ T, z_f15_Condition_holding T, z_f16_Condition_failing T, z_f17_Condition_names T, z_f74_Condition___len__ T, z_f31__law_mix T, z_f32__law_next T, z_f33__law_alike T, z_f76__law_error T, z_f77__law_facts T, z_f78__law_due T, z_f81_law T, fun _ h => nomatch h⟩
  | n + 1 => by
    have ih := all_fc hP hTb T n
    simp only [nF, List.forall_mem_cons]
    exact ⟨n_f0_is_name hP hTb T ih, n_f80_Condition___init__ hP hTb T ih, n_f15_Condition_holding hP hTb T ih, n_f16_Condition_failing hP hTb T ih, n_f17_Condition_names hP hTb T ih, n_f74_Condition___len__ hP hTb T ih, n_f31__law_mix hP hTb T ih, n_f32__law_next hP hTb T ih, n_f33__law_alike hP hTb T ih, n_f76__law_error hP hTb T ih, n_f77__law_facts hP hTb T ih, n_f78__law_due hP hTb T ih, n_f81_law hP hTb T ih, fun _ h => nomatch h⟩
end
end K02

set_option maxHeartbeats 1000000
namespace SC
open PySem L2
theorem pk_len {t : Nat} (ht : t < 2) {a b c : List Str} : (pk t c a).length + (pk t b c).length + (pk t a b).length = a.length + b.length + c.length := by
  have : t = 0 ∨ t = 1 := by omega
  rcases this with rfl | rfl <;> simp [pk] <;> omega
/-- both sides are texts, so many at most -/
def Pt (a b : List Str) (N : Nat) : Prop := (∀ x ∈ a, Tx x) ∧ (∀ x ∈ b, Tx x) ∧ a.length + b.length ≤ N
theorem Pt.pick {t : Nat} {a b : List Str} {N : Nat} (h : Pt a b N) : (∀ x ∈ pk t a b, Tx x) ∧ (pk t a b).length ≤ N := by
  obtain ⟨h1, h2, h3⟩ := h
  unfold pk
  split
  · exact ⟨h1, by omega⟩
  · exact ⟨h2, by omega⟩
theorem Pt.put {t : Nat} (ht : t < 2) {a b c : List Str} {N M : Nat} (h : Pt a b N) (hc : ∀ x ∈ c, Tx x) (hl : c.length ≤ (pk t a b).length + M) : Pt (pk t c a) (pk t b c) (N + M) := by
  obtain ⟨h1, h2, h3⟩ := h
  have : t = 0 ∨ t = 1 := by omega
  rcases this with rfl | rfl <;> simp only [pk] at hl ⊢
  · exact ⟨hc, h2, by simp at hl ⊢; omega⟩
  · exact ⟨h1, hc, by simp at hl ⊢; omega⟩
theorem Pt.mono {a b : List Str} {N M : Nat} (h : Pt a b N) (hm : N ≤ M) : Pt a b M := ⟨h.1, h.2.1, by have := h.2.2; omega⟩
theorem tx_name {x : Str} (h : isName x = true) : Tx x := ⟨isName_ok h, by have := isName_len h; omega⟩
/-- what a law on conditions asks of its defs -/
structure CondEnv (T : Tab) (P : Nat → Option Fn) : Prop where
  p0 : P 0 = some B.f0_is_name
  p80 : P 80 = some B.f80_Condition___init__
  p15 : P 15 = some B.f15_Condition_holding
  p16 : P 16 = some B.f16_Condition_failing
  p17 : P 17 = some B.f17_Condition_names
  p74 : P 74 = some B.f74_Condition___len__
  l2 : T.lay 2 = [8, 9]
  i2 : T.init 2 = some 80
  f2 : T.frozen 2 = true
  q2 : T.prop 2 19 = some 15 ∧ T.prop 2 20 = some 16 ∧ T.prop 2 17 = some 17
  n2 : T.prop 2 8 = none ∧ T.prop 2 9 = none
  m2 : T.meth 2 41 = some 74
section
variable {T : Tab} {P : Nat → Option Fn} {h : MH} {n : Nat} (E : CondEnv T P) {a b : List Str}
include E
theorem cat_h (hn : 1 ≤ n) (w : Wf h) : kAt T (run T P n) 19 (.ok (.v (condV a b)) h) = .ok (.v (sT a)) h := by
  simp [condV, E.q2, prop_spec (vs := [sT a, sT b]) (x := sT a) E.p15 rfl hn E.n2.1 (by simp [E.l2]) (by rw [E.l2]; rfl) w]
theorem cat_f (hn : 1 ≤ n) (w : Wf h) : kAt T (run T P n) 20 (.ok (.v (condV a b)) h) = .ok (.v (sT b)) h := by
  simp [condV, E.q2, prop_spec (vs := [sT a, sT b]) (x := sT b) E.p16 rfl hn E.n2.2 (by simp [E.l2]) (by rw [E.l2]; rfl) w]
theorem c_wb : (∀ {F : Phi}, kAt T F 8 (.ok (.v (condV a b)) h) = .ok (.v (sT a)) h) ∧ ∀ {F : Phi}, kAt T F 9 (.ok (.v (condV a b)) h) = .ok (.v (sT b)) h := by
  constructor
  · intro F; simp [condV, E.n2, E.l2]
  · intro F; simp [condV, E.n2, E.l2]; rfl
theorem cat_n (hl : a.length + b.length < 64) (hn : 1 ≤ n) (w : Wf h) : kAt T (run T P n) 17 (.ok (.v (condV a b)) h) = .ok (.v (sT (sortS (a ++ b)))) h := by
  obtain ⟨n, rfl⟩ : ∃ m, n = m + 1 := ⟨n - 1, by omega⟩
  have e : run T P (n + 1) 17 [.v (condV a b)] h = .ok (.v (sT (sortS (a ++ b)))) h := by
    rw [run_succ E.p17 rfl]
    refine Eq.trans (congrArg _ ?_) (finish_ret0 w)
    obtain ⟨q1, q2⟩ := c_wb E (a := a) (b := b) (h := h)
    have q3 := add_sT (h := h) (xs := a) (ys := b) (by omega)
    have q4 := sorted_sT (T := T) (h := h) (xs := a ++ b) (by simpa using hl)
    simp -implicitDefEqProofs [B.f17_Condition_names, B.c_f17_Condition_names, q1, q2, q3, q4, tuple_strs]
    rfl
  simp [condV, E.q2]
  rw [condV] at e
  rw [e]; rfl
theorem c_len (hl : a.length + b.length < 64) (hn : 1 ≤ n) (w : Wf h) : kLe T (run T P n) 41 (.ok (.v (condV a b)) h) = .ok (.v (.int ((a ++ b).length : Int))) h := by
  obtain ⟨n, rfl⟩ : ∃ m, n = m + 1 := ⟨n - 1, by omega⟩
  have e : run T P (n + 1) 74 [.v (condV a b)] h = .ok (.v (.int ((a ++ b).length : Int))) h := by
    rw [run_succ E.p74 rfl]
    refine Eq.trans (congrArg _ ?_) (finish_ret0 w)
    obtain ⟨q1, q2⟩ := c_wb E (a := a) (b := b) (h := h)
    have q3 := add_sT (h := h) (xs := a) (ys := b) (by omega)
    simp -implicitDefEqProofs [B.f74_Condition___len__, B.c_f74_Condition___len__, q1, q2, q3, len_sT, -List.length_append]
  rw [kLe_ok, condV, insOf_v, kLe1_some, E.m2, kLe2_some]
  rw [condV] at e
  rw [e, lenOF_int, if_pos ⟨by omega, by rw [List.length_append]; omega⟩]
end
end SC
namespace K02
open PySem L2 SC
abbrev fuel : Nat := 16
abbrev lawI : Nat := 81
theorem env : CondEnv pd.tab fns where
  p0 := rfl
  p80 := rfl
  p15 := rfl
  p16 := rfl
  p17 := rfl
  p74 := rfl
  l2 := rfl
  i2 := rfl
  f2 := rfl
  q2 := ⟨rfl, rfl, rfl⟩
  n2 := ⟨rfl, rfl⟩
  m2 := rfl
abbrev st0 : CS := (.asg (.nm 3) (.call 77 (.cons (.var 1) (.cons (.bin .add (.cst (.int 1)) (.call 32 (.cons (.var 1) (.cons (.cst (.int 12)) .nil)))) .nil))))
abbrev st1 : CS := (.asg (.nm 4) (.lstL (.cons (.lstL .nil) (.cons (.lstL .nil) .nil))))
abbrev st2 : CS := (.forr (.nm 5) (.val (.var 3)) (.cons (.ife (.cmp .gt (.call 32 (.cons (.var 1) (.cons (.cst (.int 3)) .nil))) (.cst (.int 0))) (.cons (.expr (.bm .append (.idx (.var 4) (.call 32 (.cons (.var 1) (.cons (.cst (.int 2)) .nil)))) (.cons (.var 5) .nil))) .nil) .nil) .nil))
abbrev st3 : CS := (.forr (.nm 6) (.rng (.call 32 (.cons (.var 1) (.cons (.cst (.int 3)) .nil)))) (.cons (.asg (.nm 7) (.idx (.var 4) (.call 32 (.cons (.var 1) (.cons (.cst (.int 2)) .nil))))) (.cons (.asg (.nm 8) (.call 32 (.cons (.var 1) (.cons (.bin .add (.blt .len (.cons (.var 7) .nil)) (.cst (.int 1))) .nil)))) (.cons (.asg (.nm 9) (.idx (.lst (.cons (.cst (.str "")) (.cons (.cst (.str "Abc")) (.cons (.cst (.str "abcdefghi")) (.cons (.cst (.str "a1")) (.cons (.cst (.str "zz")) (.cons (.cst (.str "a")) (.cons (.cst (.str "abcdefgh")) .nil)))))))) (.call 32 (.cons (.var 1) (.cons (.cst (.int 7)) .nil))))) (.cons (.asg (.nm 10) (.call 32 (.cons (.var 1) (.cons (.cst (.int 4)) .nil)))) (.cons (.ife (.cmp .eq (.var 10) (.cst (.int 0))) (.cons (.expr (.bm .insert (.var 7) (.cons (.var 8) (.cons (.var 9) .nil)))) .nil) (.cons (.ife (.and (.cmp .eq (.var 10) (.cst (.int 1))) (.cmp .ne (.var 7) (.lst .nil))) (.cons (.expr (.bm .insert (.var 7) (.cons (.var 8) (.cons (.idx (.var 7) (.blt .min2 (.cons (.var 8) (.cons (.bin .sub (.blt .len (.cons (.var 7) .nil)) (.cst (.int 1))) .nil)))) .nil)))) .nil) (.cons (.ife (.cmp .eq (.var 10) (.cst (.int 2))) (.cons (.expr (.bm .reverse (.var 7) .nil)) .nil) (.cons (.expr (.bm .insert (.var 7) (.cons (.var 8) (.cons (.idx (.var 3) (.call 32 (.cons (.var 1) (.cons (.blt .len (.cons (.var 3) .nil)) .nil)))) .nil)))) .nil)) .nil)) .nil)) .nil))))))
abbrev st4 : CS := (.asg (.tup [(.nm 11), (.nm 12)]) (.tup (.cons (.blt .tuple (.cons (.idx (.var 4) (.cst (.int 0))) .nil)) (.cons (.blt .tuple (.cons (.idx (.var 4) (.cst (.int 1))) .nil)) .nil))))
abbrev st5 : CS := (.asg (.nm 13) (.call 78 (.cons (.tup (.cons (.var 11) (.cons (.var 12) .nil))) .nil)))
abbrev st6 : CS := (.ife (.cmp .ne (.errL (.make 2 (.cons (.var 11) (.cons (.var 12) .nil)))) (.var 13)) (.cons (.ret (.cst (.bl false))) .nil) .nil)
abbrev st7 : CS := (.ife (.cmp .eq (.var 13) (.tup (.cons (.cst (.str "none")) .nil))) (.cons (.asg (.nm 14) (.make 2 (.cons (.var 11) (.cons (.var 12) .nil)))) (.cons (.asg (.nm 15) (.blt .tuple (.cons (.blt .sorted (.cons (.bin .add (.idx (.var 4) (.cst (.int 0))) (.idx (.var 4) (.cst (.int 1)))) .nil)) .nil))) (.cons (.asg (.nm 16) (.lst (.cons (.attr 19 (.var 14)) (.cons (.attr 20 (.var 14)) (.cons (.attr 17 (.var 14)) (.cons (.lenO 41 (.var 14)) .nil)))))) (.cons (.ife (.not (.call 33 (.cons (.var 16) (.cons (.lst (.cons (.var 11) (.cons (.var 12) (.cons (.var 15) (.cons (.blt .len (.cons (.var 15) .nil)) .nil))))) .nil)))) (.cons (.ret (.cst (.bl false))) .nil) .nil) .nil)))) .nil)
abbrev lp1 : CSs := (.cons (.ife (.cmp .gt (.call 32 (.cons (.var 1) (.cons (.cst (.int 3)) .nil))) (.cst (.int 0))) (.cons (.expr (.bm .append (.idx (.var 4) (.call 32 (.cons (.var 1) (.cons (.cst (.int 2)) .nil)))) (.cons (.var 5) .nil))) .nil) .nil) .nil)
abbrev su0 : CS := (.asg (.nm 7) (.idx (.var 4) (.call 32 (.cons (.var 1) (.cons (.cst (.int 2)) .nil)))))
abbrev su1 : CS := (.asg (.nm 8) (.call 32 (.cons (.var 1) (.cons (.bin .add (.blt .len (.cons (.var 7) .nil)) (.cst (.int 1))) .nil))))
abbrev su2 : CS := (.asg (.nm 9) (.idx (.lst (.cons (.cst (.str "")) (.cons (.cst (.str "Abc")) (.cons (.cst (.str "abcdefghi")) (.cons (.cst (.str "a1")) (.cons (.cst (.str "zz")) (.cons (.cst (.str "a")) (.cons (.cst (.str "abcdefgh")) .nil)))))))) (.call 32 (.cons (.var 1) (.cons (.cst (.int 7)) .nil)))))
abbrev su3 : CS := (.asg (.nm 10) (.call 32 (.cons (.var 1) (.cons (.cst (.int 4)) .nil))))
abbrev su4 : CS := (.ife (.cmp .eq (.var 10) (.cst (.int 0))) (.cons (.expr (.bm .insert (.var 7) (.cons (.var 8) (.cons (.var 9) .nil)))) .nil) (.cons (.ife (.and (.cmp .eq (.var 10) (.cst (.int 1))) (.cmp .ne (.var 7) (.lst .nil))) (.cons (.expr (.bm .insert (.var 7) (.cons (.var 8) (.cons (.idx (.var 7) (.blt .min2 (.cons (.var 8) (.cons (.bin .sub (.blt .len (.cons (.var 7) .nil)) (.cst (.int 1))) .nil)))) .nil)))) .nil) (.cons (.ife (.cmp .eq (.var 10) (.cst (.int 2))) (.cons (.expr (.bm .reverse (.var 7) .nil)) .nil) (.cons (.expr (.bm .insert (.var 7) (.cons (.var 8) (.cons (.idx (.var 3) (.call 32 (.cons (.var 1) (.cons (.blt .len (.cons (.var 3) .nil)) .nil)))) .nil)))) .nil)) .nil)) .nil))
abbrev T : Tab := pd.tab
abbrev F : Phi := run pd.tab fns 15
section
variable {s : Int} {xs : List Int} {p : Int} {rest : MH} {fs : List Str}
/-- names are laid on the sides -/
theorem loop1 (w : WfR rest) (hx : xs.length ≤ 63) (hf : ∀ x ∈ fs, isName x = true) (hl : fs.length ≤ 12) {z0 z2 z5 z6 z7 z8 z9 z10 z11 z12 z13 z14 z15 z16 : Option LV} :
    ∃ s' xs' p' a b y5, xs'.length = xs.length ∧ Pt a b 12 ∧ evS T F st2 [z0, some (.r 1), z2, some (.v (sT fs)), some (.r (rest.length + 4)), z5, z6, z7, z8, z9, z10, z11, z12, z13, z14, z15, z16] (hp2 s xs p rest [] []) = .nxt [z0, some (.r 1), z2, some (.v (sT fs)), some (.r (rest.length + 4)), y5, z6, z7, z8, z9, z10, z11, z12, z13, z14, z15, z16] (hp2 s' xs' p' rest a b) := by
  obtain ⟨r', h', e, s1, xs1, p1, a, b, g1, g2, rfl, y5, rfl⟩ := forL_inv (step := forStep T F (.nm 5) lp1) (enc := LV.v ∘ MV.str)
    (fun pre r' h' => ∃ s1 xs1 p1 a b, xs1.length = xs.length ∧ Pt a b pre.length ∧ h' = hp2 s1 xs1 p1 rest a b ∧ ∃ y5, r' = [z0, some (.r 1), z2, some (.v (sT fs)), some (.r (rest.length + 4)), y5, z6, z7, z8, z9, z10, z11, z12, z13, z14, z15, z16]) fs [z0, some (.r 1), z2, some (.v (sT fs)), some (.r (rest.length + 4)), z5, z6, z7, z8, z9, z10, z11, z12, z13, z14, z15, z16] (hp2 s xs p rest [] []) (by
      rintro pre x r' h' hp hx' ⟨s1, xs1, p1, a, b, g1, g2, rfl, y5, rfl⟩
      have hpl : pre.length ≤ 12 := by have := hp.length_le; simp at this; omega
      obtain ⟨m, s2, xs2, p2, m1, m2, m3⟩ := next2 (T := T) (P := fns) (n := 15) rfl (by omega) (s := s1) (xs := xs1) (p := p1) (rest := rest) (a := a) (b := b) (lim := 3) w (by omega) (by omega) (by omega)
      by_cases hm : 0 < m
      · obtain ⟨t, s3, xs3, p3, t1, t2, t3⟩ := next2 (T := T) (P := fns) (n := 15) rfl (by omega) (s := s2) (xs := xs2) (p := p2) (rest := rest) (a := a) (b := b) (lim := 2) w (by omega) (by omega) (by omega)
        have ht : t < 2 := by omega
        have ix := hp2_i (s := s3) (xs := xs3) (p := p3) (rest := rest) (a := a) (b := b) ht
        have gt := hp2_t (s := s3) (xs := xs3) (p := p3) (rest := rest) (a := a) (b := b) ht
        have pl := (g2.pick (t := t)).2
        have ap := app_s (h := hp2 s3 xs3 p3 rest a b) (k := rest.length + 2 + t) (x := x) gt (by omega)
        rw [hp2_s ht] at ap
        have rv := recv_any (m := .append) (.inr (.inr rfl)) gt
        refine ⟨_, _, ?_, s3, xs3, p3, _, _, by omega, (g2.put ht (c := pk t a b ++ [x]) (M := 1) ?_ (by simp)).mono (by simp), rfl, some (.v (.str x)), rfl⟩
        · rw [forStep_eq]
          simp -implicitDefEqProofs [m3, hm, t3, ix, rv, ap]
        · intro y hy
          rcases List.mem_append.mp hy with hy | hy
          · exact g2.pick.1 y hy
          · simp at hy; subst hy; exact tx_name (hf y hx')
      · refine ⟨_, _, ?_, s2, xs2, p2, a, b, by omega, g2.mono (by simp), rfl, some (.v (.str x)), rfl⟩
        rw [forStep_eq]
        simp -implicitDefEqProofs [m3, hm]) ⟨s, xs, p, [], [], rfl, ⟨by simp, by simp, by simp⟩, rfl, z5, rfl⟩
  refine ⟨s1, xs1, p1, a, b, y5, g1, g2.mono hl, ?_⟩
  have it : itVal (.v (sT fs)) (hp2 s xs p rest [] []) = some ⟨fs.map (LV.v ∘ MV.str), none⟩ := by simp [sT]
  simp -implicitDefEqProofs [it, e]
theorem pk2 {t : Nat} (ht : t < 2) {α : Type} {a b : α} {Q : α → Prop} (h1 : Q a) (h2 : Q b) : Q (pk t a b) := by
  unfold pk; split <;> assumption
abbrev odds : List Str := ["", "Abc", "abcdefghi", "a1", "zz", "a", "abcdefgh"]
theorem odds_tx : ∀ x ∈ odds, Tx x := by
  have : ∀ x ∈ odds, strOk x = true ∧ x.length ≤ 1000 := by decide +kernel
  exact this
theorem take_ins {c : List Str} {x : Str} {k : Nat} : (c.take k ++ x :: c.drop k).length = c.length + 1 := by
  have := congrArg List.length (List.take_append_drop k c)
  simp only [List.length_append, List.length_cons] at this ⊢
  omega
theorem mem_ins {c : List Str} {x : Str} {k : Nat} (hc : ∀ y ∈ c, Tx y) (hx : Tx x) : ∀ y ∈ c.take k ++ x :: c.drop k, Tx y := by
  intro y hy
  rcases List.mem_append.mp hy with hy | hy
  · exact hc y (List.mem_of_mem_take hy)
  · rcases List.mem_cons.mp hy with rfl | hy
    · exact hx
    · exact hc y (List.mem_of_mem_drop hy)
/-- one fault is put in -/
theorem turn2 (w : WfR rest) (hx : xs.length ≤ 63) (hf : ∀ x ∈ fs, isName x = true) (hl : fs.length ≤ 12) (h1 : 1 ≤ fs.length) {a b : List Str} {N : Nat} (hN : N ≤ 100) (pt : Pt a b N) {z0 z2 z5 z6 z7 z8 z9 z10 z11 z12 z13 z14 z15 z16 : Option LV} :
    ∃ s' xs' p' a' b' y7 y8 y9 y10, xs'.length = xs.length ∧ Pt a' b' (N + 1) ∧ evSs T F (.cons su0 (.cons su1 (.cons su2 (.cons su3 (.cons su4 .nil))))) [z0, some (.r 1), z2, some (.v (sT fs)), some (.r (rest.length + 4)), z5, z6, z7, z8, z9, z10, z11, z12, z13, z14, z15, z16] (hp2 s xs p rest a b) = .nxt [z0, some (.r 1), z2, some (.v (sT fs)), some (.r (rest.length + 4)), z5, z6, y7, y8, y9, y10, z11, z12, z13, z14, z15, z16] (hp2 s' xs' p' rest a' b') := by
  obtain ⟨t, s1, xs1, p1, t1, t2, t3⟩ := next2 (T := T) (P := fns) (n := 15) rfl (by omega) (s := s) (xs := xs) (p := p) (rest := rest) (a := a) (b := b) (lim := 2) w (by omega) (by omega) (by omega)
  have ht : t < 2 := by omega
  obtain ⟨ptx, pl⟩ := pt.pick (t := t)
  generalize hc : pk t a b = c at ptx pl
  obtain ⟨k, s2, xs2, p2, k1, k2, k3⟩ := next2 (T := T) (P := fns) (n := 15) rfl (by omega) (s := s1) (xs := xs1) (p := p1) (rest := rest) (a := a) (b := b) (lim := (c.length : Int) + 1) w (by omega) (by omega) (by omega)
  obtain ⟨o, s3, xs3, p3, o1, o2, o3⟩ := next2 (T := T) (P := fns) (n := 15) rfl (by omega) (s := s2) (xs := xs2) (p := p2) (rest := rest) (a := a) (b := b) (lim := 7) w (by omega) (by omega) (by omega)
  obtain ⟨q, s4, xs4, p4, q1, q2, q3⟩ := next2 (T := T) (P := fns) (n := 15) rfl (by omega) (s := s3) (xs := xs3) (p := p3) (rest := rest) (a := a) (b := b) (lim := 4) w (by omega) (by omega) (by omega)
  have ho : o < odds.length := by show o < 7; omega
  have ix : ∀ {s xs p}, idxF (.r (rest.length + 4)) (.v (.int (t : Int))) (hp2 s xs p rest a b) = .ok (.r (rest.length + 2 + t)) (hp2 s xs p rest a b) := hp2_i ht
  have gt : ∀ {s xs p}, (hp2 s xs p rest a b)[rest.length + 2 + t]? = some (.lst (sL c)) := by intro s xs p; rw [hp2_t ht, hc]
  have ln : ∀ {s xs p}, bltF T .len [.r (rest.length + 2 + t)] (hp2 s xs p rest a b) = .ok (.v (.int c.length)) (hp2 s xs p rest a b) := by intro s xs p; rw [len_r gt]; simp
  have io : ∀ {h : MH}, idxF (.v (.lst [.str "", .str "Abc", .str "abcdefghi", .str "a1", .str "zz", .str "a", .str "abcdefgh"])) (.v (.int (o : Int))) h = .ok (.v (.str odds[o])) h := by
    intro h
    have e : atI ((odds.map MV.str).map LV.v) (o : Int) = some (.v (.str odds[o])) := atI_nat (by omega) (by rw [Int.toNat_natCast, List.getElem?_map, List.getElem?_map, List.getElem?_eq_getElem ho] <;> rfl)
    show idxF (.v (.lst (odds.map MV.str))) _ _ = _
    rw [idx_l, e]; rfl
  have rvi : ∀ {s xs p}, recvOk .insert (.r (rest.length + 2 + t)) (hp2 s xs p rest a b) = true := recv_any (.inl rfl) gt
  have rvr : ∀ {s xs p}, recvOk .reverse (.r (rest.length + 2 + t)) (hp2 s xs p rest a b) = true := recv_any (.inr (.inl rfl)) gt
  have ins : ∀ {s xs p} (x : Str), bmF .insert (.r (rest.length + 2 + t)) [.v (.int (k : Int)), .v (.str x)] (hp2 s xs p rest a b) = .ok (.v .non) (hp2 s xs p rest (pk t (c.take k ++ x :: c.drop k) a) (pk t b (c.take k ++ x :: c.drop k))) := by
    intro s xs p x
    rw [ins_s gt (by omega) (by omega), hp2_s ht]
  have rvs : ∀ {s xs p}, bmF .reverse (.r (rest.length + 2 + t)) [] (hp2 s xs p rest a b) = .ok (.v .non) (hp2 s xs p rest (pk t c.reverse a) (pk t b c.reverse)) := by
    intro s xs p
    rw [rev_s gt, hp2_s ht]
  have ne0 : ∀ {s xs p}, cmpO .ne (.r (rest.length + 2 + t)) (.v (.lst [])) (hp2 s xs p rest a b) = .ok (.v (.bl (!decide (c = [])))) (hp2 s xs p rest a b) := by
    intro s xs p
    rw [ne_nilR gt]
    simp [sL]
  have head : ∀ {ss : CSs}, evSs T F (.cons su0 (.cons su1 (.cons su2 (.cons su3 ss)))) [z0, some (.r 1), z2, some (.v (sT fs)), some (.r (rest.length + 4)), z5, z6, z7, z8, z9, z10, z11, z12, z13, z14, z15, z16] (hp2 s xs p rest a b) = evSs T F ss [z0, some (.r 1), z2, some (.v (sT fs)), some (.r (rest.length + 4)), z5, z6, some (.r (rest.length + 2 + t)), some (.v (.int k)), some (.v (.str odds[o])), some (.v (.int q)), z11, z12, z13, z14, z15, z16] (hp2 s4 xs4 p4 rest a b) := by
    intro ss
    simp -implicitDefEqProofs [t3, ix, ln, k3, o3, io, q3, -idx_l]
  rw [head]
  have e0 : ((q : Int) = 0) ↔ q = 0 := by omega
  have e1 : ((q : Int) = 1) ↔ q = 1 := by omega
  have e2 : ((q : Int) = 2) ↔ q = 2 := by omega
  have last : q ≠ 0 → ¬ (q = 1 ∧ c ≠ []) → q ≠ 2 → ∃ s' xs' p' a' b', xs'.length = xs.length ∧ Pt a' b' (N + 1) ∧ evS T F su4 [z0, some (.r 1), z2, some (.v (sT fs)), some (.r (rest.length + 4)), z5, z6, some (.r (rest.length + 2 + t)), some (.v (.int k)), some (.v (.str odds[o])), some (.v (.int q)), z11, z12, z13, z14, z15, z16] (hp2 s4 xs4 p4 rest a b) = .nxt [z0, some (.r 1), z2, some (.v (sT fs)), some (.r (rest.length + 4)), z5, z6, some (.r (rest.length + 2 + t)), some (.v (.int k)), some (.v (.str odds[o])), some (.v (.int q)), z11, z12, z13, z14, z15, z16] (hp2 s' xs' p' rest a' b') := by
    intro n0 n1 n2
    obtain ⟨j, s5, xs5, p5, j1, j2, j3⟩ := next2 (T := T) (P := fns) (n := 15) rfl (by omega) (s := s4) (xs := xs4) (p := p4) (rest := rest) (a := a) (b := b) (lim := (fs.length : Int)) w (by omega) (by omega) (by omega)
    have hj : j < fs.length := by omega
    have ij := idx_gS (h := hp2 s5 xs5 p5 rest a b) hj
    have tj : Tx (fs.getD j Str.empty) := getD_tx (fun x hx => tx_name (hf x hx)) hj
    refine ⟨s5, xs5, p5, _, _, by omega, pt.put ht (c := c.take k ++ fs.getD j Str.empty :: c.drop k) (M := 1) (mem_ins ptx tj) (by rw [take_ins, hc] <;> exact Nat.le_refl _), ?_⟩
    have i5 := ins (s := s5) (xs := xs5) (p := p5) (fs.getD j Str.empty)
    generalize fs.getD j Str.empty = y at ij i5
    by_cases q1' : q = 1
    · have c0 : c = [] := by
        by_cases c0 : c = []
        · exact c0
        · exact absurd ⟨q1', c0⟩ n1
      simp -implicitDefEqProofs [eq_ii, e0, e1, e2, n0, q1', c0, ne0, n2, len_sT, j3, ij, rvi, i5]
    · simp -implicitDefEqProofs [eq_ii, e0, e1, e2, n0, q1', n2, len_sT, j3, ij, rvi, i5]
  by_cases n0 : q = 0
  · refine ⟨s4, xs4, p4, _, _, some (.r (rest.length + 2 + t)), some (.v (.int k)), some (.v (.str odds[o])), some (.v (.int q)), by omega, pt.put ht (c := c.take k ++ odds[o] :: c.drop k) (M := 1) (mem_ins ptx (odds_tx _ (List.getElem_mem ho))) (by rw [take_ins, hc] <;> exact Nat.le_refl _), ?_⟩
    have i4 := ins (s := s4) (xs := xs4) (p := p4) odds[o]
    generalize odds[o] = y at i4 ⊢
    simp -implicitDefEqProofs [eq_ii, e0, n0, rvi, i4]
  · by_cases n1 : q = 1 ∧ c ≠ []
    · obtain ⟨n1, c0⟩ := n1
      have cl : 1 ≤ c.length := by
        rcases c with _ | _
        · exact absurd rfl c0
        · simp
      obtain ⟨j, hj, mj⟩ : ∃ j : Nat, j < c.length ∧ (if (c.length : Int) - 1 < (k : Int) then (c.length : Int) - 1 else (k : Int)) = (j : Int) := by
        split
        · exact ⟨c.length - 1, by omega, by omega⟩
        · exact ⟨k, by omega, rfl⟩
      have ij : ∀ {s xs p}, idxF (.r (rest.length + 2 + t)) (.v (.int (j : Int))) (hp2 s xs p rest a b) = .ok (.v (.str c[j])) (hp2 s xs p rest a b) := by
        intro s xs p
        rw [idx_r gt]
        have : atI (sL c) (j : Int) = some (.v (.str c[j])) := atI_nat (by omega) (by simpa using sL_get hj)
        rw [this]; rfl
      refine ⟨s4, xs4, p4, _, _, some (.r (rest.length + 2 + t)), some (.v (.int k)), some (.v (.str odds[o])), some (.v (.int q)), by omega, pt.put ht (c := c.take k ++ c[j] :: c.drop k) (M := 1) (mem_ins ptx (ptx _ (List.getElem_mem hj))) (by rw [take_ins, hc] <;> exact Nat.le_refl _), ?_⟩
      have i4 := ins (s := s4) (xs := xs4) (p := p4) c[j]
      generalize c[j] = y at i4 ij
      have mn : ∀ {h : MH}, bltF T .min2 [.v (.int (k : Int)), .v (.int ((c.length : Int) - 1))] h = .ok (.v (.int (j : Int))) h := by
        intro h
        rw [← mj]; rfl
      simp -implicitDefEqProofs [eq_ii, e0, e1, n0, n1, ne0, c0, ln, mn, ij, rvi, i4]
    · by_cases n2 : q = 2
      · refine ⟨s4, xs4, p4, _, _, some (.r (rest.length + 2 + t)), some (.v (.int k)), some (.v (.str odds[o])), some (.v (.int q)), by omega, (pt.put ht (c := c.reverse) (M := 0) (fun x hx => ptx x (by simpa using hx)) (by simp [hc])).mono (by omega), ?_⟩
        have n1' : ¬ q = 1 := by omega
        simp -implicitDefEqProofs [eq_ii, e0, e1, e2, n2, rvr, rvs]
      · obtain ⟨s', xs', p', a', b', v1, v2, v3⟩ := last n0 n1 n2
        refine ⟨s', xs', p', a', b', some (.r (rest.length + 2 + t)), some (.v (.int k)), some (.v (.str odds[o])), some (.v (.int q)), v1, v2, ?_⟩
        rw [sSs_cons, v3]; rfl
/-- faults are put in -/
theorem loop2 (w : WfR rest) (hx : xs.length ≤ 63) (hf : ∀ x ∈ fs, isName x = true) (hl : fs.length ≤ 12) (h1 : 1 ≤ fs.length) {a b : List Str} (pt : Pt a b 12) {z0 z2 z5 z6 z7 z8 z9 z10 z11 z12 z13 z14 z15 z16 : Option LV} :
    ∃ s' xs' p' a' b' y6 y7 y8 y9 y10, xs'.length = xs.length ∧ Pt a' b' 14 ∧ evS T F st3 [z0, some (.r 1), z2, some (.v (sT fs)), some (.r (rest.length + 4)), z5, z6, z7, z8, z9, z10, z11, z12, z13, z14, z15, z16] (hp2 s xs p rest a b) = .nxt [z0, some (.r 1), z2, some (.v (sT fs)), some (.r (rest.length + 4)), z5, y6, y7, y8, y9, y10, z11, z12, z13, z14, z15, z16] (hp2 s' xs' p' rest a' b') := by
  obtain ⟨m, s1, xs1, p1, m1, m2, m3⟩ := next2 (T := T) (P := fns) (n := 15) rfl (by omega) (s := s) (xs := xs) (p := p) (rest := rest) (a := a) (b := b) (lim := 3) w (by omega) (by omega) (by omega)
  have rl : (rangeL 0 m).length = m := by simp [rangeL]
  obtain ⟨r', h', e, s2, xs2, p2, a2, b2, g1, g2, rfl, y6, y7, y8, y9, y10, rfl⟩ := forL_cnt (step := forStep T F (.nm 6) (.cons su0 (.cons su1 (.cons su2 (.cons su3 (.cons su4 .nil))))))
    (fun j r' h' => ∃ s2 xs2 p2 a2 b2, xs2.length = xs.length ∧ Pt a2 b2 (12 + j) ∧ h' = hp2 s2 xs2 p2 rest a2 b2 ∧ ∃ y6 y7 y8 y9 y10, r' = [z0, some (.r 1), z2, some (.v (sT fs)), some (.r (rest.length + 4)), z5, y6, y7, y8, y9, y10, z11, z12, z13, z14, z15, z16]) (rangeL 0 m) 0 [z0, some (.r 1), z2, some (.v (sT fs)), some (.r (rest.length + 4)), z5, z6, z7, z8, z9, z10, z11, z12, z13, z14, z15, z16] (hp2 s1 xs1 p1 rest a b) (by
      rintro x j r' h' _ hj ⟨s2, xs2, p2, a2, b2, g1, g2, rfl, y6, y7, y8, y9, y10, rfl⟩
      obtain ⟨s3, xs3, p3, a3, b3, u7, u8, u9, u10, v1, v2, v3⟩ := turn2 (s := s2) (xs := xs2) (p := p2) w (by omega) hf hl h1 (N := 12 + j) (by omega) g2 (z0 := z0) (z2 := z2) (z5 := z5) (z6 := some x) (z7 := y7) (z8 := y8) (z9 := y9) (z10 := y10) (z11 := z11) (z12 := z12) (z13 := z13) (z14 := z14) (z15 := z15) (z16 := z16)
      refine ⟨_, _, ?_, s3, xs3, p3, a3, b3, by omega, v2.mono (by omega), rfl, some x, u7, u8, u9, u10, rfl⟩
      rw [forStep_eq, asgT_nm]
      exact v3) ⟨s1, xs1, p1, a, b, m2, pt, rfl, z6, z7, z8, z9, z10, rfl⟩
  rw [rl] at g2
  refine ⟨s2, xs2, p2, a2, b2, y6, y7, y8, y9, y10, g1, g2.mono (by omega), ?_⟩
  have e4 := itRng_nat (n := m) (by omega)
  simp -implicitDefEqProofs [m3, e4, e]
theorem add_2 {h : MH} {i j : Nat} {a b : List Str} (e1 : h[i]? = some (.lst (sL a))) (e2 : h[j]? = some (.lst (sL b))) (hl : a.length + b.length ≤ 1000) : binF .add (.r i) (.r j) h = .ok (.v (.lst ((a ++ b).map .str))) h := by
  have q : (a.map MV.str).length + (b.map MV.str).length ≤ sizeLine := by show _ ≤ 16777216; simp; omega
  simp only [binF, addF, lstOf, e1, e2, Option.bind, sL_pures, q, if_true, List.map_append]; rfl
theorem sorted_l2 {h : MH} {l : List Str} (hl : l.length < 64) : bltF T .sorted [.v (.lst (l.map .str))] h = .ok (.v (.lst ((sortS l).map .str))) h := by
  have e : (seqOf h (.v (.lst (l.map MV.str)))).bind strsL = some l := by
    simp only [seqOf, Option.bind, List.map_map]; exact strsL_map
  simp only [bltF, un1, sortedF, e, hl, if_true]; rfl
theorem datS_sT {l : List Str} (hl : l.length ≤ 1000) (hx : ∀ x ∈ l, strOk x = true) : datS 1 (sT l) = true := by
  simp only [sT, datS, Bool.and_eq_true, decide_eq_true_eq, List.length_map, List.all_map, List.all_eq_true]
  exact ⟨by omega, fun x hx' => by simpa [datS] using hx x hx'⟩
/-- one turn of the law -/
theorem lap (w : WfR rest) (hx : xs.length ≤ 63) {z0 z2 z3 z4 z5 z6 z7 z8 z9 z10 z11 z12 z13 z14 z15 z16 : Option LV} :
    ∃ s' xs' p' rest' y3 y4 y5 y6 y7 y8 y9 y10 y11 y12 y13 y14 y15 y16, WfR rest' ∧ xs'.length = xs.length ∧ evSs T F (.cons st0 (.cons st1 (.cons st2 (.cons st3 (.cons st4 (.cons st5 (.cons st6 (.cons st7 .nil)))))))) [z0, some (.r 1), z2, z3, z4, z5, z6, z7, z8, z9, z10, z11, z12, z13, z14, z15, z16] (hs s xs p rest) = .nxt [z0, some (.r 1), z2, y3, y4, y5, y6, y7, y8, y9, y10, y11, y12, y13, y14, y15, y16] (hs s' xs' p' rest') := by
  obtain ⟨m, s1, xs1, p1, m1, m2, m3⟩ := nextW (T := T) (P := fns) (n := 15) rfl (by omega) (s := s) (xs := xs) (p := p) (rest := rest) (lim := 12) w (by omega) (by omega) hx
  obtain ⟨fs, s2, xs2, p2, f1, f2, f3, f4⟩ := fct_spec (T := T) (P := fns) (n := 15) rfl rfl (by omega) (m := m + 1) (by omega) (s := s1) (xs := xs1) (p := p1) (rest := rest) w (by omega)
  have hf : ∀ x ∈ fs, isName x = true := fun x hx => twelveF_names x (f1.subset hx)
  have f4' : run T fns 15 77 [.r 1, .v (.int (1 + (m : Int)))] (hs s1 xs1 p1 rest) = .ok (.v (sT fs)) (hs s2 xs2 p2 rest) := by
    rw [show (1 : Int) + (m : Int) = ((m + 1 : Nat) : Int) by omega]; exact f4
  obtain ⟨s3, xs3, p3, a1, b1, y5, u1, u2, u3⟩ := loop1 (s := s2) (xs := xs2) (p := p2) w (by omega) hf (by omega) (z0 := z0) (z2 := z2) (z5 := z5) (z6 := z6) (z7 := z7) (z8 := z8) (z9 := z9) (z10 := z10) (z11 := z11) (z12 := z12) (z13 := z13) (z14 := z14) (z15 := z15) (z16 := z16)
  obtain ⟨s4, xs4, p4, a, b, y6, y7, y8, y9, y10, v1, v2, v3⟩ := loop2 (s := s3) (xs := xs3) (p := p3) w (by omega) hf (by omega) (by omega) u2 (z0 := z0) (z2 := z2) (z5 := y5) (z6 := z6) (z7 := z7) (z8 := z8) (z9 := z9) (z10 := z10) (z11 := z11) (z12 := z12) (z13 := z13) (z14 := z14) (z15 := z15) (z16 := z16)
  obtain ⟨ta, tb, tl⟩ := v2
  have wf : Wf (hp2 s4 xs4 p4 rest a b) := hp2_wf w
  have head : ∀ {ss : CSs}, evSs T F (.cons st0 (.cons st1 (.cons st2 (.cons st3 ss)))) [z0, some (.r 1), z2, z3, z4, z5, z6, z7, z8, z9, z10, z11, z12, z13, z14, z15, z16] (hs s xs p rest) = evSs T F ss [z0, some (.r 1), z2, some (.v (sT fs)), some (.r (rest.length + 4)), y5, y6, y7, y8, y9, y10, z11, z12, z13, z14, z15, z16] (hp2 s4 xs4 p4 rest a b) := by
    intro ss
    have d0 : evS T F st0 [z0, some (.r 1), z2, z3, z4, z5, z6, z7, z8, z9, z10, z11, z12, z13, z14, z15, z16] (hs s xs p rest) = .nxt [z0, some (.r 1), z2, some (.v (sT fs)), z4, z5, z6, z7, z8, z9, z10, z11, z12, z13, z14, z15, z16] (hs s2 xs2 p2 rest) := by
      simp -implicitDefEqProofs [m3, f4']
    have d1 : evS T F st1 [z0, some (.r 1), z2, some (.v (sT fs)), z4, z5, z6, z7, z8, z9, z10, z11, z12, z13, z14, z15, z16] (hs s2 xs2 p2 rest) = .nxt [z0, some (.r 1), z2, some (.v (sT fs)), some (.r (rest.length + 4)), z5, z6, z7, z8, z9, z10, z11, z12, z13, z14, z15, z16] (hp2 s2 xs2 p2 rest [] []) := by
      simp -implicitDefEqProofs [hp2, sL]
    rw [sSs_cons, d0, kSq_nxt, sSs_cons, d1, kSq_nxt, sSs_cons, u3, kSq_nxt, sSs_cons, v3, kSq_nxt]
  have i0 : idxF (.r (rest.length + 4)) (.v (.int 0)) (hp2 s4 xs4 p4 rest a b) = .ok (.r (rest.length + 2)) (hp2 s4 xs4 p4 rest a b) := hp2_i (t := 0) (by omega)
  have i1 : idxF (.r (rest.length + 4)) (.v (.int 1)) (hp2 s4 xs4 p4 rest a b) = .ok (.r (rest.length + 3)) (hp2 s4 xs4 p4 rest a b) := hp2_i (t := 1) (by omega)
  have g0 : (hp2 s4 xs4 p4 rest a b)[rest.length + 2]? = some (.lst (sL a)) := hp2_t (t := 0) (by omega)
  have g1 : (hp2 s4 xs4 p4 rest a b)[rest.length + 3]? = some (.lst (sL b)) := hp2_t (t := 1) (by omega)
  have du := due_spec (T := T) (P := fns) (n := 15) (h := hp2 s4 xs4 p4 rest a b) rfl (by omega) ta tb (by omega) (by omega) wf
  have mk := mkR_cond (T := T) (P := fns) (n := 15) (h := hp2 s4 xs4 p4 rest a b) rfl rfl rfl rfl rfl (by omega) ta tb (by omega) (by omega) wf
  have d4 : ∀ {ss : CSs}, evSs T F (.cons st4 (.cons st5 ss)) [z0, some (.r 1), z2, some (.v (sT fs)), some (.r (rest.length + 4)), y5, y6, y7, y8, y9, y10, z11, z12, z13, z14, z15, z16] (hp2 s4 xs4 p4 rest a b) = evSs T F ss [z0, some (.r 1), z2, some (.v (sT fs)), some (.r (rest.length + 4)), y5, y6, y7, y8, y9, y10, some (.v (sT a)), some (.v (sT b)), some (.v (cDueOf (fault a b))), z14, z15, z16] (hp2 s4 xs4 p4 rest a b) := by
    intro ss
    simp -implicitDefEqProofs [i0, i1, tuple_sR g0, tuple_sR g1, du, -idx_r]
  rw [head, d4]
  generalize hh : hp2 s4 xs4 p4 rest a b = hh0 at wf i0 i1 g0 g1 du mk
  cases hq : fault a b with
  | some q =>
    obtain ⟨pp, ii⟩ := q
    rw [hq] at mk
    have er : kErr T (kMk T F 2 (.ok [.v (sT a), .v (sT b)] hh0)) = .ok (.v (cDue pp ii)) (hh0 ++ [.ins 2 []]) := by
      rw [mk]; rfl
    have nd := ne_dat (h := hh0 ++ [.ins 2 []]) (x := .v (cDue pp ii)) (y := .v (cDue pp ii)) 1 1 rfl rfl (by simp [cDue, datI]; decide +kernel) (by simp [cDue, datI]; decide +kernel) (by decide) (by decide)
    have nq := eq_dat (h := hh0 ++ [.ins 2 []]) (x := .v (cDue pp ii)) (y := .v (.tup [.str "none"])) 1 1 rfl rfl (by simp [cDue, datI]; decide +kernel) (by decide +kernel) (by decide) (by decide)
    have dn : decide (cDue pp ii = .tup [.str "none"]) = false := by simp [cDue]
    rw [dn] at nq
    simp only [decide_true, Bool.not_true] at nd
    refine ⟨s4, xs4, p4, rest ++ [.lst (sL a), .lst (sL b), .lst [.r (rest.length + 2), .r (rest.length + 3)]] ++ [.ins 2 []], some (.v (sT fs)), some (.r (rest.length + 4)), y5, y6, y7, y8, y9, y10, some (.v (sT a)), some (.v (sT b)), some (.v (cDue pp ii)), z14, z15, z16, (hp2_wr w).pushW rfl, by omega, ?_⟩
    have hfin : hh0 ++ [.ins 2 []] = hs s4 xs4 p4 (rest ++ [.lst (sL a), .lst (sL b), .lst [.r (rest.length + 2), .r (rest.length + 3)]] ++ [.ins 2 []]) := by rw [← hh]; rfl
    rw [← hfin]
    have cd : cDueOf (some (pp, ii)) = cDue pp ii := rfl
    rw [cd]
    generalize cDue pp ii = D at er nd nq
    generalize hh0 ++ [.ins 2 []] = HF at er nd nq
    simp -implicitDefEqProofs [er, nd, nq, -kMk_ok, -kErr_exc]
  | none =>
    rw [hq] at mk
    have er : kErr T (kMk T F 2 (.ok [.v (sT a), .v (sT b)] hh0)) = .ok (.v (.tup [.str "none"])) hh0 := by
      rw [mk]; rfl
    have nd := ne_dat (h := hh0) (x := .v (.tup [.str "none"])) (y := .v (.tup [.str "none"])) 1 1 rfl rfl (by decide +kernel) (by decide +kernel) (by decide) (by decide)
    have nq := eq_dat (h := hh0) (x := .v (.tup [.str "none"])) (y := .v (.tup [.str "none"])) 1 1 rfl rfl (by decide +kernel) (by decide +kernel) (by decide) (by decide)
    simp only [decide_true, Bool.not_true] at nd nq
    have ad := add_2 g0 g1 (by omega)
    have so := sorted_l2 (h := hh0) (l := a ++ b) (by simp; omega)
    have sl : (sortS (a ++ b)).length = (a ++ b).length := (sortS_permP (xs := a ++ b)).length_eq
    have c1 := cat_h env (n := 15) (a := a) (b := b) (by omega) wf
    have c2 := cat_f env (n := 15) (a := a) (b := b) (by omega) wf
    have c3 := cat_n env (n := 15) (a := a) (b := b) (by omega) (by omega) wf
    have c4 := c_len env (n := 15) (a := a) (b := b) (by omega) (by omega) wf
    have da : ∀ x ∈ a, strOk x = true := fun x hx => (ta x hx).1
    have db : ∀ x ∈ b, strOk x = true := fun x hx => (tb x hx).1
    have ds : ∀ x ∈ sortS (a ++ b), strOk x = true := fun x hx => by
      rcases List.mem_append.mp ((sortS_permP (xs := a ++ b)).mem_iff.mp hx) with h | h
      · exact da x h
      · exact db x h
    have dd : datS 2 (.lst [sT a, sT b, sT (sortS (a ++ b)), .int ((a ++ b).length : Int)]) = true := by
      have e1 := datS_sT (l := a) (by omega) da
      have e2 := datS_sT (l := b) (by omega) db
      have e3 := datS_sT (l := sortS (a ++ b)) (by rw [sl]; simp; omega) ds
      simp only [datS, List.all_cons, e1, e2, e3, List.all_nil, Bool.and_true]
      rfl
    have al := alike_spec (T := T) (P := fns) rfl 2 15 _ _ hh0 (by omega) (by omega) dd dd wf
    rw [decide_eq_true rfl] at al
    refine ⟨s4, xs4, p4, rest ++ [.lst (sL a), .lst (sL b), .lst [.r (rest.length + 2), .r (rest.length + 3)]], some (.v (sT fs)), some (.r (rest.length + 4)), y5, y6, y7, y8, y9, y10, some (.v (sT a)), some (.v (sT b)), some (.v (.tup [.str "none"])), some (.v (condV a b)), some (.v (sT (sortS (a ++ b)))), some (.v (.lst [sT a, sT b, sT (sortS (a ++ b)), .int ((a ++ b).length : Int)])), hp2_wr w, by omega, ?_⟩
    have hfin : hh0 = hs s4 xs4 p4 (rest ++ [.lst (sL a), .lst (sL b), .lst [.r (rest.length + 2), .r (rest.length + 3)]]) := by rw [← hh]; rfl
    rw [← hfin]
    have cd : cDueOf none = .tup [.str "none"] := rfl
    rw [cd]
    have tu := tuple_strs (T := T) (h := hh0) (xs := sortS (a ++ b))
    have ls := len_sT (T := T) (h := hh0) (xs := sortS (a ++ b))
    rw [sl] at ls
    generalize sortS (a ++ b) = S0 at so c3 al tu ls
    generalize (a ++ b).length = N0 at c4 al ls
    generalize a ++ b = AB at ad so
    generalize condV a b = CV at mk c1 c2 c3 c4
    simp -implicitDefEqProofs [er, nd, nq, mk, i0, i1, ad, so, tu, c1, c2, c3, c4, ls, al, -kMk_ok, -kErr_exc, -kAt_ok, -kLe_ok, -idx_r]
end
theorem law_true : ∀ ns : List Int, ns.length ≤ 63 → ∃ h', run pd.tab fns fuel lawI [.v (.scr (ns.map .int))] [] = .ok (.v (.bl true)) h' := by
  intro ns hl
  refine ⟨[], ?_⟩
  obtain ⟨s0, e0⟩ := mix_spec (T := pd.tab) (P := fns) rfl 14 ns 2
  rw [show fuel = 15 + 1 from rfl, run_succ (fn := B.f81_law) rfl rfl]
  obtain ⟨r', h', e2, s1, xs1, p1, rest1, g1, g2, rfl, z2, z3, z4, z5, z6, z7, z8, z9, z10, z11, z12, z13, z14, z15, z16, rfl⟩ := forL_cnt (step := forStep pd.tab (run pd.tab fns 15) (.nm 2) (.cons st0 (.cons st1 (.cons st2 (.cons st3 (.cons st4 (.cons st5 (.cons st6 (.cons st7 .nil)))))))))
    (fun k r' h' => ∃ s1 xs1 p1 rest1, xs1.length ≤ 63 ∧ WfR rest1 ∧ h' = hs s1 xs1 p1 rest1 ∧ ∃ z2 z3 z4 z5 z6 z7 z8 z9 z10 z11 z12 z13 z14 z15 z16, r' = [some (.v (.scr (ns.map .int))), some (.r 1), z2, z3, z4, z5, z6, z7, z8, z9, z10, z11, z12, z13, z14, z15, z16]) (rangeL 0 9) 0 [some (.v (.scr (ns.map .int))), some (.r 1), none, none, none, none, none, none, none, none, none, none, none, none, none, none, none] (hs s0 ns 0 []) (by
      rintro x k r' h' _ hk ⟨s1, xs1, p1, rest1, g1, g2, rfl, z2, z3, z4, z5, z6, z7, z8, z9, z10, z11, z12, z13, z14, z15, z16, rfl⟩
      obtain ⟨s2, xs2, p2, rest2, y3, y4, y5, y6, y7, y8, y9, y10, y11, y12, y13, y14, y15, y16, u1, u2, u3⟩ := lap (s := s1) (xs := xs1) (p := p1) g2 g1 (z0 := some (.v (.scr (ns.map .int)))) (z2 := some x) (z3 := z3) (z4 := z4) (z5 := z5) (z6 := z6) (z7 := z7) (z8 := z8) (z9 := z9) (z10 := z10) (z11 := z11) (z12 := z12) (z13 := z13) (z14 := z14) (z15 := z15) (z16 := z16)
      refine ⟨_, _, ?_, s2, xs2, p2, rest2, by omega, u1, rfl, some x, y3, y4, y5, y6, y7, y8, y9, y10, y11, y12, y13, y14, y15, y16, rfl⟩
      rw [forStep_eq, asgT_nm]
      exact u3) ⟨s0, ns, 0, [], hl, fun o ho => (List.not_mem_nil ho).elim, rfl, none, none, none, none, none, none, none, none, none, none, none, none, none, none, none, rfl⟩
  have e4' : itRng (.v (.int 0)) (.v (.int 9)) = some ⟨rangeL 0 9, none⟩ := itRng_nat (n := 9) (by omega)
  have fin : SC.finish false 0 (.ret (.v (.bl true)) (hs s1 xs1 p1 rest1)) = .ok (.v (.bl true)) [] := by
    simp [SC.finish, leave, LV.below, wfTo]
  refine Eq.trans (congrArg _ ?_) fin
  have e0' : run pd.tab fns 15 31 [.v (.scr (ns.map .int)), .v (.int 2)] [] = .ok (.r 1) (hs s0 ns 0 []) := e0
  simp -implicitDefEqProofs [B.f81_law, B.c_f81_law, e0', e4', e2]
end K02

set_option maxHeartbeats 0
namespace K02
open PySem PySem.Spec PyProof.Rows L2 SC
theorem facts {P : Program} {w : World} {K : PySem.W.Frag} {mg : Str → Option Value} {f : Addr} (hP : P = pd.prog) (T : Facts pd (pd.gm K) mg) (hfa : mg ("law" : Str) = some (.ref f)) :
    ∃ fd : FuncData, (∀ (s : Shared) (v : Value), BindsTo s fd ⟨[v], []⟩ [("_law_script", v)]) ∧ ∀ base : Heap, K.In base → base.Ns mainGlobals mg → TbOk (pd.gm K) base mg → FnOk P w K mg base (L2.CX P w) (4 * fuel + 4) f fd ["_law_script"] (spM (pd.gm K) (run (pd.gm K).T fns fuel lawI)) := by
  have e := hfa.symm.trans (T.glo lawI "law" rfl)
  cases e
  obtain ⟨fd, Fu⟩ := T.fn lawI _ rfl
  have b := Fu.binds (ps := ["_law_script"]) fun _ _ _ _ _ _ us hl => match us, hl with | [_], _ => rfl
  refine ⟨fd, fun s v => ?_, fun base _ _ hTb => ?_⟩
  · obtain ⟨oc, od, kV, doc, pm, an, cdv, ct, osl, rfl, _, _⟩ := Fu.ex
    exact .of_eq rfl
  exact fn_ok (nF := nF) (n := fuel - 1) Fu sc_f81_law b (by rfl) (by rfl) (by rfl) (by decide) (all_fc hP hTb T (fuel - 1)) hP hTb (fun E X C tk lk => d_f81_law T C tk lk)
end K02
open PySem PySem.W PySem.Calls PyProof.Rows
theorem PySem.Challenge.cw_smallcourt_k02_conditions_validated_holds : PySem.Challenge.rw_smallcourt_k02_conditions_validated.Holds := by
  w_on; o_law
  refine HandSHeadRun.head_any (r := OpenLaw.row PySem.Challenge.rw_smallcourt_k02_conditions_validated) (q := view (OpenLaw.row PySem.Challenge.rw_smallcourt_k02_conditions_validated).prog [34]) (H := K02.hk) (ob := K02.ob) (M := 20000) (loose := K02.topN) (d := HandSHeadRun.topDef (OpenLaw.row PySem.Challenge.rw_smallcourt_k02_conditions_validated).prog 34) (kwd := []) K02.ob_eq
    (by kernel_rfl) (fun s => by kernel_rfl) K02.headrun (by kernel_rfl) (by kernel_rfl) (by kernel_rfl) (by rfl) (by first | assumption | decide +kernel) (by decide +kernel) ⟨rfl, rfl, rfl, rfl, rfl, by decide +kernel⟩ ?hw ?hc
  case hw => w_witness2
  case hc =>
    refine LamX.walk_ofTsE (l := PySem.Challenge.rw_smallcourt_k02_conditions_validated) (n := 63) (k := 4 * K02.fuel + 4) (x := "_law_script") (CX := fun w => L2.CX PySem.Challenge.rw_smallcourt_k02_conditions_validated.prog w) rfl (by decide) (by kernel_rfl) ⟨rfl, by decide, by decide⟩ ?F ?X
    case X =>
      intro w H s e s' z
      obtain ⟨_, _, _, _, _, _, _, _, _, _, _, _, z⟩ := z
      exact z
    intro w mg fa h Y G hmg0
    obtain ⟨K, KX, c, em⟩ := Y
    have hmg : mg ("law" : PySem.Str) = some (.ref fa) := by
      have e : (HandSHeadRun.topDef (OpenLaw.row PySem.Challenge.rw_smallcourt_k02_conditions_validated).prog 34).name = ("law" : PySem.Str) := by kernel_rfl
      rw [← e]
      exact hmg0
    have T := SC.PD.facts KX G K02.stat c
    exact ⟨K, KX, SC.law_at KX T rfl em K02.law_true (K02.facts (P := (PySem.Challenge.rw_smallcourt_k02_conditions_validated).prog) (w := w) rfl T hmg)⟩
