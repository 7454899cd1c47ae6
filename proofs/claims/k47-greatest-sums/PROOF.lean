import PyProof.Rows.All
import Wide.All
import OpenK.AllK
import Wide.FinOn
import HandS.ForMost
import HandS.ForExc
import HandS.Wide
import HandS.Gcd
import HandS.IsInst
import HandS.Flow
import KE.RegKIsAll
import HandS.Words
import HandS.Walk
import HandS.WordsExc
import HandS.Defaults
import HandS.TupAny
import HandS.TupMul
import HandS.WideBits
import HandS.MakeKwOnly
import KE.GoesMore
import PySem.Challenge.RW_keptbudgets_k47_greatest_sums
section
/-! Kb0: a small interpreter for the forms that the laws use: values are trees, mutable objects stand in a list of cells. Core Lean alone. -/
set_option autoImplicit false
set_option linter.all false
namespace Kb

inductive T where
  | non | bl (b : Bool) | int (i : Int) | str (s : List Nat)
  | lst (xs : List T) | tup (xs : List T) | ins (c : Nat) (fs : List (Nat × T)) | dct (kvs : List (T × T))
  | rf (n : Nat)
  | kl (xs : List Int)
  | exc (c : Nat) (fs : List (Nat × T))
  | bL (xs : List T) | bD (kvs : List (T × T)) | bI (c : Nat) (fs : List (Nat × T))
  deriving Inhabited

inductive C where
  | lst (xs : List T) | ins (c : Nat) (fs : List (Nat × T)) | dct (kvs : List (T × T))
  deriving Inhabited

abbrev Hl := List C
abbrev Sl := List (Option T)

inductive R (α : Type) where
  | ok (a : α) (h : Hl) | err (c : Nat) (fs : List (Nat × T)) (h : Hl) | stuck

def R.bind {α β : Type} (x : R α) (f : α → Hl → R β) : R β := match x with
  | .ok a h => f a h
  | .err c fs h => .err c fs h
  | .stuck => .stuck
@[simp] theorem R.bind_ok {α β : Type} (a : α) (h : Hl) (f : α → Hl → R β) : (R.ok a h).bind f = f a h := rfl
@[simp] theorem R.bind_err {α β : Type} (c : Nat) (fs : List (Nat × T)) (h : Hl) (f : α → Hl → R β) : (R.err c fs h).bind f = R.err c fs h := rfl
@[simp] theorem R.bind_stuck {α β : Type} (f : α → Hl → R β) : (R.stuck : R α).bind f = R.stuck := rfl
/-- an error within a comprehension is not carried -/
def R.noErr {α : Type} : R α → R α
  | .ok a h => .ok a h
  | _ => .stuck
@[simp] theorem R.noErr_ok {α : Type} (a : α) (h : Hl) : (R.ok a h).noErr = R.ok a h := rfl

inductive RS where
  | nx (σ : Sl) (h : Hl) | rt (t : T) (h : Hl) | bk (σ : Sl) (h : Hl) | ct (σ : Sl) (h : Hl) | err (c : Nat) (fs : List (Nat × T)) (σ : Sl) (h : Hl) | stuck

def R.toS {α : Type} (x : R α) (σ : Sl) (f : α → Hl → RS) : RS := match x with
  | .ok a h => f a h
  | .err c fs h => .err c fs σ h
  | .stuck => .stuck
@[simp] theorem R.toS_ok {α : Type} (a : α) (h : Hl) (σ : Sl) (f : α → Hl → RS) : (R.ok a h).toS σ f = f a h := rfl
@[simp] theorem R.toS_err {α : Type} (c : Nat) (fs : List (Nat × T)) (h : Hl) (σ : Sl) (f : α → Hl → RS) : (R.err c fs h : R α).toS σ f = .err c fs σ h := rfl
@[simp] theorem R.toS_stuck {α : Type} (σ : Sl) (f : α → Hl → RS) : (R.stuck : R α).toS σ f = .stuck := rfl
def RS.thn (x : RS) (f : Sl → Hl → RS) : RS := match x with
  | .nx σ h => f σ h
  | .rt t h => .rt t h
  | .bk σ h => .bk σ h
  | .ct σ h => .ct σ h
  | .err c fs σ h => .err c fs σ h
  | .stuck => .stuck
@[simp] theorem RS.thn_nx (σ : Sl) (h : Hl) (f : Sl → Hl → RS) : (RS.nx σ h).thn f = f σ h := rfl
@[simp] theorem RS.thn_rt (t : T) (h : Hl) (f : Sl → Hl → RS) : (RS.rt t h).thn f = .rt t h := rfl
@[simp] theorem RS.thn_bk (σ : Sl) (h : Hl) (f : Sl → Hl → RS) : (RS.bk σ h).thn f = .bk σ h := rfl
@[simp] theorem RS.thn_ct (σ : Sl) (h : Hl) (f : Sl → Hl → RS) : (RS.ct σ h).thn f = .ct σ h := rfl
@[simp] theorem RS.thn_err (c : Nat) (fs : List (Nat × T)) (σ : Sl) (h : Hl) (f : Sl → Hl → RS) : (RS.err c fs σ h).thn f = .err c fs σ h := rfl
@[simp] theorem RS.thn_stuck (f : Sl → Hl → RS) : RS.stuck.thn f = .stuck := rfl

/-! ### the forms -/
inductive BOp where
  | add | sub | mul | fdiv | mod | pow | shl | shr | band
  deriving DecidableEq
inductive COp where
  | eq | ne | lt | le | gt | ge | is | isNot | isIn | notIn
  deriving DecidableEq
/-- kinds for isinstance -/
inductive Kd where
  | int | bool | str | tuple | list | cls (c : Nat)
  deriving DecidableEq
/-- built-in functions; methods that read -/
inductive BF where
  | len | abs | int | str | sum | all | any | gcd | max2 | min2 | max | min | max3 | min3 | maxD | tuple | repr
  deriving DecidableEq
inductive BM where
  | startswith | join | index | get | getD | strip | bitlen
  deriving DecidableEq
/-- methods that change a list -/
inductive MB where
  | append | extend | insert | pop | popAt | reverse | clear | sort
  deriving DecidableEq

mutual
inductive E where
  | var (i : Nat) | cst (t : T) | glo (k : Nat)
  | bin (o : BOp) (a b : E) | cmp (o : COp) (a b : E) | cmp2 (o p : COp) (a b c : E)
  | neg (a : E) | not (a : E) | and (a b : E) | or (a b : E) | ife (c a b : E)
  | tup (es : Es) | idx (a b : E) | sl (a : E) (lo hi : Eo) | fld (a : E) (f : Nat)
  | call (f : Nat) (es : Es) | callK (f : Nat) (es : Es) (ks : Es) (arr : List (Nat ⊕ T))
  | meth (o : E) (m : Nat) (es : Es) | new (c : Nat) (es : Es)
  | methK (o : E) (m : Nat) (es : Es) (ks : Es) (arr : List (Nat ⊕ T)) | newK (c : Nat) (es : Es) (ks : Es) (arr : List (Nat ⊕ T))
  | bf (b : BF) (es : Es) | bm (b : BM) (o : E) (es : Es) | isi (a : E) (ks : List Kd)
  | al (w : Bool) (a : A)
inductive Eo where
  | none | some (e : E)
inductive Es where
  | nil | cons (e : E) (es : Es)
/-- what lays a new list (or dict) -/
inductive A where
  | lst (es : Es) | lc (it : It) (tg : List Nat) (own : List Nat) (c : Eo) (e : E) | lof (e : E) | sl (a : E) (lo hi : Eo) | cat (a b : E) | rep (a b : E)
  | srt (e : E) | dct (ks : List T) (vs : Es) | dc (it : It) (tg : List Nat) (own : List Nat) (c : Eo) (k v : E)
/-- what is walked -/
inductive It where
  | e (e : E) | rng1 (a : E) | rng2 (a b : E) | rng3 (a b c : E) | enum (a : E) | zip (a b : E)
end
mutual
inductive S where
  | asg (i : Nat) (e : E) | own (i : Nat) (a : A) | asgT (is : List Nat) (e : E) | par (i j : Nat) (a b : E)
  | aug (i : Nat) (o : BOp) (e : E) | setF (o : E) (f : Nat) (e : E) | augF (o : E) (f : Nat) (b : BOp) (e : E) | setI (o i e : E) | setD (o i e : E) | augI (o i : E) (b : BOp) (e : E)
  | mb (b : MB) (o : E) (es : Es) | mbA (i : Nat) (b : MB) (o : E) (es : Es)
  | ex (e : E) | ret (e : E) | retN | ite (c : E) (a b : B) | forS (tg : List Nat) (it : It) (b : B) | whl (c : E) (b : B) | brk | cont | pass
  | rais (c : Nat) (es : Es) | tryS (b : B) (hs : Hs) | tryN (b : B) | frz (i : Nat)
inductive B where
  | nil | cons (s : S) (b : B)
/-- handlers: the class, the slot, the suite -/
inductive Hs where
  | nil | cons (c : Nat) (i : Option Nat) (b : B) (r : Hs)
end

/-- a def: its parameters, its slots, its body -/
structure Def where
  np : Nat
  ns : Nat
  body : B
/-- a class: mode 0: its instances change (cells); 1: they don't, behind __init__; 2: an exception -/
structure Cls where
  mode : Nat
  init : Option Nat
  meths : List (Nat × Nat)
  efs : List Nat
  sup : List Nat
structure Prog where
  defs : List Def
  cls : List Cls
  globs : List T
  /-- the ids of the methods __add__, __sub__, __mul__, __eq__ -/
  mAdd : Nat := 1000
  mSub : Nat := 1000
  mMul : Nat := 1000
  mEq : Nat := 1000
  /-- are exceptions carried out of a def? -/
  exc : Bool := false

/-! ### values -/
def maxLen : Nat := 16777216
def lkF (f : Nat) : List (Nat × T) → Option T
  | [] => none
  | (g, t) :: r => if g = f then some t else lkF f r
def putF (f : Nat) (t : T) : List (Nat × T) → List (Nat × T)
  | [] => [(f, t)]
  | (g, u) :: r => if g = f then (g, t) :: r else (g, u) :: putF f t r
def lkN (f : Nat) : List (Nat × Nat) → Option Nat
  | [] => none
  | (g, t) :: r => if g = f then some t else lkN f r

def isBor : T → Bool
  | .bL _ => true | .bD _ => true | .bI _ _ => true | _ => false
def isExc : T → Bool
  | .exc _ _ => true | _ => false
/-- what may be stored, passed, returned -/
def plainT (t : T) : Bool := !isBor t && !isExc t

/-- the items of a list or a tuple -/
def seqOf (t : T) (h : Hl) : Option (List T) := match t with
  | .lst xs => some xs
  | .tup xs => some xs
  | .bL xs => some xs
  | .kl xs => some (xs.map T.int)
  | .rf n => match h[n]? with
    | some (.lst xs) => some xs
    | _ => none
  | _ => none
/-- of a list alone -/
def lstOf (t : T) (h : Hl) : Option (List T) := match t with
  | .tup _ => none
  | t => seqOf t h
/-- .. whose object is tracked as it is -/
def lstOf' (t : T) (h : Hl) : Option (List T) := match t with
  | .tup _ => none
  | .kl _ => none
  | t => seqOf t h
def insOf (t : T) (h : Hl) : Option (Nat × List (Nat × T)) := match t with
  | .ins c fs => some (c, fs)
  | .bI c fs => some (c, fs)
  | .rf n => match h[n]? with
    | some (.ins c fs) => some (c, fs)
    | _ => none
  | _ => none
def dctOf (t : T) (h : Hl) : Option (List (T × T)) := match t with
  | .dct kvs => some kvs
  | .bD kvs => some kvs
  | .rf n => match h[n]? with
    | some (.dct kvs) => some kvs
    | _ => none
  | _ => none
/-- truth -/
def truT (t : T) (h : Hl) : Option Bool := match t with
  | .non => some false
  | .bl b => some b
  | .int i => some (i != 0)
  | .str s => if s.length ≤ maxLen then some (!s.isEmpty) else none
  | t => (seqOf t h).map fun xs => !xs.isEmpty

def tru (t : T) (h : Hl) : R Bool := match truT t h with
  | some b => .ok b h
  | none => .stuck

/-! plain data for == -/
inductive D where
  | non | bl (b : Bool) | int (i : Int) | str (s : List Nat) | lst (xs : List D) | tup (xs : List D)
def mapO {α β : Type} (f : α → Option β) : List α → Option (List β)
  | [] => some []
  | x :: xs => match f x with
    | some y => match mapO f xs with
      | some ys => some (y :: ys)
      | none => none
    | none => none
def datS (s : List Nat) : Option D := if s.all (fun c => decide (c < 1114112)) then some (.str s) else none
def dat (h : Hl) : Nat → T → Option D
  | 0, t => match t with
    | .non => some .non
    | .bl b => some (.bl b)
    | .int i => some (.int i)
    | .str s => datS s
    | _ => none
  | n + 1, t => match t with
    | .non => some .non
    | .bl b => some (.bl b)
    | .int i => some (.int i)
    | .str s => datS s
    | .lst xs => (mapO (dat h n) xs).map .lst
    | .tup xs => (mapO (dat h n) xs).map .tup
    | .bL xs => (mapO (dat h n) xs).map .lst
    | .kl xs => some (.lst (xs.map D.int))
    | .rf k => match h[k]? with
      | some (.lst xs) => (mapO (dat h n) xs).map .lst
      | _ => none
    | _ => none
mutual
def eqD : D → D → Bool
  | .non, .non => true
  | .bl a, .bl b => a == b
  | .bl a, .int j => (if a then 1 else 0) == j
  | .int i, .bl b => i == (if b then 1 else 0)
  | .int i, .int j => i == j
  | .str x, .str y => x == y
  | .lst xs, .lst ys => eqDs xs ys
  | .tup xs, .tup ys => eqDs xs ys
  | _, _ => false
def eqDs : List D → List D → Bool
  | [], [] => true
  | x :: xs, y :: ys => eqD x y && eqDs xs ys
  | _, _ => false
end
def eqT (h : Hl) (x y : T) : Option Bool := match dat h 60 x, dat h 60 y with
  | some d, some e => some (eqD d e)
  | _, _ => none

def keyT : T → Bool
  | .int _ => true | .str _ => true | _ => false
def flatT : T → Bool
  | .non => true | .bl _ => true | .int _ => true | .str _ => true | _ => false
def eqF : T → T → Bool
  | .non, .non => true
  | .bl a, .bl b => a == b
  | .bl a, .int b => (if a then 1 else 0) == b
  | .int a, .bl b => a == (if b then 1 else 0)
  | .int a, .int b => a == b
  | .str a, .str b => a == b
  | _, _ => false
def inF (x : T) (xs : List T) : Bool := xs.any fun y => eqF y x

def ixN (n : Nat) (i : Int) : Option Nat := if 0 ≤ i then (if i < n then some i.toNat else none) else if -(n : Int) ≤ i then some (i + n).toNat else none
def atI {α : Type} (xs : List α) (i : Int) : Option α := (ixN xs.length i).bind fun j => xs[j]?
def sIx (n d : Nat) : Option Int → Nat
  | none => d
  | some v => if v < 0 then (v + n).toNat else min v.toNat n
def cutT {α : Type} (xs : List α) (lo hi : Option Int) : List α := (xs.drop (sIx xs.length 0 lo)).take (sIx xs.length xs.length hi - sIx xs.length 0 lo)

def allInts : List T → Option (List Int)
  | [] => some []
  | .int i :: r => (allInts r).map (i :: ·)
  | _ => none
def allBls : List T → Option (List Bool)
  | [] => some []
  | .bl i :: r => (allBls r).map (i :: ·)
  | _ => none
def allStrs : List T → Option (List (List Nat))
  | [] => some []
  | .str i :: r => (allStrs r).map (i :: ·)
  | _ => none
def maxI : Int → List Int → Int
  | m, [] => m
  | m, x :: r => maxI (if x > m then x else m) r
def minI : Int → List Int → Int
  | m, [] => m
  | m, x :: r => minI (if x < m then x else m) r

/-! ### operators -/
def mulOk (i j : Int) : Bool := decide (i.natAbs.log2 + j.natAbs.log2 < 1000000)
def divOk (j : Int) : Bool := decide (j ≠ 0) && decide (j.natAbs.log2 < 9000)
def fdivI (i j : Int) : Int := if 0 < j then i / j else i.fdiv j
def fmodI (i j : Int) : Int := if 0 < j then i % j else i.fmod j
def powOk (i j : Int) : Bool := decide (0 ≤ j) && decide (j.natAbs ≤ 1000000) && decide (i.natAbs < 18446744073709551616)
def shlOk (i j : Int) : Bool := decide (0 ≤ j) && decide (j.natAbs ≤ 1000000) && decide (i.natAbs.log2 < 1000000)

def repOk (n : Nat) (j : Int) : Bool := decide (n * j.toNat ≤ maxLen) && decide (j.natAbs < 9223372036854775808)
def addT (x y : T) (h : Hl) : R T := match x, y with
  | .int i, .int j => .ok (.int (i + j)) h
  | .str a, .str b => if a.length + b.length ≤ maxLen then .ok (.str (a ++ b)) h else .stuck
  | .tup a, .tup b => if a.length + b.length ≤ maxLen then .ok (.tup (a ++ b)) h else .stuck
  | x, y => match lstOf' x h, lstOf' y h with
    | some a, some b => if a.length + b.length ≤ maxLen then .ok (.lst (a ++ b)) h else .stuck
    | _, _ => .stuck
def mulT (x y : T) (h : Hl) : R T := match y with
  | .int j => match x with
    | .int i => if mulOk i j then .ok (.int (i * j)) h else .stuck
    | .str a => if repOk a.length j then .ok (.str (List.replicate j.toNat a).flatten) h else .stuck
    | .tup a => if decide (a.length ≤ 1000) && ((!a.isEmpty && decide (2 ≤ j)) && decide (j ≤ 1000)) then .ok (.tup (List.replicate j.toNat a).flatten) h else .stuck
    | x => match lstOf' x h with
      | some a => if repOk a.length j then .ok (.lst (List.replicate j.toNat a).flatten) h else .stuck
      | none => .stuck
  | _ => .stuck
def intT (o : BOp) (i j : Int) (h : Hl) : R T := match o with
  | .sub => .ok (.int (i - j)) h
  | .fdiv => if divOk j then .ok (.int (fdivI i j)) h else .stuck
  | .mod => if decide (j ≠ 0) then .ok (.int (fmodI i j)) h else .stuck
  | .pow => if powOk i j then .ok (.int (i ^ j.toNat)) h else .stuck
  | .shl => if shlOk i j then .ok (.int (i * 2 ^ j.toNat)) h else .stuck
  | .shr => if decide (0 ≤ j) then .ok (.int (i / 2 ^ j.toNat)) h else .stuck
  | .band => if decide (0 ≤ i) && decide (0 ≤ j) then .ok (.int ((i.toNat &&& j.toNat : Nat) : Int)) h else .stuck
  | _ => .stuck
def binT (o : BOp) (x y : T) (h : Hl) : R T := match o with
  | .add => addT x y h
  | .mul => mulT x y h
  | o => match x, y with
    | .int i, .int j => intT o i j h
    | _, _ => .stuck

/-- is s in t, texts -/
def isPre : List Nat → List Nat → Bool
  | [], _ => true
  | _ :: _, [] => false
  | x :: xs, y :: ys => x == y && isPre xs ys
def isSub (s : List Nat) : List Nat → Bool
  | [] => s.isEmpty
  | y :: ys => isPre s (y :: ys) || isSub s ys

def lexI : List Int → List Int → Bool
  | [], [] => false
  | [], _ :: _ => true
  | _ :: _, [] => false
  | x :: xs, y :: ys => if x = y then lexI xs ys else decide (x < y)

def inSq (x : T) (xs : List T) : Option Bool := if flatT x && xs.all flatT then some (inF x xs) else none
def inDc (x : T) (kvs : List (T × T)) : Option Bool := if keyT x then some (kvs.any fun p => eqF p.1 x) else none
def inT (x y : T) (h : Hl) : Option Bool := match y with
  | .str t => match x with
    | .str [c] => some (decide (c ∈ t))
    | _ => none
  | .dct kvs => inDc x kvs
  | .bD kvs => inDc x kvs
  | .rf n => match h[n]? with
    | some (.dct kvs) => inDc x kvs
    | some (.lst xs) => inSq x xs
    | _ => none
  | y => match seqOf y h with
    | some xs => inSq x xs
    | none => none
def icmp (o : COp) (i j : Int) : Option Bool := match o with
  | .lt => some (decide (i < j))
  | .le => some (decide (i ≤ j))
  | .gt => some (decide (j < i))
  | .ge => some (decide (j ≤ i))
  | _ => none
def isNon : T → Bool
  | .non => true | _ => false
def isBlv (b : Bool) : T → Bool
  | .bl a => a == b | _ => false
def isT (x y : T) : Option Bool := if isExc x then none else match y with
  | .non => some (isNon x)
  | .bl b => some (isBlv b x)
  | _ => none
def oR (b : Option Bool) (h : Hl) : R T := match b with
  | some b => .ok (.bl b) h
  | none => .stuck
def cmpT (o : COp) (x y : T) (h : Hl) : R T := match o with
  | .eq => oR (eqT h x y) h
  | .ne => oR ((eqT h x y).map (!·)) h
  | .is => oR (isT x y) h
  | .isNot => oR ((isT x y).map (!·)) h
  | .isIn => oR (inT x y h) h
  | .notIn => oR ((inT x y h).map (!·)) h
  | o => match x, y with
    | .int i, .int j => oR (icmp o i j) h
    | _, _ => .stuck

def idxSq (xs : List T) (i : T) (h : Hl) : R T := match i with
  | .int k => match atI xs k with
    | some t => .ok t h
    | none => .stuck
  | _ => .stuck
def fndK (k : T) (kvs : List (T × T)) : Option T := (kvs.find? fun p => eqF p.1 k).map (·.2)
def idxDc (kvs : List (T × T)) (i : T) (h : Hl) : R T := if keyT i then match fndK i kvs with
  | some t => .ok t h
  | none => .stuck else .stuck
def idxT (x i : T) (h : Hl) : R T := match x with
  | .str s => match i with
    | .int k => if s.length ≤ maxLen then match atI s k with
      | some c => .ok (.str [c]) h
      | none => .stuck else .stuck
    | _ => .stuck
  | .dct kvs => idxDc kvs i h
  | .bD kvs => idxDc kvs i h
  | .rf n => match h[n]? with
    | some (.dct kvs) => idxDc kvs i h
    | some (.lst xs) => idxSq xs i h
    | _ => .stuck
  | x => match seqOf x h with
    | some xs => idxSq xs i h
    | none => .stuck
def slT (x : T) (lo hi : Option Int) (h : Hl) : R T := match x with
  | .str s => if s.length ≤ maxLen then .ok (.str (cutT s lo hi)) h else .stuck
  | .tup xs => .ok (.tup (cutT xs lo hi)) h
  | x => match lstOf x h with
    | some xs => .ok (.lst (cutT xs lo hi)) h
    | none => .stuck
def fldT (x : T) (f : Nat) (h : Hl) : R T := match x with
  | .exc _ fs => match lkF f fs with
    | some t => .ok t h
    | none => .stuck
  | x => match insOf x h with
    | some (_, fs) => match lkF f fs with
      | some t => .ok t h
      | none => .stuck
    | none => .stuck

def kdOf (k : Kd) (t : T) (h : Hl) : Option Bool := match t with
  | .non => some false
  | .bl _ => some (k = .int ∨ k = .bool)
  | .int _ => some (k = .int)
  | .str _ => some (k = .str)
  | .tup _ => some (k = .tuple)
  | .lst _ => some (k = .list)
  | .bL _ => some (k = .list)
  | .kl _ => some (k = .list)
  | .ins c _ => some (k = .cls c)
  | .bI c _ => some (k = .cls c)
  | .rf n => match h[n]? with
    | some (.lst _) => some (k = .list)
    | some (.ins c _) => some (k = .cls c)
    | _ => none
  | _ => none
def kdAny (t : T) (h : Hl) : List Kd → Option Bool
  | [] => some false
  | k :: ks => match kdOf k t h, kdAny t h ks with
    | some a, some b => some (a || b)
    | _, _ => none

/-- the digits of str(n) -/
def natS (n : Nat) : List Nat := (Nat.toDigits 10 n).map Char.toNat
def intS (i : Int) : List Nat := if i < 0 then 45 :: natS i.natAbs else natS i.natAbs
/-- int(s) of one digit -/
def digI : List Nat → Option Int
  | [c] => if 48 ≤ c && c ≤ 57 then some ((c : Int) - 48) else none
  | _ => none
def joinS (sep : List Nat) : List (List Nat) → List Nat
  | [] => []
  | [x] => x
  | x :: y :: r => x ++ sep ++ joinS sep (y :: r)

def lenT (x : T) (h : Hl) : Option Nat := match x with
  | .str s => if s.length ≤ maxLen then some s.length else none
  | .dct kvs => some kvs.length
  | .bD kvs => some kvs.length
  | .rf n => match h[n]? with
    | some (.dct kvs) => some kvs.length
    | some (.lst xs) => some xs.length
    | _ => none
  | x => (seqOf x h).map List.length

def lenF (vs : List T) (h : Hl) : R T := match vs with
  | [x] => match lenT x h with
    | some n => .ok (.int (n : Int)) h
    | none => .stuck
  | _ => .stuck
def absF (vs : List T) (h : Hl) : R T := match vs with
  | [.int i] => .ok (.int (if i < 0 then -i else i)) h
  | _ => .stuck
def intF (vs : List T) (h : Hl) : R T := match vs with
  | [.int i] => .ok (.int i) h
  | [.bl b] => .ok (.int (if b then 1 else 0)) h
  | [.str s] => match digI s with
    | some i => .ok (.int i) h
    | none => .stuck
  | _ => .stuck
def strF (vs : List T) (h : Hl) : R T := match vs with
  | [.int i] => if i.natAbs.log2 < 1920 then .ok (.str (intS i)) h else .stuck
  | _ => .stuck
def sumF (vs : List T) (h : Hl) : R T := match vs with
  | [x] => match (lstOf x h).bind allInts with
    | some ns => .ok (.int ns.sum) h
    | none => .stuck
  | _ => .stuck
def allF (vs : List T) (h : Hl) : R T := match vs with
  | [x] => match (lstOf x h).bind allBls with
    | some ns => .ok (.bl (ns.all id)) h
    | none => .stuck
  | _ => .stuck
def anyF (vs : List T) (h : Hl) : R T := match vs with
  | [x] => match (lstOf x h).bind allBls with
    | some ns => .ok (.bl (ns.any id)) h
    | none => .stuck
  | _ => .stuck
def gcdF (vs : List T) (h : Hl) : R T := match vs with
  | [.int i, .int j] => .ok (.int ((Nat.gcd i.natAbs j.natAbs : Nat) : Int)) h
  | _ => .stuck
def max2F (vs : List T) (h : Hl) : R T := match vs with
  | [.int i, .int j] => .ok (.int (if j > i then j else i)) h
  | _ => .stuck
def min2F (vs : List T) (h : Hl) : R T := match vs with
  | [.int i, .int j] => .ok (.int (if j < i then j else i)) h
  | _ => .stuck
def maxF (vs : List T) (h : Hl) : R T := match vs with
  | [x] => match (lstOf x h).bind allInts with
    | some (n :: ns) => .ok (.int (maxI n ns)) h
    | _ => .stuck
  | _ => .stuck
def minF (vs : List T) (h : Hl) : R T := match vs with
  | [x] => match (lstOf x h).bind allInts with
    | some (n :: ns) => .ok (.int (minI n ns)) h
    | _ => .stuck
  | _ => .stuck
def tupF (vs : List T) (h : Hl) : R T := match vs with
  | [x] => match seqOf x h with
    | some xs => .ok (.tup xs) h
    | none => .stuck
  | _ => .stuck
def maxDF (vs : List T) (h : Hl) : R T := match vs with
  | [x, .int d] => match (seqOf x h).bind allInts with
    | some (n :: ns) => .ok (.int (maxI n ns)) h
    | some [] => .ok (.int d) h
    | _ => .stuck
  | _ => .stuck
def max3F (vs : List T) (h : Hl) : R T := match vs with
  | [.int i, .int j, .int k] => .ok (.int (maxI i [j, k])) h
  | _ => .stuck
def min3F (vs : List T) (h : Hl) : R T := match vs with
  | [.int i, .int j, .int k] => .ok (.int (minI i [j, k])) h
  | _ => .stuck
def bfT (b : BF) (vs : List T) (h : Hl) : R T := match b with
  | .len => lenF vs h | .abs => absF vs h | .int => intF vs h | .str => strF vs h | .sum => sumF vs h | .all => allF vs h | .any => anyF vs h | .gcd => gcdF vs h
  | .max2 => max2F vs h | .min2 => min2F vs h | .max => maxF vs h | .min => minF vs h | .tuple => tupF vs h | .maxD => maxDF vs h | .max3 => max3F vs h | .min3 => min3F vs h
  | .repr => .stuck

def swF (o : T) (vs : List T) (h : Hl) : R T := match o, vs with
  | .str s, [.str t] => .ok (.bl (isPre t s)) h
  | _, _ => .stuck
def joinF (o : T) (vs : List T) (h : Hl) : R T := match o, vs with
  | .str s, [x] => match (seqOf x h).bind allStrs with
    | some ss => if (ss.map List.length).sum + s.length * ss.length ≤ maxLen then .ok (.str (joinS s ss)) h else .stuck
    | none => .stuck
  | _, _ => .stuck
def getF (o : T) (vs : List T) (h : Hl) : R T := match vs with
  | [k] => match dctOf o h with
    | some kvs => if keyT k then .ok ((fndK k kvs).getD .non) h else .stuck
    | none => .stuck
  | _ => .stuck
def getDF (o : T) (vs : List T) (h : Hl) : R T := match vs with
  | [k, u] => match dctOf o h with
    | some kvs => if keyT k then .ok ((fndK k kvs).getD u) h else .stuck
    | none => .stuck
  | _ => .stuck
def bmT (b : BM) (o : T) (vs : List T) (h : Hl) : R T := match b with
  | .startswith => swF o vs h | .join => joinF o vs h | .get => getF o vs h | .getD => getDF o vs h
  | _ => .stuck

/-- of what kind the object of a method must be -/
def isStrT : T → Bool
  | .str _ => true | _ => false
def isIntT : T → Bool
  | .int _ => true | _ => false
def bmPre (b : BM) (x : T) (h : Hl) : Bool := match b with
  | .get => (dctOf x h).isSome
  | .getD => (dctOf x h).isSome
  | .bitlen => isIntT x
  | .index => (lstOf' x h).isSome
  | _ => isStrT x
/-- what a change makes of a list: what it gives, the list behind it -/
def mbT (b : MB) (xs : List T) (vs : List T) (h : Hl) : Option (T × List T) := match b, vs with
  | .append, [v] => if plainT v && decide (xs.length < maxLen) then some (.non, xs ++ [v]) else none
  | .extend, [v] => match lstOf' v h with
    | some ys => if xs.length + ys.length ≤ maxLen then some (.non, xs ++ ys) else none
    | none => none
  | .pop, [] => match xs.getLast? with
    | some y => some (y, xs.dropLast)
    | none => none
  | .popAt, [.int i] => match ixN xs.length i with
    | some j => match xs[j]? with
      | some y => if decide (i.natAbs < 9223372036854775808) then some (y, xs.eraseIdx j) else none
      | none => none
    | none => none
  | .reverse, [] => some (.non, xs.reverse)
  | .clear, [] => some (.non, [])
  | _, _ => none

def dput (kvs : List (T × T)) (k v : T) : List (T × T) := if kvs.any (fun p => eqF p.1 k) then kvs.map (fun p => if eqF p.1 k then (p.1, v) else p) else kvs ++ [(k, v)]

/-- what stands still and is walked -/
def walkOf : T → Option (List T)
  | .lst xs => some xs
  | .tup xs => some xs
  | .kl xs => some (xs.map T.int)
  | .str s => if s.length ≤ maxLen then some (s.map fun c => T.str [c]) else none
  | _ => none
/-- .. lists alone -/
def lwalkOf : T → Option (List T)
  | .lst xs => some xs
  | .kl xs => some (xs.map T.int)
  | _ => none
/-- .. lists and tuples -/
def swalkOf : T → Option (List T)
  | .lst xs => some xs
  | .tup xs => some xs
  | .kl xs => some (xs.map T.int)
  | _ => none
def numT (n : Nat) : List T → List T
  | [] => []
  | x :: r => .tup [.int (n : Int), x] :: numT (n + 1) r
def rngT (lo hi : Int) : List T := (List.range (hi - lo).toNat).map fun (k : Nat) => T.int (lo + (k : Int))
/-- with a step -/
def rngN (m n s : Int) : Nat := if 0 < s then ((n - m + s - 1) / s).toNat else ((m - n - s - 1) / (-s)).toNat
def rngS (m s : Int) (k : Nat) : List T := (List.range k).map fun (j : Nat) => T.int (m + (j : Int) * s)
def rngOk (i : Int) : Bool := decide (i.natAbs < 4611686018427387904)

/-- targets -/
def setT (tg : List Nat) (t : T) (σ : Sl) : Option Sl := match tg with
  | [i] => some (σ.set i (some t))
  | is => match t with
    | .tup xs => if xs.length = is.length then some ((is.zip xs).foldl (fun s p => s.set p.1 (some p.2)) σ) else none
    | _ => none
def wipeT (σ : Sl) : List Nat → Sl
  | [] => σ
  | v :: vs => (wipeT σ vs).set v none

/-! ### the interpreter -/
section
variable (P : Prog) (call : Nat → List T → Hl → R T) (W : Nat)

/-- an operator that an own class may define -/
def ownM (m : Nat) (x y : T) (h : Hl) : R T := match insOf x h, insOf y h with
  | some (c, _), some (c', _) => if c = c' then match P.cls[c]? with
      | some k => match lkN m k.meths with
        | some f => if plainT x && plainT y then call f [x, y] h else .stuck
        | none => .stuck
      | none => .stuck
    else .stuck
  | _, _ => .stuck
def isIns (x : T) (h : Hl) : Bool := (insOf x h).isSome
def binE (o : BOp) (x y : T) (h : Hl) : R T :=
  if isIns x h then
    match o with
    | .add => ownM P call P.mAdd x y h
    | .sub => ownM P call P.mSub x y h
    | .mul => ownM P call P.mMul x y h
    | _ => .stuck
  else binT o x y h
def cmpE (o : COp) (x y : T) (h : Hl) : R T :=
  if isIns x h && o = .eq then (ownM P call P.mEq x y h).bind fun v h => match v with
    | .bl b => .ok (.bl b) h
    | _ => .stuck
  else cmpT o x y h

/-- a comprehension's items -/
def lcG (f : Sl → Hl → R (Option T)) (tg : List Nat) (σ : Sl) : List T → Hl → R (List T)
  | [], h => .ok [] h
  | x :: xs, h => match setT tg x σ with
    | none => .stuck
    | some σ' => (f σ' h).noErr.bind fun y h => match y with
      | some y => if plainT y then (lcG f tg σ xs h).bind fun ys h => .ok (y :: ys) h else .stuck
      | none => lcG f tg σ xs h
def dcG (f : Sl → Hl → R (Option (T × T))) (tg : List Nat) (σ : Sl) : List T → List (T × T) → Hl → R (List (T × T))
  | [], acc, h => .ok acc h
  | x :: xs, acc, h => match setT tg x σ with
    | none => .stuck
    | some σ' => (f σ' h).noErr.bind fun y h => match y with
      | some (k, v) => if plainT v && keyT k then dcG f tg σ xs (dput acc k v) h else .stuck
      | none => dcG f tg σ xs acc h

/-- a call's values in the parameters' order -/
def arrT (vs : List T) : List (Nat ⊕ T) → Option (List T)
  | [] => some []
  | .inl i :: r => match vs[i]?, arrT vs r with
    | some t, some ts => some (t :: ts)
    | _, _ => none
  | .inr t :: r => (arrT vs r).map (t :: ·)

/-- a new instance -/
def newT (c : Nat) (vs : List T) (h : Hl) : R T := match P.cls[c]? with
    | some k => match k.init with
      | some f =>
        if vs.all plainT then
          if k.mode = 0 then (call f (.rf h.length :: vs) (h ++ [.ins c []])).bind fun v h' => match v with
            | .non => .ok (.rf h.length) h'
            | _ => .stuck
          else if k.mode = 1 then (call f (.bI c [] :: vs) h).bind fun v h' => match v with
            | .bI c' fs => if c' = c then .ok (.ins c fs) h' else .stuck
            | _ => .stuck
          else .stuck
        else .stuck
      | none => if vs.isEmpty then (if k.mode = 0 then .ok (.rf h.length) (h ++ [.ins c []]) else .ok (.ins c []) h) else .stuck
    | none => .stuck
mutual
def evE : E → Sl → Hl → R T
  | .var i, σ, h => match σ[i]? with
    | some (some t) => .ok t h
    | _ => .stuck
  | .cst t, _, h => .ok t h
  | .glo k, _, h => match P.globs[k]? with
    | some t => .ok t h
    | none => .stuck
  | .bin o a b, σ, h => (evE a σ h).bind fun x h => (evE b σ h).bind fun y h => binE P call o x y h
  | .cmp o a b, σ, h => (evE a σ h).bind fun x h => (evE b σ h).bind fun y h => cmpE P call o x y h
  | .cmp2 o p a b c, σ, h => (evE a σ h).bind fun x h => (evE b σ h).bind fun y h => (cmpT o x y h).bind fun r h => match r with
    | .bl true => (evE c σ h).bind fun z h => cmpT p y z h
    | .bl false => .ok (.bl false) h
    | _ => .stuck
  | .neg a, σ, h => (evE a σ h).bind fun x h => match x with
    | .int i => .ok (.int (-i)) h
    | _ => .stuck
  | .not a, σ, h => (evE a σ h).bind fun x h => (tru x h).bind fun b h => .ok (.bl (!b)) h
  | .and a b, σ, h => (evE a σ h).bind fun x h => (tru x h).bind fun t h => if t then evE b σ h else .ok x h
  | .or a b, σ, h => (evE a σ h).bind fun x h => (tru x h).bind fun t h => if t then .ok x h else evE b σ h
  | .ife c a b, σ, h => (evE c σ h).bind fun x h => (tru x h).bind fun t h => if t then evE a σ h else evE b σ h
  | .tup es, σ, h => (evEs es σ h).bind fun vs h => if vs.all plainT && decide (vs.length ≤ maxLen) then .ok (.tup vs) h else .stuck
  | .idx a b, σ, h => (evE a σ h).bind fun x h => (evE b σ h).bind fun y h => idxT x y h
  | .sl a lo hi, σ, h => (evE a σ h).bind fun x h => (evO lo σ h).bind fun l h => (evO hi σ h).bind fun u h => slT x l u h
  | .fld a f, σ, h => (evE a σ h).bind fun x h => fldT x f h
  | .call f es, σ, h => (evEs es σ h).bind fun vs h => if vs.all plainT then call f vs h else .stuck
  | .callK f es ks arr, σ, h => (evEs es σ h).bind fun vs h => (evEs ks σ h).bind fun ws h => if (vs ++ ws).all plainT then match arrT (vs ++ ws) arr with
      | some us => call f us h
      | none => .stuck
    else .stuck
  | .meth o m es, σ, h => (evE o σ h).bind fun x h => match insOf x h with
    | some (c, fs) => match P.cls[c]? with
      | some k => match (if (lkF m fs).isNone then lkN m k.meths else none) with
        | some f => (evEs es σ h).bind fun vs h => if plainT x && vs.all plainT then call f (x :: vs) h else .stuck
        | none => .stuck
      | none => .stuck
    | none => .stuck
  | .methK o m es ks arr, σ, h => (evE o σ h).bind fun x h => match insOf x h with
    | some (c, fs) => match P.cls[c]? with
      | some k => match (if (lkF m fs).isNone then lkN m k.meths else none) with
        | some f => (evEs es σ h).bind fun vs h => (evEs ks σ h).bind fun ws h => if plainT x && (vs ++ ws).all plainT then match arrT (vs ++ ws) arr with
            | some us => call f (x :: us) h
            | none => .stuck
          else .stuck
        | none => .stuck
      | none => .stuck
    | none => .stuck
  | .new c es, σ, h => (evEs es σ h).bind fun vs h => newT P call c vs h
  | .newK c es ks arr, σ, h => (evEs es σ h).bind fun vs h => (evEs ks σ h).bind fun ws h => match arrT (vs ++ ws) arr with
      | some us => newT P call c us h
      | none => .stuck
  | .bf b es, σ, h => (evEs es σ h).bind fun vs h => bfT b vs h
  | .bm b o es, σ, h => (evE o σ h).bind fun x h => if bmPre b x h then (evEs es σ h).bind fun vs h => bmT b x vs h else .stuck
  | .isi a ks, σ, h => (evE a σ h).bind fun x h => match kdAny x h ks with
    | some b => .ok (.bl b) h
    | none => .stuck
  | .al w a, σ, h => (evA a σ h).bind fun c h => if w then .ok (.rf h.length) (h ++ [c]) else match c with
    | .lst xs => .ok (.lst xs) h
    | .dct kvs => .ok (.dct kvs) h
    | _ => .stuck
def evO : Eo → Sl → Hl → R (Option Int)
  | .none, _, h => .ok none h
  | .some e, σ, h => (evE e σ h).bind fun x h => match x with
    | .int i => .ok (some i) h
    | _ => .stuck
def evEs : Es → Sl → Hl → R (List T)
  | .nil, _, h => .ok [] h
  | .cons e es, σ, h => (evE e σ h).bind fun x h => (evEs es σ h).bind fun xs h => .ok (x :: xs) h
def evA : A → Sl → Hl → R C
  | .lst es, σ, h => (evEs es σ h).bind fun vs h => if vs.all plainT && decide (vs.length ≤ maxLen) then .ok (.lst vs) h else .stuck
  | .lc it tg own c e, σ, h => (evI it σ h).bind fun xs h => if xs.length ≤ maxLen then
      (lcG (fun σ h => (evC c σ h).bind fun b h => if b then (evE e σ h).bind fun y h => .ok (some y) h else .ok none h) tg (wipeT σ own) xs h).bind fun ys h => .ok (.lst ys) h
    else .stuck
  | .lof e, σ, h => (evE e σ h).bind fun x h => match seqOf x h with
    | some xs => .ok (.lst xs) h
    | none => .stuck
  | .sl a lo hi, σ, h => (evE a σ h).bind fun x h => (evO lo σ h).bind fun l h => (evO hi σ h).bind fun u h => match lstOf x h with
    | some xs => .ok (.lst (cutT xs l u)) h
    | none => .stuck
  | .cat a b, σ, h => (evE a σ h).bind fun x h => (evE b σ h).bind fun y h => match lstOf' x h, lstOf' y h with
    | some a, some b => if a.length + b.length ≤ maxLen then .ok (.lst (a ++ b)) h else .stuck
    | _, _ => .stuck
  | .rep a b, σ, h => (evE a σ h).bind fun x h => (evE b σ h).bind fun y h => match lstOf' x h, y with
    | some a, .int j => if repOk a.length j then .ok (.lst (List.replicate j.toNat a).flatten) h else .stuck
    | _, _ => .stuck
  | .srt e, σ, h => .stuck
  | .dct ks es, σ, h => (evEs es σ h).bind fun vs h => if ks.all keyT && vs.all plainT && decide (vs.length = ks.length) && decide (ks.length ≤ 15) then .ok (.dct ((ks.zip vs).foldl (fun d p => dput d p.1 p.2) [])) h else .stuck
  | .dc it tg own c k v, σ, h => .stuck
/-- a comprehension's test -/
def evC : Eo → Sl → Hl → R Bool
  | .none, _, h => .ok true h
  | .some e, σ, h => (evE e σ h).bind tru
def evI : It → Sl → Hl → R (List T)
  | .e e, σ, h => (evE e σ h).bind fun x h => match walkOf x with
    | some xs => .ok xs h
    | none => .stuck
  | .rng1 a, σ, h => (evE a σ h).bind fun x h => match x with
    | .int n => if rngOk n then .ok (rngT 0 n) h else .stuck
    | _ => .stuck
  | .rng2 a b, σ, h => (evE a σ h).bind fun x h => (evE b σ h).bind fun y h => match x, y with
    | .int m, .int n => if rngOk m && rngOk n then .ok (rngT m n) h else .stuck
    | _, _ => .stuck
  | .rng3 a b c, σ, h => (evE a σ h).bind fun x h => (evE b σ h).bind fun y h => (evE c σ h).bind fun z h => match x, y, z with
    | .int m, .int n, .int s => if rngOk m && rngOk n && decide (s ≠ 0) && decide (s.natAbs < 1000000) then .ok (rngS m s (rngN m n s)) h else .stuck
    | _, _, _ => .stuck
  | .enum a, σ, h => (evE a σ h).bind fun x h => match lwalkOf x with
    | some xs => .ok (numT 0 xs) h
    | none => .stuck
  | .zip a b, σ, h => (evE a σ h).bind fun x h => (evE b σ h).bind fun y h => match walkOf x, walkOf y with
    | some xs, some ys => .ok ((xs.zip ys).map fun p => T.tup [p.1, p.2]) h
    | _, _ => .stuck
end

/-- as a test -/
def evT (e : E) (σ : Sl) (h : Hl) : R Bool := (evE P call e σ h).bind tru
/-- a change of the list at o -/
def onL (o : E) (σ : Sl) (t : T) (h : Hl) (f : List T → Option (T × List T)) : Option (T × Sl × Hl) := match t with
  | .rf n => match h[n]? with
    | some (.lst xs) => (f xs).map fun r => (r.1, σ, h.set n (.lst r.2))
    | _ => none
  | .bL xs => match o with
    | .var i => (f xs).map fun r => (r.1, σ.set i (some (.bL r.2)), h)
    | _ => none
  | _ => none
def putI (o : E) (σ : Sl) (t i v : T) (h : Hl) : Option (Sl × Hl) := match t with
  | .rf n => match h[n]? with
    | some (.lst xs) => match i with
      | .int k => (ixN xs.length k).map fun j => (σ, h.set n (.lst (xs.set j v)))
      | _ => none
    | _ => none
  | .bL xs => match o, i with
    | .var q, .int k => (ixN xs.length k).map fun j => (σ.set q (some (.bL (xs.set j v))), h)
    | _, _ => none
  | _ => none
/-- a store into a dict -/
def putD (o : E) (σ : Sl) (t i v : T) (h : Hl) : Option (Sl × Hl) := match t with
  | .rf n => match h[n]? with
    | some (.dct kvs) => if keyT i && decide (kvs.length < maxLen) then some (σ, h.set n (.dct (dput kvs i v))) else none
    | _ => none
  | .bD kvs => match o with
    | .var q => if keyT i && decide (kvs.length < maxLen) then some (σ.set q (some (.bD (dput kvs i v))), h) else none
    | _ => none
  | _ => none
/-- a slot that may be overwritten -/
def freeS (σ : Sl) (i : Nat) : Bool := match σ[i]? with
  | some (some (.bI _ _)) => false
  | some _ => true
  | none => false
def freeTg (σ : Sl) (tg : List Nat) : Bool := tg.all (freeS σ)
def stF (o : E) (σ : Sl) (t : T) (f : Nat) (v : T) (h : Hl) : Option (Sl × Hl) := match t with
  | .rf n => match h[n]? with
    | some (.ins c fs) => if fs.length < 900 then some (σ, h.set n (.ins c (putF f v fs))) else none
    | _ => none
  | .bI c fs => match o with
    | .var i => if fs.length < 900 then some (σ.set i (some (.bI c (putF f v fs))), h) else none
    | _ => none
  | _ => none

/-- a loop over items -/
def forG (f : Sl → Hl → RS) (tg : List Nat) : List T → Sl → Hl → RS
  | [], σ, h => .nx σ h
  | x :: xs, σ, h => if freeTg σ tg then match setT tg x σ with
    | none => .stuck
    | some σ' => match f σ' h with
      | .nx σ h => forG f tg xs σ h
      | .ct σ h => forG f tg xs σ h
      | .bk σ h => .nx σ h
      | r => r
    else .stuck
/-- a while -/
def whlG (c : Sl → Hl → R Bool) (f : Sl → Hl → RS) : Nat → Sl → Hl → RS
  | 0, _, _ => .stuck
  | n + 1, σ, h => (c σ h).toS σ fun b h => if b then match f σ h with
      | .nx σ h => whlG c f n σ h
      | .ct σ h => whlG c f n σ h
      | .bk σ h => .nx σ h
      | r => r
    else .nx σ h

mutual
def exS : S → Sl → Hl → RS
  | .asg i e, σ, h => (evE P call e σ h).toS σ fun v h => if plainT v && freeS σ i then .nx (σ.set i (some v)) h else .stuck
  | .own i a, σ, h => (evA P call a σ h).toS σ fun c h => if freeS σ i then match c with
      | .lst xs => .nx (σ.set i (some (.bL xs))) h
      | .dct kvs => .nx (σ.set i (some (.bD kvs))) h
      | _ => .stuck
    else .stuck
  | .asgT is e, σ, h => (evE P call e σ h).toS σ fun v h => if plainT v && freeTg σ is then match setT is v σ with
      | some σ => .nx σ h
      | none => .stuck
    else .stuck
  | .par i j a b, σ, h => (evE P call a σ h).toS σ fun x h => (evE P call b σ h).toS σ fun y h => if plainT x && plainT y && freeS σ i && freeS σ j then .nx ((σ.set i (some x)).set j (some y)) h else .stuck
  | .aug i o e, σ, h => match σ[i]? with
    | some (some (.int a)) => (evE P call e σ h).toS σ fun v h => match v with
      | .int b => match o with
        | .add => .nx (σ.set i (some (.int (a + b)))) h
        | .sub => .nx (σ.set i (some (.int (a - b)))) h
        | _ => .stuck
      | _ => .stuck
    | some (some (.str a)) => (evE P call e σ h).toS σ fun v h => match o, v with
      | .add, .str b => if a.length + b.length ≤ maxLen then .nx (σ.set i (some (.str (a ++ b)))) h else .stuck
      | _, _ => .stuck
    | _ => .stuck
  | .setF o f e, σ, h => (evE P call e σ h).toS σ fun v h => (evE P call o σ h).toS σ fun t h => if plainT v then match stF o σ t f v h with
      | some (σ, h) => .nx σ h
      | none => .stuck
    else .stuck
  | .augF o f b e, σ, h => (evE P call o σ h).toS σ fun t h => match t with
    | .rf n => match h[n]? with
      | some (.ins c fs) => match lkF f fs with
        | some (.int i) => (evE P call e σ h).toS σ fun v h => match v with
          | .int j => match h[n]? with
            | some (.ins c' fs') => if c' = c ∧ fs'.length < 900 then match b with
                | .add => .nx σ (h.set n (.ins c' (putF f (.int (i + j)) fs')))
                | .sub => .nx σ (h.set n (.ins c' (putF f (.int (i - j)) fs')))
                | _ => .stuck
              else .stuck
            | _ => .stuck
          | _ => .stuck
        | _ => .stuck
      | _ => .stuck
    | _ => .stuck
  | .setI o i e, σ, h => (evE P call e σ h).toS σ fun v h => (evE P call o σ h).toS σ fun t h => (evE P call i σ h).toS σ fun k h => if plainT v then match putI o σ t k v h with
      | some (σ, h) => .nx σ h
      | none => .stuck
    else .stuck
  | .setD o i e, σ, h => (evE P call e σ h).toS σ fun v h => (evE P call o σ h).toS σ fun t h => (evE P call i σ h).toS σ fun k h => if plainT v then match putD o σ t k v h with
      | some (σ, h) => .nx σ h
      | none => .stuck
    else .stuck
  | .augI o i b e, σ, h => .stuck
  | .mb b o es, σ, h => (evE P call o σ h).toS σ fun t h => if (lstOf' t h).isSome then (evEs P call es σ h).toS σ fun vs h => match onL o σ t h (fun xs => mbT b xs vs h) with
      | some (_, σ, h) => .nx σ h
      | none => .stuck
    else .stuck
  | .mbA i b o es, σ, h => (evE P call o σ h).toS σ fun t h => if (lstOf' t h).isSome then (evEs P call es σ h).toS σ fun vs h => match onL o σ t h (fun xs => mbT b xs vs h) with
      | some (v, σ, h) => if freeS σ i && plainT v then .nx (σ.set i (some v)) h else .stuck
      | none => .stuck
    else .stuck
  | .ex e, σ, h => (evE P call e σ h).toS σ fun _ h => .nx σ h
  | .ret e, σ, h => (evE P call e σ h).toS σ fun v h => if plainT v then .rt v h else .stuck
  | .retN, σ, h => .rt .non h
  | .ite c a b, σ, h => (evT P call c σ h).toS σ fun t h => if t then exB a σ h else exB b σ h
  | .forS tg it b, σ, h => (evI P call it σ h).toS σ fun xs h => forG (fun σ h => exB b σ h) tg xs σ h
  | .whl c b, σ, h => whlG (fun σ h => evT P call c σ h) (fun σ h => exB b σ h) W σ h
  | .brk, σ, h => .bk σ h
  | .cont, σ, h => .ct σ h
  | .pass, σ, h => .nx σ h
  | .rais c es, σ, h => (evEs P call es σ h).toS σ fun vs h => match P.cls[c]? with
    | some k => if k.mode = 2 && vs.all plainT && vs.length = k.efs.length then .err c (k.efs.zip vs) σ h else .stuck
    | none => .stuck
  | .tryS b hs, σ, h => match exB b σ h with
    | .err c fs σ h => exH hs c fs σ h
    | r => r
  | .tryN b, σ, h => match exB b σ h with
    | .err _ _ _ _ => .stuck
    | r => r
  | .frz i, σ, h => match σ[i]? with
    | some (some (.bL xs)) => .nx (σ.set i (some (.lst xs))) h
    | some (some (.bD xs)) => .nx (σ.set i (some (.dct xs))) h
    | _ => .stuck
def exB : B → Sl → Hl → RS
  | .nil, σ, h => .nx σ h
  | .cons s b, σ, h => (exS s σ h).thn fun σ h => exB b σ h
def exH : Hs → Nat → List (Nat × T) → Sl → Hl → RS
  | .nil, c, fs, σ, h => .err c fs σ h
  | .cons d i b r, c, fs, σ, h => if c = d || (match P.cls[c]? with
      | some k => k.sup.contains d
      | none => false) then match i with
        | some i => match exB b (σ.set i (some (.exc c fs))) h with
          | .nx σ h => .nx (σ.set i none) h
          | .rt t h => .rt t h
          | _ => .stuck
        | none => match exB b σ h with
          | .nx σ h => .nx σ h
          | .rt t h => .rt t h
          | _ => .stuck
      else exH r c fs σ h
end
end

/-- slots at a def's start -/
def startT (np ns : Nat) (vs : List T) : Sl := vs.map some ++ List.replicate (ns - np) none

/-- a def's end; an __init__ of a class whose instances do not change hands its instance back -/
def fin (σ : Sl) (h : Hl) (vs : List T) : R T := match vs with
  | .bI _ _ :: _ => match σ with
    | some (.bI c fs) :: _ => .ok (.bI c fs) h
    | _ => .stuck
  | _ => .ok .non h
/-- a def called: by depth -/
def run (P : Prog) (W : Nat) : Nat → Nat → List T → Hl → R T
  | 0, _, _, _ => .stuck
  | d + 1, f, vs, h => match P.defs[f]? with
    | none => .stuck
    | some k => if vs.length = k.np then match exB P (run P W d) W k.body (startT k.np k.ns vs) h with
        | .nx σ h => fin σ h vs
        | .rt t h => match vs with
          | .bI _ _ :: _ => .stuck
          | _ => .ok t h
        | .err c fs σ h => if P.exc then .err c fs h else .stuck
        | _ => .stuck
      else .stuck
end Kb
end
section
set_option Elab.async false
set_option linter.all false
set_option maxRecDepth 100000
set_option maxHeartbeats 4000000
set_option autoImplicit false
/-! Kb1: how the trees and cells stand in the layer's heap; what holds behind an expression. -/
namespace Kb
open PySem L2
abbrev Vv := L2.V
abbrev Hp := L2.Hp
def Ex (H H' : Hp) : Prop := ∀ a o, H a = some o → H' a = some o
theorem Ex.refl (H : Hp) : Ex H H := fun _ _ h => h
theorem Ex.trans {H H1 H2 : Hp} (a : Ex H H1) (b : Ex H1 H2) : Ex H H2 := fun x o h => b x o (a x o h)
theorem Ex.sq {K : PySem.W.Frag} {H H' : Hp} {a : Addr} {xs : List Vv} (e : Ex H H') (h : SqL K H a xs) : SqL K H' a xs := by
  rcases h with (h | ⟨o, h⟩) | h
  · exact .inl (.inl (e _ _ h))
  · exact .inl (.inr ⟨o, e _ _ h⟩)
  · exact .inr h
theorem Ex.st {K : PySem.W.Frag} {H H' : Hp} {a : Addr} {xs : List Vv} (e : Ex H H') (h : SqT K H a xs) : SqT K H' a xs := by
  rcases h with (h | ⟨o, h⟩) | h
  · exact .inl (.inl (e _ _ h))
  · exact .inl (.inr ⟨o, e _ _ h⟩)
  · exact .inr h
theorem Ex.new {H : Hp} {p : Addr} {o : HO} (h : H p = none) : Ex H (upd H p o) := fun a u e => by
  rw [upd_ne (ne_of_none e h)]; exact e

/-- the text's tables: the written part, where the classes stand, the names of attributes -/
structure Gm where
  K : PySem.W.Frag
  ca : Nat → Addr
  nm : List Str
  /-- the classes of instances -/
  cok : Nat → Prop

def strV (s : List Nat) : Str := ⟨s.toArray⟩
theorem strV_len (s : List Nat) : (strV s).length = s.length := by simp [strV, Str.length]
theorem strV_list (s : List Nat) : (strV s).cps.toList = s := by simp [strV]
theorem strV_inj {s t : List Nat} (h : strV s = strV t) : s = t := by
  have := congrArg (fun z : Str => z.cps.toList) h
  simpa [strV] using this

mutual
inductive Rep (G : Gm) (ρ : List Addr) (Hf : Hp) : T → Vv → Prop
  | non : Rep G ρ Hf .non .non
  | bl (b : Bool) : Rep G ρ Hf (.bl b) (.bl b)
  | int (i : Int) : Rep G ρ Hf (.int i) (.int i)
  | str (s : List Nat) : Rep G ρ Hf (.str s) (.str (strV s))
  | lst {a : Addr} {xs : List T} {vs : List Vv} (h : Hf a = some (.lst vs)) (r : Reps G ρ Hf xs vs) : Rep G ρ Hf (.lst xs) (.ref a)
  | tup {a : Addr} {xs : List T} {vs : List Vv} (h : SqT G.K Hf a vs) (r : Reps G ρ Hf xs vs) : Rep G ρ Hf (.tup xs) (.ref a)
  | ins {a dx : Addr} {c : Nat} {fs : List (Nat × T)} {gs : List (Str × Vv)} (k : G.cok c) (h : Hf a = some (.ins (G.ca c) dx gs)) (r : RepF G ρ Hf fs gs) : Rep G ρ Hf (.ins c fs) (.ref a)
  | dct {a : Addr} {kvs : List (T × T)} {gs : List (L2.Key × Vv)} (h : Hf a = some (.dK gs)) (r : RepK G ρ Hf kvs gs) : Rep G ρ Hf (.dct kvs) (.ref a)
  | rf {n : Nat} {a : Addr} (h : ρ[n]? = some a) : Rep G ρ Hf (.rf n) (.ref a)
  | kl {a : Addr} {ns : List Int} (h : SqL G.K Hf a (ns.map L2.V.int)) : Rep G ρ Hf (.kl ns) (.ref a)
inductive Reps (G : Gm) (ρ : List Addr) (Hf : Hp) : List T → List Vv → Prop
  | nil : Reps G ρ Hf [] []
  | cons {t : T} {v : Vv} {ts : List T} {vs : List Vv} (h : Rep G ρ Hf t v) (r : Reps G ρ Hf ts vs) : Reps G ρ Hf (t :: ts) (v :: vs)
inductive RepF (G : Gm) (ρ : List Addr) (Hf : Hp) : List (Nat × T) → List (Str × Vv) → Prop
  | nil : RepF G ρ Hf [] []
  | cons {f : Nat} {x : Str} {t : T} {v : Vv} {ts : List (Nat × T)} {vs : List (Str × Vv)} (n : G.nm[f]? = some x) (h : Rep G ρ Hf t v) (r : RepF G ρ Hf ts vs) : RepF G ρ Hf ((f, t) :: ts) ((x, v) :: vs)
inductive RepK (G : Gm) (ρ : List Addr) (Hf : Hp) : List (T × T) → List (L2.Key × Vv) → Prop
  | nil : RepK G ρ Hf [] []
  | consI {i : Int} {t : T} {v : Vv} {ts : List (T × T)} {vs : List (L2.Key × Vv)} (h : Rep G ρ Hf t v) (r : RepK G ρ Hf ts vs) : RepK G ρ Hf ((.int i, t) :: ts) ((Sum.inl i, v) :: vs)
  | consS {s : List Nat} {t : T} {v : Vv} {ts : List (T × T)} {vs : List (L2.Key × Vv)} (h : Rep G ρ Hf t v) (r : RepK G ρ Hf ts vs) : RepK G ρ Hf ((.str s, t) :: ts) ((Sum.inr (strV s), v) :: vs)
end

section
variable {G : Gm} {ρ ρ' : List Addr} {Hf Hf' : Hp}
mutual
theorem Rep.mono (hp : ∃ l, ρ' = ρ ++ l) (e : Ex Hf Hf') {t : T} {v : Vv} : Rep G ρ Hf t v → Rep G ρ' Hf' t v
  | .non => .non
  | .bl b => .bl b
  | .int i => .int i
  | .str s => .str s
  | .lst h r => .lst (e _ _ h) (Reps.mono hp e r)
  | .tup h r => .tup (e.st h) (Reps.mono hp e r)
  | .ins k h r => .ins k (e _ _ h) (RepF.mono hp e r)
  | .dct h r => .dct (e _ _ h) (RepK.mono hp e r)
  | .rf h => .rf (by
    obtain ⟨l, rfl⟩ := hp
    rw [List.getElem?_append_left (List.getElem?_eq_some_iff.mp h).1]
    exact h)
  | .kl h => .kl (e.sq h)
theorem Reps.mono (hp : ∃ l, ρ' = ρ ++ l) (e : Ex Hf Hf') {ts : List T} {vs : List Vv} : Reps G ρ Hf ts vs → Reps G ρ' Hf' ts vs
  | .nil => .nil
  | .cons h r => .cons (Rep.mono hp e h) (Reps.mono hp e r)
theorem RepF.mono (hp : ∃ l, ρ' = ρ ++ l) (e : Ex Hf Hf') {ts : List (Nat × T)} {vs : List (Str × Vv)} : RepF G ρ Hf ts vs → RepF G ρ' Hf' ts vs
  | .nil => .nil
  | .cons n h r => .cons n (Rep.mono hp e h) (RepF.mono hp e r)
theorem RepK.mono (hp : ∃ l, ρ' = ρ ++ l) (e : Ex Hf Hf') {ts : List (T × T)} {vs : List (L2.Key × Vv)} : RepK G ρ Hf ts vs → RepK G ρ' Hf' ts vs
  | .nil => .nil
  | .consI h r => .consI (Rep.mono hp e h) (RepK.mono hp e r)
  | .consS h r => .consS (Rep.mono hp e h) (RepK.mono hp e r)
end
theorem Reps.length : ∀ {ts : List T} {vs : List Vv}, Reps G ρ Hf ts vs → ts.length = vs.length
  | _, _, .nil => rfl
  | _, _, .cons _ r => by rw [List.length_cons, List.length_cons, Reps.length r]
theorem Reps.get : ∀ {ts : List T} {vs : List Vv} {i : Nat} {t : T}, Reps G ρ Hf ts vs → ts[i]? = some t → ∃ v, vs[i]? = some v ∧ Rep G ρ Hf t v
  | _, _, _, _, .nil, e => by simp at e
  | _, _, 0, _, .cons h _, e => by simp at e; subst e; exact ⟨_, rfl, h⟩
  | _, _, i + 1, t, .cons _ r, e => by
    obtain ⟨v, h1, h2⟩ := Reps.get (i := i) (t := t) r (by simpa using e)
    exact ⟨v, by simpa using h1, h2⟩
theorem Reps.get' : ∀ {ts : List T} {vs : List Vv} {i : Nat} {v : Vv}, Reps G ρ Hf ts vs → vs[i]? = some v → ∃ t, ts[i]? = some t ∧ Rep G ρ Hf t v
  | _, _, _, _, .nil, e => by simp at e
  | _, _, 0, _, .cons h _, e => by simp at e; subst e; exact ⟨_, rfl, h⟩
  | _, _, i + 1, t, .cons _ r, e => by
    obtain ⟨v, h1, h2⟩ := Reps.get' (i := i) (v := t) r (by simpa using e)
    exact ⟨v, by simpa using h1, h2⟩
theorem Reps.append : ∀ {ts us : List T} {vs ws : List Vv}, Reps G ρ Hf ts vs → Reps G ρ Hf us ws → Reps G ρ Hf (ts ++ us) (vs ++ ws)
  | _, _, _, _, .nil, s => s
  | _, _, _, _, .cons h r, s => .cons h (Reps.append r s)
theorem Reps.take : ∀ {ts : List T} {vs : List Vv} (n : Nat), Reps G ρ Hf ts vs → Reps G ρ Hf (ts.take n) (vs.take n)
  | _, _, 0, _ => .nil
  | _, _, _ + 1, .nil => .nil
  | _, _, n + 1, .cons h r => .cons h (Reps.take n r)
theorem Reps.drop : ∀ {ts : List T} {vs : List Vv} (n : Nat), Reps G ρ Hf ts vs → Reps G ρ Hf (ts.drop n) (vs.drop n)
  | _, _, 0, r => r
  | _, _, _ + 1, .nil => .nil
  | _, _, n + 1, .cons _ r => Reps.drop n r
theorem Reps.set {t : T} {v : Vv} (h : Rep G ρ Hf t v) : ∀ {ts : List T} {vs : List Vv} (n : Nat), Reps G ρ Hf ts vs → Reps G ρ Hf (ts.set n t) (vs.set n v)
  | _, _, _, .nil => .nil
  | _, _, 0, .cons _ r => .cons h r
  | _, _, n + 1, .cons q r => .cons q (Reps.set h n r)
theorem Reps.rev {ts : List T} {vs : List Vv} (r : Reps G ρ Hf ts vs) : Reps G ρ Hf ts.reverse vs.reverse := by
  induction ts generalizing vs with
  | nil => cases r; exact .nil
  | cons t ts ih =>
    cases r with
    | cons h r =>
      rw [List.reverse_cons, List.reverse_cons]
      exact Reps.append (ih r) (.cons h .nil)
theorem Reps.rep {ts : List T} {vs : List Vv} (r : Reps G ρ Hf ts vs) : ∀ k : Nat, Reps G ρ Hf (List.replicate k ts).flatten (List.replicate k vs).flatten
  | 0 => .nil
  | k + 1 => by
    rw [List.replicate_succ, List.replicate_succ, List.flatten_cons, List.flatten_cons]
    exact Reps.append r (Reps.rep r k)
theorem Reps.dropLast {ts : List T} {vs : List Vv} (r : Reps G ρ Hf ts vs) : Reps G ρ Hf ts.dropLast vs.dropLast := by
  rw [List.dropLast_eq_take, List.dropLast_eq_take, r.length]
  exact r.take _
theorem Reps.eraseIdx : ∀ {ts : List T} {vs : List Vv} (n : Nat), Reps G ρ Hf ts vs → Reps G ρ Hf (ts.eraseIdx n) (vs.eraseIdx n)
  | _, _, _, .nil => .nil
  | _, _, 0, .cons _ r => r
  | _, _, n + 1, .cons q r => .cons q (Reps.eraseIdx n r)
theorem Reps.ints : ∀ {ns : List Int} {vs : List Vv}, Reps G ρ Hf (ns.map T.int) vs → vs = ns.map L2.V.int
  | [], _, .nil => rfl
  | n :: ns, _, .cons h r => by
    cases h
    rw [Reps.ints r]; rfl
theorem reps_ints : ∀ (ns : List Int), Reps G ρ Hf (ns.map T.int) (ns.map L2.V.int)
  | [] => .nil
  | n :: ns => .cons (.int n) (reps_ints ns)
theorem RepF.look (hn : G.nm.Nodup) {f : Nat} {x : Str} (hx : G.nm[f]? = some x) : ∀ {fs : List (Nat × T)} {gs : List (Str × Vv)}, RepF G ρ Hf fs gs →
    (∀ t, lkF f fs = some t → ∃ v, gs.lookup x = some v ∧ Rep G ρ Hf t v) ∧ (lkF f fs = none → gs.lookup x = none)
  | _, _, .nil => ⟨fun t h => by simp [lkF] at h, fun _ => rfl⟩
  | _, _, .cons (f := g) (x := y) (t := u) (v := w) (ts := ts) (vs := vs) n h r => by
    obtain ⟨i1, i2⟩ := RepF.look hn hx r
    by_cases e : g = f
    · subst e
      rw [hx] at n; cases n
      refine ⟨fun t ht => ⟨w, by simp [List.lookup], ?_⟩, fun ht => ?_⟩
      · simp [lkF] at ht; subst ht; exact h
      · simp [lkF] at ht
    · have nx : ¬ x = y := fun z => by
        subst z
        exact e ((List.getElem_inj hn).mp ((List.getElem?_eq_some_iff.mp n).2.trans (List.getElem?_eq_some_iff.mp hx).2.symm))
      have nb : (x == y) = false := by simpa using nx
      refine ⟨fun t ht => ?_, fun ht => ?_⟩
      · simp only [lkF, if_neg e] at ht
        obtain ⟨v, h1, h2⟩ := i1 t ht
        exact ⟨v, by simp only [List.lookup, nb]; exact h1, h2⟩
      · simp only [lkF, if_neg e] at ht
        simp only [List.lookup, nb]; exact i2 ht
theorem RepF.put (hn : G.nm.Nodup) {f : Nat} {x : Str} (hx : G.nm[f]? = some x) {t : T} {v : Vv} (ht : Rep G ρ Hf t v) : ∀ {fs : List (Nat × T)} {gs : List (Str × Vv)}, RepF G ρ Hf fs gs →
    RepF G ρ Hf (putF f t fs) (L2.putF x v gs)
  | _, _, .nil => .cons hx ht .nil
  | _, _, .cons (f := g) (x := y) (t := u) (v := w) (ts := ts) (vs := vs) n h r => by
    by_cases e : g = f
    · subst e
      rw [hx] at n; cases n
      simp only [putF, L2.putF, if_pos rfl]
      exact .cons hx ht r
    · have nx : ¬ y = x := fun z => by
        subst z
        exact e ((List.getElem_inj hn).mp ((List.getElem?_eq_some_iff.mp n).2.trans (List.getElem?_eq_some_iff.mp hx).2.symm))
      simp only [putF, L2.putF, if_neg e, if_neg nx]
      exact .cons n h (RepF.put hn hx ht r)
theorem RepF.len : ∀ {fs : List (Nat × T)} {gs : List (Str × Vv)}, RepF G ρ Hf fs gs → fs.length = gs.length
  | _, _, .nil => rfl
  | _, _, .cons _ _ r => by rw [List.length_cons, List.length_cons, RepF.len r]
end

/-! ### cells, owned things -/
def CellR (G : Gm) (ρ : List Addr) (Hf H : Hp) (a : Addr) : C → Prop
  | .lst xs => ∃ vs, H a = some (.lst vs) ∧ Reps G ρ Hf xs vs
  | .ins c fs => ∃ dx gs, H a = some (.ins (G.ca c) dx gs) ∧ RepF G ρ Hf fs gs ∧ G.cok c
  | .dct kvs => ∃ gs, H a = some (.dK gs) ∧ RepK G ρ Hf kvs gs
theorem CellR.there {G : Gm} {ρ : List Addr} {Hf H : Hp} {a : Addr} {c : C} (h : CellR G ρ Hf H a c) : ∃ o, H a = some o := by
  cases c with
  | lst xs => obtain ⟨vs, h, _⟩ := h; exact ⟨_, h⟩
  | ins c fs => obtain ⟨dx, gs, h, _⟩ := h; exact ⟨_, h⟩
  | dct kvs => obtain ⟨gs, h, _⟩ := h; exact ⟨_, h⟩
theorem CellR.mono {G : Gm} {ρ ρ' : List Addr} {Hf Hf' H H' : Hp} {a : Addr} {c : C} (hp : ∃ l, ρ' = ρ ++ l) (e : Ex Hf Hf') (ha : ∀ o, H a = some o → H' a = some o) (h : CellR G ρ Hf H a c) : CellR G ρ' Hf' H' a c := by
  cases c with
  | lst xs => obtain ⟨vs, h, r⟩ := h; exact ⟨vs, ha _ h, r.mono hp e⟩
  | ins c fs => obtain ⟨dx, gs, h, r, k⟩ := h; exact ⟨dx, gs, ha _ h, r.mono hp e, k⟩
  | dct kvs => obtain ⟨gs, h, r⟩ := h; exact ⟨gs, ha _ h, r.mono hp e⟩

/-- heaps: Z what stood at the def's entry; Hf what stands for ever; ρ where the cells are -/
structure Sto (G : Gm) (Z : Hp) (ρ : List Addr) (Hf : Hp) (hp : Hl) (H : Hp) : Prop where
  ex : Ex Hf H
  len : ρ.length = hp.length
  nd : ρ.Nodup
  cell : ∀ (n : Nat) (a : Addr) (c : C), ρ[n]? = some a → hp[n]? = some c → CellR G ρ Hf H a c ∧ Hf a = none
  dom : ∀ a o, Z a = some o → ∃ o', H a = some o'

theorem Sto.at {G : Gm} {Z : Hp} {ρ : List Addr} {Hf H : Hp} {hp : Hl} (S : Sto G Z ρ Hf hp H) {n : Nat} {c : C} (h : hp[n]? = some c) : ∃ a, ρ[n]? = some a ∧ CellR G ρ Hf H a c ∧ Hf a = none := by
  have hl := (List.getElem?_eq_some_iff.mp h).1
  rw [← S.len] at hl
  exact ⟨ρ[n], List.getElem?_eq_getElem hl, S.cell n _ c (List.getElem?_eq_getElem hl) h⟩
theorem Sto.mem {G : Gm} {Z : Hp} {ρ : List Addr} {Hf H : Hp} {hp : Hl} (S : Sto G Z ρ Hf hp H) {a : Addr} (h : a ∈ ρ) : ∃ (n : Nat) (c : C), ρ[n]? = some a ∧ hp[n]? = some c ∧ CellR G ρ Hf H a c ∧ Hf a = none := by
  obtain ⟨n, hn, rfl⟩ := List.getElem_of_mem h
  have hl : n < hp.length := by rw [← S.len]; exact hn
  obtain ⟨c1, c2⟩ := S.cell n _ hp[n] (List.getElem?_eq_getElem hn) (List.getElem?_eq_getElem hl)
  exact ⟨n, hp[n], List.getElem?_eq_getElem hn, List.getElem?_eq_getElem hl, c1, c2⟩
theorem Sto.ofZ {G : Gm} {Z Z' : Hp} {ρ : List Addr} {Hf H : Hp} {hp : Hl} (S : Sto G Z ρ Hf hp H) (h : ∀ a o, Z' a = some o → ∃ o', H a = some o') : Sto G Z' ρ Hf hp H := ⟨S.ex, S.len, S.nd, S.cell, h⟩

/-- what an expression (or a call) does to the heaps; x: an object that it may change all the same -/
structure Nxt (x : Option Addr) (ρ : List Addr) (Hf H : Hp) (ρ' : List Addr) (Hf' H' : Hp) : Prop where
  pre : ∃ l, ρ' = ρ ++ l
  hf : Ex Hf Hf'
  fr : ∀ a o, H a = some o → a ∉ ρ → x ≠ some a → H' a = some o
  nw : ∀ a, a ∈ ρ' → a ∉ ρ → H a = none
  hn : ∀ a o, Hf' a = some o → Hf a = none → H a = none
theorem Nxt.refl {x : Option Addr} {ρ : List Addr} {Hf H : Hp} : Nxt x ρ Hf H ρ Hf H :=
  ⟨⟨[], by simp⟩, Ex.refl _, fun _ _ h _ _ => h, fun _ h n => (n h).elim, fun a o h n => by rw [n] at h; cases h⟩
theorem Nxt.trans {G : Gm} {Z : Hp} {hp : Hl} {x : Option Addr} {ρ ρ1 ρ2 : List Addr} {Hf H Hf1 H1 Hf2 H2 : Hp} (S1 : Sto G Z ρ1 Hf1 hp H1) (A : Nxt x ρ Hf H ρ1 Hf1 H1) (B : Nxt x ρ1 Hf1 H1 ρ2 Hf2 H2) (hx : ∀ a, x = some a → ∃ o, H1 a = some o := by intro a h; cases h) : Nxt x ρ Hf H ρ2 Hf2 H2 := by
  obtain ⟨l, e1⟩ := A.pre
  obtain ⟨m, e2⟩ := B.pre
  have sub : ∀ a, a ∈ ρ → a ∈ ρ1 := fun a h => by rw [e1]; exact List.mem_append_left _ h
  have known : ∀ a o, H a = some o → ∃ o', H1 a = some o' := fun a o h => by
    by_cases ha : a ∈ ρ
    · obtain ⟨_, _, _, _, c, _⟩ := S1.mem (sub a ha)
      exact c.there
    · by_cases hxa : x = some a
      · exact hx a hxa
      · exact ⟨o, A.fr a o h ha hxa⟩
  have fresh : ∀ a, H1 a = none → H a = none := fun a h => by
    cases q : H a with
    | none => rfl
    | some o =>
      obtain ⟨o', h'⟩ := known a o q
      rw [h] at h'; cases h'
  refine ⟨⟨l ++ m, by rw [e2, e1, List.append_assoc]⟩, A.hf.trans B.hf, fun a o h na hxa => ?_, fun a h na => ?_, fun a o h na => ?_⟩
  · have n1 : a ∉ ρ1 := fun z => by
      have := A.nw a z na
      rw [h] at this; cases this
    exact B.fr a o (A.fr a o h na hxa) n1 hxa
  · by_cases h1 : a ∈ ρ1
    · exact A.nw a h1 na
    · exact fresh a (B.nw a h h1)
  · cases q : Hf1 a with
    | some u => exact A.hn a u q na
    | none => exact fresh a (B.hn a o h q)
theorem Nxt.wide {x : Option Addr} {ρ ρ1 : List Addr} {Hf H Hf1 H1 : Hp} (A : Nxt none ρ Hf H ρ1 Hf1 H1) : Nxt x ρ Hf H ρ1 Hf1 H1 := ⟨A.pre, A.hf, fun a o h n _ => A.fr a o h n (by simp), A.nw, A.hn⟩
theorem Ex.free0 {Hf H : Hp} (e : Ex Hf H) {p : Addr} (h : H p = none) : Hf p = none := by
  cases q : Hf p with
  | none => rfl
  | some o => rw [e p o q] at h; cases h
/-- a new object that stands for ever -/
theorem Nxt.new {ρ : List Addr} {Hf H : Hp} {p : Addr} {o : HO} (ex : Ex Hf H) (h : H p = none) : Nxt none ρ Hf H ρ (upd Hf p o) (upd H p o) where
  pre := ⟨[], by simp⟩
  hf := Ex.new (ex.free0 h)
  fr := fun a u e _ _ => by rw [upd_ne (ne_of_none e h)]; exact e
  nw := fun _ h n => (n h).elim
  hn := fun a u e n => by
    by_cases z : a = p
    · subst z; exact h
    · rw [upd_ne z, n] at e; cases e
theorem Ex.upd2 {Hf H : Hp} (e : Ex Hf H) {p : Addr} {o : HO} : Ex (upd Hf p o) (upd H p o) := fun a u h => by
  by_cases z : a = p
  · subst z; rw [upd_same] at h ⊢; exact h
  · rw [upd_ne z] at h ⊢; exact e a u h
theorem Ex.updR {Hf H : Hp} (e : Ex Hf H) {p : Addr} {o : HO} (n : Hf p = none) : Ex Hf (upd H p o) := fun a u h => by
  rw [upd_ne (ne_of_none h n)]; exact e a u h
theorem Sto.new {G : Gm} {Z : Hp} {ρ : List Addr} {Hf H : Hp} {hp : Hl} (S : Sto G Z ρ Hf hp H) {p : Addr} {o : HO} (h : H p = none) : Sto G Z ρ (upd Hf p o) hp (upd H p o) where
  ex := S.ex.upd2
  len := S.len
  nd := S.nd
  cell := fun n a c h1 h2 => by
    obtain ⟨c1, c2⟩ := S.cell n a c h1 h2
    obtain ⟨u, hu⟩ := c1.there
    have ne : a ≠ p := ne_of_none hu h
    exact ⟨c1.mono ⟨[], by simp⟩ (Ex.new (S.ex.free0 h)) fun o q => by rw [upd_ne ne]; exact q, by rw [upd_ne ne]; exact c2⟩
  dom := fun a u e => by
    obtain ⟨u', h'⟩ := S.dom a u e
    exact ⟨u', by rw [upd_ne (ne_of_none h' h)]; exact h'⟩
/-- a new object that is no one's yet -/
theorem Sto.newB {G : Gm} {Z : Hp} {ρ : List Addr} {Hf H : Hp} {hp : Hl} (S : Sto G Z ρ Hf hp H) {p : Addr} {o : HO} (h : H p = none) : Sto G Z ρ Hf hp (upd H p o) where
  ex := S.ex.updR (S.ex.free0 h)
  len := S.len
  nd := S.nd
  cell := fun n a c h1 h2 => by
    obtain ⟨c1, c2⟩ := S.cell n a c h1 h2
    obtain ⟨u, hu⟩ := c1.there
    exact ⟨c1.mono ⟨[], by simp⟩ (Ex.refl _) fun o q => by rw [upd_ne (ne_of_none hu h)]; exact q, c2⟩
  dom := fun a u e => by
    obtain ⟨u', h'⟩ := S.dom a u e
    exact ⟨u', by rw [upd_ne (ne_of_none h' h)]; exact h'⟩
theorem Nxt.newB {ρ : List Addr} {Hf H : Hp} {p : Addr} {o : HO} (h : H p = none) : Nxt none ρ Hf H ρ Hf (upd H p o) where
  pre := ⟨[], by simp⟩
  hf := Ex.refl _
  fr := fun a u e _ _ => by rw [upd_ne (ne_of_none e h)]; exact e
  nw := fun _ h n => (n h).elim
  hn := fun a u e n => by rw [n] at e; cases e

/-! ### values of expressions: also what a slot holds -/
def RepB (G : Gm) (ρ : List Addr) (Hf H : Hp) : T → Vv → Prop
  | .bL xs, v => ∃ a vs, v = .ref a ∧ H a = some (.lst vs) ∧ Reps G ρ Hf xs vs ∧ Hf a = none ∧ a ∉ ρ
  | .bD kvs, v => ∃ a gs, v = .ref a ∧ H a = some (.dK gs) ∧ RepK G ρ Hf kvs gs ∧ Hf a = none ∧ a ∉ ρ
  | .bI c fs, v => ∃ a dx gs, v = .ref a ∧ H a = some (.ins (G.ca c) dx gs) ∧ RepF G ρ Hf fs gs ∧ Hf a = none ∧ a ∉ ρ ∧ G.cok c
  | t, v => Rep G ρ Hf t v
theorem Rep.toB {G : Gm} {ρ : List Addr} {Hf H : Hp} {t : T} {v : Vv} (r : Rep G ρ Hf t v) : RepB G ρ Hf H t v := by
  cases r with
  | non => exact .non
  | bl b => exact .bl b
  | int i => exact .int i
  | str s => exact .str s
  | lst h r => exact .lst h r
  | tup h r => exact .tup h r
  | ins k h r => exact .ins k h r
  | dct h r => exact .dct h r
  | rf h => exact .rf h
  | kl h => exact .kl h
theorem RepB.plain {G : Gm} {ρ : List Addr} {Hf H : Hp} {t : T} {v : Vv} (p : plainT t = true) (r : RepB G ρ Hf H t v) : Rep G ρ Hf t v := by
  cases t <;> first | exact r | (simp [plainT, isBor, isExc] at p)
inductive RepBs (G : Gm) (ρ : List Addr) (Hf H : Hp) : List T → List Vv → Prop
  | nil : RepBs G ρ Hf H [] []
  | cons {t : T} {v : Vv} {ts : List T} {vs : List Vv} (h : RepB G ρ Hf H t v) (r : RepBs G ρ Hf H ts vs) : RepBs G ρ Hf H (t :: ts) (v :: vs)
theorem RepBs.plain {G : Gm} {ρ : List Addr} {Hf H : Hp} : ∀ {ts : List T} {vs : List Vv}, ts.all plainT = true → RepBs G ρ Hf H ts vs → Reps G ρ Hf ts vs
  | _, _, _, .nil => .nil
  | _, _, p, .cons h r => by
    simp only [List.all_cons, Bool.and_eq_true] at p
    exact .cons (h.plain p.1) (RepBs.plain p.2 r)
/-- carried on -/
theorem RepB.nxt {G : Gm} {Z : Hp} {ρ ρ' : List Addr} {Hf H Hf' H' : Hp} {t : T} {v : Vv} (N : Nxt none ρ Hf H ρ' Hf' H') (r : RepB G ρ Hf H t v) : RepB G ρ' Hf' H' t v := by
  have new : ∀ {a : Addr} {o : HO}, H a = some o → Hf a = none → a ∉ ρ → Hf' a = none ∧ a ∉ ρ' := fun {a o} h n m => by
    refine ⟨?_, fun z => ?_⟩
    · cases q : Hf' a with
      | none => rfl
      | some u =>
        have e := N.hn a u q n
        rw [h] at e; cases e
    · have e := N.nw a z m
      rw [h] at e; cases e
  cases t with
  | bL xs =>
    obtain ⟨a, vs, e, h, q, n, m⟩ := r
    obtain ⟨n', m'⟩ := new h n m
    exact ⟨a, vs, e, N.fr a _ h m (by simp), q.mono N.pre N.hf, n', m'⟩
  | bD xs =>
    obtain ⟨a, vs, e, h, q, n, m⟩ := r
    obtain ⟨n', m'⟩ := new h n m
    exact ⟨a, vs, e, N.fr a _ h m (by simp), q.mono N.pre N.hf, n', m'⟩
  | bI c fs =>
    obtain ⟨a, dx, vs, e, h, q, n, m, k⟩ := r
    obtain ⟨n', m'⟩ := new h n m
    exact ⟨a, dx, vs, e, N.fr a _ h m (by simp), q.mono N.pre N.hf, n', m', k⟩
  | _ => exact Rep.toB (Rep.mono N.pre N.hf r)
theorem RepBs.nxt {G : Gm} {Z : Hp} {ρ ρ' : List Addr} {Hf H Hf' H' : Hp} (N : Nxt none ρ Hf H ρ' Hf' H') : ∀ {ts : List T} {vs : List Vv}, RepBs G ρ Hf H ts vs → RepBs G ρ' Hf' H' ts vs
  | _, _, .nil => .nil
  | _, _, .cons h r => .cons (RepB.nxt (Z := Z) N h) (RepBs.nxt (Z := Z) N r)

/-- slots -/
structure Slots (G : Gm) (ρ : List Addr) (Hf H : Hp) (lσ : Sl) (σ : L2.St) : Prop where
  len : lσ.length ≤ σ.length
  slot : ∀ (i : Nat) (t : T), lσ[i]? = some (some t) → ∃ v, σ[i]? = some (some v) ∧ RepB G ρ Hf H t v
  sep : ∀ (i j : Nat) (t u : T) (a : Addr), i ≠ j → lσ[i]? = some (some t) → lσ[j]? = some (some u) → isBor t = true → isBor u = true → σ[i]? = some (some (.ref a)) → σ[j]? = some (some (.ref a)) → False
theorem Slots.nxt {G : Gm} {ρ ρ' : List Addr} {Hf H Hf' H' : Hp} {lσ : Sl} {σ : L2.St} (N : Nxt none ρ Hf H ρ' Hf' H') (L : Slots G ρ Hf H lσ σ) : Slots G ρ' Hf' H' lσ σ :=
  ⟨L.len, fun i t h => let ⟨v, h1, h2⟩ := L.slot i t h; ⟨v, h1, RepB.nxt (Z := Hf) N h2⟩, L.sep⟩

/-! ### what is wanted behind an expression -/
section
variable (G : Gm) (Z : Hp) (W : L2.WX) (σ : L2.St)
/-- the way out by an error -/
def PErr (ρ : List Addr) (Hf H : Hp) (c : Nat) (fs : List (Nat × T)) (h' : Hl) : Prop :=
  ∀ ρ' Hf' H' d gs, Nxt none ρ Hf H ρ' Hf' H' → Sto G Z ρ' Hf' h' H' → H' d = some (.xd gs) → RepF G ρ' Hf' fs gs → W (.ref (G.ca c)) (some d) σ H'
def Post {α β : Type} (RR : List Addr → Hp → Hp → α → β → Prop) (ρ : List Addr) (Hf H : Hp) (Q : β → Hp → Prop) : R α → Prop
  | .ok t h' => ∀ ρ' Hf' H' v, Nxt none ρ Hf H ρ' Hf' H' → Sto G Z ρ' Hf' h' H' → RR ρ' Hf' H' t v → Q v H'
  | .err c fs h' => PErr G Z W σ ρ Hf H c fs h'
  | .stuck => False
end
section
variable {G : Gm} {Z : Hp} {W : L2.WX} {σ : L2.St} {α β γ δ : Type} {RR : List Addr → Hp → Hp → α → β → Prop} {RS : List Addr → Hp → Hp → γ → δ → Prop} {ρ ρ1 : List Addr} {Hf H Hf1 H1 : Hp} {Q : β → Hp → Prop} {hp : Hl}
theorem PErr.from {c : Nat} {fs : List (Nat × T)} {h' : Hl} (S1 : Sto G Z ρ1 Hf1 hp H1) (N : Nxt none ρ Hf H ρ1 Hf1 H1) (p : PErr G Z W σ ρ Hf H c fs h') : PErr G Z W σ ρ1 Hf1 H1 c fs h' :=
  fun ρ' Hf' H' d gs N' S' => p ρ' Hf' H' d gs (N.trans S1 N') S'
theorem Post.from {x : R α} (S1 : Sto G Z ρ1 Hf1 hp H1) (N : Nxt none ρ Hf H ρ1 Hf1 H1) (p : Post G Z W σ RR ρ Hf H Q x) : Post G Z W σ RR ρ1 Hf1 H1 Q x := by
  cases x with
  | ok t h' => exact fun ρ' Hf' H' v N' S' => p ρ' Hf' H' v (N.trans S1 N') S'
  | err c fs h' => exact PErr.from S1 N p
  | stuck => exact p
theorem Post.imp {Q' : β → Hp → Prop} {x : R α} (p : Post G Z W σ RR ρ Hf H Q x) (h : ∀ b H', Q b H' → Q' b H') : Post G Z W σ RR ρ Hf H Q' x := by
  cases x with
  | ok t h' => exact fun ρ' Hf' H' v N' S' r => h _ _ (p ρ' Hf' H' v N' S' r)
  | err c fs h' => exact p
  | stuck => exact p
/-- in a row -/
theorem Post.bind {Q : δ → Hp → Prop} {x : R α} {f : α → Hl → R γ} (h : Post G Z W σ RS ρ Hf H Q (x.bind f)) (RR : List Addr → Hp → Hp → α → β → Prop) :
    Post G Z W σ RR ρ Hf H (fun b H' => ∃ a h' ρ' Hf', x = .ok a h' ∧ Nxt none ρ Hf H ρ' Hf' H' ∧ Sto G Z ρ' Hf' h' H' ∧ RR ρ' Hf' H' a b ∧ Post G Z W σ RS ρ' Hf' H' Q (f a h')) x := by
  cases x with
  | ok a h' => exact fun ρ' Hf' H' v N' S' r => ⟨a, h', ρ', Hf', rfl, N', S', r, Post.from S' N' h⟩
  | err c fs h' => exact h
  | stuck => exact h
theorem Post.ret {t : α} {h' : Hl} {v : β} (p : Post G Z W σ RR ρ Hf H Q (.ok t h')) (S : Sto G Z ρ Hf h' H) (r : RR ρ Hf H t v) : Q v H := p ρ Hf H v .refl S r
end

section
variable (P : Prog) (call : Nat → List T → Hl → R T) (G : Gm) (W : L2.WX)
/-- an expression's reading by the interpreter -/
def tE (e : E) : TE := fun σ H Q => ∃ Z ρ Hf lσ hp, Sto G Z ρ Hf hp H ∧ Slots G ρ Hf H lσ σ ∧ Post G Z W σ (RepB G) ρ Hf H Q (evE P call e lσ hp)
def tTe (e : E) : TT := fun σ H Q => ∃ Z ρ Hf lσ hp, Sto G Z ρ Hf hp H ∧ Slots G ρ Hf H lσ σ ∧ Post G Z W σ (fun _ _ _ (a b : Bool) => a = b) ρ Hf H Q (evT P call e lσ hp)
def tEs (es : Es) : TA := fun σ H Q => ∃ Z ρ Hf lσ hp, Sto G Z ρ Hf hp H ∧ Slots G ρ Hf H lσ σ ∧ Post G Z W σ (RepBs G) ρ Hf H Q (evEs P call es lσ hp)
def tO (e : Eo) : L2.TO := fun σ H Q => ∃ Z ρ Hf lσ hp, Sto G Z ρ Hf hp H ∧ Slots G ρ Hf H lσ σ ∧ Post G Z W σ (fun _ _ _ (a b : Option Int) => a = b) ρ Hf H Q (evO P call e lσ hp)
/-- a new list or dict, as it lies -/
def AllocR (G : Gm) (Z : Hp) (ρ : List Addr) (Hf H : Hp) (c : C) (v : Vv) : Prop := ∃ a, v = .ref a ∧ CellR G ρ Hf H a c ∧ Hf a = none ∧ a ∉ ρ ∧ Z a = none ∧ ∀ b gs, c = .ins b gs → False
def tA (a : A) : TE := fun σ H Q => ∃ Z ρ Hf lσ hp, Sto G Z ρ Hf hp H ∧ Slots G ρ Hf H lσ σ ∧ Post G Z W σ (AllocR G Z) ρ Hf H Q (evA P call a lσ hp)
end
end Kb
end
section
set_option Elab.async false
set_option linter.all false
set_option maxRecDepth 100000
set_option maxHeartbeats 4000000
set_option autoImplicit false
/-! Kb2: operations by values. -/
namespace Kb
open PySem L2
theorem maxLen_eq : maxLen = sizeLine := by rw [sizeLine_eq]; rfl
section
variable {G : Gm} {Z : Hp} {W : L2.WX} {σ : L2.St} {ρ : List Addr} {Hf H : Hp} {hp : Hl} {Q : L2.VK}
theorem B_int {i : Int} {v : Vv} (r : RepB G ρ Hf H (.int i) v) : v = .int i := by cases (show Rep G ρ Hf (.int i) v from r); rfl
theorem B_bl {i : Bool} {v : Vv} (r : RepB G ρ Hf H (.bl i) v) : v = .bl i := by cases (show Rep G ρ Hf (.bl i) v from r); rfl
theorem B_str {i : List Nat} {v : Vv} (r : RepB G ρ Hf H (.str i) v) : v = .str (strV i) := by cases (show Rep G ρ Hf (.str i) v from r); rfl
theorem B_non {v : Vv} (r : RepB G ρ Hf H .non v) : v = .non := by cases (show Rep G ρ Hf .non v from r); rfl
theorem B_tup {xs : List T} {v : Vv} (r : RepB G ρ Hf H (.tup xs) v) : ∃ a vs, v = .ref a ∧ SqT G.K Hf a vs ∧ Reps G ρ Hf xs vs := by
  cases (show Rep G ρ Hf (.tup xs) v from r) with
  | tup h q => exact ⟨_, _, rfl, h, q⟩
theorem B_lst {xs : List T} {v : Vv} (r : RepB G ρ Hf H (.lst xs) v) : ∃ a vs, v = .ref a ∧ Hf a = some (.lst vs) ∧ Reps G ρ Hf xs vs := by
  cases (show Rep G ρ Hf (.lst xs) v from r) with
  | lst h q => exact ⟨_, _, rfl, h, q⟩
theorem B_rf {n : Nat} {v : Vv} (r : RepB G ρ Hf H (.rf n) v) : ∃ a, v = .ref a ∧ ρ[n]? = some a := by
  cases (show Rep G ρ Hf (.rf n) v from r) with
  | rf h => exact ⟨_, rfl, h⟩
theorem B_kl {xs : List Int} {v : Vv} (r : RepB G ρ Hf H (.kl xs) v) : ∃ a, v = .ref a ∧ SqL G.K Hf a (xs.map L2.V.int) := by
  cases (show Rep G ρ Hf (.kl xs) v from r) with
  | kl h => exact ⟨_, rfl, h⟩
theorem lst'_at (S : Sto G Z ρ Hf hp H) {t : T} {xs : List T} {v : Vv} (e : lstOf' t hp = some xs) (r : RepB G ρ Hf H t v) : ∃ a vs, v = .ref a ∧ H a = some (.lst vs) ∧ Reps G ρ Hf xs vs := by
  cases t with
  | lst ys =>
    simp only [lstOf', seqOf] at e; cases e
    obtain ⟨a, vs, h1, h2, h3⟩ := B_lst r
    exact ⟨a, vs, h1, S.ex _ _ h2, h3⟩
  | bL ys =>
    simp only [lstOf', seqOf] at e; cases e
    obtain ⟨a, vs, h1, h2, h3, _⟩ := r
    exact ⟨a, vs, h1, h2, h3⟩
  | rf n =>
    obtain ⟨a, h1, h2⟩ := B_rf r
    simp only [lstOf', seqOf] at e
    split at e
    · rename_i ys hn
      cases e
      obtain ⟨⟨vs, h3, h4⟩, _⟩ := S.cell n a _ h2 hn
      exact ⟨a, vs, h1, h3, h4⟩
    · cases e
  | _ => simp [lstOf', seqOf] at e
theorem lst_at (S : Sto G Z ρ Hf hp H) {t : T} {xs : List T} {v : Vv} (e : lstOf t hp = some xs) (r : RepB G ρ Hf H t v) : ∃ a vs, v = .ref a ∧ SqL G.K H a vs ∧ Reps G ρ Hf xs vs := by
  cases t with
  | kl ys =>
    simp only [lstOf, seqOf] at e; cases e
    obtain ⟨a, h1, h2⟩ := B_kl r
    exact ⟨a, _, h1, S.ex.sq h2, reps_ints ys⟩
  | tup ys => simp [lstOf] at e
  | _ =>
    obtain ⟨a, vs, h1, h2, h3⟩ := lst'_at S (by first | exact e | (simp [lstOf, seqOf] at e)) r
    exact ⟨a, vs, h1, SqL.of h2, h3⟩
theorem seq_at (S : Sto G Z ρ Hf hp H) {t : T} {xs : List T} {v : Vv} (e : seqOf t hp = some xs) (r : RepB G ρ Hf H t v) : ∃ a vs, v = .ref a ∧ (SqL G.K H a vs ∨ SqT G.K H a vs) ∧ Reps G ρ Hf xs vs := by
  cases t with
  | tup ys =>
    simp only [seqOf] at e; cases e
    obtain ⟨a, vs, h1, h2, h3⟩ := B_tup r
    exact ⟨a, vs, h1, .inr (S.ex.st h2), h3⟩
  | _ =>
    obtain ⟨a, vs, h1, h2, h3⟩ := lst_at S (by first | exact e | (simp [lstOf, seqOf] at e)) r
    exact ⟨a, vs, h1, .inl h2, h3⟩
theorem ins_at (S : Sto G Z ρ Hf hp H) {t : T} {c : Nat} {fs : List (Nat × T)} {v : Vv} (e : insOf t hp = some (c, fs)) (r : RepB G ρ Hf H t v) : ∃ a dx gs, v = .ref a ∧ H a = some (.ins (G.ca c) dx gs) ∧ RepF G ρ Hf fs gs ∧ G.cok c := by
  cases t with
  | ins c' fs' =>
    simp only [insOf] at e; cases e
    cases (show Rep G ρ Hf (.ins c fs) v from r) with
    | ins k h q => exact ⟨_, _, _, rfl, S.ex _ _ h, q, k⟩
  | bI c' fs' =>
    simp only [insOf] at e; cases e
    obtain ⟨a, dx, gs, h1, h2, h3, _, _, k⟩ := r
    exact ⟨a, dx, gs, h1, h2, h3, k⟩
  | rf n =>
    obtain ⟨a, h1, h2⟩ := B_rf r
    simp only [insOf] at e
    split at e
    · rename_i ys hn
      cases e
      obtain ⟨⟨dx, gs, h3, h4, k⟩, _⟩ := S.cell n a _ h2 hn
      exact ⟨a, dx, gs, h1, h3, h4, k⟩
    · cases e
  | _ => simp [insOf] at e
theorem dct_at (S : Sto G Z ρ Hf hp H) {t : T} {kvs : List (T × T)} {v : Vv} (e : dctOf t hp = some kvs) (r : RepB G ρ Hf H t v) : ∃ a gs, v = .ref a ∧ H a = some (.dK gs) ∧ RepK G ρ Hf kvs gs := by
  cases t with
  | dct ys =>
    simp only [dctOf] at e; cases e
    cases (show Rep G ρ Hf (.dct kvs) v from r) with
    | dct h q => exact ⟨_, _, rfl, S.ex _ _ h, q⟩
  | bD ys =>
    simp only [dctOf] at e; cases e
    obtain ⟨a, gs, h1, h2, h3, _⟩ := r
    exact ⟨a, gs, h1, h2, h3⟩
  | rf n =>
    obtain ⟨a, h1, h2⟩ := B_rf r
    simp only [dctOf] at e
    split at e
    · rename_i ys hn
      cases e
      obtain ⟨⟨gs, h3, h4⟩, _⟩ := S.cell n a _ h2 hn
      exact ⟨a, gs, h1, h3, h4⟩
    · cases e
  | _ => simp [dctOf] at e

/-! ### ways back -/
theorem P_int (S : Sto G Z ρ Hf hp H) {i : Int} (p : Post G Z W σ (RepB G) ρ Hf H Q (.ok (.int i) hp)) : Q (.int i) H := p.ret S (Rep.int i)
theorem P_bl (S : Sto G Z ρ Hf hp H) {i : Bool} (p : Post G Z W σ (RepB G) ρ Hf H Q (.ok (.bl i) hp)) : Q (.bl i) H := p.ret S (Rep.bl i)
theorem P_str (S : Sto G Z ρ Hf hp H) {i : List Nat} (p : Post G Z W σ (RepB G) ρ Hf H Q (.ok (.str i) hp)) : Q (.str (strV i)) H := p.ret S (Rep.str i)
theorem P_lst (S : Sto G Z ρ Hf hp H) {xs : List T} {vs : List Vv} (r : Reps G ρ Hf xs vs) (p : Post G Z W σ (RepB G) ρ Hf H Q (.ok (.lst xs) hp)) : ∀ q, H q = none → Q (.ref q) (upd H q (.lst vs)) := fun q hq =>
  p ρ _ _ (.ref q) (Nxt.new S.ex hq) (S.new hq) (Rep.lst upd_same (r.mono ⟨[], by simp⟩ (Ex.new (S.ex.free0 hq))))
theorem P_tup (S : Sto G Z ρ Hf hp H) {xs : List T} {vs : List Vv} (r : Reps G ρ Hf xs vs) (p : Post G Z W σ (RepB G) ρ Hf H Q (.ok (.tup xs) hp)) : ∀ q, H q = none → Q (.ref q) (upd H q (.tup vs)) := fun q hq =>
  p ρ _ _ (.ref q) (Nxt.new S.ex hq) (S.new hq) (Rep.tup (SqT.of upd_same) (r.mono ⟨[], by simp⟩ (Ex.new (S.ex.free0 hq))))
theorem P_tupS (S : Sto G Z ρ Hf hp H) {xs : List T} {vs : List Vv} {a : Addr} (r : Reps G ρ Hf xs vs) (h : SqT G.K Hf a vs) (p : Post G Z W σ (RepB G) ρ Hf H Q (.ok (.tup xs) hp)) : Q (.ref a) H := p.ret S (Rep.tup h r)
/-- a value that stood already -/
theorem P_rep (S : Sto G Z ρ Hf hp H) {t : T} {v : Vv} (r : Rep G ρ Hf t v) (p : Post G Z W σ (RepB G) ρ Hf H Q (.ok t hp)) : Q v H := p.ret S r.toB
end

/-- two values, their operation's end -/
def rV (G : Gm) (f : T → T → Hl → R T) : R2 := fun v u H Q => ∃ Z W σ ρ Hf hp x y, Sto G Z ρ Hf hp H ∧ RepB G ρ Hf H x v ∧ RepB G ρ Hf H y u ∧ Post G Z W σ (RepB G) ρ Hf H Q (f x y hp)

section
variable {X : Cx} {G : Gm}
theorem strV_app (a b : List Nat) : strV (a ++ b) = strV a ++ strV b := by
  show (⟨(a ++ b).toArray⟩ : Str) = ⟨a.toArray ++ b.toArray⟩
  simp
theorem op_addT (hK : X.K = G.K) : OpR X (binaryOp .Add) (rV G addT) := by
  intro pins s σ H v u vv uu Q I rv ru h
  obtain ⟨Z, W, σ', ρ, Hf, hp, x, y, S, rx, ry, h⟩ := h
  unfold addT at h
  split at h
  · obtain rfl := B_int rx; obtain rfl := B_int ry
    exact op_add pins s σ H _ _ vv uu Q I rv ru ⟨_, _, rfl, rfl, P_int S h⟩
  · obtain rfl := B_str rx; obtain rfl := B_str ry
    split at h
    · rename_i hl
      exact op_add_str pins s σ H _ _ vv uu Q I rv ru ⟨_, _, rfl, rfl, by rw [strV_len, strV_len, ← maxLen_eq]; exact hl, by rw [← strV_app]; exact P_str S h⟩
    · exact h.elim
  · obtain ⟨a, vs, rfl, h1, r1⟩ := B_tup rx
    obtain ⟨b, ws, rfl, h2, r2⟩ := B_tup ry
    split at h
    · rename_i hl
      refine op_catA pins s σ H _ _ vv uu Q I rv ru ⟨a, b, vs, ws, rfl, rfl, by rw [hK]; exact S.ex.st h1, by rw [hK]; exact S.ex.st h2, by rw [← r1.length, ← r2.length, ← maxLen_eq]; exact hl, fun e => ?_, fun _ e => ?_, fun _ _ => P_tup S (r1.append r2) h⟩
      · subst e; cases r1; exact P_tupS S r2 h2 h
      · subst e; cases r2; rw [List.append_nil] at h; exact P_tupS S r1 h1 h
    · exact h.elim
  · split at h
    · rename_i a b ea eb
      split at h
      · rename_i hl
        obtain ⟨p, vs, rfl, h1, r1⟩ := lst'_at S ea rx
        obtain ⟨q, ws, rfl, h2, r2⟩ := lst'_at S eb ry
        exact op_cat pins s σ H _ _ vv uu Q I rv ru ⟨p, q, vs, ws, rfl, rfl, h1, h2, by rw [← r1.length, ← r2.length, ← maxLen_eq]; exact hl, P_lst S (r1.append r2) h⟩
      · exact h.elim
    · exact h.elim
theorem op_intT (o : BOp) (op : Operator) (ho : (o, op) ∈ [(BOp.sub, Operator.Sub), (.fdiv, .FloorDiv), (.mod, .Mod), (.pow, .Pow), (.shl, .LShift), (.shr, .RShift), (.band, .BitAnd)]) :
    OpR X (binaryOp op) (rV G fun x y h => match x, y with | .int i, .int j => intT o i j h | _, _ => .stuck) := by
  intro pins s σ H v u vv uu Q I rv ru h
  obtain ⟨Z, W, σ', ρ, Hf, hp, x, y, S, rx, ry, h⟩ := h
  dsimp only at h
  split at h
  case h_2 => exact h.elim
  rename_i i j
  obtain rfl := B_int rx; obtain rfl := B_int ry
  simp only [List.mem_cons, Prod.mk.injEq, List.not_mem_nil, or_false] at ho
  rcases ho with ⟨rfl, rfl⟩ | ⟨rfl, rfl⟩ | ⟨rfl, rfl⟩ | ⟨rfl, rfl⟩ | ⟨rfl, rfl⟩ | ⟨rfl, rfl⟩ | ⟨rfl, rfl⟩
  · exact op_sub pins s σ H _ _ vv uu Q I rv ru ⟨_, _, rfl, rfl, P_int S h⟩
  · simp only [intT] at h
    split at h
    · rename_i c
      simp only [divOk, Bool.and_eq_true, decide_eq_true_eq] at c
      have q := P_int S h
      obtain ⟨t, rfl⟩ := rv
      obtain ⟨t', rfl⟩ := ru
      refine PyProof.Rows.floordiv_int c.1 ⟨.int _, H, I.tok _, ⟨_, rfl⟩, ?_⟩ (.inl (PyProof.noPylong_of_log2 c.2))
      unfold fdivI at q
      split at q
      · rw [Int.fdiv_eq_ediv_of_nonneg i (by omega)]; exact q
      · exact q
    · exact h.elim
  · simp only [intT] at h
    split at h
    · rename_i c
      simp only [decide_eq_true_eq] at c
      have q := P_int S h
      refine op_modN pins s σ H _ _ vv uu Q I rv ru ⟨_, _, rfl, rfl, c, ?_⟩
      unfold fmodI at q
      split at q
      · show Q (.int (i.fmod j)) H
        rw [Int.fmod_eq_emod_of_nonneg i (by omega)]; exact q
      · exact q
    · exact h.elim
  · simp only [intT] at h
    split at h
    · rename_i c
      simp only [powOk, Bool.and_eq_true, decide_eq_true_eq] at c
      exact op_pow pins s σ H _ _ vv uu Q I rv ru ⟨_, _, rfl, rfl, ⟨c.1.1, by omega, c.2⟩, P_int S h⟩
    · exact h.elim
  · simp only [intT] at h
    split at h
    · rename_i c
      simp only [shlOk, Bool.and_eq_true, decide_eq_true_eq] at c
      refine op_shlW pins s σ H _ _ vv uu Q I rv ru ⟨_, _, rfl, rfl, ⟨c.1.1, ?_⟩, P_int S h⟩
      have : Builtin.Int.intBits i ≤ i.natAbs.log2 + 1 := by
        unfold Builtin.Int.intBits
        split <;> omega
      omega
    · exact h.elim
  · simp only [intT] at h
    split at h
    · rename_i c
      simp only [decide_eq_true_eq] at c
      exact op_shr pins s σ H _ _ vv uu Q I rv ru ⟨_, _, rfl, rfl, c, P_int S h⟩
    · exact h.elim
  · simp only [intT] at h
    split at h
    · rename_i c
      simp only [Bool.and_eq_true, decide_eq_true_eq] at c
      refine op_and pins s σ H _ _ vv uu Q I rv ru ⟨_, _, rfl, rfl, ?_⟩
      show Q (.int (Builtin.bitAnd i j)) H
      rw [show Builtin.bitAnd i j = ((i.toNat &&& j.toNat : Nat) : Int) from by simp [Builtin.bitAnd, c.1, c.2]]
      exact P_int S h
    · exact h.elim
theorem foldA (x : List Nat) : ∀ (k : Nat) (acc : List Nat), (List.replicate k x.toArray).foldl (· ++ ·) acc.toArray = (acc ++ (List.replicate k x).flatten).toArray := by
  intro k
  induction k with
  | zero => intro acc; simp
  | succ k ih =>
    intro acc
    rw [List.replicate_succ, List.foldl_cons, List.replicate_succ, List.flatten_cons]
    have e : acc.toArray ++ x.toArray = (acc ++ x).toArray := by simp
    rw [e, ih, List.append_assoc]
theorem op_repS : OpR X (binaryOp .Mult) (fun v u H Q => ∃ (s : List Nat) (j : Int), v = .str (strV s) ∧ u = .int j ∧ s.length * j.toNat ≤ maxLen ∧ -9223372036854775808 ≤ j ∧ j < 9223372036854775808 ∧ Q (.str (strV (List.replicate j.toNat s).flatten)) H) := by
  intro pins s σ H v u vv uu Q I rv ru h
  obtain ⟨a, j, rfl, rfl, hl, h1, h2, q⟩ := h
  obtain ⟨t, rfl⟩ := rv
  obtain ⟨t', rfl⟩ := ru
  have hl' : a.length * j.toNat ≤ 16777216 := hl
  refine PySem.P.mul_str (by rw [decide_eq_false (by omega), decide_eq_false (by omega)]; rfl) (fun hn hz => ?_) (fun hn hz => ?_) ?_
  · rw [strV_len]
    have hz' : a.length ≠ 0 := by
      rw [strV_len] at hz
      intro e; rw [e] at hz; simp at hz
    intro hc
    have h3 : (a.length : Int) * j ≤ 16777216 := by
      have : ((a.length * j.toNat : Nat) : Int) ≤ 16777216 := by omega
      rw [Int.natCast_mul, Int.toNat_of_nonneg (by omega)] at this
      exact this
    have h4 : (2 ^ 63 - 1) / j < (a.length : Int) := hc
    have h5 := Int.lt_mul_of_ediv_lt (by omega : 0 < j) h4
    omega
  · rw [strV_len]
    unfold Builtin.Str.tooLong
    first
      | (rw [decide_eq_false]; have := sizeLine_eq; omega)
      | (simp; have := sizeLine_eq; omega)
  · by_cases c1 : j < 1
    · rw [if_pos c1]
      have e : j.toNat = 0 := by omega
      rw [e] at q
      refine ⟨by decide, ?_⟩
      exact ⟨.str (strV []), H, I.tok _, ⟨_, rfl⟩, q⟩
    · rw [if_neg c1]
      by_cases c2 : (j == 1 || (strV a).length == 0) = true
      · rw [if_pos c2]
        have e : (List.replicate j.toNat a).flatten = a := by
          simp only [Bool.or_eq_true, beq_iff_eq] at c2
          rcases c2 with c2 | c2
          · rw [c2]; simp
          · rw [strV_len] at c2
            have : a = [] := List.eq_nil_of_length_eq_zero c2
            rw [this]; simp
        rw [e] at q
        exact ⟨.str (strV a), H, I, ⟨_, rfl⟩, q⟩
      · rw [if_neg c2]
        have e : (List.replicate j.toNat (strV a).cps).foldl (fun x1 x2 => x1 ++ x2) #[] = ((List.replicate j.toNat a).flatten).toArray := by
          have := foldA a j.toNat []
          simpa [strV] using this
        refine ⟨?_, ?_⟩
        · rw [show (⟨(List.replicate j.toNat (strV a).cps).foldl (fun x1 x2 => x1 ++ x2) #[]⟩ : Str) = strV (List.replicate j.toNat a).flatten from by rw [e]; rfl]
          rw [strV_len, PyProof.Rows.lm_len_rep_flat]
          have := sizeLine_eq
          rw [Nat.mul_comm] at hl'
          omega
        · rw [e]
          exact ⟨.str (strV (List.replicate j.toNat a).flatten), H, I.tok _, ⟨_, rfl⟩, q⟩

/-- a tuple times 0, 1, or more -/
theorem op_mulT (hK : X.K = G.K) : OpR X (binaryOp .Mult) (rV G mulT) := by
  intro pins s σ H v u vv uu Q I rv ru h
  obtain ⟨Z, W, σ', ρ, Hf, hp, x, y, S, rx, ry, h⟩ := h
  unfold mulT at h
  split at h
  case h_2 => exact h.elim
  rename_i j
  obtain rfl := B_int ry
  split at h
  · obtain rfl := B_int rx
    split at h
    · rename_i i c
      simp only [mulOk, decide_eq_true_eq] at c
      exact op_mulW pins s σ H _ _ vv uu Q I rv ru ⟨_, _, rfl, rfl, c, P_int S h⟩
    · exact h.elim
  · obtain rfl := B_str rx
    split at h
    · rename_i a c
      simp only [repOk, Bool.and_eq_true, decide_eq_true_eq] at c
      exact op_repS pins s σ H _ _ vv uu Q I rv ru ⟨_, _, rfl, rfl, c.1, by omega, by omega, P_str S h⟩
    · exact h.elim
  · obtain ⟨a, vs, rfl, h1, r1⟩ := B_tup rx
    split at h
    · rename_i xs c
      simp only [Bool.and_eq_true, decide_eq_true_eq] at c
      refine op_repT pins s σ H _ _ vv uu Q I rv ru ⟨a, j, vs, rfl, rfl, by rw [hK]; exact S.ex.st h1, ?_, c.2.1.2, c.2.2, by rw [← r1.length]; exact c.1, P_tup S (r1.rep _) h⟩
      intro e
      subst e
      cases r1
      simp at c
    · exact h.elim
  · split at h
    · rename_i a ea
      split at h
      · rename_i c
        simp only [repOk, Bool.and_eq_true, decide_eq_true_eq] at c
        obtain ⟨p, vs, rfl, h1, r1⟩ := lst'_at S ea rx
        exact op_rep pins s σ H _ _ vv uu Q I rv ru ⟨p, j, vs, rfl, rfl, h1, by omega, by omega, by rw [← r1.length, ← maxLen_eq]; exact c.1, P_lst S (r1.rep _) h⟩
      · exact h.elim
    · exact h.elim
theorem opO : ∀ o : BOp, ∃ op : Operator, True := fun _ => ⟨.Add, trivial⟩
/-- the operator's name -/
def opN : BOp → Operator
  | .add => .Add | .sub => .Sub | .mul => .Mult | .fdiv => .FloorDiv | .mod => .Mod | .pow => .Pow | .shl => .LShift | .shr => .RShift | .band => .BitAnd
theorem OpR.imp {f : Value → Value → Sem Value} {r r' : R2} (h : OpR X f r) (hr : ∀ x y H Q, r' x y H Q → r x y H Q) : OpR X f r' := fun pins s σ H x y v u Q I rx ry q => h pins s σ H x y v u Q I rx ry (hr x y H Q q)
theorem op_binT (hK : X.K = G.K) (o : BOp) : OpR X (binaryOp (opN o)) (rV G (binT o)) := by
  cases o with
  | add => exact op_addT hK
  | mul => exact op_mulT hK
  | sub => exact op_intT .sub .Sub (by simp)
  | fdiv => exact op_intT .fdiv .FloorDiv (by simp)
  | mod => exact op_intT .mod .Mod (by simp)
  | pow => exact op_intT .pow .Pow (by simp)
  | shl => exact op_intT .shl .LShift (by simp)
  | shr => exact op_intT .shr .RShift (by simp)
  | band => exact op_intT .band .BitAnd (by simp)

/-! ### data -/
mutual
def toPy : D → PyData
  | .non => .none | .bl b => .bool b | .int i => .int i | .str s => .str (strV s) | .lst xs => .list (toPys xs) | .tup xs => .tuple (toPys xs)
def toPys : List D → List PyData
  | [] => []
  | x :: xs => toPy x :: toPys xs
end
mutual
theorem eqD_py : ∀ d e : D, PyData.eqv (toPy d) (toPy e) = eqD d e
  | .non, e => by cases e <;> simp [toPy, PyData.eqv, eqD]
  | .bl a, e => by cases e <;> simp [toPy, PyData.eqv, eqD]
  | .int a, e => by cases e <;> simp [toPy, PyData.eqv, eqD]
  | .str a, e => by
    cases e with
    | str b =>
      simp only [toPy, PyData.eqv, eqD]
      rw [Bool.eq_iff_iff]
      simp only [beq_iff_eq]
      exact ⟨strV_inj, fun e => by rw [e]⟩
    | _ => simp [toPy, PyData.eqv, eqD]
  | .lst xs, e => by
    cases e with
    | lst ys => simp only [toPy, PyData.eqv, eqD]; exact eqDs_py xs ys
    | _ => simp [toPy, PyData.eqv, eqD]
  | .tup xs, e => by
    cases e with
    | tup ys => simp only [toPy, PyData.eqv, eqD]; exact eqDs_py xs ys
    | _ => simp [toPy, PyData.eqv, eqD]
theorem eqDs_py : ∀ d e : List D, PyData.eqvAll (toPys d) (toPys e) = eqDs d e
  | [], [] => by simp [toPys, PyData.eqvAll, eqDs]
  | [], _ :: _ => by simp [toPys, PyData.eqvAll, eqDs]
  | _ :: _, [] => by simp [toPys, PyData.eqvAll, eqDs]
  | x :: xs, y :: ys => by
    simp only [toPys, PyData.eqvAll, eqDs]
    rw [eqD_py x y, eqDs_py xs ys]
end
theorem toPys_ints (xs : List Int) : toPys (xs.map D.int) = xs.map PyData.int := by
  induction xs with
  | nil => rfl
  | cons a r ih => rw [List.map_cons, List.map_cons, toPys, toPy, ih]
theorem dpAll_ints {K : PySem.W.Frag} {H : Hp} (xs : List Int) : DpAll K H (xs.map L2.V.int) (xs.map PyData.int) := by
  induction xs with
  | nil => exact .nil
  | cons a r ih => exact .cons (.int a) ih
theorem lay_ints (xs : List Int) : PyData.canLayAll0 (xs.map PyData.int) = true ∧ PyData.depthAll (xs.map PyData.int) = 0 := by
  induction xs with
  | nil => exact ⟨rfl, rfl⟩
  | cons a r ih =>
    refine ⟨?_, ?_⟩
    · simp only [List.map_cons, PyData.canLayAll0, PyData.canLay0, ih.1, Bool.and_self]
    · simp only [List.map_cons, PyData.depthAll, PyData.depth, ih.2, Nat.max_self]
def Dok (n : Nat) (d : D) : Prop := PyData.canLay0 (toPy d) = true ∧ PyData.depth (toPy d) ≤ n
def Doks (n : Nat) (ds : List D) : Prop := PyData.canLayAll0 (toPys ds) = true ∧ PyData.depthAll (toPys ds) ≤ n
theorem datS_at {Z : Hp} {ρ : List Addr} {Hf H : Hp} {s : List Nat} {n : Nat} {d : D} {v : Vv} (e : datS s = some d) (r : RepB G ρ Hf H (.str s) v) : Dp G.K H v (toPy d) ∧ Dok n d := by
  unfold datS at e
  split at e
  · rename_i c
    cases e
    obtain rfl := B_str r
    refine ⟨.str _, ?_, Nat.zero_le _⟩
    show PyData.strOk (strV s) = true
    unfold PyData.strOk strV
    simp only [List.all_eq_true, decide_eq_true_eq] at c
    simp only [List.all_toArray, List.all_eq_true, decide_eq_true_eq]
    exact c
  · cases e
theorem mapO_at {f : T → Option D} {n : Nat} {ρ : List Addr} {Hf H : Hp} (hf : ∀ t d v, f t = some d → RepB G ρ Hf H t v → Dp G.K H v (toPy d) ∧ Dok n d) : ∀ (ts : List T) (ds : List D) (vs : List Vv), mapO f ts = some ds → Reps G ρ Hf ts vs → DpAll G.K H vs (toPys ds) ∧ Doks n ds
  | [], ds, vs, e, r => by
    simp only [mapO] at e
    cases e; cases r
    exact ⟨.nil, rfl, Nat.zero_le _⟩
  | t :: ts, ds, vs, e, r => by
    simp only [mapO] at e
    split at e
    · rename_i d e1
      split at e
      · rename_i ds' e2
        cases e
        cases r with
        | cons h q =>
          obtain ⟨a1, a2, a3⟩ := hf t d _ e1 h.toB
          obtain ⟨b1, b2, b3⟩ := mapO_at hf ts ds' _ e2 q
          refine ⟨.cons a1 b1, ?_, ?_⟩
          · simp only [toPys, PyData.canLayAll0, a2, b2, Bool.and_self]
          · simp only [toPys, PyData.depthAll]; exact Nat.max_le.mpr ⟨a3, b3⟩
      · cases e
    · cases e
theorem dat_at {Z : Hp} {ρ : List Addr} {Hf H : Hp} {hp : Hl} (S : Sto G Z ρ Hf hp H) : ∀ (n : Nat) (t : T) (d : D) (v : Vv), dat hp n t = some d → RepB G ρ Hf H t v → Dp G.K H v (toPy d) ∧ Dok n d := by
  intro n
  induction n with
  | zero =>
    intro t d v e r
    cases t <;> simp only [dat] at e
    case non => cases e; obtain rfl := B_non r; exact ⟨.non, rfl, Nat.zero_le _⟩
    case bl => cases e; obtain rfl := B_bl r; exact ⟨.bl _, rfl, Nat.zero_le _⟩
    case int => cases e; obtain rfl := B_int r; exact ⟨.int _, rfl, Nat.zero_le _⟩
    case str => exact datS_at (Z := Z) e r
    all_goals cases e
  | succ n ih =>
    intro t d v e r
    cases t <;> simp only [dat] at e
    case non => cases e; obtain rfl := B_non r; exact ⟨.non, rfl, Nat.zero_le _⟩
    case bl => cases e; obtain rfl := B_bl r; exact ⟨.bl _, rfl, Nat.zero_le _⟩
    case int => cases e; obtain rfl := B_int r; exact ⟨.int _, rfl, Nat.zero_le _⟩
    case str => exact datS_at (Z := Z) e r
    case lst xs =>
      simp only [Option.map_eq_some_iff] at e
      obtain ⟨ds, e1, rfl⟩ := e
      obtain ⟨a, vs, rfl, h1, r1⟩ := B_lst r
      obtain ⟨h2, h3, h4⟩ := mapO_at ih xs ds vs e1 r1
      exact ⟨.lst (SqL.of (S.ex _ _ h1)) h2, h3, Nat.succ_le_succ h4⟩
    case tup xs =>
      simp only [Option.map_eq_some_iff] at e
      obtain ⟨ds, e1, rfl⟩ := e
      obtain ⟨a, vs, rfl, h1, r1⟩ := B_tup r
      obtain ⟨h2, h3, h4⟩ := mapO_at ih xs ds vs e1 r1
      exact ⟨.tup (S.ex.st h1) h2, h3, Nat.succ_le_succ h4⟩
    case bL xs =>
      simp only [Option.map_eq_some_iff] at e
      obtain ⟨ds, e1, rfl⟩ := e
      obtain ⟨a, vs, rfl, h1, r1, _⟩ := r
      obtain ⟨h2, h3, h4⟩ := mapO_at ih xs ds vs e1 r1
      exact ⟨.lst (SqL.of h1) h2, h3, Nat.succ_le_succ h4⟩
    case rf k =>
      split at e
      · rename_i xs hk
        simp only [Option.map_eq_some_iff] at e
        obtain ⟨ds, e1, rfl⟩ := e
        obtain ⟨a, rfl, ha⟩ := B_rf r
        obtain ⟨⟨vs, h1, r1⟩, _⟩ := S.cell k a _ ha hk
        obtain ⟨h2, h3, h4⟩ := mapO_at ih xs ds vs e1 r1
        exact ⟨.lst (SqL.of h1) h2, h3, Nat.succ_le_succ h4⟩
      · cases e
    case kl xs =>
      cases e
      obtain ⟨a, rfl, h1⟩ := B_kl r
      refine ⟨?_, ?_, ?_⟩
      · show Dp G.K H (.ref a) (.list (toPys (xs.map D.int)))
        rw [toPys_ints]
        exact .lst (S.ex.sq h1) (dpAll_ints xs)
      · show PyData.canLayAll0 (toPys (xs.map D.int)) = true
        rw [toPys_ints]; exact (lay_ints xs).1
      · show PyData.depthAll (toPys (xs.map D.int)) + 1 ≤ n + 1
        rw [toPys_ints, (lay_ints xs).2]; omega
    all_goals cases e
theorem shaped_ok {n : Nat} {d : D} (h : Dok n d) (hn : n ≤ 64) : SeqAt.shaped (toPy d) = true := by
  unfold SeqAt.shaped
  rw [h.1, decide_eq_true (Nat.le_trans h.2 hn)]; rfl
theorem op_eqT (hK : X.K = G.K) (hu : X.A.units + 64 < cLine) : OpR X (compareOp .Eq) (rV G fun x y h => oR (eqT h x y) h) := by
  intro pins s σ H v u vv uu Q I rv ru h
  obtain ⟨Z, W, σ', ρ, Hf, hp, x, y, S, rx, ry, h⟩ := h
  dsimp only at h
  unfold eqT at h
  split at h
  · rename_i d e h1 h2
    obtain ⟨a1, a2⟩ := dat_at S 60 x d v h1 rx
    obtain ⟨b1, b2⟩ := dat_at S 60 y e u h2 ry
    refine op_eqD hu pins s σ H _ _ vv uu Q I rv ru ⟨_, _, by rw [hK]; exact a1, by rw [hK]; exact b1, shaped_ok a2 (by decide), shaped_ok b2 (by decide), ?_⟩
    rw [eqD_py]
    exact P_bl S h
  · exact h.elim
theorem op_neT (hK : X.K = G.K) (hu : X.A.units + 64 < cLine) : OpR X (compareOp .NotEq) (rV G fun x y h => oR ((eqT h x y).map (!·)) h) := by
  intro pins s σ H v u vv uu Q I rv ru h
  obtain ⟨Z, W, σ', ρ, Hf, hp, x, y, S, rx, ry, h⟩ := h
  dsimp only at h
  unfold eqT at h
  split at h
  · rename_i d e h1 h2
    obtain ⟨a1, a2⟩ := dat_at S 60 x d v h1 rx
    obtain ⟨b1, b2⟩ := dat_at S 60 y e u h2 ry
    refine op_neD hu pins s σ H _ _ vv uu Q I rv ru ⟨_, _, by rw [hK]; exact a1, by rw [hK]; exact b1, shaped_ok a2 (by decide), shaped_ok b2 (by decide), ?_⟩
    rw [eqD_py]
    exact P_bl S h
  · exact h.elim
end
end Kb
end
section
set_option Elab.async false
set_option linter.all false
set_option maxRecDepth 100000
set_option maxHeartbeats 4000000
set_option autoImplicit false
/-! Kb3: comparisons, subscripts, slices, fields, truth, built-ins by values. -/
namespace Kb
open PySem PySem.Spec PyProof.Rows L2
section
variable {X : Cx} {G : Gm}
/-! ### is, <, in -/
theorem op_icmp (hK : X.K = G.K) (o : COp) (op : CmpOp) (ho : (o, op) ∈ [(COp.lt, CmpOp.Lt), (.le, .LtE), (.gt, .Gt), (.ge, .GtE)]) :
    OpR X (compareOp op) (rV G fun x y h => match x, y with | .int i, .int j => oR (icmp o i j) h | _, _ => .stuck) := by
  intro pins s σ H v u vv uu Q I rv ru h
  obtain ⟨Z, W, σ', ρ, Hf, hp, x, y, S, rx, ry, h⟩ := h
  dsimp only at h
  split at h
  case h_2 => exact h.elim
  rename_i i j
  obtain rfl := B_int rx; obtain rfl := B_int ry
  simp only [List.mem_cons, Prod.mk.injEq, List.not_mem_nil, or_false] at ho
  rcases ho with ⟨rfl, rfl⟩ | ⟨rfl, rfl⟩ | ⟨rfl, rfl⟩ | ⟨rfl, rfl⟩
  · exact op_lt pins s σ H _ _ vv uu Q I rv ru ⟨_, _, rfl, rfl, P_bl S h⟩
  · exact op_le pins s σ H _ _ vv uu Q I rv ru ⟨_, _, rfl, rfl, P_bl S h⟩
  · exact op_gt pins s σ H _ _ vv uu Q I rv ru ⟨_, _, rfl, rfl, P_bl S h⟩
  · exact op_ge pins s σ H _ _ vv uu Q I rv ru ⟨_, _, rfl, rfl, P_bl S h⟩
theorem ref_of {ρ : List Addr} {Hf H : Hp} {t : T} {v : Vv} (r : RepB G ρ Hf H t v) : (∃ a, v = .ref a) ∨ t = .non ∨ (∃ b, t = .bl b) ∨ (∃ b, t = .int b) ∨ ∃ b, t = .str b := by
  cases t with
  | non => exact .inr (.inl rfl)
  | bl b => exact .inr (.inr (.inl ⟨b, rfl⟩))
  | int b => exact .inr (.inr (.inr (.inl ⟨b, rfl⟩)))
  | str b => exact .inr (.inr (.inr (.inr ⟨b, rfl⟩)))
  | bL xs => obtain ⟨a, _, h, _⟩ := r; exact .inl ⟨a, h⟩
  | bD xs => obtain ⟨a, _, h, _⟩ := r; exact .inl ⟨a, h⟩
  | bI c xs => obtain ⟨a, _, _, h, _⟩ := r; exact .inl ⟨a, h⟩
  | _ =>
    cases (show Rep G ρ Hf _ v from r)
    all_goals exact .inl ⟨_, rfl⟩
theorem isNon_at {ρ : List Addr} {Hf H : Hp} {t : T} {v : Vv} (r : RepB G ρ Hf H t v) : decide (v = .non) = isNon t := by
  rcases ref_of r with ⟨a, rfl⟩ | rfl | ⟨b, rfl⟩ | ⟨b, rfl⟩ | ⟨b, rfl⟩
  · have e : isNon t = false := by
      cases t <;> first | rfl | (cases B_non r)
    rw [e]; rfl
  · obtain rfl := B_non r; rfl
  · obtain rfl := B_bl r; rfl
  · obtain rfl := B_int r; rfl
  · obtain rfl := B_str r; rfl
theorem relV_nb {v : Vv} {u : Value} (r : RelV v u) (id : String) : u ≠ .builtin id := by
  cases v <;> first
    | (cases r; intro z; cases z; done)
    | (obtain ⟨t, rfl⟩ := r; intro z; cases z; done)
theorem is_bool_gen {M : Model} {A : Around} {E : Value → Shared → Prop} {s : Shared} {Q : Value → Shared → Prop} {v : Value} {d : Bool} (hb : ∀ id, v ≠ .builtin id) (h : Q (.bool (v == .bool d)) s) : wpAny M A (compareOp .Is v (.bool d)) Q E s := by
  cases v <;> first | exact wpAny_pure h | exact absurd rfl (hb _)
theorem isnot_bool_gen {M : Model} {A : Around} {E : Value → Shared → Prop} {s : Shared} {Q : Value → Shared → Prop} {v : Value} {d : Bool} (hb : ∀ id, v ≠ .builtin id) (h : Q (.bool (!(v == .bool d))) s) : wpAny M A (compareOp .IsNot v (.bool d)) Q E s := by
  cases v <;> first | exact wpAny_pure h | exact absurd rfl (hb _)
theorem isBl_at {ρ : List Addr} {Hf H : Hp} {t : T} {v : Vv} {b : Bool} {vv : Value} (r : RepB G ρ Hf H t v) (rv : RelV v vv) : (vv == Value.bool b) = isBlv b t := by
  rcases ref_of r with ⟨a, rfl⟩ | rfl | ⟨c, rfl⟩ | ⟨c, rfl⟩ | ⟨c, rfl⟩
  · have e : isBlv b t = false := by
      cases t <;> first | rfl | (cases B_bl r)
    cases rv
    rw [e]; rfl
  · obtain rfl := B_non r; cases rv; rfl
  · obtain rfl := B_bl r; cases rv
    show (Value.bool c == Value.bool b) = (c == b)
    cases c <;> cases b <;> rfl
  · obtain rfl := B_int r; obtain ⟨t, rfl⟩ := rv; rfl
  · obtain rfl := B_str r; obtain ⟨t, rfl⟩ := rv; rfl
theorem op_isT (hK : X.K = G.K) : OpR X (compareOp .Is) (rV G fun x y h => oR (isT x y) h) := by
  intro pins s σ H v u vv uu Q I rv ru h
  obtain ⟨Z, W, σ', ρ, Hf, hp, x, y, S, rx, ry, h⟩ := h
  dsimp only at h
  unfold isT at h
  split at h
  · exact h.elim
  · split at h
    · obtain rfl := B_non ry
      exact op_isN pins s σ H _ _ vv uu Q I rv ru ⟨rfl, by rw [isNon_at rx]; exact P_bl S h⟩
    · obtain rfl := B_bl ry
      cases ru
      refine is_bool_gen (relV_nb rv) ?_
      rw [isBl_at rx rv]
      exact ⟨.bl _, H, I, rfl, P_bl S h⟩
    · exact h.elim
theorem op_isNotT (hK : X.K = G.K) : OpR X (compareOp .IsNot) (rV G fun x y h => oR ((isT x y).map (!·)) h) := by
  intro pins s σ H v u vv uu Q I rv ru h
  obtain ⟨Z, W, σ', ρ, Hf, hp, x, y, S, rx, ry, h⟩ := h
  dsimp only at h
  unfold isT at h
  split at h
  · exact h.elim
  · split at h
    · obtain rfl := B_non ry
      exact op_notN pins s σ H _ _ vv uu Q I rv ru ⟨rfl, by rw [isNon_at rx]; exact P_bl S h⟩
    · obtain rfl := B_bl ry
      cases ru
      refine isnot_bool_gen (relV_nb rv) ?_
      rw [isBl_at rx rv]
      exact ⟨.bl _, H, I, rfl, P_bl S h⟩
    · exact h.elim

/-! ### in -/
theorem B_flat {ρ : List Addr} {Hf H : Hp} {t : T} {v : Vv} (f : flatT t = true) (r : RepB G ρ Hf H t v) : flatV v = true := by
  cases t <;> first
    | (obtain rfl := B_non r; rfl)
    | (obtain rfl := B_bl r; rfl)
    | (obtain rfl := B_int r; rfl)
    | (obtain rfl := B_str r; rfl)
    | (simp [flatT] at f)
theorem eqF_V {ρ : List Addr} {Hf H : Hp} {t u : T} {v w : Vv} (f : flatT t = true) (g : flatT u = true) (r : RepB G ρ Hf H t v) (q : RepB G ρ Hf H u w) : eqV v w = eqF t u := by
  cases t <;> first
    | (obtain rfl := B_non r)
    | (obtain rfl := B_bl r)
    | (obtain rfl := B_int r)
    | (obtain rfl := B_str r)
    | (simp [flatT] at f)
  all_goals cases u <;> first
    | (obtain rfl := B_non q; rfl)
    | (obtain rfl := B_bl q; rfl)
    | (obtain rfl := B_int q; rfl)
    | (obtain rfl := B_str q; first | rfl | (simp only [eqV, eqF]; rw [Bool.eq_iff_iff]; simp only [beq_iff_eq]; exact ⟨strV_inj, fun e => by rw [e]⟩))
    | (simp [flatT] at g)
theorem inF_V {ρ : List Addr} {Hf H : Hp} {x : T} {v : Vv} (f : flatT x = true) (r : RepB G ρ Hf H x v) : ∀ {xs : List T} {vs : List Vv}, xs.all flatT = true → Reps G ρ Hf xs vs → inV v vs = inF x xs ∧ vs.all flatV = true := by
  intro xs
  induction xs with
  | nil => intro vs _ q; cases q; exact ⟨rfl, rfl⟩
  | cons t ts ih =>
    intro vs g q
    cases q with
    | @cons _ w _ vs h q =>
      simp only [List.all_cons, Bool.and_eq_true] at g
      obtain ⟨i1, i2⟩ := ih g.2 q
      refine ⟨?_, ?_⟩
      · show (eqV w v || inV v vs) = (eqF t x || inF x ts)
        rw [i1, eqF_V g.1 f h.toB r]
      · simp only [List.all_cons, i2, Bool.and_true]
        exact B_flat g.1 (H := H) h.toB
theorem key_kV {ρ : List Addr} {Hf H : Hp} {t : T} {v : Vv} (f : keyT t = true) (r : RepB G ρ Hf H t v) : ∃ k : L2.Key, v = kV k ∧ ∀ kvs gs, RepK G ρ Hf kvs gs → ((kvs.any fun p => eqF p.1 t) = (valV gs k).isSome) ∧ (∀ u, fndK t kvs = some u → ∃ w, valV gs k = some w ∧ Rep G ρ Hf u w) ∧ (fndK t kvs = none → valV gs k = none) := by
  cases t with
  | int i =>
    obtain rfl := B_int r
    refine ⟨Sum.inl i, rfl, ?_⟩
    intro kvs
    induction kvs with
    | nil => intro gs q; cases q; exact ⟨rfl, fun u e => by simp [fndK] at e, fun _ => rfl⟩
    | cons p ps ih =>
      intro gs q
      cases q with
      | @consI j u w ts vs h q =>
        obtain ⟨a1, a2, a3⟩ := ih _ q
        by_cases e : j = i
        · subst e
          have hf : eqF (.int j) (.int j) = true := by simp [eqF]
          rw [valV_pos (p := ((Sum.inl j : L2.Key), w)) rfl]
          refine ⟨by simp [hf], fun z ez => ?_, fun z => ?_⟩
          · simp only [fndK, List.find?_cons, hf, Option.map_some, Option.some.injEq] at ez
            subst ez; exact ⟨w, rfl, h⟩
          · simp [fndK, List.find?_cons, hf] at z
        · have hf : eqF (.int j) (.int i) = false := by simpa [eqF] using e
          rw [valV_neg (p := ((Sum.inl j : L2.Key), w)) (fun z => e (Sum.inl.inj z))]
          refine ⟨by simp only [List.any_cons, hf, Bool.false_or]; exact a1, fun z ez => a2 z ?_, fun z => a3 ?_⟩
          · simpa only [fndK, List.find?_cons, hf] using ez
          · simpa only [fndK, List.find?_cons, hf] using z
      | @consS s u w ts vs h q =>
        obtain ⟨a1, a2, a3⟩ := ih _ q
        have hf : eqF (.str s) (.int i) = false := rfl
        rw [valV_neg (p := ((Sum.inr (strV s) : L2.Key), w)) (k := (Sum.inl i : L2.Key)) (by intro z; cases z)]
        refine ⟨by simp only [List.any_cons, hf, Bool.false_or]; exact a1, fun z ez => a2 z ?_, fun z => a3 ?_⟩
        · simpa only [fndK, List.find?_cons, hf] using ez
        · simpa only [fndK, List.find?_cons, hf] using z
  | str i =>
    obtain rfl := B_str r
    refine ⟨Sum.inr (strV i), rfl, ?_⟩
    intro kvs
    induction kvs with
    | nil => intro gs q; cases q; exact ⟨rfl, fun u e => by simp [fndK] at e, fun _ => rfl⟩
    | cons p ps ih =>
      intro gs q
      cases q with
      | @consI j u w ts vs h q =>
        obtain ⟨a1, a2, a3⟩ := ih _ q
        have hf : eqF (.int j) (.str i) = false := rfl
        rw [valV_neg (p := ((Sum.inl j : L2.Key), w)) (k := (Sum.inr (strV i) : L2.Key)) (by intro z; cases z)]
        refine ⟨by simp only [List.any_cons, hf, Bool.false_or]; exact a1, fun z ez => a2 z ?_, fun z => a3 ?_⟩
        · simpa only [fndK, List.find?_cons, hf] using ez
        · simpa only [fndK, List.find?_cons, hf] using z
      | @consS s u w ts vs h q =>
        obtain ⟨a1, a2, a3⟩ := ih _ q
        by_cases e : s = i
        · subst e
          have hf : eqF (.str s) (.str s) = true := by simp [eqF]
          rw [valV_pos (p := ((Sum.inr (strV s) : L2.Key), w)) rfl]
          refine ⟨by simp [hf], fun z ez => ?_, fun z => ?_⟩
          · simp only [fndK, List.find?_cons, hf, Option.map_some, Option.some.injEq] at ez
            subst ez; exact ⟨w, rfl, h⟩
          · simp [fndK, List.find?_cons, hf] at z
        · have hf : eqF (.str s) (.str i) = false := by simpa [eqF] using e
          rw [valV_neg (p := ((Sum.inr (strV s) : L2.Key), w)) (fun z => e (strV_inj (Sum.inr.inj z)))]
          refine ⟨by simp only [List.any_cons, hf, Bool.false_or]; exact a1, fun z ez => a2 z ?_, fun z => a3 ?_⟩
          · simpa only [fndK, List.find?_cons, hf] using ez
          · simpa only [fndK, List.find?_cons, hf] using z
  | _ => simp [keyT] at f
/-- y in d, by values -/
theorem op_inD' (hu : X.A.units + 1 < cLine) : OpR X (compareOp .In) (fun v u H Q => ∃ a o, u = .ref a ∧ DGet H a v o ∧ Q (.bl o.isSome) H) := by
  intro pins s σ H v u vv uu Q I rv ru h
  obtain ⟨a, o, rfl, g, q⟩ := h
  cases ru
  exact d_in hu I g rv fun s3 I3 => ⟨.bl o.isSome, H, I3, rfl, q⟩
theorem op_notInD' (hu : X.A.units + 1 < cLine) : OpR X (compareOp .NotIn) (fun v u H Q => ∃ a o, u = .ref a ∧ DGet H a v o ∧ Q (.bl (!o.isSome)) H) := by
  intro pins s σ H v u vv uu Q I rv ru h
  obtain ⟨a, o, rfl, g, q⟩ := h
  cases ru
  exact d_notIn hu I g rv fun s3 I3 => ⟨.bl (!o.isSome), H, I3, rfl, q⟩
/-- what in says of the values -/
theorem in_at {Z : Hp} {ρ : List Addr} {Hf H : Hp} {hp : Hl} (S : Sto G Z ρ Hf hp H) {x y : T} {v u : Vv} {b : Bool} (e : inT x y hp = some b) (rx : RepB G ρ Hf H x v) (ry : RepB G ρ Hf H y u) :
    (∃ c s, v = .str ⟨#[c]⟩ ∧ u = .str (strV s) ∧ b = decide (c ∈ (strV s).cps.toList)) ∨ (∃ a vs, u = .ref a ∧ (SqL G.K H a vs ∨ SqT G.K H a vs) ∧ flatV v = true ∧ vs.all flatV = true ∧ b = inV v vs) ∨ (∃ a o, u = .ref a ∧ DGet H a v o ∧ b = o.isSome) := by
  have dc : ∀ {kvs a gs}, u = .ref a → H a = some (.dK gs) → RepK G ρ Hf kvs gs → inDc x kvs = some b → ∃ a o, u = .ref a ∧ DGet H a v o ∧ b = o.isSome := fun {kvs a gs} e1 e2 e3 e4 => by
    unfold inDc at e4
    split at e4
    · rename_i f
      cases e4
      obtain ⟨k, rfl, hk⟩ := key_kV f rx
      exact ⟨a, _, e1, DGet.k e2, (hk kvs gs e3).1⟩
    · cases e4
  have sq : ∀ {xs}, seqOf y hp = some xs → inSq x xs = some b → ∃ a vs, u = .ref a ∧ (SqL G.K H a vs ∨ SqT G.K H a vs) ∧ flatV v = true ∧ vs.all flatV = true ∧ b = inV v vs := fun {xs} e1 e2 => by
    unfold inSq at e2
    split at e2
    · rename_i f
      cases e2
      simp only [Bool.and_eq_true] at f
      obtain ⟨a, vs, h1, h2, h3⟩ := seq_at S e1 ry
      obtain ⟨i1, i2⟩ := inF_V f.1 rx f.2 h3
      exact ⟨a, vs, h1, h2, B_flat f.1 rx, i2, i1.symm⟩
    · cases e2
  cases y with
  | str t =>
    simp only [inT] at e
    split at e
    · rename_i c
      cases e
      refine .inl ⟨c, t, ?_, B_str ry, ?_⟩
      · rw [B_str rx]; rfl
      · rw [strV_list]
    · cases e
  | dct kvs =>
    obtain ⟨a, gs, h1, h2, h3⟩ := dct_at S (t := .dct kvs) rfl ry
    exact .inr (.inr (dc h1 h2 h3 e))
  | bD kvs =>
    obtain ⟨a, gs, h1, h2, h3⟩ := dct_at S (t := .bD kvs) rfl ry
    exact .inr (.inr (dc h1 h2 h3 e))
  | rf n =>
    simp only [inT] at e
    split at e
    · rename_i kvs hn
      obtain ⟨a, gs, h1, h2, h3⟩ := dct_at S (t := .rf n) (kvs := kvs) (by simp only [dctOf, hn]) ry
      exact .inr (.inr (dc h1 h2 h3 e))
    · rename_i xs hn
      exact .inr (.inl (sq (xs := xs) (by simp only [seqOf, hn]) e))
    · cases e
  | lst xs => exact .inr (.inl (sq (xs := xs) rfl e))
  | tup xs => exact .inr (.inl (sq (xs := xs) rfl e))
  | bL xs => exact .inr (.inl (sq (xs := xs) rfl e))
  | kl xs => exact .inr (.inl (sq (xs := xs.map T.int) rfl e))
  | _ => simp [inT, seqOf] at e
theorem op_inT (hK : X.K = G.K) (hu : X.A.units + 1 < cLine) : OpR X (compareOp .In) (rV G fun x y h => oR (inT x y h) h) := by
  intro pins s σ H v u vv uu Q I rv ru h
  obtain ⟨Z, W, σ', ρ, Hf, hp, x, y, S, rx, ry, h⟩ := h
  dsimp only at h
  cases e : inT x y hp with
  | none => rw [e] at h; exact h.elim
  | some b =>
    rw [e] at h
    have q := P_bl S h
    rcases in_at S e rx ry with ⟨c, z, rfl, rfl, rfl⟩ | ⟨a, vs, rfl, h1, h2, h3, rfl⟩ | ⟨a, o, rfl, h1, rfl⟩
    · exact op_in_sign pins s σ H _ _ vv uu Q I rv ru ⟨c, _, rfl, rfl, q⟩
    · exact op_in_seq pins s σ H _ _ vv uu Q I rv ru ⟨a, vs, rfl, by rw [hK]; exact h1, h2, h3, q⟩
    · exact op_inD' hu pins s σ H _ _ vv uu Q I rv ru ⟨a, o, rfl, h1, q⟩
theorem op_notInT (hK : X.K = G.K) (hu : X.A.units + 1 < cLine) : OpR X (compareOp .NotIn) (rV G fun x y h => oR ((inT x y h).map (!·)) h) := by
  intro pins s σ H v u vv uu Q I rv ru h
  obtain ⟨Z, W, σ', ρ, Hf, hp, x, y, S, rx, ry, h⟩ := h
  dsimp only at h
  cases e : inT x y hp with
  | none => rw [e] at h; exact h.elim
  | some b =>
    rw [e] at h
    have q := P_bl S h
    rcases in_at S e rx ry with ⟨c, z, rfl, rfl, rfl⟩ | ⟨a, vs, rfl, h1, h2, h3, rfl⟩ | ⟨a, o, rfl, h1, rfl⟩
    · exact op_notIn_sign pins s σ H _ _ vv uu Q I rv ru ⟨c, _, rfl, rfl, q⟩
    · exact op_notIn_seq pins s σ H _ _ vv uu Q I rv ru ⟨a, vs, rfl, by rw [hK]; exact h1, h2, h3, q⟩
    · exact op_notInD' hu pins s σ H _ _ vv uu Q I rv ru ⟨a, o, rfl, h1, q⟩
/-- a comparison by values -/
def copN : COp → CmpOp
  | .eq => .Eq | .ne => .NotEq | .lt => .Lt | .le => .LtE | .gt => .Gt | .ge => .GtE | .is => .Is | .isNot => .IsNot | .isIn => .In | .notIn => .NotIn
theorem op_cmpT (hK : X.K = G.K) (hu : X.A.units + 64 < cLine) (o : COp) : OpR X (compareOp (copN o)) (rV G (cmpT o)) := by
  have hu1 : X.A.units + 1 < cLine := by omega
  cases o with
  | eq => exact op_eqT hK hu
  | ne => exact op_neT hK hu
  | is => exact op_isT hK
  | isNot => exact op_isNotT hK
  | isIn => exact op_inT hK hu1
  | notIn => exact op_notInT hK hu1
  | lt => exact op_icmp hK .lt .Lt (by simp)
  | le => exact op_icmp hK .le .LtE (by simp)
  | gt => exact op_icmp hK .gt .Gt (by simp)
  | ge => exact op_icmp hK .ge .GtE (by simp)

/-! ### subscripts -/
theorem atI_at {ρ : List Addr} {Hf : Hp} {xs : List T} {vs : List Vv} {i : Int} {t : T} (r : Reps G ρ Hf xs vs) (e : Kb.atI xs i = some t) : ∃ w, L2.atI vs i = some w ∧ Rep G ρ Hf t w := by
  unfold Kb.atI at e
  unfold L2.atI
  have hl : Kb.ixN xs.length i = L2.ixN vs.length i := by rw [r.length]; rfl
  rw [hl] at e
  cases q : L2.ixN vs.length i with
  | none => rw [q] at e; cases e
  | some j =>
    rw [q] at e
    exact r.get e
theorem ix_dct (hu : X.A.units + 1 < cLine) : IxR X (fun v u H Q => ∃ a w, v = .ref a ∧ DGet H a u (some w) ∧ Q w H) := by
  intro value slice pins s σ H x y v u Q I rx ry h hs
  obtain ⟨a, w, rfl, g, q⟩ := h
  cases rx
  have hT := dict_typeIs I g
  unfold subscriptTail
  refine wpAny_bind ?_
  rw [getitemInPython_of_ne hT.not_modules]
  refine wpAny_bind (wpAny_specialOf hT PySem.F.slot_dict_getitem.lookup ?_)
  have fin : wpAny (model X.prog X.w) X.A (subscripted slice false (.ref a) u) (fun r s₃ => wpAny (model X.prog X.w) X.A (letTemporaryGo value (.ref a) r >>= fun _ => pure r) (EP X pins σ Q) X.xe s₃) X.xe s := by
    rw [hs]
    exact wpAny_operating (wpAny_mono (d_getItem hu I g ry fun w' s3 I3 rw' => (⟨w, H, I3, rw', q⟩ : EP X pins σ Q w' s3)) (fun r s₃ h₃ => wpAny_bind (wpAny_letTemporaryGo (wpAny_pure h₃))) fun _ _ x => x)
  first
    | exact wpAny_pure (wpAny_bind fin)
    | exact wpAny_bind (wpAny_pure (wpAny_bind fin))
    | exact wpAny_bind fin
theorem ix_T (hK : X.K = G.K) (hu : X.A.units + 1 < cLine) : IxR X (rV G idxT) := by
  intro value slice pins s σ H v u vv uu Q I rv ru h hs
  obtain ⟨Z, W, σ', ρ, Hf, hp, x, y, S, rx, ry, h⟩ := h
  have dc : ∀ {kvs a gs}, v = .ref a → H a = some (.dK gs) → RepK G ρ Hf kvs gs → Post G Z W σ' (RepB G) ρ Hf H Q (idxDc kvs y hp) → wpAny (model X.prog X.w) X.A (subscriptTail value slice vv uu) (EP X pins σ Q) X.xe s := fun {kvs a gs} e1 e2 e3 h => by
    unfold idxDc at h
    split at h
    · rename_i f
      obtain ⟨k, rfl, hk⟩ := key_kV f ry
      split at h
      · rename_i t ht
        obtain ⟨w, h1, h2⟩ := (hk kvs gs e3).2.1 t ht
        refine ix_dct hu value slice pins s σ H _ _ vv uu Q I rv ru ⟨a, w, e1, ?_, P_rep S h2 h⟩ hs
        rw [← h1]; exact DGet.k e2
      · exact h.elim
    · exact h.elim
  have sq : ∀ {xs}, seqOf x hp = some xs → Post G Z W σ' (RepB G) ρ Hf H Q (idxSq xs y hp) → wpAny (model X.prog X.w) X.A (subscriptTail value slice vv uu) (EP X pins σ Q) X.xe s := fun {xs} e1 h => by
    cases y with
    | int i =>
      simp only [idxSq] at h
      obtain rfl := B_int ry
      split at h
      · rename_i t ht
        obtain ⟨a, vs, rfl, h2, h3⟩ := seq_at S e1 rx
        obtain ⟨w, h4, h5⟩ := atI_at h3 ht
        rcases h2 with h2 | h2
        · exact ix_list value slice pins s σ H _ _ vv uu Q I rv ru ⟨a, vs, i, w, rfl, rfl, by rw [hK]; exact h2, h4, P_rep S h5 h⟩ hs
        · exact ix_tup value slice pins s σ H _ _ vv uu Q I rv ru ⟨a, vs, i, w, rfl, rfl, by rw [hK]; exact h2, h4, P_rep S h5 h⟩ hs
      · exact h.elim
    | _ => exact (show False from h).elim
  unfold idxT at h
  split at h
  · split at h
    · obtain rfl := B_str rx; obtain rfl := B_int ry
      split at h
      · rename_i hl
        split at h
        · rename_i c hc
          refine ix_str value slice pins s σ H _ _ vv uu Q I rv ru ⟨_, _, c, rfl, rfl, by rw [strV_len, ← maxLen_eq]; exact hl, ?_, ?_⟩ hs
          · rw [strV_list]; exact hc
          · exact P_str S h
        · exact h.elim
      · exact h.elim
    · exact h.elim
  · obtain ⟨a, gs, h1, h2, h3⟩ := dct_at S (t := .dct _) rfl rx
    exact dc h1 h2 h3 h
  · obtain ⟨a, gs, h1, h2, h3⟩ := dct_at S (t := .bD _) rfl rx
    exact dc h1 h2 h3 h
  · rename_i n
    split at h
    · rename_i kvs hn
      obtain ⟨a, gs, h1, h2, h3⟩ := dct_at S (t := .rf n) (kvs := kvs) (by simp only [dctOf, hn]) rx
      exact dc h1 h2 h3 h
    · rename_i xs hn
      exact sq (by simp only [seqOf, hn]) h
    · exact h.elim
  · split at h
    · rename_i xs hx
      exact sq hx h
    · exact h.elim
end
end Kb
end
section
set_option Elab.async false
set_option linter.all false
set_option maxRecDepth 100000
set_option maxHeartbeats 4000000
set_option autoImplicit false
/-! Kb4: slices, truth, built-in functions and methods by values, isinstance. -/
namespace Kb
open PySem PySem.Spec PyProof.Rows L2
section
variable {X : Cx} {G : Gm}
/-! ### slices -/
theorem sIx_eq (n d : Nat) (o : Option Int) : Kb.sIx n d o = HT.sIx n d o := by
  unfold Kb.sIx HT.sIx
  rfl
theorem cut_at {ρ : List Addr} {Hf : Hp} {xs : List T} {vs : List Vv} (r : Reps G ρ Hf xs vs) (lo hi : Option Int) : Reps G ρ Hf (cutT xs lo hi) (cutV vs lo hi) := by
  unfold cutT cutV
  rw [sIx_eq, sIx_eq, r.length]
  exact (r.drop _).take _
def rSl (G : Gm) : Vv → Option Int → Option Int → Hp → L2.VK → Prop := fun v lo hi H Q => ∃ Z W σ ρ Hf hp x, Sto G Z ρ Hf hp H ∧ RepB G ρ Hf H x v ∧ Post G Z W σ (RepB G) ρ Hf H Q (slT x lo hi hp)
theorem cutStr (s : List Nat) (lo hi : Option Int) : cutS (strV s) lo hi = strV (cutT s lo hi) := by
  unfold cutS cutT
  rw [strV_list, sIx_eq, sIx_eq, strV_len]; rfl
theorem sl_strR : SlR X (fun x lo hi H Q => ∃ z, x = .str z ∧ z.length ≤ sizeLine ∧ Q (.str (cutS z lo hi)) H) := by
  first
    | exact sl_str
    | (intro pins s σ H x v vl vu lo hi sl Q I rx hs pl pu h
       exact sl_str pins s σ H x v vl vu lo hi sl Q I rx hs pl pu h)
theorem sl_T (hK : X.K = G.K) : SlR X (rSl G) := by
  intro pins s σ H v vv vl vu lo hi sl Q I rv hs pl pu h
  obtain ⟨Z, W, σ', ρ, Hf, hp, x, S, rx, h⟩ := h
  have ls : ∀ {xs}, lstOf x hp = some xs → Post G Z W σ' (RepB G) ρ Hf H Q (.ok (.lst (cutT xs lo hi)) hp) → rSlL X.K v lo hi H Q := fun {xs} e h => by
    obtain ⟨a, vs, e1, h2, h3⟩ := lst_at S e rx
    exact ⟨a, vs, e1, by rw [hK]; exact h2, P_lst S (cut_at h3 lo hi) h⟩
  have go : rSlL X.K v lo hi H Q → _ := sl_list pins s σ H v vv vl vu lo hi sl Q I rv hs pl pu
  cases x with
  | str z =>
    simp only [slT] at h
    split at h
    · rename_i hl
      obtain rfl := B_str rx
      exact sl_strR pins s σ H _ vv vl vu lo hi sl Q I rv hs pl pu ⟨_, rfl, by rw [strV_len, ← maxLen_eq]; exact hl, by rw [cutStr]; exact P_str S h⟩
    · exact h.elim
  | tup xs =>
    simp only [slT] at h
    obtain ⟨a, vs, rfl, h1, r1⟩ := B_tup rx
    refine sl_tupA pins s σ H _ vv vl vu lo hi sl Q I rv hs pl pu ⟨a, vs, rfl, by rw [hK]; exact S.ex.st h1, fun e => ?_, fun _ => P_tup S (cut_at r1 lo hi) h⟩
    have e2 : cutT xs lo hi = xs := by
      unfold cutT
      rw [sIx_eq, sIx_eq, r1.length, e.1, e.2, List.drop_zero, Nat.sub_zero, ← r1.length, List.take_length]
    rw [e2] at h
    exact P_tupS S r1 h1 h
  | lst xs => exact go (ls (xs := xs) rfl h)
  | bL xs => exact go (ls (xs := xs) rfl h)
  | kl xs => exact go (ls (xs := xs.map T.int) rfl h)
  | rf n =>
    simp only [slT] at h
    split at h
    · rename_i xs hx; exact go (ls hx h)
    · exact h.elim
  | _ => simp [slT, lstOf, seqOf] at h; exact h.elim

/-! ### truth -/
theorem tru_at {Z : Hp} {ρ : List Addr} {Hf H : Hp} {hp : Hl} (S : Sto G Z ρ Hf hp H) (hK : X.K = G.K) {t : T} {v : Vv} {b : Bool} (e : truT t hp = some b) (r : RepB G ρ Hf H t v) : TruV X.K v H b := by
  have sq : ∀ {xs}, seqOf t hp = some xs → b = (!xs.isEmpty) → TruV X.K v H b := fun {xs} e1 e2 => by
    obtain ⟨a, vs, rfl, h2, h3⟩ := seq_at S e1 r
    have e3 : xs.isEmpty = vs.isEmpty := by
      cases h3 <;> rfl
    rw [e3] at e2
    rw [hK]
    rcases h2 with h2 | h2
    · exact .inl ⟨vs, h2, e2⟩
    · exact .inr (.inl ⟨vs, h2, e2⟩)
  have gen : (seqOf t hp).map (fun xs => !xs.isEmpty) = some b → TruV X.K v H b := fun e => by
    obtain ⟨xs, e1, e2⟩ := Option.map_eq_some_iff.mp e
    exact sq e1 e2.symm
  cases t with
  | non => simp only [truT] at e; cases e; obtain rfl := B_non r; rfl
  | bl c => simp only [truT] at e; cases e; obtain rfl := B_bl r; rfl
  | int c => simp only [truT] at e; cases e; obtain rfl := B_int r; rfl
  | str c =>
    simp only [truT] at e
    split at e
    · rename_i hl
      cases e
      obtain rfl := B_str r
      refine ⟨by rw [strV_len, ← maxLen_eq]; exact hl, ?_⟩
      rw [strV_len]
      cases c with
      | nil => rfl
      | cons a c =>
        show true = _
        symm
        simp only [List.length_cons, bne_iff_ne, ne_eq]
        omega
    · cases e
  | _ => exact gen e
theorem tru_T (hK : X.K = G.K) : TruR X (fun v H Q => ∃ Z W σ ρ Hf hp x, Sto G Z ρ Hf hp H ∧ RepB G ρ Hf H x v ∧ Post G Z W σ (fun _ _ _ (a b : Bool) => a = b) ρ Hf H Q (tru x hp)) := by
  intro pins s σ H v vv Q I rv h
  obtain ⟨Z, W, σ', ρ, Hf, hp, x, S, rx, h⟩ := h
  unfold tru at h
  split at h
  · rename_i b e
    exact tru_ok pins s σ H v vv Q I rv ⟨b, tru_at S hK e rx, h.ret S rfl⟩
  · exact h.elim

/-! ### built-in functions -/
def rF (G : Gm) (f : List T → Hl → R T) : List Vv → Hp → L2.VK → Prop := fun vs H Q => ∃ Z W σ ρ Hf hp xs, Sto G Z ρ Hf hp H ∧ RepBs G ρ Hf H xs vs ∧ Post G Z W σ (RepB G) ρ Hf H Q (f xs hp)
theorem allInts_at {ρ : List Addr} {Hf : Hp} : ∀ {xs : List T} {ns : List Int} {vs : List Vv}, allInts xs = some ns → Reps G ρ Hf xs vs → vs = ns.map L2.V.int := by
  intro xs
  induction xs with
  | nil => intro ns vs e r; simp only [allInts] at e; cases e; cases r; rfl
  | cons t ts ih =>
    intro ns vs e r
    cases t with
    | int i =>
      simp only [allInts, Option.map_eq_some_iff] at e
      obtain ⟨ms, e1, rfl⟩ := e
      cases r with
      | cons h q =>
        cases h
        rw [ih e1 q]; rfl
    | _ => simp [allInts] at e
theorem allBls_at {ρ : List Addr} {Hf : Hp} : ∀ {xs : List T} {ns : List Bool} {vs : List Vv}, allBls xs = some ns → Reps G ρ Hf xs vs → vs = ns.map L2.V.bl := by
  intro xs
  induction xs with
  | nil => intro ns vs e r; simp only [allBls] at e; cases e; cases r; rfl
  | cons t ts ih =>
    intro ns vs e r
    cases t with
    | bl i =>
      simp only [allBls, Option.map_eq_some_iff] at e
      obtain ⟨ms, e1, rfl⟩ := e
      cases r with
      | cons h q =>
        cases h
        rw [ih e1 q]; rfl
    | _ => simp [allBls] at e
theorem allStrs_at {ρ : List Addr} {Hf : Hp} : ∀ {xs : List T} {ns : List (List Nat)} {vs : List Vv}, allStrs xs = some ns → Reps G ρ Hf xs vs → vs = (ns.map strV).map L2.V.str := by
  intro xs
  induction xs with
  | nil => intro ns vs e r; simp only [allStrs] at e; cases e; cases r; rfl
  | cons t ts ih =>
    intro ns vs e r
    cases t with
    | str i =>
      simp only [allStrs, Option.map_eq_some_iff] at e
      obtain ⟨ms, e1, rfl⟩ := e
      cases r with
      | cons h q =>
        cases h
        rw [ih e1 q]; rfl
    | _ => simp [allStrs] at e
theorem one_of {ρ : List Addr} {Hf H : Hp} {x : T} {vs : List Vv} (r : RepBs G ρ Hf H [x] vs) : ∃ v, vs = [v] ∧ RepB G ρ Hf H x v := by
  cases r with
  | cons h q => cases q; exact ⟨_, rfl, h⟩
theorem two_of {ρ : List Addr} {Hf H : Hp} {x y : T} {vs : List Vv} (r : RepBs G ρ Hf H [x, y] vs) : ∃ v u, vs = [v, u] ∧ RepB G ρ Hf H x v ∧ RepB G ρ Hf H y u := by
  cases r with
  | cons h q =>
    obtain ⟨u, rfl, h2⟩ := one_of q
    exact ⟨_, _, rfl, h, h2⟩
theorem digI_text {s : List Nat} {i : Int} (h : digI s = some i) : PySem.intText? (strV s) = some i ∧ s.length = 1 := by
  unfold digI at h
  split at h
  · rename_i c
    split at h
    · rename_i hc
      cases h
      simp only [Bool.and_eq_true, decide_eq_true_eq] at hc
      refine ⟨?_, rfl⟩
      have key : ∀ d : Nat, d < 10 → PySem.intText? (strV [48 + d]) = some (((48 + d : Nat) : Int) - 48) := by decide +kernel
      have := key (c - 48) (by omega)
      rw [show 48 + (c - 48) = c by omega] at this
      exact this
    · cases h
  · cases h
theorem maxI_spec : ∀ (ns : List Int) (n : Int), (maxI n ns = n ∨ maxI n ns ∈ ns) ∧ n ≤ maxI n ns ∧ ∀ y ∈ ns, y ≤ maxI n ns := by
  intro ns
  induction ns with
  | nil => intro n; exact ⟨.inl rfl, Int.le_refl _, fun y h => nomatch h⟩
  | cons a r ih =>
    intro n
    obtain ⟨h1, h2, h3⟩ := ih (if a > n then a else n)
    have hm : n ≤ (if a > n then a else n) ∧ a ≤ (if a > n then a else n) := by split <;> omega
    refine ⟨?_, Int.le_trans hm.1 h2, fun y hy => ?_⟩
    · rcases h1 with h1 | h1
      · show maxI (if a > n then a else n) r = n ∨ maxI (if a > n then a else n) r ∈ a :: r
        rw [h1]
        by_cases c : a > n
        · rw [if_pos c]; exact .inr List.mem_cons_self
        · rw [if_neg c]; exact .inl rfl
      · exact .inr (List.mem_cons_of_mem _ h1)
    · rcases List.mem_cons.mp hy with rfl | hy
      · exact Int.le_trans hm.2 h2
      · exact h3 y hy
theorem minI_spec : ∀ (ns : List Int) (n : Int), (minI n ns = n ∨ minI n ns ∈ ns) ∧ minI n ns ≤ n ∧ ∀ y ∈ ns, minI n ns ≤ y := by
  intro ns
  induction ns with
  | nil => intro n; exact ⟨.inl rfl, Int.le_refl _, fun y h => nomatch h⟩
  | cons a r ih =>
    intro n
    obtain ⟨h1, h2, h3⟩ := ih (if a < n then a else n)
    have hm : (if a < n then a else n) ≤ n ∧ (if a < n then a else n) ≤ a := by split <;> omega
    refine ⟨?_, Int.le_trans h2 hm.1, fun y hy => ?_⟩
    · rcases h1 with h1 | h1
      · show minI (if a < n then a else n) r = n ∨ minI (if a < n then a else n) r ∈ a :: r
        rw [h1]
        by_cases c : a < n
        · rw [if_pos c]; exact .inr List.mem_cons_self
        · rw [if_neg c]; exact .inl rfl
      · exact .inr (List.mem_cons_of_mem _ h1)
    · rcases List.mem_cons.mp hy with rfl | hy
      · exact Int.le_trans h2 hm.2
      · exact h3 y hy
theorem maxI_eq {n : Int} {ns : List Int} {m : Int} (hm : m ∈ n :: ns) (hle : ∀ y, y ∈ n :: ns → y ≤ m) : m = maxI n ns := by
  obtain ⟨h1, h2, h3⟩ := maxI_spec ns n
  have a1 : maxI n ns ≤ m := by
    rcases h1 with h1 | h1
    · rw [h1]; exact hle n List.mem_cons_self
    · exact hle _ (List.mem_cons_of_mem _ h1)
  have a2 : m ≤ maxI n ns := by
    rcases List.mem_cons.mp hm with rfl | hm
    · exact h2
    · exact h3 m hm
  omega
theorem minI_eq {n : Int} {ns : List Int} {m : Int} (hm : m ∈ n :: ns) (hle : ∀ y, y ∈ n :: ns → m ≤ y) : m = minI n ns := by
  obtain ⟨h1, h2, h3⟩ := minI_spec ns n
  have a1 : m ≤ minI n ns := by
    rcases h1 with h1 | h1
    · rw [h1]; exact hle n List.mem_cons_self
    · exact hle _ (List.mem_cons_of_mem _ h1)
  have a2 : minI n ns ≤ m := by
    rcases List.mem_cons.mp hm with rfl | hm
    · exact h2
    · exact h3 m hm
  omega
theorem call_lenT (hK : X.K = G.K) : CallR X (.builtin "len") (rF G lenF) := by
  intro pins s σ H vs us Q I rv h
  obtain ⟨Z, W, σ', ρ, Hf, hp, xs, S, rx, h⟩ := h
  unfold lenF at h
  split at h
  case h_2 => exact h.elim
  case h_1 x =>
      obtain ⟨v, rfl, r1⟩ := one_of rx
      split at h
      · rename_i n e
        have sq : ∀ {xs}, seqOf x hp = some xs → n = xs.length → LenV X.K v H n := fun {xs} e1 e2 => by
          obtain ⟨a, vs, rfl, h2, h3⟩ := seq_at S e1 r1
          rw [hK]
          rcases h2 with h2 | h2
          · exact .inl ⟨vs, h2, by rw [e2, h3.length]⟩
          · exact .inr ⟨vs, h2, by rw [e2, h3.length]⟩
        have fin : LenV X.K v H n → wpAny (model X.prog X.w) X.A (call (.builtin "len") us) (EP X pins σ Q) X.xe s := fun l => call_len pins s σ H _ us Q I rv ⟨v, n, rfl, l, P_int S h⟩
        have dc : ∀ {a gs}, v = .ref a → H a = some (.dK gs) → n = gs.length → wpAny (model X.prog X.w) X.A (call (.builtin "len") us) (EP X pins σ Q) X.xe s := fun {a gs} e1 e2 e3 => by
          subst e1
          obtain ⟨u, rfl, ru⟩ := vals1 rv
          cases ru
          subst e3
          exact d_len I (.inl e2) fun t s' I' => ⟨.int _, H, I', ⟨_, rfl⟩, P_int S h⟩
        have rk : ∀ {kvs : List (T × T)} {gs : List (L2.Key × Vv)}, RepK G ρ Hf kvs gs → kvs.length = gs.length := by
          intro kvs
          induction kvs with
          | nil => intro gs q; cases q; rfl
          | cons p ps ih =>
            intro gs q
            cases q with
            | consI h q => rw [List.length_cons, List.length_cons, ih q]
            | consS h q => rw [List.length_cons, List.length_cons, ih q]
        cases x with
        | str z =>
          simp only [lenT] at e
          split at e
          · rename_i hl
            cases e
            obtain rfl := B_str r1
            exact fin ⟨by rw [strV_len, ← maxLen_eq]; exact hl, by rw [strV_len]⟩
          · cases e
        | dct kvs =>
          simp only [lenT] at e; cases e
          obtain ⟨a, gs, h1, h2, h3⟩ := dct_at S (t := .dct kvs) rfl r1
          exact dc h1 h2 (rk h3)
        | bD kvs =>
          simp only [lenT] at e; cases e
          obtain ⟨a, gs, h1, h2, h3⟩ := dct_at S (t := .bD kvs) rfl r1
          exact dc h1 h2 (rk h3)
        | rf m =>
          simp only [lenT] at e
          split at e
          · rename_i kvs hn
            cases e
            obtain ⟨a, gs, h1, h2, h3⟩ := dct_at S (t := .rf m) (kvs := kvs) (by simp only [dctOf, hn]) r1
            exact dc h1 h2 (rk h3)
          · rename_i ys hn
            cases e
            exact fin (sq (xs := ys) (by simp only [seqOf, hn]) rfl)
          · cases e
        | lst ys => simp only [lenT, seqOf, Option.map_some] at e; cases e; exact fin (sq (xs := ys) rfl rfl)
        | tup ys => simp only [lenT, seqOf, Option.map_some] at e; cases e; exact fin (sq (xs := ys) rfl rfl)
        | bL ys => simp only [lenT, seqOf, Option.map_some] at e; cases e; exact fin (sq (xs := ys) rfl rfl)
        | kl ys => simp only [lenT, seqOf, Option.map_some] at e; cases e; exact fin (sq (xs := ys.map T.int) rfl rfl)
        | _ => simp [lenT, seqOf] at e
      · exact h.elim

theorem call_absT : CallR X (.builtin "abs") (rF G absF) := by
  intro pins s σ H vs us Q I rv h
  obtain ⟨Z, W, σ', ρ, Hf, hp, xs, S, rx, h⟩ := h
  unfold absF at h
  split at h
  · obtain ⟨v, rfl, r1⟩ := one_of rx
    obtain rfl := B_int r1
    exact call_abs pins s σ H _ us Q I rv ⟨_, rfl, P_int S h⟩
  · exact h.elim
theorem call_intT : CallR X (.type "int") (rF G intF) := by
  intro pins s σ H vs us Q I rv h
  obtain ⟨Z, W, σ', ρ, Hf, hp, xs, S, rx, h⟩ := h
  unfold intF at h
  split at h
  · obtain ⟨v, rfl, r1⟩ := one_of rx
    obtain rfl := B_int r1
    exact call_int1 pins s σ H _ us Q I rv (.inl ⟨_, rfl, P_int S h⟩)
  · obtain ⟨v, rfl, r1⟩ := one_of rx
    obtain rfl := B_bl r1
    exact call_int1 pins s σ H _ us Q I rv (.inr ⟨_, rfl, P_int S h⟩)
  · obtain ⟨v, rfl, r1⟩ := one_of rx
    obtain rfl := B_str r1
    split at h
    · rename_i i e
      obtain ⟨h1, h2⟩ := digI_text e
      exact call_int_str pins s σ H _ us Q I rv ⟨_, i, rfl, h1, by rw [strV_len, h2]; decide, P_int S h⟩
    · exact h.elim
  · exact h.elim
theorem strV_neg (s : List Nat) : strV (45 :: s) = strV [45] ++ strV s := by rw [← strV_app]; rfl
theorem intS_str (i : Int) : strV (intS i) = Str.ofString (toString i) := by
  apply TL.ext_tl
  rw [show TL.tl (strV (intS i)) = intS i from strV_list _]
  cases i with
  | ofNat n =>
    have h := TL.tl_num n
    show intS (n : Int) = TL.tl (Str.ofString (toString ((n : Nat) : Int)))
    rw [h]
    unfold intS
    rw [if_neg (by omega)]
    rfl
  | negSucc n =>
    have e : toString (Int.negSucc n) = "-" ++ toString (n + 1) := rfl
    rw [TL.tl_ofString, e]
    unfold intS
    rw [if_pos (Int.negSucc_lt_zero n)]
    have h := TL.tl_num (n + 1)
    rw [TL.tl_ofString] at h
    have e2 : toString (((n + 1 : Nat) : Int)) = toString (n + 1) := rfl
    rw [e2] at h
    rw [String.toList_append, List.map_append, h]
    rfl
theorem call_strT : CallR X (.type "str") (rF G strF) := by
  intro pins s σ H vs us Q I rv h
  obtain ⟨Z, W, σ', ρ, Hf, hp, xs, S, rx, h⟩ := h
  unfold strF at h
  split at h
  · obtain ⟨v, rfl, r1⟩ := one_of rx
    obtain rfl := B_int r1
    split at h
    · rename_i i c
      refine call_str_int pins s σ H _ us Q I rv ⟨i, rfl, c, ?_⟩
      rw [← intS_str]
      exact P_str S h
    · exact h.elim
  · exact h.elim
theorem call_sumT (hK : X.K = G.K) (hc : X.calm = true) : CallR X (.builtin "sum") (rF G sumF) := by
  intro pins s σ H vs us Q I rv h
  obtain ⟨Z, W, σ', ρ, Hf, hp, xs, S, rx, h⟩ := h
  unfold sumF at h
  split at h
  · obtain ⟨v, rfl, r1⟩ := one_of rx
    split at h
    · rename_i ns e
      obtain ⟨ys, e1, e2⟩ := Option.bind_eq_some_iff.mp e
      obtain ⟨a, ws, rfl, h2, h3⟩ := lst_at S e1 r1
      obtain rfl := allInts_at e2 h3
      exact cr_sum hc pins s σ H _ us Q I rv ⟨a, ns, rfl, by rw [hK]; exact h2, P_int S h⟩
    · exact h.elim
  · exact h.elim
theorem call_allT (hK : X.K = G.K) (hc : X.calm = true) : CallR X (.builtin "all") (rF G allF) := by
  intro pins s σ H vs us Q I rv h
  obtain ⟨Z, W, σ', ρ, Hf, hp, xs, S, rx, h⟩ := h
  unfold allF at h
  split at h
  · obtain ⟨v, rfl, r1⟩ := one_of rx
    split at h
    · rename_i ns e
      obtain ⟨ys, e1, e2⟩ := Option.bind_eq_some_iff.mp e
      obtain ⟨a, ws, rfl, h2, h3⟩ := lst_at S e1 r1
      obtain rfl := allBls_at e2 h3
      exact cr_all hc pins s σ H _ us Q I rv ⟨a, ns, rfl, by rw [hK]; exact h2, P_bl S h⟩
    · exact h.elim
  · exact h.elim
theorem call_anyT (hK : X.K = G.K) (hc : X.calm = true) : CallR X (.builtin "any") (rF G anyF) := by
  intro pins s σ H vs us Q I rv h
  obtain ⟨Z, W, σ', ρ, Hf, hp, xs, S, rx, h⟩ := h
  unfold anyF at h
  split at h
  · obtain ⟨v, rfl, r1⟩ := one_of rx
    split at h
    · rename_i ns e
      obtain ⟨ys, e1, e2⟩ := Option.bind_eq_some_iff.mp e
      obtain ⟨a, ws, rfl, h2, h3⟩ := lst_at S e1 r1
      obtain rfl := allBls_at e2 h3
      exact cr_any hc pins s σ H _ us Q I rv ⟨a, ns, rfl, by rw [hK]; exact h2, P_bl S h⟩
    · exact h.elim
  · exact h.elim
theorem call_gcdT : CallR X (.builtin "math.gcd") (rF G gcdF) := by
  intro pins s σ H vs us Q I rv h
  obtain ⟨Z, W, σ', ρ, Hf, hp, xs, S, rx, h⟩ := h
  unfold gcdF at h
  split at h
  · obtain ⟨v, u, rfl, r1, r2⟩ := two_of rx
    obtain rfl := B_int r1; obtain rfl := B_int r2
    exact cr_gcd pins s σ H _ us Q I rv ⟨_, _, rfl, P_int S h⟩
  · exact h.elim
theorem call_max2T (hc : X.calm = true) : CallR X (.builtin "max") (rF G max2F) := by
  intro pins s σ H vs us Q I rv h
  obtain ⟨Z, W, σ', ρ, Hf, hp, xs, S, rx, h⟩ := h
  unfold max2F at h
  split at h
  · obtain ⟨v, u, rfl, r1, r2⟩ := two_of rx
    obtain rfl := B_int r1; obtain rfl := B_int r2
    exact call_max2 hc pins s σ H _ us Q I rv ⟨_, _, rfl, P_int S h⟩
  · exact h.elim
theorem call_min2T (hc : X.calm = true) : CallR X (.builtin "min") (rF G min2F) := by
  intro pins s σ H vs us Q I rv h
  obtain ⟨Z, W, σ', ρ, Hf, hp, xs, S, rx, h⟩ := h
  unfold min2F at h
  split at h
  · obtain ⟨v, u, rfl, r1, r2⟩ := two_of rx
    obtain rfl := B_int r1; obtain rfl := B_int r2
    exact call_min2 hc pins s σ H _ us Q I rv ⟨_, _, rfl, P_int S h⟩
  · exact h.elim
theorem call_maxT (hK : X.K = G.K) (hc : X.calm = true) : CallR X (.builtin "max") (rF G maxF) := by
  intro pins s σ H vs us Q I rv h
  obtain ⟨Z, W, σ', ρ, Hf, hp, xs, S, rx, h⟩ := h
  unfold maxF at h
  split at h
  · obtain ⟨v, rfl, r1⟩ := one_of rx
    split at h
    · rename_i n ns e
      obtain ⟨ys, e1, e2⟩ := Option.bind_eq_some_iff.mp e
      obtain ⟨a, ws, rfl, h2, h3⟩ := lst_at S e1 r1
      obtain rfl := allInts_at e2 h3
      refine cr_max hc pins s σ H _ us Q I rv ⟨a, n :: ns, rfl, by rw [hK]; exact h2, Nat.zero_lt_succ _, fun m hm hle => ?_⟩
      rw [maxI_eq hm hle]
      exact P_int S h
    · exact h.elim
  · exact h.elim
theorem call_minT (hK : X.K = G.K) (hc : X.calm = true) : CallR X (.builtin "min") (rF G minF) := by
  intro pins s σ H vs us Q I rv h
  obtain ⟨Z, W, σ', ρ, Hf, hp, xs, S, rx, h⟩ := h
  unfold minF at h
  split at h
  · obtain ⟨v, rfl, r1⟩ := one_of rx
    split at h
    · rename_i n ns e
      obtain ⟨ys, e1, e2⟩ := Option.bind_eq_some_iff.mp e
      obtain ⟨a, ws, rfl, h2, h3⟩ := lst_at S e1 r1
      obtain rfl := allInts_at e2 h3
      refine cr_min hc pins s σ H _ us Q I rv ⟨a, n :: ns, rfl, by rw [hK]; exact h2, Nat.zero_lt_succ _, fun m hm hle => ?_⟩
      rw [minI_eq hm hle]
      exact P_int S h
    · exact h.elim
  · exact h.elim
theorem call_tupT (hK : X.K = G.K) : CallR X (.type "tuple") (rF G tupF) := by
  intro pins s σ H vs us Q I rv h
  obtain ⟨Z, W, σ', ρ, Hf, hp, xs, S, rx, h⟩ := h
  unfold tupF at h
  split at h
  · rename_i x
    obtain ⟨v, rfl, r1⟩ := one_of rx
    split at h
    · rename_i ys e
      by_cases hx : ∃ zs, x = .tup zs
      · obtain ⟨zs, rfl⟩ := hx
        simp only [seqOf] at e; cases e
        obtain ⟨a, ws, rfl, h2, h3⟩ := B_tup r1
        exact call_tuple_of pins s σ H _ us Q I rv ⟨a, ws, rfl, .inr ⟨by rw [hK]; exact S.ex.st h2, P_tupS S h3 h2 h⟩⟩
      · obtain ⟨a, ws, rfl, h2, h3⟩ := lst_at S (by
          cases x <;> first | exact e | exact absurd ⟨_, rfl⟩ hx | (simp [lstOf, seqOf] at e)) r1
        exact call_tuple_of pins s σ H _ us Q I rv ⟨a, ws, rfl, .inl ⟨by rw [hK]; exact h2, P_tup S h3 h⟩⟩
    · exact h.elim
  · exact h.elim

/-! ### methods that read -/
def rM (G : Gm) (f : T → List T → Hl → R T) : Vv → List Vv → Hp → L2.VK → Prop := fun v vs H Q => ∃ Z W σ ρ Hf hp x xs, Sto G Z ρ Hf hp H ∧ RepB G ρ Hf H x v ∧ RepBs G ρ Hf H xs vs ∧ Post G Z W σ (RepB G) ρ Hf H Q (f x xs hp)
theorem isPre_eq : ∀ (t s : List Nat), isPre t s = t.isPrefixOf s := by
  intro t
  induction t with
  | nil => intro s; cases s <;> rfl
  | cons a t ih =>
    intro s
    cases s with
    | nil => rfl
    | cons b s => show (a == b && isPre t s) = (a == b && t.isPrefixOf s); rw [ih]

theorem sw_eq (s t : List Nat) : Txt.startswith (strV s) (strV t) = isPre t s := by
  rw [isPre_eq]
  unfold Txt.startswith
  rw [PySem.StrLaws.subAt_eq, strV_list, strV_list, strV_len, strV_len, List.drop_zero]
  rw [Bool.eq_iff_iff]
  simp only [Bool.and_eq_true, decide_eq_true_eq, beq_iff_eq, List.isPrefixOf_iff_prefix, Nat.zero_add]
  constructor
  · rintro ⟨h1, h2⟩
    rw [← h2]; exact List.take_prefix _ _
  · intro h
    exact ⟨h.length_le, (List.prefix_iff_eq_take.mp h).symm⟩
theorem joinS_eq (y : List Nat) : ∀ ss : List (List Nat), joinS y ss = TL.joinL y ss
  | [] => rfl
  | [_] => rfl
  | x :: z :: r => by
    show x ++ y ++ joinS y (z :: r) = x ++ (y ++ TL.joinL y (z :: r))
    rw [joinS_eq y (z :: r), List.append_assoc]
theorem mt_swT : MtR X "str.startswith" (rM G swF) := by
  intro pins s σ H v vs vv us Q I rv rvs h
  obtain ⟨Z, W, σ', ρ, Hf, hp, x, xs, S, rx, rxs, h⟩ := h
  unfold swF at h
  split at h
  · obtain rfl := B_str rx
    obtain ⟨v, rfl, r1⟩ := one_of rxs
    obtain rfl := B_str r1
    exact mt_startswith pins s σ H _ _ vv us Q I rv rvs ⟨_, _, rfl, rfl, by rw [sw_eq]; exact P_bl S h⟩
  · exact h.elim
theorem mt_joinT (hK : X.K = G.K) : MtR X "str.join" (rM G joinF) := by
  intro pins s σ H v vs vv us Q I rv rvs h
  obtain ⟨Z, W, σ', ρ, Hf, hp, x, xs, S, rx, rxs, h⟩ := h
  unfold joinF at h
  split at h
  · rename_i z y
    obtain rfl := B_str rx
    obtain ⟨v, rfl, r1⟩ := one_of rxs
    split at h
    · rename_i ss e
      split at h
      · rename_i hl
        obtain ⟨ys, e1, e2⟩ := Option.bind_eq_some_iff.mp e
        obtain ⟨a, ws, rfl, h2, h3⟩ := seq_at S e1 r1
        obtain rfl := allStrs_at e2 h3
        refine mt_join pins s σ H _ _ vv us Q I rv rvs ⟨_, a, ss.map strV, rfl, rfl, by rw [hK]; exact h2, ?_, ?_⟩
        · rw [List.map_map, strV_len, List.length_map, Nat.mul_comm]
          have : ss.map ((fun x : Str => x.length) ∘ strV) = ss.map List.length := List.map_congr_left fun a _ => strV_len a
          rw [this]; exact hl
        · rw [TL.join_eq]
          have e3 : Str.join (strV z) (ss.map strV) = strV (joinS z ss) := by
            apply TL.ext_tl
            rw [TL.tl_join, show TL.tl (strV (joinS z ss)) = joinS z ss from strV_list _, show TL.tl (strV z) = z from strV_list _, joinS_eq, List.map_map]
            have : ss.map (TL.tl ∘ strV) = ss := by
              have e4 : ss.map (TL.tl ∘ strV) = ss.map id := List.map_congr_left fun a _ => strV_list a
              rw [e4, List.map_id]
            rw [this]
          rw [e3]
          exact P_str S h
      · exact h.elim
    · exact h.elim
  · exact h.elim

/-! ### isinstance -/
/-- the kinds as classes -/
def kdV (G : Gm) : Kd → Value
  | .int => .type "int" | .bool => .type "bool" | .str => .type "str" | .tuple => .type "tuple" | .list => .type "list" | .cls c => .ref (G.ca c)
/-- what isinstance knows of the own classes -/
structure KdOk (G : Gm) : Prop where
  ty : ∀ c, G.cok c → (L2.Cls G.K (G.ca c)) ∧ PySem.W.findIn G.K (.ref (G.ca c)) "__class__" = some (some (.builtin "object.__class__")) ∧ PySem.W.mroIn G.K (G.ca c) (.type "object") = some true
  sp : PySem.W.specialIn G.K (.builtin "object.__class__") "__get__" = some (some (.builtin "getset_descriptor.__get__")) ∧ PySem.W.takesIn G.K (.builtin "object.__class__") = some true
  own : ∀ c k, G.cok c → (∀ d, k = .cls d → G.cok d) → PySem.W.kitOne G.K (.ref (G.ca c)) (kdV G k) = some (decide (k = .cls c))
  blt : ∀ (n : String) c, n ∈ ["NoneType", "bool", "int", "str", "tuple", "list"] → G.cok c → PySem.W.kitOne G.K (.type n) (.ref (G.ca c)) = some false
theorem tup_ty {H : Hp} {K : PySem.W.Frag} {a : Addr} {vs : List Vv} (h : SqT K H a vs) : TyX K H (.ref a) (.type "tuple") := by
  rcases h with (h | ⟨o, h⟩) | ⟨o, its, n, h1, h2, _⟩
  · exact .base (.tup h)
  · exact .fTuple h
  · exact .kTuple h1 h2
theorem lst_ty {H : Hp} {K : PySem.W.Frag} {a : Addr} {vs : List Vv} (h : SqL K H a vs) : TyX K H (.ref a) (.type "list") := by
  rcases h with (h | ⟨o, h⟩) | ⟨o, its, n, h1, h2, _⟩
  · exact .base (.lst h)
  · exact .base (.frz h)
  · exact .kList h1 h2
theorem kd_at (O : KdOk G) {Z : Hp} {ρ : List Addr} {Hf H : Hp} {hp : Hl} (S : Sto G Z ρ Hf hp H) {x : T} {v : Vv} (r : RepB G ρ Hf H x v) {ks : List Kd} {b : Bool} (e : kdAny x hp ks = some b) (hk : ∀ k ∈ ks, ∀ d, k = .cls d → G.cok d) :
    ∃ t, TyX G.K H v t ∧ PySem.W.kitAny G.K t (ks.map (kdV G)) = some b ∧ ∀ (k : Kd), ks = [k] → PySem.W.kitOne G.K t (kdV G k) = some b := by
  -- the value's type, and what each kind says
  have key : ∀ (k0 : Kd), (∃ k b, k ∈ ks ∧ kdOf k x hp = some b) ∨ ks = [] → ∃ t, TyX G.K H v t ∧ ∀ k ∈ ks, ∀ b, kdOf k x hp = some b → PySem.W.kitOne G.K t (kdV G k) = some b := by
    intro k0 hk0
    have blt : ∀ (n : String) (k : Kd) (b : Bool), n ∈ ["NoneType", "bool", "int", "str", "tuple", "list"] → (∀ d, k = .cls d → G.cok d) → some b = (match k with | .cls _ => some false | k => kitB n (match k with | .int => "int" | .bool => "bool" | .str => "str" | .tuple => "tuple" | .list => "list" | .cls _ => "")) → PySem.W.kitOne G.K (.type n) (kdV G k) = some b := by
      intro n k b hn hc hb
      cases k with
      | cls c => cases hb; exact O.blt n c hn (hc c rfl)
      | int => exact kit_ty hb.symm
      | bool => exact kit_ty hb.symm
      | str => exact kit_ty hb.symm
      | tuple => exact kit_ty hb.symm
      | list => exact kit_ty hb.symm
    have own : ∀ c (k : Kd) (b : Bool), G.cok c → (∀ d, k = .cls d → G.cok d) → some b = some (decide (k = .cls c)) → PySem.W.kitOne G.K (.ref (G.ca c)) (kdV G k) = some b := by
      intro c k b h1 h2 h3
      cases h3
      exact O.own c k h1 h2
    have insT : ∀ {a dx : Addr} {c : Nat} {gs : List (Str × Vv)}, H a = some (.ins (G.ca c) dx gs) → G.cok c → TyX G.K H (.ref a) (.ref (G.ca c)) := fun {a dx c gs} h k =>
      .base (.ins h (O.ty c k).1 (O.ty c k).2.1 O.sp.1 O.sp.2 (O.ty c k).2.2)
    cases x with
    | non =>
      obtain rfl := B_non r
      refine ⟨_, .base .non, fun k m b hb => blt "NoneType" k b (by simp) (hk k m) ?_⟩
      simp only [kdOf] at hb
      rw [← hb]
      cases k <;> first | rfl | (symm; decide +kernel)
    | bl c =>
      obtain rfl := B_bl r
      refine ⟨_, .base (.bl c), fun k m b hb => blt "bool" k b (by simp) (hk k m) ?_⟩
      simp only [kdOf] at hb
      rw [← hb]
      cases k <;> first | rfl | (symm; decide +kernel)
    | int c =>
      obtain rfl := B_int r
      refine ⟨_, .base (.int c), fun k m b hb => blt "int" k b (by simp) (hk k m) ?_⟩
      simp only [kdOf] at hb
      rw [← hb]
      cases k <;> first | rfl | (symm; decide +kernel)
    | str c =>
      obtain rfl := B_str r
      refine ⟨_, .base (.str _), fun k m b hb => blt "str" k b (by simp) (hk k m) ?_⟩
      simp only [kdOf] at hb
      rw [← hb]
      cases k <;> first | rfl | (symm; decide +kernel)
    | tup c =>
      obtain ⟨a, vs, rfl, h1, _⟩ := B_tup r
      refine ⟨_, tup_ty (S.ex.st h1), fun k m b hb => blt "tuple" k b (by simp) (hk k m) ?_⟩
      simp only [kdOf] at hb
      rw [← hb]
      cases k <;> first | rfl | (symm; decide +kernel)
    | lst c =>
      obtain ⟨a, vs, rfl, h1, _⟩ := lst_at S (t := .lst c) (xs := c) rfl r
      refine ⟨_, lst_ty h1, fun k m b hb => blt "list" k b (by simp) (hk k m) ?_⟩
      simp only [kdOf] at hb
      rw [← hb]
      cases k <;> first | rfl | (symm; decide +kernel)
    | bL c =>
      obtain ⟨a, vs, rfl, h1, _⟩ := lst_at S (t := .bL c) (xs := c) rfl r
      refine ⟨_, lst_ty h1, fun k m b hb => blt "list" k b (by simp) (hk k m) ?_⟩
      simp only [kdOf] at hb
      rw [← hb]
      cases k <;> first | rfl | (symm; decide +kernel)
    | kl c =>
      obtain ⟨a, vs, rfl, h1, _⟩ := lst_at S (t := .kl c) (xs := c.map T.int) rfl r
      refine ⟨_, lst_ty h1, fun k m b hb => blt "list" k b (by simp) (hk k m) ?_⟩
      simp only [kdOf] at hb
      rw [← hb]
      cases k <;> first | rfl | (symm; decide +kernel)
    | ins c fs =>
      obtain ⟨a, dx, gs, rfl, h1, _, h2⟩ := ins_at S (t := .ins c fs) rfl r
      exact ⟨_, insT h1 h2, fun k m b hb => own c k b h2 (hk k m) hb.symm⟩
    | bI c fs =>
      obtain ⟨a, dx, gs, rfl, h1, _, h2⟩ := ins_at S (t := .bI c fs) rfl r
      exact ⟨_, insT h1 h2, fun k m b hb => own c k b h2 (hk k m) hb.symm⟩
    | rf n =>
      cases hn : hp[n]? with
      | none =>
        obtain ⟨a, rfl, ha⟩ := B_rf r
        have h1 := (List.getElem?_eq_some_iff.mp ha).1
        rw [S.len] at h1
        rw [List.getElem?_eq_none_iff] at hn
        omega
      | some c =>
        cases c with
        | lst xs =>
          obtain ⟨a, vs, rfl, h1, _⟩ := lst_at S (t := .rf n) (xs := xs) (by simp only [lstOf, seqOf, hn]) r
          refine ⟨_, lst_ty h1, fun k m b hb => blt "list" k b (by simp) (hk k m) ?_⟩
          simp only [kdOf, hn] at hb
          rw [← hb]
          cases k <;> first | rfl | (symm; decide +kernel)
        | ins c fs =>
          obtain ⟨a, dx, gs, rfl, h1, _, h2⟩ := ins_at S (t := .rf n) (c := c) (fs := fs) (by simp only [insOf, hn]) r
          refine ⟨_, insT h1 h2, fun k m b hb => own c k b h2 (hk k m) ?_⟩
          simp only [kdOf, hn] at hb
          exact hb.symm
        | dct kvs =>
          obtain ⟨a, gs, rfl, h1, _⟩ := dct_at S (t := .rf n) (kvs := kvs) (by simp only [dctOf, hn]) r
          refine ⟨_, .base (.dK h1), fun k m b hb => ?_⟩
          simp only [kdOf, hn] at hb
          cases hb
    | dct kvs =>
      obtain ⟨a, gs, rfl, h1, _⟩ := dct_at S (t := .dct kvs) rfl r
      refine ⟨_, .base (.dK h1), fun k m b hb => ?_⟩
      simp only [kdOf] at hb
      cases hb
    | bD kvs =>
      obtain ⟨a, gs, rfl, h1, _⟩ := dct_at S (t := .bD kvs) rfl r
      refine ⟨_, .base (.dK h1), fun k m b hb => ?_⟩
      simp only [kdOf] at hb
      cases hb
    | exc c fs => exact (nomatch (show Rep G ρ Hf (.exc c fs) v from r))
  have hk0 : (∃ k b, k ∈ ks ∧ kdOf k x hp = some b) ∨ ks = [] := by
    cases ks with
    | nil => exact .inr rfl
    | cons k ks =>
      left
      simp only [kdAny] at e
      split at e
      · rename_i a b' e1 e2
        exact ⟨k, a, List.mem_cons_self, e1⟩
      · cases e
  obtain ⟨t, h1, h2⟩ := key .int hk0
  refine ⟨t, h1, ?_, ?_⟩
  · clear hk0 key hk
    induction ks generalizing b with
    | nil => simp only [kdAny] at e; cases e; rfl
    | cons k ks ih =>
      simp only [kdAny] at e
      split at e
      · rename_i a b' e1 e2
        cases e
        refine kitAny_cons (h2 k List.mem_cons_self a e1) (fun z => ?_) (fun z => by rw [z]; rfl)
        rw [z, Bool.false_or]
        exact ih e2 fun k m => h2 k (List.mem_cons_of_mem _ m)
      · cases e
  · intro k z
    subst z
    simp only [kdAny] at e
    split at e
    · rename_i a b' e1 e2
      cases e2
      cases e
      rw [Bool.or_false]
      exact h2 k List.mem_cons_self a e1
    · cases e
end
end Kb
end
section
set_option Elab.async false
set_option linter.all false
set_option maxRecDepth 100000
set_option maxHeartbeats 4000000
set_option autoImplicit false
/-! Kb5: expressions. One lemma a form: the text's expression reads as the interpreter reads the form. -/
namespace Kb
open PySem PySem.Spec PyProof.Rows L2
theorem PEimp {X : Cx} {e : Expr} {t t' : TE} (h : PE X e t) (f : ∀ σ H Q, t' σ H Q → t σ H Q) : PE X e t' := ⟨fun pins s σ H Q I q => h.run pins s σ H Q I (f σ H Q q)⟩
theorem PTimp {X : Cx} {e : Expr} {t t' : TT} (h : PT X e t) (f : ∀ σ H Q, t' σ H Q → t σ H Q) : PT X e t' := ⟨fun pins s σ H Q I q => h.run pins s σ H Q I (f σ H Q q)⟩
theorem PWimp {X : Cx} {e : Expr} {t t' : TT} (h : PW X e t) (f : ∀ σ H Q, t' σ H Q → t σ H Q) : PW X e t' := ⟨fun wh pins s σ H Q I q => h.run wh pins s σ H Q I (f σ H Q q)⟩
theorem PAimp {X : Cx} {e : List Expr} {t t' : TA} (h : PA X e t) (f : ∀ σ H Q, t' σ H Q → t σ H Q) : PA X e t' := ⟨fun pos pins s σ H Q I q => h.run pos pins s σ H Q I (f σ H Q q)⟩
theorem POimp {X : Cx} {e : Option Expr} {t t' : L2.TO} (h : PO X e t) (f : ∀ σ H Q, t' σ H Q → t σ H Q) : PO X e t' := ⟨fun pins s σ H Q I q => h.run pins s σ H Q I (f σ H Q q)⟩

/-! ### what a def promises -/
def sp (G : Gm) (call : Nat → List T → Hl → R T) (f : Nat) : Sp := fun vs H Q E => ∃ Z ρ Hf hp ts, Sto G Z ρ Hf hp H ∧ Reps G ρ Hf ts vs ∧ Post G Z (fun c d _ H => E c d H) [] (RepB G) ρ Hf H Q (call f ts hp)
/-- of an __init__ whose instance is no cell -/
def PostI (G : Gm) (Z : Hp) (E : XK) (a : Addr) (ρ : List Addr) (Hf H : Hp) (Q : VK) : R T → Prop
  | .ok t h' => ∀ ρ' Hf' H' c fs, t = .bI c fs → Nxt (some a) ρ Hf H ρ' Hf' H' → Sto G Z ρ' Hf' h' H' → RepB G ρ' Hf' H' (.bI c fs) (.ref a) → Q .non H'
  | .err c fs h' => ∀ ρ' Hf' H' d gs, Nxt (some a) ρ Hf H ρ' Hf' H' → Sto G Z ρ' Hf' h' H' → H' d = some (.xd gs) → RepF G ρ' Hf' fs gs → E (.ref (G.ca c)) (some d) H'
  | .stuck => False
def spI (G : Gm) (call : Nat → List T → Hl → R T) (c f : Nat) : Sp := fun vs H Q E => ∃ Z ρ Hf hp ts a dx ws, vs = .ref a :: ws ∧ Sto G Z ρ Hf hp H ∧ Reps G ρ Hf ts ws ∧ H a = some (.ins (G.ca c) dx []) ∧ Hf a = none ∧ a ∉ ρ ∧ G.cok c ∧
  PostI G Z E a ρ Hf H Q (call f (.bI c [] :: ts) hp)

/-- the names: of the defs, of the classes; which attributes are fields -/
structure Tab where
  fn : List (Option Str)
  cn : List (Option Str)
  fld : List Bool
/-- where the defs stand -/
structure Dat where
  ad : Nat → Addr
  fd : Nat → FuncData
  ps : Nat → List Str
  lv : Nat
structure KCx (X : Cx) (P : Prog) (call : Nat → List T → Hl → R T) (G : Gm) (W : WX) (CX : CXT) (D : Dat) (T : Tab) : Prop where
  hK : X.K = G.K
  calm : X.calm = true
  room : Room (D.lv + 1) X.A
  nm : G.nm.Nodup
  kd : KdOk G
  pas : ∀ σ, Passes CX X (fun c d H => W c d σ H)
  nil : ∀ outer H s u s', CX outer H s (fun _ _ _ => False) u s' → False
  nN : X.N.Nodup
  own : PassesOwn (model X.prog X.w) X.A X.env X.xe
  fn : ∀ (f : Nat) (x : Str), T.fn[f]? = some (some x) → FnOk X.prog X.w X.K X.mg X.base CX D.lv (D.ad f) (D.fd f) (D.ps f) (sp G call f) ∧ X.mg x = some (.ref (D.ad f)) ∧ PySem.W.keepIn X.K (.ref (D.ad f)) = true ∧ Binds X.K (D.fd f) (D.ps f) []
  mt : ∀ (c : Nat) (kc : Kb.Cls) (m f : Nat) (x : Str), P.cls[c]? = some kc → lkN m kc.meths = some f → G.nm[m]? = some x → G.cok c → FnOk X.prog X.w X.K X.mg X.base CX D.lv (D.ad f) (D.fd f) (D.ps f) (sp G call f) ∧ Meth X.K (G.ca c) x (D.ad f) ∧ Binds X.K (D.fd f) (D.ps f) []
  ini : ∀ (c : Nat) (kc : Kb.Cls) (f : Nat) (x : Str), P.cls[c]? = some kc → kc.init = some f → T.cn[c]? = some (some x) → FnOk X.prog X.w X.K X.mg X.base CX D.lv (D.ad f) (D.fd f) (D.ps f) (if kc.mode = 0 then sp G call f else spI G call c f) ∧ Mk X.K (G.ca c) (D.ad f) ∧ X.mg x = some (.ref (G.ca c)) ∧ G.cok c ∧ Binds X.K (D.fd f) (D.ps f) []
  cl : ∀ c, G.cok c → L2.Cls X.K (G.ca c)
  na : ∀ (c f : Nat) (x : Str), G.cok c → T.fld[f]? = some true → G.nm[f]? = some x → NoAttr X.K (G.ca c) x
  sf : ∀ c, G.cok c → PySem.W.selfFirst X.K (G.ca c) = true

section
variable {X : Cx} {P : Prog} {call : Nat → List T → Hl → R T} {G : Gm} {W : WX} {CX : CXT} {D : Dat} {T0 : Tab}
variable {Z : Hp} {ρ : List Addr} {Hf H : Hp} {lσ : Sl} {σ : L2.St} {hp : Hl} {α β : Type} {RR : List Addr → Hp → Hp → α → β → Prop} {Q : β → Hp → Prop}
theorem KCx.un (C : KCx X P call G W CX D T0) : X.A.units + 64 < cLine := C.room.units
theorem KCx.un1 (C : KCx X P call G W CX D T0) : X.A.units + 1 < cLine := by have := C.un; omega

theorem go_E (S : Sto G Z ρ Hf hp H) (L : Slots G ρ Hf H lσ σ) {e : E} {f : T → Hl → R α} {R : VK} (h : Post G Z W σ RR ρ Hf H Q ((evE P call e lσ hp).bind f))
    (k : ∀ a h' ρ' Hf' v H', Nxt none ρ Hf H ρ' Hf' H' → Sto G Z ρ' Hf' h' H' → Slots G ρ' Hf' H' lσ σ → RepB G ρ' Hf' H' a v → Post G Z W σ RR ρ' Hf' H' Q (f a h') → R v H') : tE P call G W e σ H R :=
  ⟨Z, ρ, Hf, lσ, hp, S, L, (Post.bind h (RepB G)).imp fun v H' ⟨a, h', ρ', Hf', _, N, S', r, p⟩ => k a h' ρ' Hf' v H' N S' (L.nxt N) r p⟩
theorem go_T (S : Sto G Z ρ Hf hp H) (L : Slots G ρ Hf H lσ σ) {e : E} {f : Bool → Hl → R α} {R : Bool → Hp → Prop} (h : Post G Z W σ RR ρ Hf H Q ((evT P call e lσ hp).bind f))
    (k : ∀ a h' ρ' Hf' H', Nxt none ρ Hf H ρ' Hf' H' → Sto G Z ρ' Hf' h' H' → Slots G ρ' Hf' H' lσ σ → Post G Z W σ RR ρ' Hf' H' Q (f a h') → R a H') : tTe P call G W e σ H R :=
  ⟨Z, ρ, Hf, lσ, hp, S, L, (Post.bind h (fun _ _ _ (a b : Bool) => a = b)).imp fun v H' ⟨a, h', ρ', Hf', _, N, S', r, p⟩ => by subst r; exact k a h' ρ' Hf' H' N S' (L.nxt N) p⟩
theorem go_Es (S : Sto G Z ρ Hf hp H) (L : Slots G ρ Hf H lσ σ) {es : Es} {f : List T → Hl → R α} {R : List V → Hp → Prop} (h : Post G Z W σ RR ρ Hf H Q ((evEs P call es lσ hp).bind f))
    (k : ∀ a h' ρ' Hf' v H', Nxt none ρ Hf H ρ' Hf' H' → Sto G Z ρ' Hf' h' H' → Slots G ρ' Hf' H' lσ σ → RepBs G ρ' Hf' H' a v → Post G Z W σ RR ρ' Hf' H' Q (f a h') → R v H') : tEs P call G W es σ H R :=
  ⟨Z, ρ, Hf, lσ, hp, S, L, (Post.bind h (RepBs G)).imp fun v H' ⟨a, h', ρ', Hf', _, N, S', r, p⟩ => k a h' ρ' Hf' v H' N S' (L.nxt N) r p⟩
theorem go_O (S : Sto G Z ρ Hf hp H) (L : Slots G ρ Hf H lσ σ) {e : Eo} {f : Option Int → Hl → R α} {R : Option Int → Hp → Prop} (h : Post G Z W σ RR ρ Hf H Q ((evO P call e lσ hp).bind f))
    (k : ∀ a h' ρ' Hf' H', Nxt none ρ Hf H ρ' Hf' H' → Sto G Z ρ' Hf' h' H' → Slots G ρ' Hf' H' lσ σ → Post G Z W σ RR ρ' Hf' H' Q (f a h') → R a H') : tO P call G W e σ H R :=
  ⟨Z, ρ, Hf, lσ, hp, S, L, (Post.bind h (fun _ _ _ (a b : Option Int) => a = b)).imp fun v H' ⟨a, h', ρ', Hf', _, N, S', r, p⟩ => by subst r; exact k a h' ρ' Hf' H' N S' (L.nxt N) p⟩
theorem RepB.nx {t : T} {v : Vv} {ρ' : List Addr} {Hf' H' : Hp} (N : Nxt none ρ Hf H ρ' Hf' H') (r : RepB G ρ Hf H t v) : RepB G ρ' Hf' H' t v := RepB.nxt (Z := Hf) N r
theorem RepBs.nx {ts : List T} {vs : List Vv} {ρ' : List Addr} {Hf' H' : Hp} (N : Nxt none ρ Hf H ρ' Hf' H') (r : RepBs G ρ Hf H ts vs) : RepBs G ρ' Hf' H' ts vs := RepBs.nxt (Z := Hf) N r

def Es.len : Es → Nat
  | .nil => 0
  | .cons _ es => Es.len es + 1

/-! ### names, constants -/
def visC (sc : Scope) (x : Str) : Bool := match sc.names.lookup x with
  | some .local => true | some .cell => true | some .free => true | _ => false
theorem vis_of {sc : Scope} {x : Str} (h : visC sc x = true) : Vis sc x := by
  unfold visC at h
  unfold Vis
  split at h
  · rename_i e; exact .inl e
  · rename_i e; exact .inr (.inl e)
  · rename_i e; exact .inr (.inr e)
  · cases h
theorem k_var {i : Nat} {x : Str} {pos : Pos} (hN : X.N[i]? = some x) (hv : visC X.env.scope x = true) (hd : (x == ("__debug__" : Str)) = false := by decide +kernel) (hcd : (x == ("__classdict__" : Str)) = false := by decide +kernel) :
    PE X (.Name x pos) (tE P call G W (.var i)) := by
  refine PEimp (pe_var hN (vis_of hv) hd hcd) fun σ H Q h => ?_
  obtain ⟨Z, ρ, Hf, lσ, hp, S, L, h⟩ := h
  simp only [evE] at h
  split at h
  · rename_i t e
    obtain ⟨v, h1, h2⟩ := L.slot i t e
    exact ⟨v, h1, h.ret S h2⟩
  · exact h.elim
theorem k_int {i : Int} {j pos} : PE X (.Constant (.int i) j pos) (tE P call G W (.cst (.int i))) := PEimp pe_int fun σ H Q ⟨Z, ρ, Hf, lσ, hp, S, L, h⟩ => P_int S h
theorem k_bl {i : Bool} {j pos} : PE X (.Constant (.bool i) j pos) (tE P call G W (.cst (.bl i))) := PEimp pe_bl fun σ H Q ⟨Z, ρ, Hf, lσ, hp, S, L, h⟩ => P_bl S h
theorem k_non {j pos} : PE X (.Constant .none j pos) (tE P call G W (.cst .non)) := PEimp pe_non fun σ H Q ⟨Z, ρ, Hf, lσ, hp, S, L, h⟩ => h.ret S (Rep.non)
theorem k_str {x : Str} {z : List Nat} {j pos} (hx : x = strV z := by decide +kernel) : PE X (.Constant (.str x) j pos) (tE P call G W (.cst (.str z))) := by
  subst hx
  exact PEimp pe_str fun σ H Q ⟨Z, ρ, Hf, lσ, hp, S, L, h⟩ => P_str S h

/-! ### operators -/
theorem ni_of {z : V} {w : Value} (rz : L2.RelV z w) : w ≠ Value.notImplemented := by
  intro q
  subst q
  cases z <;> first | (cases rz; done) | (obtain ⟨t, e⟩ := rz; cases e; done) | exact rz.elim
theorem op_own (C : KCx X P call G W CX D T0) (σ0 : L2.St) {m : Nat} {op : Operator} (hm : G.nm[m]? = some (PySem.dunder op.info.2)) :
    OpR X (binaryOp op) (fun v u H Q => ∃ Z ρ Hf hp x y, Sto G Z ρ Hf hp H ∧ RepB G ρ Hf H x v ∧ RepB G ρ Hf H y u ∧ Post G Z W σ0 (RepB G) ρ Hf H Q (ownM P call m x y hp)) := by
  intro pins s σ H v u vv uv Q I rv ru h
  obtain ⟨Z, ρ, Hf, hp, x, y, S, rx, ry, h⟩ := h
  unfold ownM at h
  split at h
  · rename_i c fs c' fs' e1 e2
    split at h
    · rename_i ec
      subst ec
      split at h
      · rename_i kc ek
        split at h
        · rename_i f ef
          split at h
          · rename_i hp2
            simp only [Bool.and_eq_true] at hp2
            obtain ⟨a, dx, gs, rfl, ha, _, hc⟩ := ins_at S e1 rx
            obtain ⟨b, dy, gs', rfl, hb, _, _⟩ := ins_at S e2 ry
            cases (show vv = Value.ref a from rv)
            cases (show uv = Value.ref b from ru)
            obtain ⟨F, M, B⟩ := C.mt c kc m f _ ek ef hm hc
            obtain ⟨_, O, _⟩ := ins_get I.hok ha
            obtain ⟨_, J, _⟩ := O.look
            obtain ⟨_, O', _⟩ := ins_get I.hok hb
            obtain ⟨_, J', _⟩ := O'.look
            obtain ⟨m', hF⟩ := I.fr
            refine PySem.W.binop_K hF I.ok.mod.kin J J'.type (C.sf c hc) M.at_ M.fn ?_
            refine wpAny_mono (run_fn (E := fun c d H => W c d σ0 H) (us := [.ref a, .ref b]) (vs := [.ref a, .ref b]) F (C.room.mono (Nat.le_succ _)) B .nil (C.pas σ0) I (.cons rfl (.cons rfl .nil)) ⟨Z, ρ, Hf, hp, [x, y], S, .cons (rx.plain hp2.1) (.cons (ry.plain hp2.2) .nil), h⟩) (fun w s' z => ?_) fun _ _ x => x
            obtain ⟨z', H', I', rz, qz⟩ := z
            have : w ≠ Value.notImplemented := ni_of rz
            unfold PySem.W.CmpBack
            split
            · exact absurd rfl this
            · exact ⟨z', H', I', rz, qz⟩
          · exact h.elim
        · exact h.elim
      · exact h.elim
    · exact h.elim
  · exact h.elim
theorem cmp_own (C : KCx X P call G W CX D T0) (σ0 : L2.St) {m : Nat} (hm : G.nm[m]? = some (cmpInfo .Eq).2.1) :
    OpR X (compareOp .Eq) (fun v u H Q => ∃ Z ρ Hf hp x y, Sto G Z ρ Hf hp H ∧ RepB G ρ Hf H x v ∧ RepB G ρ Hf H y u ∧ Post G Z W σ0 (RepB G) ρ Hf H Q (ownM P call m x y hp)) := by
  intro pins s σ H v u vv uv Q I rv ru h
  obtain ⟨Z, ρ, Hf, hp, x, y, S, rx, ry, h⟩ := h
  unfold ownM at h
  split at h
  · rename_i c fs c' fs' e1 e2
    split at h
    · rename_i ec
      subst ec
      split at h
      · rename_i kc ek
        split at h
        · rename_i f ef
          split at h
          · rename_i hp2
            simp only [Bool.and_eq_true] at hp2
            obtain ⟨a, dx, gs, rfl, ha, _, hc⟩ := ins_at S e1 rx
            obtain ⟨b, dy, gs', rfl, hb, _, _⟩ := ins_at S e2 ry
            cases (show vv = Value.ref a from rv)
            cases (show uv = Value.ref b from ru)
            obtain ⟨F, M, B⟩ := C.mt c kc m f _ ek ef hm hc
            obtain ⟨_, O, _⟩ := ins_get I.hok ha
            obtain ⟨_, J, _⟩ := O.look
            obtain ⟨_, O', _⟩ := ins_get I.hok hb
            obtain ⟨_, J', _⟩ := O'.look
            obtain ⟨m', hF⟩ := I.fr
            show wpAny _ _ (richCompare .Eq _ _) _ _ _
            refine PySem.W.cmp_K (op := .Eq) (tb := .ref (G.ca c)) C.room.units0 hF I.ok.mod.kin J J'.type (by unfold PySem.W.notFirst; simp) M.at_ M.fn ?_
            refine wpAny_mono (run_fn (E := fun c d H => W c d σ0 H) (us := [.ref a, .ref b]) (vs := [.ref a, .ref b]) F (C.room.mono (Nat.le_succ _)) B .nil (C.pas σ0) I (.cons rfl (.cons rfl .nil)) ⟨Z, ρ, Hf, hp, [x, y], S, .cons (rx.plain hp2.1) (.cons (ry.plain hp2.2) .nil), h⟩) (fun w s' z => ?_) fun _ _ x => x
            obtain ⟨z', H', I', rz, qz⟩ := z
            have : w ≠ Value.notImplemented := ni_of rz
            unfold PySem.W.CmpBack
            split
            · exact absurd rfl this
            · exact ⟨z', H', I', rz, qz⟩
          · exact h.elim
        · exact h.elim
      · exact h.elim
    · exact h.elim
  · exact h.elim
/-- the ids of the methods behind operators -/
structure OpNm (P : Prog) (G : Gm) : Prop where
  add : P.mAdd < 1000 → G.nm[P.mAdd]? = some (PySem.dunder (Operator.info .Add).2)
  sub : P.mSub < 1000 → G.nm[P.mSub]? = some (PySem.dunder (Operator.info .Sub).2)
  mul : P.mMul < 1000 → G.nm[P.mMul]? = some (PySem.dunder (Operator.info .Mult).2)
  eq : P.mEq < 1000 → G.nm[P.mEq]? = some (cmpInfo .Eq).2.1
  no : ∀ (c : Nat) (k : Kb.Cls), P.cls[c]? = some k → ∀ m, 1000 ≤ m → lkN m k.meths = none
theorem ownM_no {P : Prog} {call : Nat → List T → Hl → R T} (O : OpNm P G) {m : Nat} (hm : 1000 ≤ m) (x y : T) (h : Hl) : ownM P call m x y h = .stuck := by
  unfold ownM
  split
  · split
    · split
      · rename_i k ek
        rw [O.no _ _ ek m hm]
      · rfl
    · rfl
  · rfl
theorem op_ownE (C : KCx X P call G W CX D T0) (σ0 : L2.St) {m : Nat} {op : Operator} (O : OpNm P G) (hm : m < 1000 → G.nm[m]? = some (PySem.dunder op.info.2)) :
    OpR X (binaryOp op) (fun v u H Q => ∃ Z ρ Hf hp x y, Sto G Z ρ Hf hp H ∧ RepB G ρ Hf H x v ∧ RepB G ρ Hf H y u ∧ Post G Z W σ0 (RepB G) ρ Hf H Q (ownM P call m x y hp)) := by
  by_cases q : m < 1000
  · exact op_own C σ0 (hm q)
  · intro pins s σ H v u vv uv Q I rv ru h
    obtain ⟨Z, ρ, Hf, hp, x, y, S, rx, ry, h⟩ := h
    rw [ownM_no O (Nat.le_of_not_lt q)] at h
    exact h.elim
theorem op_binE (C : KCx X P call G W CX D T0) (O : OpNm P G) (σ0 : L2.St) (o : BOp) :
    OpR X (binaryOp (opN o)) (fun v u H Q => ∃ Z ρ Hf hp x y, Sto G Z ρ Hf hp H ∧ RepB G ρ Hf H x v ∧ RepB G ρ Hf H y u ∧ Post G Z W σ0 (RepB G) ρ Hf H Q (binE P call o x y hp)) := by
  intro pins s σ H v u vv uv Q I rv ru h
  obtain ⟨Z, ρ, Hf, hp, x, y, S, rx, ry, h⟩ := h
  unfold binE at h
  split at h
  · cases o with
    | add => exact op_ownE C σ0 O O.add pins s σ H v u vv uv Q I rv ru ⟨Z, ρ, Hf, hp, x, y, S, rx, ry, h⟩
    | sub => exact op_ownE C σ0 O O.sub pins s σ H v u vv uv Q I rv ru ⟨Z, ρ, Hf, hp, x, y, S, rx, ry, h⟩
    | mul => exact op_ownE C σ0 O O.mul pins s σ H v u vv uv Q I rv ru ⟨Z, ρ, Hf, hp, x, y, S, rx, ry, h⟩
    | _ => exact h.elim
  · exact op_binT C.hK o pins s σ H v u vv uv Q I rv ru ⟨Z, W, σ0, ρ, Hf, hp, x, y, S, rx, ry, h⟩
theorem k_bin (C : KCx X P call G W CX D T0) (O : OpNm P G) {o : BOp} {op : Operator} {a b : Expr} {ea eb : E} {pos : Pos} (ha : PE X a (tE P call G W ea)) (hb : PE X b (tE P call G W eb)) (hop : opN o = op := by rfl) :
    PE X (.BinOp a op b pos) (tE P call G W (.bin o ea eb)) := by
  subst hop
  refine ⟨fun pins s σ H Q I h => (pe_op (op_binE C O σ o) ha hb).run pins s σ H Q I ?_⟩
  obtain ⟨Z, ρ, Hf, lσ, hp, S, L, h⟩ := h
  simp only [evE] at h
  refine go_E S L h fun x h1 ρ1 Hf1 v H1 N1 S1 L1 r1 h => ?_
  refine go_E S1 L1 h fun y h2 ρ2 Hf2 u H2 N2 S2 L2 r2 h => ?_
  exact ⟨Z, ρ2, Hf2, h2, x, y, S2, r1.nx N2, r2, h⟩
theorem oR_cmpT {o : COp} {x y : T} {h : Hl} : (∃ b, cmpT o x y h = .ok (.bl b) h) ∨ cmpT o x y h = .stuck := by
  have key : ∀ (b : Option Bool), (∃ c, oR b h = .ok (.bl c) h) ∨ oR b h = .stuck := fun b => by
    cases b with
    | none => exact .inr rfl
    | some c => exact .inl ⟨c, rfl⟩
  cases o <;> simp only [cmpT] <;> first | exact key _ | (split <;> first | exact key _ | exact .inr rfl)
theorem op_cmpE (C : KCx X P call G W CX D T0) (O : OpNm P G) (σ0 : L2.St) (o : COp) :
    OpR X (compareOp (copN o)) (fun v u H Q => ∃ Z ρ Hf hp x y, Sto G Z ρ Hf hp H ∧ RepB G ρ Hf H x v ∧ RepB G ρ Hf H y u ∧ Post G Z W σ0 (RepB G) ρ Hf H Q (cmpE P call o x y hp)) := by
  intro pins s σ H v u vv uv Q I rv ru h
  obtain ⟨Z, ρ, Hf, hp, x, y, S, rx, ry, h⟩ := h
  unfold cmpE at h
  split at h
  · rename_i q
    simp only [Bool.and_eq_true, decide_eq_true_eq] at q
    obtain ⟨_, rfl⟩ := q
    have h' : Post G Z W σ0 (RepB G) ρ Hf H Q (ownM P call P.mEq x y hp) := by
      generalize hr : ownM P call P.mEq x y hp = r at h
      cases r with
      | ok t h1 =>
        simp only [R.bind_ok] at h
        cases t <;> first | exact h | exact h.elim
      | err c fs h1 => exact h
      | stuck => exact h
    by_cases q : P.mEq < 1000
    · exact cmp_own C σ0 (O.eq q) pins s σ H v u vv uv Q I rv ru ⟨Z, ρ, Hf, hp, x, y, S, rx, ry, h'⟩
    · rw [ownM_no O (Nat.le_of_not_lt q)] at h'
      exact h'.elim
  · exact op_cmpT C.hK C.un o pins s σ H v u vv uv Q I rv ru ⟨Z, W, σ0, ρ, Hf, hp, x, y, S, rx, ry, h⟩
theorem k_cmp (C : KCx X P call G W CX D T0) (O : OpNm P G) {o : COp} {op : CmpOp} {a b : Expr} {ea eb : E} {pos : Pos} (ha : PE X a (tE P call G W ea)) (hb : PE X b (tE P call G W eb)) (hop : copN o = op := by rfl) (hm : behindInMarks op b = false := by rfl) :
    PE X (.Compare a [op] [b] pos) (tE P call G W (.cmp o ea eb)) := by
  subst hop
  refine ⟨fun pins s σ H Q I h => (pe_cmpR (op_cmpE C O σ o) ha hb hm).run pins s σ H Q I ?_⟩
  obtain ⟨Z, ρ, Hf, lσ, hp, S, L, h⟩ := h
  simp only [evE] at h
  refine go_E S L h fun x h1 ρ1 Hf1 v H1 N1 S1 L1 r1 h => ?_
  refine go_E S1 L1 h fun y h2 ρ2 Hf2 u H2 N2 S2 L2 r2 h => ?_
  exact ⟨Z, ρ2, Hf2, h2, x, y, S2, r1.nx N2, r2, h⟩
/-- a result that is a bool, as a test -/
theorem post_bl {W : WX} {x : R T} {Q : Bool → Hp → Prop} (hb : ∀ t h, x = .ok t h → ∃ b, t = .bl b) (h : Post G Z W σ (fun _ _ _ (a b : Bool) => a = b) ρ Hf H Q (x.bind tru)) :
    Post G Z W σ (RepB G) ρ Hf H (fun v H' => ∃ k, v = .bl k ∧ Q k H') x := by
  cases x with
  | ok t h' =>
    obtain ⟨b, rfl⟩ := hb _ _ rfl
    intro ρ' Hf' H' v N S r
    cases (show Rep G ρ' Hf' (.bl b) v from r)
    exact ⟨b, rfl, h ρ' Hf' H' b N S rfl⟩
  | err c fs h' => exact h
  | stuck => exact h
theorem cmpE_bl {o : COp} {x y t : T} {h h' : Hl} (e : cmpE P call o x y h = .ok t h') : ∃ b, t = .bl b := by
  unfold cmpE at e
  split at e
  · generalize ownM P call P.mEq x y h = r at e
    cases r with
    | ok u h1 =>
      simp only [R.bind_ok] at e
      cases u <;> first | (cases e; exact ⟨_, rfl⟩) | cases e
    | err c fs h1 => cases e
    | stuck => cases e
  · rcases oR_cmpT (o := o) (x := x) (y := y) (h := h) with ⟨b, q⟩ | q
    · rw [q] at e; cases e; exact ⟨b, rfl⟩
    · rw [q] at e; cases e
theorem R.bind_assoc {α β γ : Type} (x : R α) (f : α → Hl → R β) (g : β → Hl → R γ) : (x.bind f).bind g = x.bind fun a h => (f a h).bind g := by cases x <;> rfl
theorem kt_cmp (C : KCx X P call G W CX D T0) (O : OpNm P G) {o : COp} {op : CmpOp} {a b : Expr} {ea eb : E} {pos : Pos} (ha : PE X a (tE P call G W ea)) (hb : PE X b (tE P call G W eb)) (hop : copN o = op := by rfl) (hm : behindInMarks op b = false := by rfl) :
    PT X (.Compare a [op] [b] pos) (tTe P call G W (.cmp o ea eb)) := by
  subst hop
  refine ⟨fun pins s σ H Q I h => (pt_cmpR (op_cmpE C O σ o) ha hb hm).run pins s σ H Q I ?_⟩
  obtain ⟨Z, ρ, Hf, lσ, hp, S, L, h⟩ := h
  simp only [evT, evE, R.bind_assoc] at h
  refine go_E S L h fun x h1 ρ1 Hf1 v H1 N1 S1 L1 r1 h => ?_
  refine go_E S1 L1 h fun y h2 ρ2 Hf2 u H2 N2 S2 L2 r2 h => ?_
  exact ⟨Z, ρ2, Hf2, h2, x, y, S2, r1.nx N2, r2, post_bl (fun t h e => cmpE_bl e) h⟩
theorem k_neg {a : Expr} {ea : E} {pos : Pos} (ha : PE X a (tE P call G W ea)) : PE X (.UnaryOp .USub a pos) (tE P call G W (.neg ea)) := by
  refine PEimp (pe_un un_neg ha) fun σ H Q h => ?_
  obtain ⟨Z, ρ, Hf, lσ, hp, S, L, h⟩ := h
  simp only [evE] at h
  refine go_E S L h fun x h1 ρ1 Hf1 v H1 N1 S1 L1 r1 h => ?_
  cases x with
  | int i => exact ⟨i, B_int r1, P_int S1 h⟩
  | _ => exact h.elim

/-! ### truth -/
/-- the value's truth behind it -/
theorem post_tru (hK : X.K = G.K) (S : Sto G Z ρ Hf hp H) {x : T} {v : Vv} (r : RepB G ρ Hf H x v) {f : Bool → Hl → R α} (h : Post G Z W σ RR ρ Hf H Q ((tru x hp).bind f)) : ∃ k, TruV X.K v H k ∧ Post G Z W σ RR ρ Hf H Q (f k hp) := by
  unfold tru at h
  cases e : truT x hp with
  | none => rw [e] at h; exact h.elim
  | some b =>
    rw [e] at h
    exact ⟨b, tru_at S hK e r, h⟩
theorem R.bind_id {α : Type} (x : R α) : x.bind (fun a h => .ok a h) = x := by cases x <;> rfl
theorem kt_val (C : KCx X P call G W CX D T0) {a : Expr} {ea : E} (ha : PE X a (tE P call G W ea)) (he : ∀ whole, isTrue a X.env whole = (do let v ← whole; standAt a.pos; holding [v] (truthy v)) := by intro _; rfl) : PT X a (tTe P call G W ea) := by
  refine PTimp (pt_truth ha he) fun σ H Q h => ?_
  obtain ⟨Z, ρ, Hf, lσ, hp, S, L, h⟩ := h
  simp only [evT] at h
  refine go_E S L h fun x h1 ρ1 Hf1 v H1 N1 S1 L1 r1 h => ?_
  rw [← R.bind_id (tru x h1)] at h
  obtain ⟨k, hk, h⟩ := post_tru C.hK S1 r1 h
  exact ⟨k, hk, h.ret S1 rfl⟩
theorem kt_not {a : Expr} {ea : E} {pos : Pos} (ha : PT X a (tTe P call G W ea)) : PT X (.UnaryOp .Not a pos) (tTe P call G W (.not ea)) := by
  refine PTimp (pt_not ha) fun σ H Q h => ?_
  obtain ⟨Z, ρ, Hf, lσ, hp, S, L, h⟩ := h
  have e : evT P call (.not ea) lσ hp = (evT P call ea lσ hp).bind fun b h => .ok (!b) h := by
    simp only [evT, evE, R.bind_assoc]; rfl
  rw [e] at h
  exact go_T S L h fun k h1 ρ1 Hf1 H1 N1 S1 L1 h => h.ret S1 rfl
theorem evT_and {ea eb : E} {lσ : Sl} {hp : Hl} : evT P call (.and ea eb) lσ hp = (evT P call ea lσ hp).bind fun b h => if b then evT P call eb lσ h else .ok false h := by
  simp only [evT, evE, R.bind_assoc]
  congr 1
  funext x h
  unfold tru
  cases e : truT x h with
  | none => rfl
  | some b =>
    cases b with
    | true => rfl
    | false => show tru x h = _; unfold tru; rw [e]; rfl
theorem evT_or {ea eb : E} {lσ : Sl} {hp : Hl} : evT P call (.or ea eb) lσ hp = (evT P call ea lσ hp).bind fun b h => if b then .ok true h else evT P call eb lσ h := by
  simp only [evT, evE, R.bind_assoc]
  congr 1
  funext x h
  unfold tru
  cases e : truT x h with
  | none => rfl
  | some b =>
    cases b with
    | true => show tru x h = _; unfold tru; rw [e]; rfl
    | false => rfl
theorem kw_and1 {a : Expr} {ea : E} {pos : Pos} (ha : PT X a (tTe P call G W ea)) : PW X (.BoolOp .And [a] pos) (tTe P call G W ea) := pw_and1 ha
theorem kw_or1 {a : Expr} {ea : E} {pos : Pos} (ha : PT X a (tTe P call G W ea)) : PW X (.BoolOp .Or [a] pos) (tTe P call G W ea) := pw_or1 ha
theorem kw_and {a b : Expr} {rest : List Expr} {ea eb : E} {pos : Pos} (ha : PT X a (tTe P call G W ea)) (hb : PW X (.BoolOp .And (b :: rest) pos) (tTe P call G W eb)) : PW X (.BoolOp .And (a :: b :: rest) pos) (tTe P call G W (.and ea eb)) := by
  refine PWimp (pw_and ha hb) fun σ H Q h => ?_
  obtain ⟨Z, ρ, Hf, lσ, hp, S, L, h⟩ := h
  rw [evT_and] at h
  refine go_T S L h fun k h1 ρ1 Hf1 H1 N1 S1 L1 h => ?_
  cases k with
  | true => exact ⟨Z, ρ1, Hf1, lσ, h1, S1, L1, h⟩
  | false => exact h.ret S1 rfl
theorem kw_or {a b : Expr} {rest : List Expr} {ea eb : E} {pos : Pos} (ha : PT X a (tTe P call G W ea)) (hb : PW X (.BoolOp .Or (b :: rest) pos) (tTe P call G W eb)) : PW X (.BoolOp .Or (a :: b :: rest) pos) (tTe P call G W (.or ea eb)) := by
  refine PWimp (pw_or ha hb) fun σ H Q h => ?_
  obtain ⟨Z, ρ, Hf, lσ, hp, S, L, h⟩ := h
  rw [evT_or] at h
  refine go_T S L h fun k h1 ρ1 Hf1 H1 N1 S1 L1 h => ?_
  cases k with
  | true => exact h.ret S1 rfl
  | false => exact ⟨Z, ρ1, Hf1, lσ, h1, S1, L1, h⟩
theorem k_not (C : KCx X P call G W CX D T0) {a : Expr} {ea : E} {pos : Pos} (ha : PE X a (tE P call G W ea)) : PE X (.UnaryOp .Not a pos) (tE P call G W (.not ea)) := by
  refine PEimp (pe_notT ha) fun σ H Q h => ?_
  obtain ⟨Z, ρ, Hf, lσ, hp, S, L, h⟩ := h
  simp only [evE] at h
  refine go_E S L h fun x h1 ρ1 Hf1 v H1 N1 S1 L1 r1 h => ?_
  obtain ⟨k, hk, h⟩ := post_tru C.hK S1 r1 h
  exact ⟨k, hk, P_bl S1 h⟩
theorem k_one {op} {a : Expr} {ea : E} {pos : Pos} (ha : PE X a (tE P call G W ea)) : PE X (.BoolOp op [a] pos) (tE P call G W ea) := pe_one ha
theorem k_and (C : KCx X P call G W CX D T0) {a b : Expr} {rest : List Expr} {ea eb : E} {pos : Pos} (ha : PE X a (tE P call G W ea)) (hb : PE X (.BoolOp .And (b :: rest) pos) (tE P call G W eb)) : PE X (.BoolOp .And (a :: b :: rest) pos) (tE P call G W (.and ea eb)) := by
  refine PEimp (pe_andT ha hb) fun σ H Q h => ?_
  obtain ⟨Z, ρ, Hf, lσ, hp, S, L, h⟩ := h
  simp only [evE] at h
  refine go_E S L h fun x h1 ρ1 Hf1 v H1 N1 S1 L1 r1 h => ?_
  obtain ⟨k, hk, h⟩ := post_tru C.hK S1 r1 h
  refine ⟨k, hk, ?_⟩
  cases k with
  | true => exact ⟨Z, ρ1, Hf1, lσ, h1, S1, L1, h⟩
  | false => exact h.ret S1 r1
theorem k_or (C : KCx X P call G W CX D T0) {a b : Expr} {rest : List Expr} {ea eb : E} {pos : Pos} (ha : PE X a (tE P call G W ea)) (hb : PE X (.BoolOp .Or (b :: rest) pos) (tE P call G W eb)) : PE X (.BoolOp .Or (a :: b :: rest) pos) (tE P call G W (.or ea eb)) := by
  refine PEimp (pe_orT ha hb) fun σ H Q h => ?_
  obtain ⟨Z, ρ, Hf, lσ, hp, S, L, h⟩ := h
  simp only [evE] at h
  refine go_E S L h fun x h1 ρ1 Hf1 v H1 N1 S1 L1 r1 h => ?_
  obtain ⟨k, hk, h⟩ := post_tru C.hK S1 r1 h
  refine ⟨k, hk, ?_⟩
  cases k with
  | true => exact h.ret S1 r1
  | false => exact ⟨Z, ρ1, Hf1, lσ, h1, S1, L1, h⟩
theorem k_ife {c a b : Expr} {ec ea eb : E} {pos : Pos} (hc : PT X c (tTe P call G W ec)) (ha : PE X a (tE P call G W ea)) (hb : PE X b (tE P call G W eb)) : PE X (.IfExp c a b pos) (tE P call G W (.ife ec ea eb)) := by
  refine PEimp (pe_ifExp hc ha hb) fun σ H Q h => ?_
  obtain ⟨Z, ρ, Hf, lσ, hp, S, L, h⟩ := h
  have e : evE P call (.ife ec ea eb) lσ hp = (evT P call ec lσ hp).bind fun t h => if t then evE P call ea lσ h else evE P call eb lσ h := by
    simp only [evT, evE, R.bind_assoc]
  rw [e] at h
  refine go_T S L h fun k h1 ρ1 Hf1 H1 N1 S1 L1 h => ?_
  cases k with
  | true => exact ⟨Z, ρ1, Hf1, lσ, h1, S1, L1, h⟩
  | false => exact ⟨Z, ρ1, Hf1, lσ, h1, S1, L1, h⟩

/-! ### argument lists, displays -/
theorem ka_nil : PA X [] (tEs P call G W .nil) := PAimp pa_nil fun σ H Q ⟨Z, ρ, Hf, lσ, hp, S, L, h⟩ => h.ret S .nil
theorem ka_cons {e : Expr} {es : List Expr} {ie : E} {ies : Es} (ha : PE X e (tE P call G W ie)) (hr : PA X es (tEs P call G W ies)) (hs : starEach (e :: es) X.env = (false, eval e X.env) :: starEach es X.env := by rfl) : PA X (e :: es) (tEs P call G W (.cons ie ies)) := by
  refine PAimp (pa_cons ha hr hs) fun σ H Q h => ?_
  obtain ⟨Z, ρ, Hf, lσ, hp, S, L, h⟩ := h
  simp only [evEs] at h
  refine go_E S L h fun x h1 ρ1 Hf1 v H1 N1 S1 L1 r1 h => ?_
  refine go_Es S1 L1 h fun xs h2 ρ2 Hf2 vs H2 N2 S2 L2 r2 h => ?_
  exact h.ret S2 (.cons (r1.nx N2) r2)
theorem k_tup {es : List Expr} {ies : Es} {x1} {pos : Pos} (ha : PA X es (tEs P call G W ies)) : PE X (.Tuple es x1 pos) (tE P call G W (.tup ies)) := by
  refine PEimp (pe_tup ha) fun σ H Q h => ?_
  obtain ⟨Z, ρ, Hf, lσ, hp, S, L, h⟩ := h
  simp only [evE] at h
  refine go_Es S L h fun xs h1 ρ1 Hf1 vs H1 N1 S1 L1 r1 h => ?_
  split at h
  · rename_i hp2
    simp only [Bool.and_eq_true, decide_eq_true_eq] at hp2
    have r := r1.plain hp2.1
    exact ⟨by rw [← r.length, ← maxLen_eq]; exact hp2.2, P_tup S1 r h⟩
  · exact h.elim

/-! ### subscripts, fields -/
theorem k_idx (C : KCx X P call G W CX D T0) {a b : Expr} {ea eb : E} {pos : Pos} (ha : PE X a (tE P call G W ea)) (hb : PE X b (tE P call G W eb)) (hs : PlainIx b := by intro _ _; rfl) : PE X (.Subscript a b pos) (tE P call G W (.idx ea eb)) := by
  refine PEimp (pe_ix (ix_T C.hK C.un1) ha hb hs) fun σ H Q h => ?_
  obtain ⟨Z, ρ, Hf, lσ, hp, S, L, h⟩ := h
  simp only [evE] at h
  refine go_E S L h fun x h1 ρ1 Hf1 v H1 N1 S1 L1 r1 h => ?_
  refine go_E S1 L1 h fun y h2 ρ2 Hf2 u H2 N2 S2 L2 r2 h => ?_
  exact ⟨Z, W, σ, ρ2, Hf2, h2, x, y, S2, r1.nx N2, r2, h⟩
theorem ko_none : PO X none (tO P call G W .none) := POimp po_none fun σ H Q ⟨Z, ρ, Hf, lσ, hp, S, L, h⟩ => h.ret S rfl
theorem ko_some {e : Expr} {ie : E} (ha : PE X e (tE P call G W ie)) : PO X (some e) (tO P call G W (.some ie)) := by
  refine POimp (po_some ha) fun σ H Q h => ?_
  obtain ⟨Z, ρ, Hf, lσ, hp, S, L, h⟩ := h
  simp only [evO] at h
  refine go_E S L h fun x h1 ρ1 Hf1 v H1 N1 S1 L1 r1 h => ?_
  cases x with
  | int i => exact ⟨i, B_int r1, h.ret S1 rfl⟩
  | _ => exact h.elim
theorem k_sl (C : KCx X P call G W CX D T0) {a : Expr} {lo hi : Option Expr} {ea : E} {el eh : Eo} {pos p2 : Pos} (ha : PE X a (tE P call G W ea)) (hl : PO X lo (tO P call G W el)) (hh : PO X hi (tO P call G W eh)) : PE X (.Subscript a (.Slice lo hi none p2) pos) (tE P call G W (.sl ea el eh)) := by
  refine PEimp (pe_slice (sl_T C.hK) ha hl hh) fun σ H Q h => ?_
  obtain ⟨Z, ρ, Hf, lσ, hp, S, L, h⟩ := h
  simp only [evE] at h
  refine go_E S L h fun x h1 ρ1 Hf1 v H1 N1 S1 L1 r1 h => ?_
  refine go_O S1 L1 h fun l h2 ρ2 Hf2 H2 N2 S2 L2 h => ?_
  refine go_O S2 L2 h fun u h3 ρ3 Hf3 H3 N3 S3 L3 h => ?_
  exact ⟨Z, W, σ, ρ3, Hf3, h3, x, S3, (r1.nx N2).nx N3, h⟩
theorem k_fld (C : KCx X P call G W CX D T0) {a : Expr} {ea : E} {x : Str} {f : Nat} {pos : Pos} (ha : PE X a (tE P call G W ea)) (hx : G.nm[f]? = some x) (hf : T0.fld[f]? = some true) (hb : attributeBase a x X.env (eval a X.env) = eval a X.env := by rfl) : PE X (.Attribute a x pos) (tE P call G W (.fld ea f)) := by
  refine PEimp (pe_fld ha hb) fun σ H Q h => ?_
  obtain ⟨Z, ρ, Hf, lσ, hp, S, L, h⟩ := h
  simp only [evE] at h
  refine go_E S L h fun t h1 ρ1 Hf1 v H1 N1 S1 L1 r1 h => ?_
  have main : ∀ {c fs u}, insOf t h1 = some (c, fs) → lkF f fs = some u → Post G Z W σ (RepB G) ρ1 Hf1 H1 Q (.ok u h1) → ∃ a Cc dx gs w, v = .ref a ∧ H1 a = some (.ins Cc dx gs) ∧ L2.Cls X.K Cc ∧ NoAttr X.K Cc x ∧ gs.lookup x = some w ∧ Q w H1 := fun {c fs u} e1 e2 h => by
    obtain ⟨a, dx, gs, rfl, h2, h3, h4⟩ := ins_at S1 e1 r1
    obtain ⟨w, h5, h6⟩ := (h3.look C.nm hx).1 u e2
    exact ⟨a, _, dx, gs, w, rfl, h2, C.cl c h4, C.na c f x h4 hf hx, h5, h.ret S1 h6.toB⟩
  unfold fldT at h
  split at h
  · rename_i c fs
    exact (nomatch (show Rep G ρ1 Hf1 (.exc c fs) v from r1))
  · split at h
    · rename_i c fs e1
      split at h
      · rename_i u e2
        exact main e1 e2 h
      · exact h.elim
    · exact h.elim

/-! ### calls -/
theorem k_call (C : KCx X P call G W CX D T0) {f : Nat} {x : Str} {e : Expr} {es : List Expr} {ies : Es} {p pos : Pos} (hx : T0.fn[f]? = some (some x)) (hg : Gl X x) (ha : PA X (e :: es) (tEs P call G W ies)) (hdb : (x == ("__debug__" : Str)) = false := by decide +kernel)
    (he : starEach (e :: es) X.env = (false, eval e X.env) :: starEach es X.env := by rfl) (hpl : (backTo pos (starEach es X.env)).any (·.1) = false := by rfl) : PE X (.Call (.Name x p) (e :: es) [] pos) (tE P call G W (.call f ies)) := by
  obtain ⟨F, hm, hk, hb⟩ := C.fn f x hx
  refine ⟨fun pins s σ H Q I h => (pe_call (E := fun c d H => W c d σ H) F (C.room.mono (Nat.le_succ _)) hg hm hk hb .nil (C.pas σ) ha hdb he hpl).run pins s σ H Q I ?_⟩
  obtain ⟨Z, ρ, Hf, lσ, hp, S, L, h⟩ := h
  simp only [evE] at h
  refine go_Es S L h fun vs h1 ρ1 Hf1 us H1 N1 S1 L1 r1 h => ?_
  split at h
  · rename_i hp2
    rw [List.append_nil]
    exact ⟨Z, ρ1, Hf1, h1, vs, S1, r1.plain hp2, h⟩
  · exact h.elim
theorem k_call0 (C : KCx X P call G W CX D T0) {f : Nat} {x : Str} {p pos : Pos} (hx : T0.fn[f]? = some (some x)) (hg : Gl X x) (hdb : (x == ("__debug__" : Str)) = false := by decide +kernel) : PE X (.Call (.Name x p) [] [] pos) (tE P call G W (.call f .nil)) := by
  obtain ⟨F, hm, hk, hb⟩ := C.fn f x hx
  refine ⟨fun pins s σ H Q I h => (pe_call0 (E := fun c d H => W c d σ H) F (C.room.mono (Nat.le_succ _)) hg hm hk hb .nil (C.pas σ) hdb).run pins s σ H Q I ?_⟩
  obtain ⟨Z, ρ, Hf, lσ, hp, S, L, h⟩ := h
  simp only [evE, evEs, R.bind_ok] at h
  exact ⟨Z, ρ, Hf, hp, [], S, .nil, h⟩
/-- keywords: the values in the parameters' order -/
def arrV (vs : List V) : List (Nat ⊕ T) → List V
  | [] => []
  | .inl i :: r => (vs[i]?).getD .non :: arrV vs r
  | .inr _ :: r => .non :: arrV vs r
def arrW (vs : List Value) : List (Nat ⊕ T) → List Value
  | [] => []
  | .inl i :: r => (vs[i]?).getD .none :: arrW vs r
  | .inr _ :: r => .none :: arrW vs r
theorem arr_rel {vs : List V} {us : List Value} (r : Vals vs us) : ∀ arr : List (Nat ⊕ T), Vals (arrV vs arr) (arrW us arr)
  | [] => .nil
  | .inl i :: q => by
    refine .cons ?_ (arr_rel r q)
    cases e : vs[i]? with
    | none => rw [r.none_of e]; rfl
    | some v =>
      obtain ⟨u, h1, h2⟩ := r.get e
      rw [h1]; exact h2
  | .inr _ :: q => .cons rfl (arr_rel r q)
theorem arr_at {ts us : List T} {vs : List V} (r : Reps G ρ Hf ts vs) : ∀ {arr : List (Nat ⊕ T)}, (∀ t, Sum.inr t ∈ arr → isNon t = true) → arrT ts arr = some us → Reps G ρ Hf us (arrV vs arr) := by
  intro arr
  induction arr generalizing us with
  | nil => intro _ e; simp only [arrT] at e; cases e; exact .nil
  | cons x xs ih =>
    intro hf e
    cases x with
    | inl i =>
      simp only [arrT] at e
      split at e
      · rename_i t ts' e1 e2
        cases e
        obtain ⟨v, h1, h2⟩ := r.get e1
        simp only [arrV, h1, Option.getD_some]
        exact .cons h2 (ih (fun t h => hf t (List.mem_cons_of_mem _ h)) e2)
      · cases e
    | inr t =>
      simp only [arrT, Option.map_eq_some_iff] at e
      obtain ⟨ts', e1, rfl⟩ := e
      have h1 := hf t List.mem_cons_self
      simp only [arrV]
      refine .cons ?_ (ih (fun t h => hf t (List.mem_cons_of_mem _ h)) e1)
      cases t <;> first | (simp [isNon] at h1; done) | exact .non
/-- how a call with keywords binds: no defaults -/
theorem kbn_of {K : PySem.W.Frag} {x qual : Str} {st : Stmt} {f : Addr} {fd : FuncData} {ps ks : List Str} {n : Nat} {arr : List (Nat ⊕ T)} (F : Fun K x qual st f fd)
    (h : ∀ (kV doc pm : Value) (an : Option Addr) (cdv ct : Value) (us ws : List Value), us.length = n → ws.length = ks.length → bindArgs (PySem.W.fnOf x qual (defArgs st) (defBody st) (defScope st) .none kV doc pm an cdv ct) ⟨us, ks.zip ws⟩ = pure (ps.zip (arrW (us ++ ws) arr))) :
    KBn K fd ps n ks (fun us ws => arrW (us ++ ws) arr) (fun vs zs => arrV (vs ++ zs) arr) := by
  obtain ⟨oc, od, kV, doc, pm, an, cdv, ct, osl, rfl, lk, hcd⟩ := F.ex
  exact ⟨fun s us ws _ l1 l2 => .of_eq (h kV doc pm an cdv ct us ws l1 l2), fun r q => arr_rel (r.append q) arr⟩
theorem evEs_len : ∀ {es : Es} {lσ : Sl} {h h' : Hl} {vs : List T}, evEs P call es lσ h = .ok vs h' → vs.length = Es.len es
  | .nil, lσ, h, h', vs, e => by simp only [evEs] at e; cases e; rfl
  | .cons e es, lσ, h, h', vs, q => by
    simp only [evEs] at q
    cases e1 : evE P call e lσ h with
    | ok x h1 =>
      rw [e1] at q; simp only [R.bind_ok] at q
      cases e2 : evEs P call es lσ h1 with
      | ok xs h2 =>
        rw [e2] at q; simp only [R.bind_ok] at q
        cases q
        rw [List.length_cons, evEs_len e2]; rfl
      | err c fs h2 => rw [e2] at q; cases q
      | stuck => rw [e2] at q; cases q
    | err c fs h1 => rw [e1] at q; cases q
    | stuck => rw [e1] at q; cases q
theorem RepBs.length : ∀ {ts : List T} {vs : List Vv}, RepBs G ρ Hf H ts vs → ts.length = vs.length
  | _, _, .nil => rfl
  | _, _, .cons _ r => by rw [List.length_cons, List.length_cons, RepBs.length r]
theorem go_EsL (S : Sto G Z ρ Hf hp H) (L : Slots G ρ Hf H lσ σ) {es : Es} {f : List T → Hl → R α} {R : List V → Hp → Prop} (h : Post G Z W σ RR ρ Hf H Q ((evEs P call es lσ hp).bind f))
    (k : ∀ a h' ρ' Hf' v H', Nxt none ρ Hf H ρ' Hf' H' → Sto G Z ρ' Hf' h' H' → Slots G ρ' Hf' H' lσ σ → RepBs G ρ' Hf' H' a v → v.length = Es.len es → Post G Z W σ RR ρ' Hf' H' Q (f a h') → R v H') : tEs P call G W es σ H R :=
  ⟨Z, ρ, Hf, lσ, hp, S, L, (Post.bind h (RepBs G)).imp fun v H' ⟨a, h', ρ', Hf', e, N, S', r, p⟩ => k a h' ρ' Hf' v H' N S' (L.nxt N) r (r.length.symm.trans (evEs_len e)) p⟩
theorem RepBs.append {us : List T} {ws : List Vv} (q : RepBs G ρ Hf H us ws) : ∀ {ts : List T} {vs : List Vv}, RepBs G ρ Hf H ts vs → RepBs G ρ Hf H (ts ++ us) (vs ++ ws)
  | _, _, .nil => q
  | _, _, .cons h r => .cons h (RepBs.append q r)
/-- what an __init__ is asked, behind its values -/
theorem new_core (C : KCx X P call G W CX D T0) {c f : Nat} {kc : Kb.Cls} (hk : P.cls[c]? = some kc) (hi : kc.init = some f) (ok : G.cok c) {h1 : Hl} {ρ1 : List Addr} {Hf1 H1 : Hp} {vs : List T} {us : List V} {σ : L2.St} {Q : VK} (S1 : Sto G Z ρ1 Hf1 h1 H1) (r1 : RepBs G ρ1 Hf1 H1 vs us)
    (h : Post G Z W σ (RepB G) ρ1 Hf1 H1 Q (newT P call c vs h1)) (a dx : Addr) (na : H1 a = none) (nd : H1 dx = none) (hne : dx ≠ a) :
    (if kc.mode = 0 then sp G call f else spI G call c f) (.ref a :: us) (upd (upd H1 dx (.own a)) a (.ins (G.ca c) dx [])) (fun v H2 => v = .non ∧ Q (.ref a) H2) (fun c d H => W c d σ H) := by
  unfold newT at h
  simp only [hk, hi] at h
  split at h
  · rename_i hp2
    have rs := r1.plain hp2
    -- the heap with the new instance
    have nD : Nxt none ρ1 Hf1 H1 ρ1 Hf1 (upd H1 dx (.own a)) := .newB nd
    have SD : Sto G Z ρ1 Hf1 h1 (upd H1 dx (.own a)) := S1.newB nd
    have na' : upd H1 dx (.own a) a = none := by rw [upd_ne hne.symm]; exact na
    have nA : Nxt none ρ1 Hf1 (upd H1 dx (.own a)) ρ1 Hf1 (upd (upd H1 dx (.own a)) a (.ins (G.ca c) dx [])) := .newB na'
    have SA : Sto G Z ρ1 Hf1 h1 (upd (upd H1 dx (.own a)) a (.ins (G.ca c) dx [])) := SD.newB na'
    have fa : Hf1 a = none := S1.ex.free0 na
    have aρ : a ∉ ρ1 := fun z => by
      obtain ⟨_, _, _, _, q, _⟩ := S1.mem z
      obtain ⟨o, ho⟩ := q.there
      rw [na] at ho; cases ho
    split at h
    · -- a cell
      rename_i hmode
      rw [if_pos hmode]
      have SN : Sto G Z (ρ1 ++ [a]) Hf1 (h1 ++ [.ins c []]) (upd (upd H1 dx (.own a)) a (.ins (G.ca c) dx [])) := by
        refine ⟨SA.ex, by rw [List.length_append, List.length_append, S1.len]; rfl, ?_, fun n b cc e1 e2 => ?_, SA.dom⟩
        · rw [List.nodup_append]
          exact ⟨S1.nd, by simp, fun b hb d hd => by simp at hd; subst hd; exact fun z => aρ (z ▸ hb)⟩
        · by_cases hn : n < ρ1.length
          · rw [List.getElem?_append_left hn] at e1
            rw [List.getElem?_append_left (by rw [← S1.len]; exact hn)] at e2
            obtain ⟨q1, q2⟩ := SA.cell n b cc e1 e2
            exact ⟨q1.mono ⟨[a], rfl⟩ (Ex.refl _) fun o z => z, q2⟩
          · have hl := (List.getElem?_eq_some_iff.mp e1).1
            rw [List.length_append, List.length_singleton] at hl
            have en : n = ρ1.length := by omega
            subst en
            rw [List.getElem?_append_right (Nat.le_refl _), Nat.sub_self] at e1
            rw [S1.len, List.getElem?_append_right (Nat.le_refl _), Nat.sub_self] at e2
            cases e1; cases e2
            exact ⟨⟨dx, [], upd_same, .nil, ok⟩, fa⟩
      have NN : Nxt none ρ1 Hf1 H1 (ρ1 ++ [a]) Hf1 (upd (upd H1 dx (.own a)) a (.ins (G.ca c) dx [])) := by
        refine ⟨⟨[a], rfl⟩, Ex.refl _, fun b o e nb hxx => ?_, fun b hb nb => ?_, fun b o e n => by rw [n] at e; cases e⟩
        · rw [upd_ne (ne_of_none e na), upd_ne (ne_of_none e nd)]; exact e
        · rcases List.mem_append.mp hb with hb | hb
          · exact (nb hb).elim
          · simp at hb; subst hb; exact na
      refine ⟨Z, ρ1 ++ [a], Hf1, h1 ++ [.ins c []], .rf h1.length :: vs, SN, .cons (.rf (by rw [← S1.len, List.getElem?_append_right (Nat.le_refl _), Nat.sub_self]; rfl)) (rs.mono ⟨[a], rfl⟩ (Ex.refl _)), ?_⟩
      generalize call f (.rf h1.length :: vs) (h1 ++ [.ins c []]) = r at h
      cases r with
      | ok t h2 =>
        simp only [R.bind_ok] at h
        cases t with
        | non =>
          intro ρ2 Hf2 H2 v N2 S2 r2
          cases (show Rep G ρ2 Hf2 .non v from r2)
          refine ⟨rfl, h ρ2 Hf2 H2 _ (NN.trans SN N2) S2 (Rep.rf ?_)⟩
          obtain ⟨l, rfl⟩ := N2.pre
          rw [List.append_assoc, ← S1.len, List.getElem?_append_right (Nat.le_refl _), Nat.sub_self]; rfl
        | _ => exact h.elim
      | err cc fs h2 => exact fun ρ2 Hf2 H2 d gs N2 S2 e1 e2 => h ρ2 Hf2 H2 d gs (NN.trans SN N2) S2 e1 e2
      | stuck => exact h
    · rename_i hmode
      rw [if_neg hmode]
      split at h
      · -- no cell
        refine ⟨Z, ρ1, Hf1, h1, vs, a, dx, us, rfl, SA, rs, upd_same, fa, aρ, ok, ?_⟩
        have dead : ∀ {b o}, H1 b = some o → b ∉ ρ1 → ∀ {ρ2 Hf2 H2}, Nxt (some a) ρ1 Hf1 (upd (upd H1 dx (.own a)) a (.ins (G.ca c) dx [])) ρ2 Hf2 H2 → H2 b = some o := fun {b o} e nb {ρ2 Hf2 H2} N2 =>
          N2.fr b o (by rw [upd_ne (ne_of_none e na), upd_ne (ne_of_none e nd)]; exact e) nb (fun z => (ne_of_none e na) (Option.some.inj z).symm)
        have old : ∀ {b}, upd (upd H1 dx (.own a)) a (.ins (G.ca c) dx []) b = none → H1 b = none := fun {b} e => by
          cases q : H1 b with
          | none => rfl
          | some o => rw [upd_ne (ne_of_none q na), upd_ne (ne_of_none q nd), q] at e; cases e
        generalize call f (.bI c [] :: vs) h1 = r at h
        cases r with
        | ok t h2 =>
          simp only [R.bind_ok] at h
          intro ρ2 Hf2 H2 c' fs et N2 S2 r2
          subst et
          simp only at h
          split at h
          · rename_i ec
            subst ec
            refine ⟨rfl, ?_⟩
            obtain ⟨a', dx', gs, ea, ha', rF, f2, m2, _⟩ := r2
            cases ea
            have S3 : Sto G Z ρ2 (upd Hf2 a (.ins (G.ca c') dx' gs)) h2 H2 := by
              refine ⟨fun b o e => ?_, S2.len, S2.nd, fun n b cc e1 e2 => ?_, S2.dom⟩
              · by_cases z : b = a
                · subst z; rw [upd_same] at e; cases e; exact ha'
                · rw [upd_ne z] at e; exact S2.ex b o e
              · obtain ⟨q1, q2⟩ := S2.cell n b cc e1 e2
                have nb : b ≠ a := fun z => m2 (z ▸ (List.mem_of_getElem? e1))
                exact ⟨q1.mono ⟨[], by simp⟩ (Ex.new f2) fun o z => z, by rw [upd_ne nb]; exact q2⟩
            have N3 : Nxt none ρ1 Hf1 H1 ρ2 (upd Hf2 a (.ins (G.ca c') dx' gs)) H2 := by
              refine ⟨N2.pre, N2.hf.trans (Ex.new f2), fun b o e nb _ => dead e nb N2, fun b hb nb => old (N2.nw b hb nb), fun b o e n => ?_⟩
              by_cases z : b = a
              · subst z; exact na
              · rw [upd_ne z] at e; exact old (N2.hn b o e n)
            exact h ρ2 _ H2 _ N3 S3 (Rep.ins ok upd_same (rF.mono ⟨[], by simp⟩ (Ex.new f2)))
          · exact h.elim
        | err cc fs h2 =>
          intro ρ2 Hf2 H2 d gs N2 S2 e1 e2
          refine h ρ2 Hf2 H2 d gs ⟨N2.pre, N2.hf, fun b o e nb _ => dead e nb N2, fun b hb nb => old (N2.nw b hb nb), fun b o e n => old (N2.hn b o e n)⟩ S2 e1 e2
        | stuck => exact h
      · exact h.elim
  · exact h.elim
theorem k_new1 (C : KCx X P call G W CX D T0) {c f : Nat} {kc : Kb.Cls} {x : Str} {e : Expr} {es : List Expr} {ies : Es} {p pos : Pos} (hk : P.cls[c]? = some kc) (hi : kc.init = some f) (hx : T0.cn[c]? = some (some x)) (hg : Gl X x) (ha : PA X (e :: es) (tEs P call G W ies))
    (hdb : (x == ("__debug__" : Str)) = false := by decide +kernel) (he : starEach (e :: es) X.env = (false, eval e X.env) :: starEach es X.env := by rfl) (hpl : (backTo pos (starEach es X.env)).any (·.1) = false := by rfl) : PE X (.Call (.Name x p) (e :: es) [] pos) (tE P call G W (.new c ies)) := by
  obtain ⟨F, M, hm, ok, hb⟩ := C.ini c kc f x hk hi hx
  refine ⟨fun pins s σ H Q I h => (pe_make (E := fun c d H => W c d σ H) M F C.room hg hm hb .nil (C.pas σ) ha hdb he hpl).run pins s σ H Q I ?_⟩
  obtain ⟨Z, ρ, Hf, lσ, hp, S, L, h⟩ := h
  simp only [evE] at h
  refine go_Es S L h fun vs h1 ρ1 Hf1 us H1 N1 S1 L1 r1 h => ?_
  intro a dx na nd hne
  rw [List.append_nil]
  exact new_core C hk hi ok S1 r1 h a dx na nd hne
/-- a call of a built-in function -/
theorem k_bf {id : String} {b : BF} {x : Str} {e : Expr} {es : List Expr} {ies : Es} {p pos : Pos} (hc : CallR X (.builtin id) (rF G (bfT b))) (hg : Gl X x) (hm : X.mg x = none) (hv : bootBuiltins x = some (.builtin id)) (ha : PA X (e :: es) (tEs P call G W ies)) (hn : x ≠ "__name__" := by decide +kernel) (hdb : (x == ("__debug__" : Str)) = false := by decide +kernel)
    (he : starEach (e :: es) X.env = (false, eval e X.env) :: starEach es X.env := by rfl) (hpl : (backTo pos (starEach es X.env)).any (·.1) = false := by rfl) : PE X (.Call (.Name x p) (e :: es) [] pos) (tE P call G W (.bf b ies)) := by
  refine PEimp (pe_callB hc hg hm hv ha hn hdb he hpl) fun σ H Q h => ?_
  obtain ⟨Z, ρ, Hf, lσ, hp, S, L, h⟩ := h
  simp only [evE] at h
  refine go_Es S L h fun vs h1 ρ1 Hf1 us H1 N1 S1 L1 r1 h => ?_
  exact ⟨Z, W, σ, ρ1, Hf1, h1, vs, S1, r1, h⟩
theorem k_bty {id : String} {b : BF} {x : Str} {e : Expr} {es : List Expr} {ies : Es} {p pos : Pos} (hc : CallR X (.type id) (rF G (bfT b))) (hg : Gl X x) (hm : X.mg x = none) (hv : bootBuiltins x = some (.type id)) (ha : PA X (e :: es) (tEs P call G W ies)) (hn : x ≠ "__name__" := by decide +kernel) (hdb : (x == ("__debug__" : Str)) = false := by decide +kernel)
    (he : starEach (e :: es) X.env = (false, eval e X.env) :: starEach es X.env := by rfl) (hpl : (backTo pos (starEach es X.env)).any (·.1) = false := by rfl) : PE X (.Call (.Name x p) (e :: es) [] pos) (tE P call G W (.bf b ies)) := by
  refine PEimp (pe_callTy hc hg hm hv ha hn hdb he hpl) fun σ H Q h => ?_
  obtain ⟨Z, ρ, Hf, lσ, hp, S, L, h⟩ := h
  simp only [evE] at h
  refine go_Es S L h fun vs h1 ρ1 Hf1 us H1 N1 S1 L1 r1 h => ?_
  exact ⟨Z, W, σ, ρ1, Hf1, h1, vs, S1, r1, h⟩
theorem k_bfun {id : String} {b : BF} {x : Str} {e : Expr} {es : List Expr} {ies : Es} {p pos : Pos} (hc : CallR X (.builtin id) (rF G (bfT b))) (hg : Gl X x) (hm : X.mg x = some (.builtin id)) (ha : PA X (e :: es) (tEs P call G W ies)) (hdb : (x == ("__debug__" : Str)) = false := by decide +kernel)
    (he : starEach (e :: es) X.env = (false, eval e X.env) :: starEach es X.env := by rfl) (hpl : (backTo pos (starEach es X.env)).any (·.1) = false := by rfl) : PE X (.Call (.Name x p) (e :: es) [] pos) (tE P call G W (.bf b ies)) := by
  refine PEimp (pe_callBfun hc hg hm ha hdb he hpl) fun σ H Q h => ?_
  obtain ⟨Z, ρ, Hf, lσ, hp, S, L, h⟩ := h
  simp only [evE] at h
  refine go_Es S L h fun vs h1 ρ1 Hf1 us H1 N1 S1 L1 r1 h => ?_
  exact ⟨Z, W, σ, ρ1, Hf1, h1, vs, S1, r1, h⟩
end
end Kb
end
section
set_option Elab.async false
set_option linter.all false
set_option maxRecDepth 100000
set_option maxHeartbeats 4000000
set_option autoImplicit false
/-! Kb6: new lists, comprehensions, what is walked, isinstance, methods. -/
namespace Kb
open PySem PySem.Spec PyProof.Rows L2
section
variable {X : Cx} {P : Prog} {call : Nat → List T → Hl → R T} {G : Gm} {W : WX} {CX : CXT} {D : Dat} {T0 : Tab}
variable {Z : Hp} {ρ : List Addr} {Hf H : Hp} {lσ : Sl} {σ : L2.St} {hp : Hl} {α β : Type} {RR : List Addr → Hp → Hp → α → β → Prop} {Q : β → Hp → Prop}
/-! ### new things -/
theorem Sto.free (S : Sto G Z ρ Hf hp H) {a : Addr} (h : H a = none) : Hf a = none ∧ a ∉ ρ ∧ Z a = none := by
  refine ⟨S.ex.free0 h, fun z => ?_, ?_⟩
  · obtain ⟨_, _, _, _, q, _⟩ := S.mem z
    obtain ⟨o, ho⟩ := q.there
    rw [h] at ho; cases ho
  · cases q : Z a with
    | none => rfl
    | some o =>
      obtain ⟨o', h'⟩ := S.dom a o q
      rw [h] at h'; cases h'
theorem Sto.frz (S : Sto G Z ρ Hf hp H) {a : Addr} {o : HO} (h : H a = some o) (f : Hf a = none) (m : a ∉ ρ) : Sto G Z ρ (upd Hf a o) hp H := by
  refine ⟨fun b u e => ?_, S.len, S.nd, fun n b cc e1 e2 => ?_, S.dom⟩
  · by_cases z : b = a
    · subst z; rw [upd_same] at e; cases e; exact h
    · rw [upd_ne z] at e; exact S.ex b u e
  · obtain ⟨q1, q2⟩ := S.cell n b cc e1 e2
    have nb : b ≠ a := fun z => m (z ▸ (List.mem_of_getElem? e1))
    exact ⟨q1.mono ⟨[], by simp⟩ (Ex.new f) fun o z => z, by rw [upd_ne nb]; exact q2⟩
theorem Sto.cellN (S : Sto G Z ρ Hf hp H) {a : Addr} {c : C} (h : CellR G ρ Hf H a c) (f : Hf a = none) (m : a ∉ ρ) : Sto G Z (ρ ++ [a]) Hf (hp ++ [c]) H := by
  refine ⟨S.ex, by rw [List.length_append, List.length_append, S.len]; rfl, ?_, fun n b cc e1 e2 => ?_, S.dom⟩
  · rw [List.nodup_append]
    exact ⟨S.nd, by simp, fun b hb d hd => by simp at hd; subst hd; exact fun z => m (z ▸ hb)⟩
  · by_cases hn : n < ρ.length
    · rw [List.getElem?_append_left hn] at e1
      rw [List.getElem?_append_left (by rw [← S.len]; exact hn)] at e2
      obtain ⟨q1, q2⟩ := S.cell n b cc e1 e2
      exact ⟨q1.mono ⟨[a], rfl⟩ (Ex.refl _) fun o z => z, q2⟩
    · have hl := (List.getElem?_eq_some_iff.mp e1).1
      rw [List.length_append, List.length_singleton] at hl
      have en : n = ρ.length := by omega
      subst en
      rw [List.getElem?_append_right (Nat.le_refl _), Nat.sub_self] at e1
      rw [S.len, List.getElem?_append_right (Nat.le_refl _), Nat.sub_self] at e2
      cases e1; cases e2
      exact ⟨h.mono ⟨[a], rfl⟩ (Ex.refl _) fun o z => z, f⟩
theorem P_al (S : Sto G Z ρ Hf hp H) {Q : VK} {xs : List T} {vs : List Vv} (r : Reps G ρ Hf xs vs) (p : Post G Z W σ (AllocR G Z) ρ Hf H Q (.ok (.lst xs) hp)) : ∀ q, H q = none → Q (.ref q) (upd H q (.lst vs)) := fun q hq => by
  obtain ⟨f, m, z⟩ := S.free hq
  exact p ρ Hf _ (.ref q) (.newB hq) (S.newB hq) ⟨q, rfl, ⟨vs, upd_same, r⟩, f, m, z, fun _ _ e => nomatch e⟩
theorem al0_imp (a : A) (σ : L2.St) (H : Hp) (Q : VK) : tE P call G W (.al false a) σ H Q → tA P call G W a σ H Q := by
  refine fun ⟨Z, ρ, Hf, lσ, hp, S, L, h⟩ => ⟨H, ρ, Hf, lσ, hp, S.ofZ (fun a o e => ⟨o, e⟩), L, ?_⟩
  simp only [evE] at h
  generalize evA P call a lσ hp = r at h
  cases r with
  | ok c h' =>
    intro ρ' Hf' H' v N S' ⟨b, ev, hc, f1, m1, z1, _⟩
    subst ev
    have back : ∀ {o}, H' b = some o → Sto G Z ρ' (upd Hf' b o) h' H' := fun {o} e => (S'.frz e f1 m1).ofZ fun d o e => let ⟨o1, h1⟩ := S.dom d o e; S'.dom d o1 h1
    have NN : ∀ {o}, H' b = some o → Nxt none ρ Hf H ρ' (upd Hf' b o) H' := fun {o} e => ⟨N.pre, N.hf.trans (Ex.new f1), N.fr, N.nw, fun d u e n => by
      by_cases z : d = b
      · subst z; exact z1
      · rw [upd_ne z] at e; exact N.hn d u e n⟩
    simp only [R.bind_ok, Bool.false_eq_true, if_false] at h
    cases c with
    | lst xs =>
      obtain ⟨vs, h1, h2⟩ := hc
      exact h ρ' _ H' _ (NN h1) (back h1) (Rep.lst upd_same (h2.mono ⟨[], by simp⟩ (Ex.new f1)))
    | dct kvs =>
      obtain ⟨gs, h1, h2⟩ := hc
      exact h ρ' _ H' _ (NN h1) (back h1) (Rep.dct upd_same (h2.mono ⟨[], by simp⟩ (Ex.new f1)))
    | ins c fs => exact h.elim
  | err c fs h' =>
    exact fun ρ' Hf' H' d gs N S' e1 e2 => h ρ' Hf' H' d gs N (S'.ofZ fun d o e => let ⟨o1, h1⟩ := S.dom d o e; S'.dom d o1 h1) e1 e2
  | stuck => exact h
theorem al1_imp (a : A) (σ : L2.St) (H : Hp) (Q : VK) : tE P call G W (.al true a) σ H Q → tA P call G W a σ H Q := by
  refine fun ⟨Z, ρ, Hf, lσ, hp, S, L, h⟩ => ⟨H, ρ, Hf, lσ, hp, S.ofZ (fun a o e => ⟨o, e⟩), L, ?_⟩
  simp only [evE] at h
  generalize evA P call a lσ hp = r at h
  cases r with
  | ok c h' =>
    intro ρ' Hf' H' v N S' ⟨b, ev, hc, f1, m1, z1, _⟩
    subst ev
    simp only [R.bind_ok, if_true] at h
    have S2 : Sto G Z (ρ' ++ [b]) Hf' (h' ++ [c]) H' := (S'.cellN hc f1 m1).ofZ fun d o e => let ⟨o1, h1⟩ := S.dom d o e; S'.dom d o1 h1
    refine h (ρ' ++ [b]) Hf' H' _ ⟨?_, N.hf, fun a o e n x => N.fr a o e n x, fun d hd n => ?_, N.hn⟩ S2 (Rep.rf (by rw [← S'.len, List.getElem?_append_right (Nat.le_refl _), Nat.sub_self]; rfl))
    · obtain ⟨l, rfl⟩ := N.pre
      exact ⟨l ++ [b], by rw [List.append_assoc]⟩
    · rcases List.mem_append.mp hd with hd | hd
      · exact N.nw d hd n
      · simp at hd; subst hd; exact z1
  | err c fs h' =>
    exact fun ρ' Hf' H' d gs N S' e1 e2 => h ρ' Hf' H' d gs N (S'.ofZ fun d o e => let ⟨o1, h1⟩ := S.dom d o e; S'.dom d o1 h1) e1 e2
  | stuck => exact h
theorem k_al0 {e : Expr} {a : A} (ha : PE X e (tA P call G W a)) : PE X e (tE P call G W (.al false a)) := PEimp ha (al0_imp a)
theorem k_al1 {e : Expr} {a : A} (ha : PE X e (tA P call G W a)) : PE X e (tE P call G W (.al true a)) := PEimp ha (al1_imp a)
theorem ka_lst {es : List Expr} {ies : Es} {pos : Pos} (ha : PA X es (tEs P call G W ies)) : PE X (.List es pos) (tA P call G W (.lst ies)) := by
  refine PEimp (pe_lst ha) fun σ H Q h => ?_
  obtain ⟨Z, ρ, Hf, lσ, hp, S, L, h⟩ := h
  simp only [evA] at h
  refine go_Es S L h fun xs h1 ρ1 Hf1 vs H1 N1 S1 L1 r1 h => ?_
  split at h
  · rename_i hp2
    simp only [Bool.and_eq_true, decide_eq_true_eq] at hp2
    have r := r1.plain hp2.1
    exact ⟨by rw [← r.length, ← maxLen_eq]; exact hp2.2, P_al S1 r h⟩
  · exact h.elim
theorem ka_lof (C : KCx X P call G W CX D T0) {a : Expr} {ea : E} {p pos : Pos} (hg : Gl X "list") (hm : X.mg "list" = none) (hv : bootBuiltins "list" = some (.type "list")) (ha : PE X a (tE P call G W ea))
    (he : starEach [a] X.env = (false, eval a X.env) :: starEach [] X.env := by rfl) : PE X (.Call (.Name "list" p) [a] [] pos) (tA P call G W (.lof ea)) := by
  refine PEimp (pe_callTy (T := "list") call_list_of hg hm hv (pa_cons ha pa_nil he) (by decide +kernel) (by decide +kernel) he rfl) fun σ H Q h => ?_
  obtain ⟨Z, ρ, Hf, lσ, hp, S, L, h⟩ := h
  simp only [evA] at h
  refine go_E S L h fun x h1 ρ1 Hf1 v H1 N1 S1 L1 r1 h => ?_
  split at h
  · rename_i xs e
    obtain ⟨b, vs, rfl, h2, h3⟩ := seq_at S1 e r1
    exact ⟨b, vs, rfl, by rw [C.hK]; exact h2, P_al S1 h3 h⟩
  · exact h.elim
theorem ka_sl (C : KCx X P call G W CX D T0) {a : Expr} {lo hi : Option Expr} {ea : E} {el eh : Eo} {pos p2 : Pos} (ha : PE X a (tE P call G W ea)) (hl : PO X lo (tO P call G W el)) (hh : PO X hi (tO P call G W eh)) : PE X (.Subscript a (.Slice lo hi none p2) pos) (tA P call G W (.sl ea el eh)) := by
  refine PEimp (pe_slice sl_list ha hl hh) fun σ H Q h => ?_
  obtain ⟨Z, ρ, Hf, lσ, hp, S, L, h⟩ := h
  simp only [evA] at h
  refine go_E S L h fun x h1 ρ1 Hf1 v H1 N1 S1 L1 r1 h => ?_
  refine go_O S1 L1 h fun l h2 ρ2 Hf2 H2 N2 S2 L2 h => ?_
  refine go_O S2 L2 h fun u h3 ρ3 Hf3 H3 N3 S3 L3 h => ?_
  split at h
  · rename_i xs e
    obtain ⟨b, vs, e1, h4, h5⟩ := lst_at S3 e ((r1.nx N2).nx N3)
    exact ⟨b, vs, e1, by rw [C.hK]; exact h4, P_al S3 (cut_at h5 l u) h⟩
  · exact h.elim

/-! ### isinstance -/
inductive KdX (X : Cx) (G : Gm) : List Expr → List Kd → Prop
  | nil : KdX X G [] []
  | ty {x : Str} {p : Pos} {k : Kd} {es : List Expr} {ks : List Kd} {n : String} (hk : kdV G k = .type n) (hg : Gl X x) (hm : X.mg x = none) (hv : bootBuiltins x = some (.type n)) (r : KdX X G es ks) (hn : x ≠ "__name__" := by decide +kernel) (hd : (x == ("__debug__" : Str)) = false := by decide +kernel) : KdX X G (.Name x p :: es) (k :: ks)
  | cls {x : Str} {p : Pos} {c : Nat} {es : List Expr} {ks : List Kd} (hg : Gl X x) (hm : X.mg x = some (.ref (G.ca c))) (hc : G.cok c) (r : KdX X G es ks) (hd : (x == ("__debug__" : Str)) = false := by decide +kernel) : KdX X G (.Name x p :: es) (.cls c :: ks)
/-- the classes as values -/
def kdVv (G : Gm) : Kd → Vv
  | .int => .ty "int" | .bool => .ty "bool" | .str => .ty "str" | .tuple => .ty "tuple" | .list => .ty "list" | .cls c => .ref (G.ca c)
theorem kd_cls (k : Kd) : ClsV (kdVv G k) (kdV G k) := by cases k <;> first | exact .ty _ | exact .own _
def tKs (G : Gm) (ks : List Kd) : TA := fun _ H Q => Q (ks.map (kdVv G)) H
theorem kdx_pa : ∀ {es : List Expr} {ks : List Kd}, KdX X G es ks → PA X es (tKs G ks)
  | _, _, .nil => pa_nil
  | _, _, .ty (k := k) (n := n) hk hg hm hv r hn hd => by
    have e : kdVv G k = .ty n := by cases k <;> first | (cases hk; rfl) | cases hk
    refine PAimp (pa_cons (pe_bltn (v := .ty n) hg hm hv rfl hn hd) (kdx_pa r) rfl) fun σ H Q h => ?_
    show Q (.ty n :: _) H
    rw [← e]; exact h
  | _, _, .cls (c := c) hg hm hc r hd => PAimp (pa_cons (pe_glob (v := .ref (G.ca c)) hg hm rfl hd) (kdx_pa r) rfl) fun σ H Q h => h
theorem kdx_cok : ∀ {es : List Expr} {ks : List Kd}, KdX X G es ks → ∀ k ∈ ks, ∀ d, k = .cls d → G.cok d
  | _, _, .nil, k, h, _, _ => nomatch h
  | _, _, .ty (k := k0) hk _ _ _ r _ _, k, h, d, e => by
    rcases List.mem_cons.mp h with rfl | h
    · subst e; cases hk
    · exact kdx_cok r k h d e
  | _, _, .cls _ _ hc r _, k, h, d, e => by
    rcases List.mem_cons.mp h with rfl | h
    · cases e; exact hc
    · exact kdx_cok r k h d e
theorem boot_isi : bootBuiltins ("isinstance" : Str) = some (.builtin "isinstance") := by first | rfl | decide +kernel
theorem k_isi1 (C : KCx X P call G W CX D T0) {a : Expr} {ea : E} {c : Expr} {k : Kd} {p pos : Pos} (hg : Gl X "isinstance") (hm : X.mg "isinstance" = none) (ha : PE X a (tE P call G W ea)) (hk : KdX X G [c] [k])
    (he : starEach [a, c] X.env = (false, eval a X.env) :: starEach [c] X.env := by rfl) (hpl : (backTo pos (starEach [c] X.env)).any (·.1) = false := by rfl) : PE X (.Call (.Name "isinstance" p) [a, c] [] pos) (tE P call G W (.isi ea [k])) := by
  refine PEimp (pe_callB (id := "isinstance") call_isi hg hm boot_isi (pa_cons ha (kdx_pa hk) he) (by decide +kernel) (by decide +kernel) he hpl) fun σ H Q h => ?_
  obtain ⟨Z, ρ, Hf, lσ, hp, S, L, h⟩ := h
  simp only [evE] at h
  refine go_E S L h fun x h1 ρ1 Hf1 v H1 N1 S1 L1 r1 h => ?_
  split at h
  · rename_i b e
    obtain ⟨t, h2, _, h3⟩ := kd_at C.kd S1 r1 e (kdx_cok hk)
    exact ⟨v, kdVv G k, t, kdV G k, b, rfl, kd_cls k, by rw [C.hK]; exact h2, by rw [C.hK]; exact h3 k rfl, P_bl S1 h⟩
  · exact h.elim
theorem k_isiT (C : KCx X P call G W CX D T0) {a : Expr} {ea : E} {cs : List Expr} {ks : List Kd} {x1} {p pos pos2 : Pos} (hg : Gl X "isinstance") (hm : X.mg "isinstance" = none) (ha : PE X a (tE P call G W ea)) (hk : KdX X G cs ks) (hl : ks.length ≤ 1000)
    (he : starEach [a, .Tuple cs x1 pos2] X.env = (false, eval a X.env) :: starEach [.Tuple cs x1 pos2] X.env := by rfl) (he2 : starEach [.Tuple cs x1 pos2] X.env = (false, eval (.Tuple cs x1 pos2) X.env) :: starEach [] X.env := by rfl) (hpl : (backTo pos (starEach [.Tuple cs x1 pos2] X.env)).any (·.1) = false := by rfl) :
    PE X (.Call (.Name "isinstance" p) [a, .Tuple cs x1 pos2] [] pos) (tE P call G W (.isi ea ks)) := by
  refine PEimp (pe_callB (id := "isinstance") call_isiT hg hm boot_isi (pa_cons ha (pa_cons (pe_tup (kdx_pa hk)) pa_nil he2) he) (by decide +kernel) (by decide +kernel) he hpl) fun σ H Q h => ?_
  obtain ⟨Z, ρ, Hf, lσ, hp, S, L, h⟩ := h
  simp only [evE] at h
  refine go_E S L h fun x h1 ρ1 Hf1 v H1 N1 S1 L1 r1 h => ?_
  split at h
  · rename_i b e
    refine ⟨by rw [List.length_map, sizeLine_eq]; omega, fun q hq => ?_⟩
    have N2 : Nxt none ρ1 Hf1 H1 ρ1 Hf1 (upd H1 q (.tup (ks.map (kdVv G)))) := .newB hq
    have S2 := S1.newB (o := .tup (ks.map (kdVv G))) hq
    obtain ⟨t, h2, h3, _⟩ := kd_at C.kd S2 (r1.nx N2) e (kdx_cok hk)
    have pr : ∀ l : List Kd, Paired ClsV (l.map (kdVv G)) (l.map (kdV G)) := fun l => by
      induction l with
      | nil => exact .nil
      | cons k l ih => exact .cons (kd_cls k) ih
    exact ⟨v, q, ks.map (kdVv G), t, ks.map (kdV G), b, rfl, upd_same, pr ks, by rw [C.hK]; exact h2, by rw [C.hK]; exact h3, P_bl S2 (Post.from S2 N2 h)⟩
  · exact h.elim

/-! ### methods -/
theorem k_meth (C : KCx X P call G W CX D T0) {pl : Sem Bool} {o e : Expr} {es : List Expr} {io : E} {ies : Es} {m : Nat} {x : Str} {apos pos : Pos} (hx : G.nm[m]? = some x) (ho : PE X o (tE P call G W io)) (ha : PA X (e :: es) (tEs P call G W ies))
    (hst : starEach (e :: es) X.env = (false, eval e X.env) :: starEach es X.env := by rfl) (hpl : (backTo pos (starEach es X.env)).any (·.1) = false := by rfl)
    (ht : eval (.Call (.Attribute o x apos) (e :: es) [] pos) X.env = (do
      let ov ← eval o X.env
      standAt apos.atName
      let (f, first) ← holding [ov] (getMethod ov x pl)
      callWith pos f first (backTo pos (starEach (e :: es) X.env)) (backToKw pos (keywordEach [] X.env))) := by rfl) :
    PE X (.Call (.Attribute o x apos) (e :: es) [] pos) (tE P call G W (.meth io m ies)) := by
  refine ⟨fun pins s σ H Q I h => ?_⟩
  obtain ⟨Z, ρ, Hf, lσ, hp, S, L, h⟩ := h
  simp only [evE] at h
  refine PySem.W.methodCall_KW (pl := pl) (thn (ho.run pins s σ H (fun v H1 => ∃ (c f : Nat) (kc : Kb.Cls) (a dx : Addr) (gs : List (Str × V)), v = .ref a ∧ H1 a = some (.ins (G.ca c) dx gs) ∧ gs.lookup x = none ∧ G.cok c ∧ P.cls[c]? = some kc ∧ lkN m kc.meths = some f ∧
    tEs P call G W ies σ H1 fun vs H2 => sp G call f (v :: vs) H2 Q (fun c d H => W c d σ H)) I ?_) fun u s1 ⟨v, H1, I1, rx, c, f, kc, a, dx, gs, ex, ea, l, hc, ek, ef, q⟩ => ?_) ht
  · refine go_E S L h fun t h1 ρ1 Hf1 v H1 N1 S1 L1 r1 h => ?_
    split at h
    · rename_i c fs e1
      split at h
      · rename_i kc ek
        split at h
        · rename_i f ef
          obtain ⟨a, dx, gs, rfl, h2, h3, h4⟩ := ins_at S1 e1 r1
          have en : lkF m fs = none ∧ lkN m kc.meths = some f := by
            cases q : lkF m fs with
            | none => rw [q] at ef; simp only [Option.isNone_none, if_true] at ef; exact ⟨rfl, ef⟩
            | some _ => rw [q] at ef; cases ef
          refine ⟨c, f, kc, a, dx, gs, rfl, h2, (h3.look C.nm hx).2 en.1, h4, ek, en.2, ?_⟩
          refine go_Es S1 L1 h fun vs h2 ρ2 Hf2 us H2 N2 S2 L2 r2 h => ?_
          split at h
          · rename_i hp2
            simp only [Bool.and_eq_true] at hp2
            exact ⟨Z, ρ2, Hf2, h2, t :: vs, S2, .cons ((r1.nx N2).plain hp2.1) (r2.plain hp2.2), h⟩
          · exact h.elim
        · exact h.elim
      · exact h.elim
    · exact h.elim
  · subst ex
    obtain rfl : u = Value.ref a := rx
    obtain ⟨F, M, B⟩ := C.mt c kc m f x ek ef hx hc
    refine getmeth_ok I1 ea (C.cl c hc) M l ?_
    refine PySem.W.callWith_K (first := [.ref a]) (h₀ := X.base) I.ok.mod.kin M.kp (thn (ha.run pos pins s1 σ H1 _ I1 q) fun us s2 ⟨vs, H2, I2, r, q2⟩ => ⟨I2.kIn, ?_⟩) hst hpl
    exact run_fn (E := fun c d H => W c d σ H) (us := .ref a :: us) (vs := .ref a :: vs) F (C.room.mono (Nat.le_succ _)) B .nil (C.pas σ) I2 (.cons rfl r) (by rw [List.append_nil]; exact q2)
/-- f(e, .., k = v, ..) -/
theorem k_callK (C : KCx X P call G W CX D T0) {f : Nat} {x : Str} {e : Expr} {es : List Expr} {kws : List Keyword} {ks : List Str} {ies iks : Es} {arr : List (Nat ⊕ T)} {g : List Value → List Value → List Value} {p pos : Pos} (hx : T0.fn[f]? = some (some x)) (hg : Gl X x) (ha : PA X (e :: es) (tEs P call G W ies)) (hkw : PK X kws (tEs P call G W iks))
    (hb : KBn X.K (D.fd f) (D.ps f) (Es.len ies) ks g (fun vs zs => arrV (vs ++ zs) arr)) (hl : ks.length = Es.len iks := by rfl) (hf : ∀ t, Sum.inr t ∈ arr → isNon t = true := by intro t h; simp at h <;> (rw [h]; rfl))
    (hall : (backToKw pos (keywordEach kws X.env)).all (·.1.isSome) = true := by rfl) (hks : (backToKw pos (keywordEach kws X.env)).filterMap (·.1) = ks := by rfl)
    (hdb : (x == ("__debug__" : Str)) = false := by decide +kernel) (he : starEach (e :: es) X.env = (false, eval e X.env) :: starEach es X.env := by rfl)
    (hpl : ((backTo pos (starEach (e :: es) X.env)).any (·.1) || (backToKw pos (keywordEach kws X.env)).any (·.1.isNone)) = false := by rfl) : PE X (.Call (.Name x p) (e :: es) kws pos) (tE P call G W (.callK f ies iks arr)) := by
  obtain ⟨F, hm, hk, _⟩ := C.fn f x hx
  refine ⟨fun pins s σ H Q I h => (pe_callN (E := fun c d H => W c d σ H) F (C.room.mono (Nat.le_succ _)) hg hm hk hb (C.pas σ) ha hkw hall hks hdb he hpl).run pins s σ H Q I ?_⟩
  obtain ⟨Z, ρ, Hf, lσ, hp, S, L, h⟩ := h
  simp only [evE] at h
  refine go_EsL S L h fun vs h1 ρ1 Hf1 us H1 N1 S1 L1 r1 l1 h => ?_
  refine go_EsL S1 L1 h fun ws h2 ρ2 Hf2 zs H2 N2 S2 L2 r2 l2 h => ?_
  split at h
  · rename_i hp2
    split at h
    · rename_i us' e1
      exact ⟨l1, l2.trans hl.symm, Z, ρ2, Hf2, h2, us', S2, arr_at ((RepBs.append r2 (r1.nx N2)).plain hp2) hf e1, h⟩
    · exact h.elim
  · exact h.elim
/-- f(k = v, ..) -/
theorem k_callK0 (C : KCx X P call G W CX D T0) {f : Nat} {x : Str} {kws : List Keyword} {ks : List Str} {iks : Es} {arr : List (Nat ⊕ T)} {g : List Value → List Value → List Value} {p pos : Pos} (hx : T0.fn[f]? = some (some x)) (hg : Gl X x) (hkw : PK X kws (tEs P call G W iks))
    (hb : KBn X.K (D.fd f) (D.ps f) 0 ks g (fun vs zs => arrV (vs ++ zs) arr)) (hl : ks.length = Es.len iks := by rfl) (hf : ∀ t, Sum.inr t ∈ arr → isNon t = true := by intro t h; simp at h <;> (rw [h]; rfl))
    (hall : (backToKw pos (keywordEach kws X.env)).all (·.1.isSome) = true := by rfl) (hks : (backToKw pos (keywordEach kws X.env)).filterMap (·.1) = ks := by rfl)
    (hdb : (x == ("__debug__" : Str)) = false := by decide +kernel)
    (hpl : ((backTo pos (starEach [] X.env)).any (·.1) || (backToKw pos (keywordEach kws X.env)).any (·.1.isNone)) = false := by rfl) : PE X (.Call (.Name x p) [] kws pos) (tE P call G W (.callK f .nil iks arr)) := by
  obtain ⟨F, hm, hk, _⟩ := C.fn f x hx
  refine ⟨fun pins s σ H Q I h => ?_⟩
  refine wpAny_Call_Name_kw (ld_glob I hg hm ?_ hdb)
  refine PySem.W.callWith_KW0 (h₀ := X.base) I.ok.mod.kin hk hall ?_ hpl
  refine thn (hkw.run pos pins s σ H (fun zs H2 => zs.length = ks.length ∧ sp G call f (arrV zs arr) H2 Q (fun c d H => W c d σ H)) I ?_) fun ws s2 ⟨zs, H2, I2, rz, l2, q2⟩ => ⟨I2.kIn, ?_⟩
  · obtain ⟨Z, ρ, Hf, lσ, hp, S, L, h⟩ := h
    simp only [evE, evEs, R.bind_ok] at h
    refine go_EsL S L h fun ws h2 ρ2 Hf2 zs H2 N2 S2 L2 r2 l2 h => ?_
    split at h
    · rename_i hp2
      split at h
      · rename_i us' e1
        exact ⟨l2.trans hl.symm, Z, ρ2, Hf2, h2, us', S2, arr_at (r2.plain hp2) hf e1, h⟩
      · exact h.elim
    · exact h.elim
  · rw [hks]
    exact run_fnN (E := fun c d H => W c d σ H) (us := []) (vs := []) F (C.room.mono (Nat.le_succ _)) hb (C.pas σ) I2 .nil rz rfl l2 q2
theorem kk_nil : PK X [] (tEs P call G W .nil) := ⟨fun pos pins s σ H Q I ⟨Z, ρ, Hf, lσ, hp, S, L, h⟩ => pk_nil.run pos pins s σ H Q I (h.ret S .nil)⟩
theorem kk_cons {e : Expr} {kws : List Keyword} {nm : Option Str} {kpos : Pos} {ie : E} {ies : Es} (ha : PE X e (tE P call G W ie)) (hr : PK X kws (tEs P call G W ies)) : PK X (⟨nm, e, kpos⟩ :: kws) (tEs P call G W (.cons ie ies)) := by
  refine ⟨fun pos pins s σ H Q I h => (pk_cons ha hr).run pos pins s σ H Q I ?_⟩
  obtain ⟨Z, ρ, Hf, lσ, hp, S, L, h⟩ := h
  simp only [evEs] at h
  refine go_E S L h fun x h1 ρ1 Hf1 v H1 N1 S1 L1 r1 h => ?_
  refine go_Es S1 L1 h fun xs h2 ρ2 Hf2 vs H2 N2 S2 L2 r2 h => ?_
  exact h.ret S2 (.cons (r1.nx N2) r2)
end
end Kb
end
section
set_option Elab.async false
set_option linter.all false
set_option maxRecDepth 100000
set_option maxHeartbeats 4000000
set_option autoImplicit false
/-! Kb7: what is walked, targets, list comprehensions. -/
namespace Kb
open PySem PySem.Spec PyProof.Rows L2
theorem PIimp {X : Cx} {tg e : Expr} {t t' : TI} (h : PI X tg e t) (f : ∀ σ H Q, t' σ H Q → t σ H Q) : PI X tg e t' := ⟨fun pins s σ H Q I q => h.run pins s σ H Q I (f σ H Q q)⟩
/-- an item that a walk gives: it stands, or it is a new pair -/
def ItemR (G : Gm) (ρ : List Addr) (Hf : Hp) (t : T) (x : Vv) (H H' : Hp) : Prop :=
  (H' = H ∧ Rep G ρ Hf t x) ∨ ∃ a b v w q, t = .tup [a, b] ∧ x = .ref q ∧ H q = none ∧ H' = upd H q (.tup [v, w]) ∧ Rep G ρ Hf a v ∧ Rep G ρ Hf b w
def WalksR (G : Gm) (ρ : List Addr) (Hf H : Hp) (xs : List T) (J : L2.It) : Prop :=
  ∃ Gd Y, L2.Walk J xs.length Gd Y ∧ (∀ H', Ex Hf H' → Gd H') ∧ ∀ i H' x H'', Ex Hf H' → Y i H' x H'' → ∃ t, xs[i]? = some t ∧ ItemR G ρ Hf t x H' H''
section
variable {X : Cx} {P : Prog} {call : Nat → List T → Hl → R T} {G : Gm} {W : WX} {CX : CXT} {D : Dat} {T0 : Tab}
variable {Z : Hp} {ρ : List Addr} {Hf H : Hp} {lσ : Sl} {σ : L2.St} {hp : Hl} {α β : Type} {RR : List Addr → Hp → Hp → α → β → Prop} {Q : β → Hp → Prop}
theorem ItemR.go {ρ' : List Addr} {Hf' H' : Hp} {t : T} {x : Vv} (h : ItemR G ρ Hf t x H H') (S : Sto G Z ρ' Hf' hp H) (pr : ∃ l, ρ' = ρ ++ l) (ex : Ex Hf Hf') :
    ∃ Hf'', Nxt none ρ' Hf' H ρ' Hf'' H' ∧ Sto G Z ρ' Hf'' hp H' ∧ Rep G ρ' Hf'' t x := by
  rcases h with ⟨rfl, r⟩ | ⟨a, b, v, w, q, rfl, rfl, hq, rfl, ra, rb⟩
  · exact ⟨Hf', .refl, S, r.mono pr ex⟩
  · refine ⟨upd Hf' q (.tup [v, w]), .new S.ex hq, S.new hq, ?_⟩
    have e2 := ex.trans (Ex.new (o := .tup [v, w]) (S.ex.free0 hq))
    exact .tup (.inl (.inl upd_same)) (.cons (ra.mono pr e2) (.cons (rb.mono pr e2) .nil))
def tI (P : Prog) (call : Nat → List T → Hl → R T) (G : Gm) (W : WX) (it : It) : TI := fun σ H R => ∃ Z ρ Hf lσ hp, Sto G Z ρ Hf hp H ∧ Slots G ρ Hf H lσ σ ∧ Post G Z W σ (WalksR G) ρ Hf H R (evI P call it lσ hp)

theorem wr_list {a : Addr} {xs : List T} {vs : List Vv} (h : SqL G.K Hf a vs) (r : Reps G ρ Hf xs vs) : WalksR G ρ Hf H xs (Itl G.K a) := by
  refine ⟨_, _, by rw [r.length]; exact walk_list, fun H' e => e.sq h, fun i H' x H'' _ hy => ?_⟩
  obtain ⟨rfl, e⟩ := hy
  obtain ⟨t, h1, h2⟩ := r.get' e
  exact ⟨t, h1, .inl ⟨rfl, h2⟩⟩
theorem wr_tup {a : Addr} {xs : List T} {vs : List Vv} (h : SqT G.K Hf a vs) (r : Reps G ρ Hf xs vs) : WalksR G ρ Hf H xs (Itt G.K a) := by
  refine ⟨_, _, by rw [r.length]; exact walk_tup, fun H' e => e.st h, fun i H' x H'' _ hy => ?_⟩
  obtain ⟨rfl, e⟩ := hy
  obtain ⟨t, h1, h2⟩ := r.get' e
  exact ⟨t, h1, .inl ⟨rfl, h2⟩⟩
theorem wr_str (s : List Nat) : WalksR G ρ Hf H (s.map fun c => T.str [c]) (Its (strV s)) := by
  have e1 : (s.map fun c => T.str [c]).length = (strV s).cps.size := by rw [List.length_map]; simp [strV]
  refine ⟨_, _, by rw [e1]; exact walk_str, fun H' e => trivial, fun i H' x H'' _ hy => ?_⟩
  obtain ⟨rfl, c, e, rfl⟩ := hy
  refine ⟨.str [c], ?_, .inl ⟨rfl, Rep.str [c]⟩⟩
  rw [List.getElem?_map]
  have : s[i]? = some c := by simpa [strV] using e
  rw [this]; rfl
theorem lwalk_at {x : T} {xs : List T} {v : Vv} (e : lwalkOf x = some xs) (r : RepB G ρ Hf H x v) : ∃ a vs, v = .ref a ∧ SqL G.K Hf a vs ∧ Reps G ρ Hf xs vs := by
  cases x <;> simp only [lwalkOf] at e <;> cases e
  · obtain ⟨a, vs, rfl, h1, h2⟩ := B_lst r
    exact ⟨a, vs, rfl, .inl (.inl h1), h2⟩
  · rename_i ns
    obtain ⟨a, rfl, h1⟩ := B_kl r
    exact ⟨a, _, rfl, h1, reps_ints ns⟩
theorem ki_e (C : KCx X P call G W CX D T0) {tg e : Expr} {ie : E} (he : PE X e (tE P call G W ie)) : PI X tg e (tI P call G W (.e ie)) := by
  refine ⟨fun pins s σ H R1 I ⟨Z, ρ, Hf, lσ, hp, S, L, h⟩ => ?_⟩
  simp only [evI] at h
  cases hr : evE P call ie lσ hp with
  | ok x h' =>
    rw [hr] at h
    simp only [R.bind_ok] at h
    have viaL : ∀ xs, lwalkOf x = some xs → Post G Z W σ (WalksR G) ρ Hf H R1 (.ok xs h') → wpAny (model X.prog X.w) X.A (eval e X.env) (fun v s1 => wpAny (model X.prog X.w) X.A (pyIter v) (PIE X pins σ tg R1) X.xe s1) X.xe s := fun xs e1 h =>
      (pi_list he).run pins s σ H R1 I ⟨Z, ρ, Hf, lσ, hp, S, L, by
        rw [hr]
        intro ρ' Hf' H' v N S' r
        obtain ⟨a, vs, rfl, h1, h2⟩ := lwalk_at e1 r
        refine ⟨a, rfl, ⟨vs, by rw [C.hK]; exact S'.ex.sq h1⟩, ?_⟩
        rw [C.hK]
        exact h ρ' Hf' H' _ N S' (wr_list h1 h2)⟩
    cases x with
    | lst xs => exact viaL xs rfl h
    | kl ns => exact viaL _ rfl h
    | tup xs =>
      exact (pi_tup he).run pins s σ H R1 I ⟨Z, ρ, Hf, lσ, hp, S, L, by
        rw [hr]
        intro ρ' Hf' H' v N S' r
        obtain ⟨a, vs, rfl, h1, h2⟩ := B_tup r
        refine ⟨a, rfl, ⟨vs, by rw [C.hK]; exact S'.ex.st h1⟩, ?_⟩
        rw [C.hK]
        exact h ρ' Hf' H' _ N S' (wr_tup h1 h2)⟩
    | str z =>
      exact (pi_str he).run pins s σ H R1 I ⟨Z, ρ, Hf, lσ, hp, S, L, by
        rw [hr]
        intro ρ' Hf' H' v N S' r
        obtain rfl := B_str r
        simp only [walkOf] at h
        split at h
        · rename_i xs e1
          split at e1
          · cases e1
            exact ⟨_, rfl, h ρ' Hf' H' _ N S' (wr_str z)⟩
          · cases e1
        · exact h.elim⟩
    | _ => exact h.elim
  | err c fs h' =>
    rw [hr] at h
    exact (pi_list he).run pins s σ H R1 I ⟨Z, ρ, Hf, lσ, hp, S, L, by rw [hr]; exact h⟩
  | stuck => rw [hr] at h; exact h.elim
theorem rng_len (lo hi : Int) : (rngT lo hi).length = (hi - lo).toNat := by simp [rngT]
theorem wr_rng (lo hi : Int) : WalksR G ρ Hf H (rngT lo hi) (Itr lo (hi - lo).toNat) := by
  refine ⟨fun _ => True, fun i H x H' => H' = H ∧ x = .int (lo + (i : Int)) ∧ i < (hi - lo).toNat, ?_, fun H' e => trivial, fun i H' x H'' _ hy => ?_⟩
  · rw [rng_len]
    exact walk_range.mono (fun _ _ => trivial) fun i H x H' hi _ hy => ⟨hy.1, hy.2, hi⟩
  obtain ⟨rfl, rfl, hi⟩ := hy
  refine ⟨.int (lo + (i : Int)), ?_, .inl ⟨rfl, .int _⟩⟩
  unfold rngT
  rw [List.getElem?_map, List.getElem?_range hi]; rfl
theorem ki_rng1 {tg a : Expr} {ea : E} {p pos : Pos} (hg : Gl X "range") (hm : X.mg "range" = none) (ha : PE X a (tE P call G W ea)) (hs : starEach [a] X.env = [(false, eval a X.env)] := by rfl) : PI X tg (.Call (.Name "range" p) [a] [] pos) (tI P call G W (.rng1 ea)) := by
  refine PIimp (pi_range1 hg hm (pa_cons ha pa_nil hs) hs) fun σ H R h => ?_
  obtain ⟨Z, ρ, Hf, lσ, hp, S, L, h⟩ := h
  simp only [evI] at h
  refine go_E S L h fun x h1 ρ1 Hf1 v H1 N1 S1 L1 r1 h => ?_
  cases x with
  | int n =>
    obtain rfl := B_int r1
    simp only at h
    split at h
    · rename_i ok
      simp only [rngOk, Bool.and_eq_true, decide_eq_true_eq] at ok
      refine ⟨n, rfl, by omega, by omega, ?_⟩
      have e := h.ret S1 (wr_rng 0 n)
      rw [Int.sub_zero] at e
      exact e
    · exact h.elim
  | _ => exact h.elim
theorem ki_rng2 {tg a b : Expr} {ea eb : E} {p pos : Pos} (hg : Gl X "range") (hm : X.mg "range" = none) (ha : PE X a (tE P call G W ea)) (hb : PE X b (tE P call G W eb)) (hs : starEach [a, b] X.env = [(false, eval a X.env), (false, eval b X.env)] := by rfl) (hs2 : starEach [b] X.env = [(false, eval b X.env)] := by rfl) :
    PI X tg (.Call (.Name "range" p) [a, b] [] pos) (tI P call G W (.rng2 ea eb)) := by
  refine PIimp (pi_range2 hg hm (pa_cons ha (pa_cons hb pa_nil hs2) (by rw [hs, hs2])) hs hs2) fun σ H R h => ?_
  obtain ⟨Z, ρ, Hf, lσ, hp, S, L, h⟩ := h
  simp only [evI] at h
  refine go_E S L h fun x h1 ρ1 Hf1 v H1 N1 S1 L1 r1 h => ?_
  refine go_E S1 L1 h fun y h2 ρ2 Hf2 u H2 N2 S2 L2 r2 h => ?_
  cases x with
  | int m =>
    cases y with
    | int n =>
      obtain rfl := B_int r1
      obtain rfl := B_int r2
      simp only at h
      split at h
      · rename_i ok
        simp only [rngOk, Bool.and_eq_true, decide_eq_true_eq] at ok
        exact ⟨m, n, rfl, ⟨by omega, by omega, by omega, by omega⟩, h.ret S2 (wr_rng m n)⟩
      · exact h.elim
    | _ => exact h.elim
  | _ => exact h.elim
theorem numT_get : ∀ (n : Nat) (xs : List T) (i : Nat), (numT n xs)[i]? = xs[i]?.map fun x => T.tup [.int ((n + i : Nat) : Int), x]
  | n, [], i => by simp [numT]
  | n, x :: r, 0 => by simp [numT]
  | n, x :: r, i + 1 => by
    simp only [numT, List.getElem?_cons_succ]
    rw [numT_get (n + 1) r i, show n + 1 + i = n + (i + 1) by omega]
theorem numT_len (n : Nat) (xs : List T) : (numT n xs).length = xs.length := by
  induction xs generalizing n with
  | nil => rfl
  | cons x r ih => simp only [numT, List.length_cons, ih]
theorem ki_enum (C : KCx X P call G W CX D T0) {a : Expr} {ea : E} {p pos tpos : Pos} {elts : List Expr} {kk : Nat} (hg : Gl X "enumerate") (hm : X.mg "enumerate" = none) (ha : PE X a (tE P call G W ea)) (hs : starEach [a] X.env = [(false, eval a X.env)] := by rfl) :
    PI X (.Tuple elts kk tpos) (.Call (.Name "enumerate" p) [a] [] pos) (tI P call G W (.enum ea)) := by
  refine PIimp (pi_enum hg hm (pa_cons ha pa_nil hs) hs) fun σ H R h => ?_
  obtain ⟨Z, ρ, Hf, lσ, hp, S, L, h⟩ := h
  simp only [evI] at h
  refine go_E S L h fun x h1 ρ1 Hf1 v H1 N1 S1 L1 r1 h => ?_
  split at h
  · rename_i xs e
    obtain ⟨b, vs, rfl, h2, h3⟩ := lwalk_at e r1
    refine ⟨b, vs, rfl, by rw [C.hK]; exact S1.ex.sq h2, ?_⟩
    rw [C.hK]
    refine h.ret S1 ⟨_, _, by rw [numT_len, h3.length]; exact walk_enum, fun H' e => e.sq h2, fun i H' x H'' _ hy => ?_⟩
    obtain ⟨q, v, w, rfl, hq, rfl, e1, e2⟩ := hy
    cases e1
    obtain ⟨t, e3, r3⟩ := h3.get' e2
    refine ⟨_, by rw [numT_get, e3]; rfl, .inr ⟨_, _, _, _, q, rfl, rfl, hq, rfl, ?_, r3⟩⟩
    rw [Nat.zero_add]; exact .int _
  · exact h.elim

/-! ### targets -/
def gS : List Nat → TGs
  | [] => gNil
  | i :: is => gCons (gName i) (gS is)
def tG (K : PySem.W.Frag) : List Nat → TG
  | [i] => gName i
  | is => gTup K is.length (gS is)
theorem PGimp {X : Cx} {e : Expr} {t t' : TG} (h : PG X e t) (f : ∀ v σ H Q, t' v σ H Q → t v σ H Q) : PG X e t' := ⟨fun pins s σ H v u Q I r q => h.run pins s σ H v u Q I r (f v σ H Q q)⟩
theorem Rep.nbor {t : T} {v : Vv} (r : Rep G ρ Hf t v) : isBor t = false := by cases r <;> rfl
theorem Slots.put (L : Slots G ρ Hf H lσ σ) {i : Nat} {t : T} {v : Vv} (r : Rep G ρ Hf t v) : Slots G ρ Hf H (lσ.set i (some t)) (σ.set i (some v)) := by
  refine ⟨by rw [List.length_set, List.length_set]; exact L.len, fun j u e => ?_, fun j k t1 u1 a hjk e1 e2 b1 b2 s1 s2 => ?_⟩
  · by_cases q : i = j
    · subst q
      have hl : i < lσ.length := by
        have := (List.getElem?_eq_some_iff.mp e).1
        rwa [List.length_set] at this
      rw [List.getElem?_set_self hl] at e
      cases e
      exact ⟨v, List.getElem?_set_self (Nat.lt_of_lt_of_le hl L.len), r.toB⟩
    · rw [List.getElem?_set_ne q] at e
      obtain ⟨w, h1, h2⟩ := L.slot j u e
      exact ⟨w, by rw [List.getElem?_set_ne q]; exact h1, h2⟩
  · have off : ∀ {j : Nat} {u : T}, (lσ.set i (some t))[j]? = some (some u) → isBor u = true → i ≠ j := fun {j u} e b q => by
      subst q
      have hl : i < lσ.length := by
        have := (List.getElem?_eq_some_iff.mp e).1
        rwa [List.length_set] at this
      rw [List.getElem?_set_self hl] at e
      cases e
      rw [r.nbor] at b; cases b
    have n1 := off e1 b1
    have n2 := off e2 b2
    rw [List.getElem?_set_ne n1] at e1 s1
    rw [List.getElem?_set_ne n2] at e2 s2
    exact L.sep j k t1 u1 a hjk e1 e2 b1 b2 s1 s2
theorem Slots.weak {lσ' : Sl} {σ' : L2.St} (L : Slots G ρ Hf H lσ σ) (hl : lσ'.length ≤ σ'.length) (w : ∀ (i : Nat) t, lσ'[i]? = some (some t) → lσ[i]? = some (some t) ∧ σ'[i]? = σ[i]?) : Slots G ρ Hf H lσ' σ' := by
  refine ⟨hl, fun i t e => ?_, fun j k t1 u1 a hjk e1 e2 b1 b2 s1 s2 => ?_⟩
  · obtain ⟨h1, h2⟩ := w i t e
    obtain ⟨v, h3, h4⟩ := L.slot i t h1
    exact ⟨v, h2.trans h3, h4⟩
  · obtain ⟨h1, h2⟩ := w j t1 e1
    obtain ⟨h3, h4⟩ := w k u1 e2
    exact L.sep j k t1 u1 a hjk h1 h3 b1 b2 (h2.symm.trans s1) (h4.symm.trans s2)
theorem wipeT_len (lσ : Sl) : ∀ vs : List Nat, (wipeT lσ vs).length = lσ.length
  | [] => rfl
  | v :: vs => by show ((wipeT lσ vs).set v none).length = _; rw [List.length_set, wipeT_len lσ vs]
theorem Slots.wipe (L : Slots G ρ Hf H lσ σ) (vs : List Nat) : Slots G ρ Hf H (wipeT lσ vs) (L2.wipe σ vs) := by
  refine L.weak (by rw [wipeT_len, wipe_length]; exact L.len) fun i t e => ?_
  have key : ∀ vs : List Nat, (wipeT lσ vs)[i]? = some (some t) → lσ[i]? = some (some t) ∧ i ∉ vs := fun vs => by
    induction vs with
    | nil => exact fun e => ⟨e, by simp⟩
    | cons v vs ih =>
      intro e
      have e : ((wipeT lσ vs).set v none)[i]? = some (some t) := e
      by_cases q : v = i
      · subst q
        by_cases hl : v < (wipeT lσ vs).length
        · rw [List.getElem?_set_self hl] at e; cases e
        · rw [List.getElem?_eq_none (by rw [List.length_set]; omega)] at e; cases e
      · rw [List.getElem?_set_ne q] at e
        obtain ⟨h1, h2⟩ := ih e
        exact ⟨h1, fun z => by
          rcases List.mem_cons.mp z with z | z
          · exact q z.symm
          · exact h2 z⟩
  obtain ⟨h1, h2⟩ := key vs e
  exact ⟨h1, wipe_out h2⟩
theorem wipe_set {i : Nat} {x : Option V} : ∀ {vs : List Nat} {σ : L2.St}, i ∈ vs → L2.wipe (σ.set i x) vs = L2.wipe σ vs
  | v :: vs, σ, h => by
    show (L2.wipe (σ.set i x) vs).set v none = (L2.wipe σ vs).set v none
    by_cases q : i ∈ vs
    · rw [wipe_set q]
    · rcases List.mem_cons.mp h with e | h
      · subst e
        have comm : ∀ vs : List Nat, i ∉ vs → L2.wipe (σ.set i x) vs = (L2.wipe σ vs).set i x := fun vs => by
          induction vs with
          | nil => exact fun _ => rfl
          | cons w ws ih =>
            intro hw
            simp only [List.mem_cons, not_or] at hw
            show (L2.wipe (σ.set i x) ws).set w none = ((L2.wipe σ ws).set w none).set i x
            rw [ih hw.2, List.set_comm _ _ hw.1]
        rw [comm vs q, List.set_set]
      · exact (q h).elim
def setMany (is : List Nat) (t : T) (lσ : Sl) : Option Sl := match t with
  | .tup xs => if xs.length = is.length then some ((is.zip xs).foldl (fun s p => s.set p.1 (some p.2)) lσ) else none
  | _ => none
/-- where a target leads -/
theorem gS_go (R : L2.St → Hp → Prop) : ∀ {is : List Nat} {ts : List T} {vs : List Vv} {lσ : Sl} {σ : L2.St}, Slots G ρ Hf H lσ σ → Reps G ρ Hf ts vs → ts.length = is.length →
    (∀ σ', Slots G ρ Hf H ((is.zip ts).foldl (fun s p => s.set p.1 (some p.2)) lσ) σ' → (∀ ws : List Nat, (∀ i ∈ is, i ∈ ws) → L2.wipe σ' ws = L2.wipe σ ws) → (∀ j, j ∉ is → σ'[j]? = σ[j]?) → σ'.length = σ.length → R σ' H) → gS is vs σ H R
  | [], [], _, lσ, σ, L, .nil, _, k => ⟨rfl, k σ L (fun _ _ => rfl) (fun _ _ => rfl) rfl⟩
  | i :: is, t :: ts, _, lσ, σ, L, .cons (v := v) (vs := vs) h r, hl, k => by
    refine ⟨v, vs, rfl, ?_⟩
    refine gS_go R (L.put (i := i) h) r (by simpa using hl) fun σ' L' w o le => k σ' L' (fun ws hw => ?_) (fun j hj => ?_) (by rw [le, List.length_set])
    · rw [w ws fun j hj => hw j (List.mem_cons_of_mem _ hj), wipe_set (hw i List.mem_cons_self)]
    · simp only [List.mem_cons, not_or] at hj
      rw [o j hj.2, List.getElem?_set_ne (fun z => hj.1 z.symm)]
theorem tG_go {K : PySem.W.Frag} (hK : K = G.K) (S : Sto G Z ρ Hf hp H) (L : Slots G ρ Hf H lσ σ) {tg : List Nat} {t : T} {v : Vv} {lσ' : Sl} (e : setT tg t lσ = some lσ') (r : Rep G ρ Hf t v) {R : L2.St → Hp → Prop}
    (k : ∀ σ', Slots G ρ Hf H lσ' σ' → (∀ ws : List Nat, (∀ i ∈ tg, i ∈ ws) → L2.wipe σ' ws = L2.wipe σ ws) → (∀ j, j ∉ tg → σ'[j]? = σ[j]?) → σ'.length = σ.length → R σ' H) : tG K tg v σ H R := by
  have many : ∀ is : List Nat, setMany is t lσ = some lσ' → (∀ σ', Slots G ρ Hf H lσ' σ' → (∀ ws : List Nat, (∀ i ∈ is, i ∈ ws) → L2.wipe σ' ws = L2.wipe σ ws) → (∀ j, j ∉ is → σ'[j]? = σ[j]?) → σ'.length = σ.length → R σ' H) → gTup K is.length (gS is) v σ H R := fun is e k => by
    cases t with
    | tup xs =>
      simp only [setMany] at e
      split at e
      · rename_i hl
        cases e
        obtain ⟨a, vs, rfl, h1, h2⟩ := B_tup (r.toB (H := H))
        refine ⟨a, vs, rfl, by rw [hK]; exact S.ex.st h1, by rw [← h2.length]; exact hl, gS_go R L h2 hl k⟩
      · cases e
    | _ => cases e
  match tg, e, k with
  | [i], e, k =>
    simp only [setT] at e
    cases e
    exact k _ (L.put r) (fun ws hw => wipe_set (hw i List.mem_cons_self)) (fun j hj => List.getElem?_set_ne (fun z => hj (by simp [z]))) List.length_set
  | [], e, k => exact many [] e k
  | i :: j :: is, e, k => exact many (i :: j :: is) e k
theorem kg_name (hN : X.N.Nodup) {i : Nat} {x : Str} {pos : Pos} (hi : X.N[i]? = some x) (hx : X.env.scope.names.lookup x = some .local := by rfl) : PG X (.Name x pos) (tG G.K [i]) := pg_name hN hi (.inl hx) (.inr hx)
/-- in a block (its own name may be a cell) -/
theorem kg_nameC (hN : X.N.Nodup) {i : Nat} {x : Str} {pos : Pos} (hi : X.N[i]? = some x) (hx : Loc X.env.scope x) (hf : X.fn x = true ∨ X.env.scope.names.lookup x = some .local) : PG X (.Name x pos) (tG G.K [i]) := pg_name hN hi hx hf
theorem kgs_nil : PGs X [] (gS []) := pgs_nil
theorem kgs_cons {e : Expr} {es : List Expr} {i : Nat} {is : List Nat} (h : PG X e (tG G.K [i])) (r : PGs X es (gS is)) (hs : (assignEach (e :: es) X.env).map (·.2) = assign e X.env :: (assignEach es X.env).map (·.2) := by rfl) : PGs X (e :: es) (gS (i :: is)) := pgs_cons h r hs
theorem kg_tup (hK : X.K = G.K) (hc : X.calm = true) {es : List Expr} {k : Nat} {pos : Pos} {i j : Nat} {is : List Nat} (h : PGs X es (gS (i :: j :: is))) (hn : (assignEach es X.env).length = (i :: j :: is).length := by rfl) (hst : (assignEach es X.env).findIdx? (·.1) = none := by rfl) : PG X (.Tuple es k pos) (tG G.K (i :: j :: is)) := by
  rw [← hK]
  exact pg_tup hc h hn hst

/-! ### list comprehensions -/
/-- no exception -/
def WF : WX := fun _ _ _ _ => False
def tCd (P : Prog) (call : Nat → List T → Hl → R T) (G : Gm) (W : WX) (c : Eo) : TT := fun σ H Q => ∃ Z ρ Hf lσ hp, Sto G Z ρ Hf hp H ∧ Slots G ρ Hf H lσ σ ∧ Post G Z W σ (fun _ _ _ (a b : Bool) => a = b) ρ Hf H Q (evC P call c lσ hp)
theorem kc_none : PTs X [] (tCd P call G W .none) := ⟨fun pins s σ H Q I ⟨Z, ρ, Hf, lσ, hp, S, L, h⟩ => pts_nil.run pins s σ H Q I (h.ret S rfl)⟩
theorem kc_some {c : Expr} {ec : E} (h : PT X c (tTe P call G W ec)) : PTs X [c] (tCd P call G W (.some ec)) := ⟨fun pins s σ H Q I q => (pts_one h).run pins s σ H Q I q⟩
theorem Nxt.ofNew {d : Addr} {o : HO} {ρ' : List Addr} {Hf' H' : Hp} (hd : H d = none) (N : Nxt (some d) ρ Hf (upd H d o) ρ' Hf' H') : Nxt none ρ Hf H ρ' Hf' H' := by
  have old : ∀ {b}, upd H d o b = none → H b = none := fun {b} e => by
    cases q : H b with
    | none => rfl
    | some u => rw [upd_ne (ne_of_none q hd), q] at e; cases e
  exact ⟨N.pre, N.hf, fun a u e n _ => N.fr a u (by rw [upd_ne (ne_of_none e hd)]; exact e) n (fun z => (ne_of_none e hd) (Option.some.inj z).symm), fun a h n => old (N.nw a h n), fun a u e n => old (N.hn a u e n)⟩
theorem Nxt.setX {d : Addr} {o : HO} {ρ' : List Addr} {Hf' H' : Hp} (N : Nxt (some d) ρ Hf H ρ' Hf' H') : Nxt (some d) ρ Hf H ρ' Hf' (upd H' d o) :=
  ⟨N.pre, N.hf, fun a u e n x => by rw [upd_ne (fun z => x (by rw [z]))]; exact N.fr a u e n x, N.nw, N.hn⟩
theorem Sto.setX (S : Sto G Z ρ Hf hp H) {d : Addr} {o : HO} (f : Hf d = none) (m : d ∉ ρ) : Sto G Z ρ Hf hp (upd H d o) := by
  refine ⟨S.ex.updR f, S.len, S.nd, fun n a c h1 h2 => ?_, fun a u e => ?_⟩
  · obtain ⟨q1, q2⟩ := S.cell n a c h1 h2
    have na : a ≠ d := fun z => m (z ▸ List.mem_of_getElem? h1)
    exact ⟨q1.mono ⟨[], by simp⟩ (Ex.refl _) fun o z => by rw [upd_ne na]; exact z, q2⟩
  · by_cases z : a = d
    · subst z; exact ⟨_, upd_same⟩
    · obtain ⟨u', h'⟩ := S.dom a u e
      exact ⟨u', by rw [upd_ne z]; exact h'⟩
theorem KCx.blk (C : KCx X P call G W CX D T0) (s : Shared) (H : Hp) (scope : Scope) (env : Env) (fp : List Addr) : KCx (X.blk s H scope env fp) P call G WF CX D T0 where
  hK := C.hK
  calm := C.calm
  room := C.room
  nm := C.nm
  kd := C.kd
  pas := fun σ pins σ' H s e s' I h => C.nil _ _ _ _ _ h
  nil := C.nil
  nN := C.nN
  own := PassesOwn.never
  fn := C.fn
  mt := C.mt
  ini := C.ini
  cl := C.cl
  na := C.na
  sf := C.sf
theorem lc_imp {own : List (Str × Nat)} {it : It} {tg : List Nat} {c : Eo} {ie : E} (hsub : tg.all (fun i => (own.map (·.2)).contains i) = true) (σ : L2.St) (H : Hp) (Q : VK) :
    tA P call G W (.lc it tg (own.map (·.2)) c ie) σ H Q → tLc (tI P call G W it) (tG G.K tg) (tCd P call G WF c) (tE P call G WF ie) (own.map (·.2)) σ H Q := by
  intro h
  obtain ⟨Z, ρ, Hf, lσ, hp, S, L, h⟩ := h
  simp only [evA] at h
  refine ⟨Z, ρ, Hf, lσ, hp, S, L, (Post.bind h (WalksR G)).imp fun J H1 ⟨xs, h1, ρ1, Hf1, _, N1, S1, wk, q⟩ => ?_⟩
  intro Dd hD
  split at q
  case isFalse => exact q.elim
  rename_i hlen
  obtain ⟨Gd, Y, wlk, gd, yy⟩ := wk
  have L1 : Slots G ρ1 Hf1 H1 lσ σ := L.nxt N1
  obtain ⟨fD, mD, zD⟩ := S1.free hD
  generalize hf : (fun σ h => (evC P call c σ h).bind fun b h => if b then (evE P call ie σ h).bind fun y h => R.ok (some y) h else R.ok none h) = f at q
  refine lc_it wlk (fun i H => ∃ ρ2 Hf2 h2 acc ws, Nxt (some Dd) ρ1 Hf1 (upd H1 Dd (.lst [])) ρ2 Hf2 H ∧ Sto G Z ρ2 Hf2 h2 H ∧ H Dd = some (.lst ws) ∧ Hf2 Dd = none ∧ Dd ∉ ρ2 ∧ Reps G ρ2 Hf2 acc ws ∧ acc.length ≤ i ∧
    Post G Z W σ (AllocR G Z) ρ1 Hf1 H1 Q ((lcG f tg (wipeT lσ (own.map (·.2))) (xs.drop i) h2).bind fun ys h => .ok (.lst (acc ++ ys)) h)) ?_ ?_ ?_ ?_
  · exact ⟨ρ1, Hf1, h1, [], [], .refl, S1.newB hD, upd_same, fD, mD, .nil, Nat.le_refl _, q⟩
  · intro i H _ ⟨ρ2, Hf2, h2, acc, ws, N2, S2, _⟩
    exact gd H fun a o e => S2.ex a o (N2.hf a o e)
  · intro i x Hc H' hi' ⟨ρ2, Hf2, h2, acc, ws, N2, S2, hDd, fD2, mD2, rA, lA, q⟩ hy
    obtain ⟨t, et, item⟩ := yy i Hc x H' (fun a o e => S2.ex a o (N2.hf a o e)) hy
    obtain ⟨Hf3, N3, S3, rt⟩ := item.go S2 N2.pre N2.hf
    have ed : xs.drop i = t :: xs.drop (i + 1) := by
      obtain ⟨hl, hx⟩ := List.getElem?_eq_some_iff.mp et
      rw [List.drop_eq_getElem_cons hl, hx]
    rw [ed] at q
    simp only [lcG] at q
    split at q
    · exact q.elim
    · rename_i lσ' es
      have base3 : Nxt none ρ1 Hf1 H1 ρ2 Hf3 H' := (N2.ofNew hD).trans S2 N3 (by intro a h; cases h)
      have L3 : Slots G ρ2 Hf3 H' (wipeT lσ (own.map (·.2))) (L2.wipe σ (own.map (·.2))) := (L1.nxt base3).wipe _
      refine tG_go rfl S3 L3 es rt fun σ2 L4 hw _ _ => ⟨?_, ?_⟩
      · have e1 := hw (own.map (·.2)) fun i hi => by
          have := List.all_eq_true.mp hsub i hi
          exact List.contains_iff_mem.mp this
        rw [e1]
        have idem : ∀ vs : List Nat, L2.wipe (L2.wipe σ vs) vs = L2.wipe σ vs := fun vs => by
          have key : ∀ us : List Nat, (∀ i ∈ us, i ∈ vs) → L2.wipe (L2.wipe σ us) vs = L2.wipe σ vs := fun us => by
            induction us with
            | nil => exact fun _ => rfl
            | cons u us ih =>
              intro hu
              show L2.wipe ((L2.wipe σ us).set u none) vs = _
              rw [wipe_set (hu u List.mem_cons_self), ih fun i hi => hu i (List.mem_cons_of_mem _ hi)]
          exact key vs fun _ h => h
        exact idem _
      · rw [← hf] at q
        simp only at q
        have h3D : H' Dd = some (.lst ws) := N3.fr Dd _ hDd mD2 (by simp)
        cases ec : evC P call c lσ' h2 with
        | err cc fs h3 => rw [ec] at q; exact q.elim
        | stuck => rw [ec] at q; exact q.elim
        | ok b h3 =>
          rw [ec] at q
          simp only [R.bind_ok] at q
          refine ⟨Z, ρ2, Hf3, lσ', h2, S3, L4, ?_⟩
          rw [ec]
          intro ρ4 Hf4 H4 b' N4 S4 eb
          subst eb
          have base4 : Nxt (some Dd) ρ1 Hf1 (upd H1 Dd (.lst [])) ρ4 Hf4 H4 := (N2.trans S2 N3.wide (by intro a e; cases e; exact ⟨_, hDd⟩)).trans S3 N4.wide (by intro a e; cases e; exact ⟨_, h3D⟩)
          have f3D : Hf3 Dd = none := by
            cases z : Hf3 Dd with
            | none => rfl
            | some o => have := N3.hn Dd o z fD2; rw [hDd] at this; cases this
          have f4D : Hf4 Dd = none := by
            cases z : Hf4 Dd with
            | none => rfl
            | some o => have := N4.hn Dd o z f3D; rw [h3D] at this; cases this
          have m4D : Dd ∉ ρ4 := fun z => by have := N4.nw Dd z mD2; rw [h3D] at this; cases this
          have h4D : H4 Dd = some (.lst ws) := N4.fr Dd _ h3D mD2 (by simp)
          cases b with
          | false =>
            simp only [Bool.false_eq_true, if_false, R.noErr_ok, R.bind_ok] at q ⊢
            rw [hf] at q
            exact ⟨ρ4, Hf4, h3, acc, ws, base4, S4, h4D, f4D, m4D, (rA.mono N3.pre N3.hf).mono N4.pre N4.hf, Nat.le_succ_of_le lA, q⟩
          | true =>
            simp only [if_true] at q ⊢
            cases ee : evE P call ie lσ' h3 with
            | err cc fs h5 => rw [ee] at q; exact q.elim
            | stuck => rw [ee] at q; exact q.elim
            | ok y h5 =>
              rw [ee] at q
              simp only [R.bind_ok, R.noErr_ok] at q
              refine ⟨Z, ρ4, Hf4, lσ', h3, S4, L4.nxt N4, ?_⟩
              rw [ee]
              intro ρ5 Hf5 H5 v N5 S5 rv
              split at q
              · rename_i py
                have h5D : H5 Dd = some (.lst ws) := N5.fr Dd _ h4D m4D (by simp)
                have f5D : Hf5 Dd = none := by
                  cases z : Hf5 Dd with
                  | none => rfl
                  | some o => have := N5.hn Dd o z f4D; rw [h4D] at this; cases this
                have m5D : Dd ∉ ρ5 := fun z => by have := N5.nw Dd z m4D; rw [h4D] at this; cases this
                refine ⟨ws, h5D, ?_, ρ5, Hf5, h5, acc ++ [y], ws ++ [v], (base4.trans S4 N5.wide (by intro a e; cases e; exact ⟨_, h4D⟩)).setX, S5.setX f5D m5D, upd_same, f5D, m5D, ?_, by rw [List.length_append]; exact Nat.succ_le_succ lA, ?_⟩
                · rw [← rA.length, ← maxLen_eq]
                  have := (List.getElem?_eq_some_iff.mp et).1
                  omega
                · exact (((rA.mono N3.pre N3.hf).mono N4.pre N4.hf).mono N5.pre N5.hf).append (.cons (rv.plain py) .nil)
                · rw [hf, R.bind_assoc] at q
                  simp only [R.bind_ok] at q
                  have e9 : (fun ys h => R.ok (Kb.C.lst (acc ++ y :: ys)) h) = (fun ys h => R.ok (Kb.C.lst (acc ++ [y] ++ ys)) h) := by
                    funext ys h; rw [List.append_assoc]; rfl
                  rw [e9] at q
                  exact q
              · exact q.elim
  · intro H ⟨ρ2, Hf2, h2, acc, ws, N2, S2, hDd, fD2, mD2, rA, lA, q⟩
    rw [List.drop_eq_nil_of_le (Nat.le_refl _)] at q
    simp only [lcG, R.bind_ok, List.append_nil] at q
    exact q ρ2 Hf2 H _ (N2.ofNew hD) S2 ⟨Dd, rfl, ⟨ws, hDd, rA⟩, fD2, mD2, zD, fun _ _ e => nomatch e⟩
theorem ka_lc (C : KCx X P call G W CX D T0) {elt tgE iter : Expr} {ifs : List Expr} {scope : Scope} {own : List (Str × Nat)} {pos : Pos} {it : It} {tg : List Nat} {c : Eo} {ie : E} (hi : PI X tgE iter (tI P call G W it)) (ok : blkC X.N X.env.scope scope own = true)
    (hg : ∀ (s : Shared) (H : Hp) (Cc : Addr) (cl : List (Str × Addr)) (fp : List Addr), PG (X.blk s H scope (compEnvC scope cl Cc X.env) fp) tgE (tG G.K tg))
    (ht : ∀ (s : Shared) (H : Hp) (Cc : Addr) (cl : List (Str × Addr)) (fp : List Addr), PTs (X.blk s H scope (compEnvC scope cl Cc X.env) fp) ifs (tCd P call G WF c))
    (he : ∀ (s : Shared) (H : Hp) (Cc : Addr) (cl : List (Str × Addr)) (fp : List Addr), PE (X.blk s H scope (compEnvC scope cl Cc X.env) fp) elt (tE P call G WF ie)) (hs : ∀ x, foldedSetIterable iter X.env x = pure x := by intro _; rfl)
    (hsub : tg.all (fun i => (own.map (·.2)).contains i) = true := by rfl) : PE X (.ListComp elt [⟨tgE, iter, ifs, 0⟩] scope pos) (tA P call G W (.lc it tg (own.map (·.2)) c ie)) := by
  exact PEimp (pe_lc C.calm C.nN hi (blkOk_by ok) hg ht he hs) (lc_imp hsub)
end
end Kb
end
section
set_option Elab.async false
set_option linter.all false
set_option maxRecDepth 100000
set_option maxHeartbeats 4000000
set_option autoImplicit false
/-! Kb8: statements. -/
namespace Kb
open PySem PySem.Spec PyProof.Rows L2
/-- where a def began: the heaps; x: the object that it may change though it stood before (an __init__'s instance) -/
structure Ent where
  x : Option Addr
  ρ : List Addr
  Hf : Hp
  H : Hp
  /-- what has stood since then (a loop's start) -/
  ρa : List Addr
  Ha : Hp
def isInsT : T → Bool
  | .bI _ _ => true | _ => false
def OwnN (En : Ent) (lσ : Sl) (σ : L2.St) : Prop := ∀ (i : Nat) (t : T) (a : Addr), lσ[i]? = some (some t) → isBor t = true → σ[i]? = some (some (.ref a)) → (En.H a = none ∧ isInsT t = false) ∨ (En.x = some a ∧ isInsT t = true)
structure StA (G : Gm) (En : Ent) (ρ : List Addr) (Hf : Hp) (lσ : Sl) (hp : Hl) (σ : L2.St) (H : Hp) : Prop where
  S : Sto G En.H ρ Hf hp H
  L : Slots G ρ Hf H lσ σ
  N : Nxt En.x En.ρ En.Hf En.H ρ Hf H
  O : OwnN En lσ σ
  x : ∀ a, En.x = some a → ∃ o, En.H a = some o
  pr : ∃ l, ρ = En.ρa ++ l
  ex : Ex En.Ha Hf
def St1 (G : Gm) (En : Ent) (lσ : Sl) (hp : Hl) (σ : L2.St) (H : Hp) : Prop := ∃ ρ Hf, StA G En ρ Hf lσ hp σ H
def PostS (G : Gm) (W : WX) (En : Ent) (D : Ends) : RS → Prop
  | .nx lσ h => ∀ σ H, St1 G En lσ h σ H → D.nx σ H
  | .bk lσ h => ∀ σ H, St1 G En lσ h σ H → D.bk σ H
  | .ct lσ h => ∀ σ H, St1 G En lσ h σ H → D.ct σ H
  | .rt t h => ∀ ρ Hf H v, Nxt En.x En.ρ En.Hf En.H ρ Hf H → Sto G En.H ρ Hf h H → Rep G ρ Hf t v → D.rt v H
  | .err c fs lσ h => ∀ σ ρ Hf H d gs, StA G En ρ Hf lσ h σ H → H d = some (.xd gs) → RepF G ρ Hf fs gs → W (.ref (G.ca c)) (some d) σ H
  | .stuck => False
section
variable (P : Prog) (call : Nat → List T → Hl → R T) (G : Gm) (W : WX) (Wn : Nat)
def tS (s : Kb.S) : TS := fun D σ H => ∃ En lσ hp, St1 G En lσ hp σ H ∧ PostS G W En D (exS P call Wn s lσ hp)
def tB (b : B) : TS := fun D σ H => ∃ En lσ hp, St1 G En lσ hp σ H ∧ PostS G W En D (exB P call Wn b lσ hp)
end
section
variable {X : Cx} {P : Prog} {call : Nat → List T → Hl → R T} {G : Gm} {W : WX} {CX : CXT} {D : Dat} {T0 : Tab} {Wn : Nat}
variable {En : Ent} {ρ ρ' : List Addr} {Hf H Hf' H' : Hp} {lσ : Sl} {σ : L2.St} {hp hp' : Hl} {E : Ends}
theorem PSimp {s : Stmt} {t t' : TS} (h : PS X s t) (f : ∀ E σ H, t' E σ H → t E σ H) : PS X s t' := ⟨fun pins s σ H E I q => h.run pins s σ H E I (f E σ H q)⟩
theorem PSsimp {s : List Stmt} {t t' : TS} (h : PSs X s t) (f : ∀ E σ H, t' E σ H → t E σ H) : PSs X s t' := ⟨fun pins s σ H E I q => h.run pins s σ H E I (f E σ H q)⟩
theorem StA.hx (A : StA G En ρ Hf lσ hp σ H) : ∀ a, En.x = some a → ∃ o, H a = some o := fun a e => let ⟨o, h⟩ := A.x a e; A.S.dom a o h
theorem StA.nxt (A : StA G En ρ Hf lσ hp σ H) (N : Nxt none ρ Hf H ρ' Hf' H') (S' : Sto G En.H ρ' Hf' hp' H') : StA G En ρ' Hf' lσ hp' σ H' := ⟨S', A.L.nxt N, A.N.trans A.S N.wide A.hx, A.O, A.x, (let ⟨l, e⟩ := A.pr; let ⟨m, e2⟩ := N.pre; ⟨l ++ m, by rw [e2, e, List.append_assoc]⟩), A.ex.trans N.hf⟩
theorem PostS.errv {c : Nat} {fs : List (Nat × T)} {h' : Hl} (A : StA G En ρ Hf lσ hp σ H) (h : PostS G W En E (.err c fs lσ h')) : PErr G En.H W σ ρ Hf H c fs h' := fun ρ' Hf' H' d gs N S e1 e2 => h σ ρ' Hf' H' d gs (A.nxt N S) e1 e2
theorem go_sE (A : StA G En ρ Hf lσ hp σ H) {e : Kb.E} {f : T → Hl → RS} {R : VK} (h : PostS G W En E ((evE P call e lσ hp).toS lσ f))
    (k : ∀ a h' ρ' Hf' v H', StA G En ρ' Hf' lσ h' σ H' → Nxt none ρ Hf H ρ' Hf' H' → RepB G ρ' Hf' H' a v → PostS G W En E (f a h') → R v H') : tE P call G W e σ H R := by
  refine ⟨En.H, ρ, Hf, lσ, hp, A.S, A.L, ?_⟩
  cases hr : evE P call e lσ hp with
  | ok a h' => rw [hr] at h; exact fun ρ' Hf' H' v N S' r => k a h' ρ' Hf' v H' (A.nxt N S') N r h
  | err c fs h' => rw [hr] at h; exact PostS.errv A h
  | stuck => rw [hr] at h; exact h
theorem go_sT (A : StA G En ρ Hf lσ hp σ H) {e : Kb.E} {f : Bool → Hl → RS} {R : Bool → Hp → Prop} (h : PostS G W En E ((evT P call e lσ hp).toS lσ f))
    (k : ∀ a h' ρ' Hf' H', StA G En ρ' Hf' lσ h' σ H' → Nxt none ρ Hf H ρ' Hf' H' → PostS G W En E (f a h') → R a H') : tTe P call G W e σ H R := by
  refine ⟨En.H, ρ, Hf, lσ, hp, A.S, A.L, ?_⟩
  cases hr : evT P call e lσ hp with
  | ok a h' => rw [hr] at h; exact fun ρ' Hf' H' v N S' r => by subst r; exact k a h' ρ' Hf' H' (A.nxt N S') N h
  | err c fs h' => rw [hr] at h; exact PostS.errv A h
  | stuck => rw [hr] at h; exact h
theorem go_sEs (A : StA G En ρ Hf lσ hp σ H) {e : Es} {f : List T → Hl → RS} {R : List V → Hp → Prop} (h : PostS G W En E ((evEs P call e lσ hp).toS lσ f))
    (k : ∀ a h' ρ' Hf' v H', StA G En ρ' Hf' lσ h' σ H' → Nxt none ρ Hf H ρ' Hf' H' → RepBs G ρ' Hf' H' a v → PostS G W En E (f a h') → R v H') : tEs P call G W e σ H R := by
  refine ⟨En.H, ρ, Hf, lσ, hp, A.S, A.L, ?_⟩
  cases hr : evEs P call e lσ hp with
  | ok a h' => rw [hr] at h; exact fun ρ' Hf' H' v N S' r => k a h' ρ' Hf' v H' (A.nxt N S') N r h
  | err c fs h' => rw [hr] at h; exact PostS.errv A h
  | stuck => rw [hr] at h; exact h
theorem go_sI (A : StA G En ρ Hf lσ hp σ H) {it : It} {f : List T → Hl → RS} {R : L2.It → Hp → Prop} (h : PostS G W En E ((evI P call it lσ hp).toS lσ f))
    (k : ∀ a h' ρ' Hf' v H', StA G En ρ' Hf' lσ h' σ H' → Nxt none ρ Hf H ρ' Hf' H' → WalksR G ρ' Hf' H' a v → PostS G W En E (f a h') → R v H') : tI P call G W it σ H R := by
  refine ⟨En.H, ρ, Hf, lσ, hp, A.S, A.L, ?_⟩
  cases hr : evI P call it lσ hp with
  | ok a h' => rw [hr] at h; exact fun ρ' Hf' H' v N S' r => k a h' ρ' Hf' v H' (A.nxt N S') N r h
  | err c fs h' => rw [hr] at h; exact PostS.errv A h
  | stuck => rw [hr] at h; exact h
/-- a new list (or dict): it was not there -/
theorem go_sA (A : StA G En ρ Hf lσ hp σ H) {a : Kb.A} {f : C → Hl → RS} {R : VK} (h : PostS G W En E ((evA P call a lσ hp).toS lσ f))
    (k : ∀ c h' ρ' Hf' v H', StA G En ρ' Hf' lσ h' σ H' → Nxt none ρ Hf H ρ' Hf' H' → AllocR G H ρ' Hf' H' c v → PostS G W En E (f c h') → R v H') : tA P call G W a σ H R := by
  refine ⟨H, ρ, Hf, lσ, hp, A.S.ofZ (fun a o e => ⟨o, e⟩), A.L, ?_⟩
  have bk : ∀ {ρ' Hf' h' H'}, Sto G H ρ' Hf' h' H' → Sto G En.H ρ' Hf' h' H' := fun {ρ' Hf' h' H'} S' => S'.ofZ fun d o e => let ⟨o1, h1⟩ := A.S.dom d o e; S'.dom d o1 h1
  cases hr : evA P call a lσ hp with
  | ok a h' => rw [hr] at h; exact fun ρ' Hf' H' v N S' r => k a h' ρ' Hf' v H' (A.nxt N (bk S')) N r h
  | err c fs h' => rw [hr] at h; exact fun ρ' Hf' H' d gs N S e1 e2 => h σ ρ' Hf' H' d gs (A.nxt N (bk S)) e1 e2
  | stuck => rw [hr] at h; exact h

/-! ### stores -/
theorem StA.put (A : StA G En ρ Hf lσ hp σ H) {i : Nat} {t : T} {v : Vv} (r : Rep G ρ Hf t v) : StA G En ρ Hf (lσ.set i (some t)) hp (σ.set i (some v)) H := by
  refine ⟨A.S, A.L.put r, A.N, fun j u a e b s => ?_, A.x, A.pr, A.ex⟩
  by_cases q : i = j
  · subst q
    have hl : i < lσ.length := by
      have := (List.getElem?_eq_some_iff.mp e).1
      rwa [List.length_set] at this
    rw [List.getElem?_set_self hl] at e
    cases e
    rw [r.nbor] at b; cases b
  · rw [List.getElem?_set_ne q] at e s
    exact A.O j u a e b s
/-- a slot gets a new thing of its own -/
theorem StA.putB (A : StA G En ρ Hf lσ hp σ H) {i : Nat} {t : T} {a : Addr} (r : RepB G ρ Hf H t (.ref a)) (nw : En.H a = none) (ni : isInsT t = false) (sep : ∀ (j : Nat) (u : T), lσ[j]? = some (some u) → isBor u = true → σ[j]? = some (some (.ref a)) → False) :
    StA G En ρ Hf (lσ.set i (some t)) hp (σ.set i (some (.ref a))) H := by
  have self : ∀ {j : Nat} {u : T}, (lσ.set i (some t))[j]? = some (some u) → (i = j ∧ u = t ∧ (σ.set i (some (.ref a)))[j]? = some (some (.ref a))) ∨ (i ≠ j ∧ lσ[j]? = some (some u) ∧ (σ.set i (some (.ref a)))[j]? = σ[j]?) := fun {j u} e => by
    by_cases q : i = j
    · subst q
      have hl : i < lσ.length := by
        have := (List.getElem?_eq_some_iff.mp e).1
        rwa [List.length_set] at this
      rw [List.getElem?_set_self hl] at e
      cases e
      exact .inl ⟨rfl, rfl, List.getElem?_set_self (Nat.lt_of_lt_of_le hl A.L.len)⟩
    · rw [List.getElem?_set_ne q] at e
      exact .inr ⟨q, e, List.getElem?_set_ne q⟩
  refine ⟨A.S, ⟨by rw [List.length_set, List.length_set]; exact A.L.len, fun j u e => ?_, fun j k t1 u1 b hjk e1 e2 b1 b2 s1 s2 => ?_⟩, A.N, fun j u b e bo s => ?_, A.x, A.pr, A.ex⟩
  · rcases self e with ⟨_, rfl, h⟩ | ⟨_, e, h⟩
    · exact ⟨_, h, r⟩
    · obtain ⟨w, h1, h2⟩ := A.L.slot j u e
      exact ⟨w, h.trans h1, h2⟩
  · rcases self e1 with ⟨p1, rfl, h1⟩ | ⟨p1, f1, h1⟩
    · rcases self e2 with ⟨p2, rfl, h2⟩ | ⟨p2, f2, h2⟩
      · exact hjk (p1.symm.trans p2)
      · rw [h1] at s1; cases s1
        rw [h2] at s2
        exact sep k u1 f2 b2 s2
    · rcases self e2 with ⟨p2, rfl, h2⟩ | ⟨p2, f2, h2⟩
      · rw [h2] at s2; cases s2
        rw [h1] at s1
        exact sep j t1 f1 b1 s1
      · rw [h1] at s1; rw [h2] at s2
        exact A.L.sep j k t1 u1 b hjk f1 f2 b1 b2 s1 s2
  · rcases self e with ⟨_, rfl, h⟩ | ⟨_, e, h⟩
    · rw [h] at s; cases s; exact .inl ⟨nw, ni⟩
    · rw [h] at s; exact A.O j u b e bo s
theorem s_asg {x : Stmt} {te : TE} {i : Nat} {ie : Kb.E} (h : PS X x (tAsg te (gName i))) (himp : ∀ σ H Q, tE P call G W ie σ H Q → te σ H Q) : PS X x (tS P call G W Wn (.asg i ie)) := by
  refine PSimp h fun E σ H ⟨En, lσ, hp, ⟨ρ, Hf, A⟩, q⟩ => himp σ H _ ?_
  simp only [exS] at q
  refine go_sE A q fun a h1 ρ1 Hf1 v H1 A1 N1 r1 q => ?_
  split at q
  · rename_i ok
    simp only [Bool.and_eq_true] at ok
    exact q _ _ ⟨ρ1, Hf1, A1.put (r1.plain ok.1)⟩
  · exact q.elim
theorem s_own {x : Stmt} {te : TE} {i : Nat} {a : Kb.A} (h : PS X x (tAsg te (gName i))) (himp : ∀ σ H Q, tA P call G W a σ H Q → te σ H Q) : PS X x (tS P call G W Wn (.own i a)) := by
  refine PSimp h fun E σ H ⟨En, lσ, hp, ⟨ρ, Hf, A⟩, q⟩ => himp σ H _ ?_
  simp only [exS] at q
  refine go_sA A q fun c h1 ρ1 Hf1 v H1 A1 N1 r1 q => ?_
  obtain ⟨b, rfl, hc, f1, m1, z1, _⟩ := r1
  have nw : En.H b = none := by
    cases z : En.H b with
    | none => rfl
    | some o => obtain ⟨o', h'⟩ := A.S.dom b o z; rw [z1] at h'; cases h'
  have sep : ∀ (j : Nat) (u : T), lσ[j]? = some (some u) → isBor u = true → σ[j]? = some (some (.ref b)) → False := fun j u e bo s => by
    obtain ⟨w, h2, h3⟩ := A.L.slot j u e
    rw [s] at h2; cases h2
    cases u <;> first | (simp [isBor] at bo; done) | skip
    · obtain ⟨d, vs, ed, hd, _⟩ := h3; cases ed; rw [z1] at hd; cases hd
    · obtain ⟨d, vs, ed, hd, _⟩ := h3; cases ed; rw [z1] at hd; cases hd
    · obtain ⟨d, dx, vs, ed, hd, _⟩ := h3; cases ed; rw [z1] at hd; cases hd
  split at q
  · cases c with
    | lst xs =>
      obtain ⟨vs, h2, h3⟩ := hc
      exact q _ _ ⟨ρ1, Hf1, A1.putB (t := .bL xs) ⟨b, vs, rfl, h2, h3, f1, m1⟩ nw rfl sep⟩
    | dct kvs =>
      obtain ⟨gs, h2, h3⟩ := hc
      exact q _ _ ⟨ρ1, Hf1, A1.putB (t := .bD kvs) ⟨b, gs, rfl, h2, h3, f1, m1⟩ nw rfl sep⟩
    | ins c fs => exact q.elim
  · exact q.elim
/-- y = e -/
theorem ks_asg (C : KCx X P call G W CX D T0) {i : Nat} {x : Str} {e : Expr} {ie : Kb.E} {pos pos' : Pos} (hi : X.N[i]? = some x) (hx : X.env.scope.names.lookup x = some .local) (he : PE X e (tE P call G W ie)) (hs : swapsWith e (some (.Name x pos')) pos.line X.env = pure false := by rfl) :
    PS X (.Assign [.Name x pos'] e pos) (tS P call G W Wn (.asg i ie)) := s_asg (ps_set C.nN hi (.inl hx) he hs (.inr hx)) fun _ _ _ h => h
theorem ks_asgC (C : KCx X P call G W CX D T0) {i : Nat} {x : Str} {e : Expr} {ie : Kb.E} {pos pos' : Pos} (hi : X.N[i]? = some x) (hx : X.env.scope.names.lookup x = some .cell) (hf : X.fn x = true) (he : PE X e (tE P call G W ie)) (hs : swapsWith e (some (.Name x pos')) pos.line X.env = pure false := by rfl) :
    PS X (.Assign [.Name x pos'] e pos) (tS P call G W Wn (.asg i ie)) := s_asg (ps_set C.nN hi (.inr hx) he hs (.inl hf)) fun _ _ _ h => h
theorem ks_own (C : KCx X P call G W CX D T0) {i : Nat} {x : Str} {e : Expr} {a : Kb.A} {pos pos' : Pos} (hi : X.N[i]? = some x) (hx : X.env.scope.names.lookup x = some .local) (he : PE X e (tA P call G W a)) (hs : swapsWith e (some (.Name x pos')) pos.line X.env = pure false := by rfl) :
    PS X (.Assign [.Name x pos'] e pos) (tS P call G W Wn (.own i a)) := s_own (ps_set C.nN hi (.inl hx) he hs (.inr hx)) fun _ _ _ h => h
theorem ks_ownC (C : KCx X P call G W CX D T0) {i : Nat} {x : Str} {e : Expr} {a : Kb.A} {pos pos' : Pos} (hi : X.N[i]? = some x) (hx : X.env.scope.names.lookup x = some .cell) (hf : X.fn x = true) (he : PE X e (tA P call G W a)) (hs : swapsWith e (some (.Name x pos')) pos.line X.env = pure false := by rfl) :
    PS X (.Assign [.Name x pos'] e pos) (tS P call G W Wn (.own i a)) := s_own (ps_set C.nN hi (.inr hx) he hs (.inl hf)) fun _ _ _ h => h
section
variable {elt tgE iter : Expr} {ifs : List Expr} {scope : Scope} {own : List (Str × Nat)} {pos spos py : Pos} {it : It} {tg : List Nat} {c : Eo} {ie : Kb.E} {i : Nat} {y : Str}
theorem s_lc (C : KCx X P call G W CX D T0) (hy : X.N[i]? = some y) (hyl : X.env.scope.names.lookup y = some .local) (hl : (py.line == pos.line) = true) (hn : (scope.names.any fun (n, k) => n == y && (k == .local || k == .cell)) = false) (hkd : X.env.scope.kind = .function)
    (hi : PI X tgE iter (tI P call G W it)) (ok : blkC X.N X.env.scope scope own = true)
    (hg : ∀ (s : Shared) (H : Hp) (Cc : Addr) (cl : List (Str × Addr)) (fp : List Addr), PG (X.blk s H scope (compEnvC scope cl Cc X.env) fp) tgE (tG G.K tg))
    (ht : ∀ (s : Shared) (H : Hp) (Cc : Addr) (cl : List (Str × Addr)) (fp : List Addr), PTs (X.blk s H scope (compEnvC scope cl Cc X.env) fp) ifs (tCd P call G WF c))
    (he : ∀ (s : Shared) (H : Hp) (Cc : Addr) (cl : List (Str × Addr)) (fp : List Addr), PE (X.blk s H scope (compEnvC scope cl Cc X.env) fp) elt (tE P call G WF ie)) (hs : ∀ x, foldedSetIterable iter X.env x = pure x) :
    PS X (.Assign [.Name y py] (.ListComp elt [⟨tgE, iter, ifs, 0⟩] scope pos) spos) (tAsg (tLc (tI P call G W it) (tG G.K tg) (tCd P call G WF c) (tE P call G WF ie) (own.map (·.2))) (gName i)) :=
  ps_setLc C.calm C.nN hy hyl (sw_true hkd hyl hl hn) hi (blkOk_by ok) hg ht he hs
theorem ks_lcO (C : KCx X P call G W CX D T0) (hy : X.N[i]? = some y) (hyl : X.env.scope.names.lookup y = some .local) (hl : (py.line == pos.line) = true) (hn : (scope.names.any fun (n, k) => n == y && (k == .local || k == .cell)) = false) (hkd : X.env.scope.kind = .function)
    (hi : PI X tgE iter (tI P call G W it)) (ok : blkC X.N X.env.scope scope own = true)
    (hg : ∀ (s : Shared) (H : Hp) (Cc : Addr) (cl : List (Str × Addr)) (fp : List Addr), PG (X.blk s H scope (compEnvC scope cl Cc X.env) fp) tgE (tG G.K tg))
    (ht : ∀ (s : Shared) (H : Hp) (Cc : Addr) (cl : List (Str × Addr)) (fp : List Addr), PTs (X.blk s H scope (compEnvC scope cl Cc X.env) fp) ifs (tCd P call G WF c))
    (he : ∀ (s : Shared) (H : Hp) (Cc : Addr) (cl : List (Str × Addr)) (fp : List Addr), PE (X.blk s H scope (compEnvC scope cl Cc X.env) fp) elt (tE P call G WF ie)) (hs : ∀ x, foldedSetIterable iter X.env x = pure x := by intro _; rfl)
    (hsub : tg.all (fun i => (own.map (·.2)).contains i) = true := by rfl) :
    PS X (.Assign [.Name y py] (.ListComp elt [⟨tgE, iter, ifs, 0⟩] scope pos) spos) (tS P call G W Wn (.own i (.lc it tg (own.map (·.2)) c ie))) := s_own (s_lc C hy hyl hl hn hkd hi ok hg ht he hs) (lc_imp hsub)
theorem ks_lc0 (C : KCx X P call G W CX D T0) (hy : X.N[i]? = some y) (hyl : X.env.scope.names.lookup y = some .local) (hl : (py.line == pos.line) = true) (hn : (scope.names.any fun (n, k) => n == y && (k == .local || k == .cell)) = false) (hkd : X.env.scope.kind = .function)
    (hi : PI X tgE iter (tI P call G W it)) (ok : blkC X.N X.env.scope scope own = true)
    (hg : ∀ (s : Shared) (H : Hp) (Cc : Addr) (cl : List (Str × Addr)) (fp : List Addr), PG (X.blk s H scope (compEnvC scope cl Cc X.env) fp) tgE (tG G.K tg))
    (ht : ∀ (s : Shared) (H : Hp) (Cc : Addr) (cl : List (Str × Addr)) (fp : List Addr), PTs (X.blk s H scope (compEnvC scope cl Cc X.env) fp) ifs (tCd P call G WF c))
    (he : ∀ (s : Shared) (H : Hp) (Cc : Addr) (cl : List (Str × Addr)) (fp : List Addr), PE (X.blk s H scope (compEnvC scope cl Cc X.env) fp) elt (tE P call G WF ie)) (hs : ∀ x, foldedSetIterable iter X.env x = pure x := by intro _; rfl)
    (hsub : tg.all (fun i => (own.map (·.2)).contains i) = true := by rfl) :
    PS X (.Assign [.Name y py] (.ListComp elt [⟨tgE, iter, ifs, 0⟩] scope pos) spos) (tS P call G W Wn (.asg i (.al false (.lc it tg (own.map (·.2)) c ie)))) := s_asg (s_lc C hy hyl hl hn hkd hi ok hg ht he hs) fun σ H Q h => lc_imp hsub σ H Q (al0_imp _ σ H Q h)
theorem ks_lc1 (C : KCx X P call G W CX D T0) (hy : X.N[i]? = some y) (hyl : X.env.scope.names.lookup y = some .local) (hl : (py.line == pos.line) = true) (hn : (scope.names.any fun (n, k) => n == y && (k == .local || k == .cell)) = false) (hkd : X.env.scope.kind = .function)
    (hi : PI X tgE iter (tI P call G W it)) (ok : blkC X.N X.env.scope scope own = true)
    (hg : ∀ (s : Shared) (H : Hp) (Cc : Addr) (cl : List (Str × Addr)) (fp : List Addr), PG (X.blk s H scope (compEnvC scope cl Cc X.env) fp) tgE (tG G.K tg))
    (ht : ∀ (s : Shared) (H : Hp) (Cc : Addr) (cl : List (Str × Addr)) (fp : List Addr), PTs (X.blk s H scope (compEnvC scope cl Cc X.env) fp) ifs (tCd P call G WF c))
    (he : ∀ (s : Shared) (H : Hp) (Cc : Addr) (cl : List (Str × Addr)) (fp : List Addr), PE (X.blk s H scope (compEnvC scope cl Cc X.env) fp) elt (tE P call G WF ie)) (hs : ∀ x, foldedSetIterable iter X.env x = pure x := by intro _; rfl)
    (hsub : tg.all (fun i => (own.map (·.2)).contains i) = true := by rfl) :
    PS X (.Assign [.Name y py] (.ListComp elt [⟨tgE, iter, ifs, 0⟩] scope pos) spos) (tS P call G W Wn (.asg i (.al true (.lc it tg (own.map (·.2)) c ie)))) := s_asg (s_lc C hy hyl hl hn hkd hi ok hg ht he hs) fun σ H Q h => lc_imp hsub σ H Q (al1_imp _ σ H Q h)
end
theorem setT_len : ∀ {tg : List Nat} {t : T} {lσ lσ' : Sl}, setT tg t lσ = some lσ' → lσ'.length = lσ.length := by
  have fl : ∀ (ps : List (Nat × T)) (lσ : Sl), (ps.foldl (fun s p => s.set p.1 (some p.2)) lσ).length = lσ.length := fun ps => by
    induction ps with
    | nil => exact fun _ => rfl
    | cons p ps ih => intro lσ; rw [List.foldl_cons, ih, List.length_set]
  intro tg t lσ lσ' e
  match tg, e with
  | [i], e => simp only [setT] at e; cases e; exact List.length_set
  | [], e =>
    cases t <;> simp only [setT] at e <;> first | (split at e; (cases e; exact fl _ _); (cases e)) | cases e
  | i :: j :: is, e =>
    cases t <;> simp only [setT] at e <;> first | (split at e; (cases e; exact fl _ _); (cases e)) | cases e
/-- a target's store, at a statement -/
theorem StA.tgt (A : StA G En ρ Hf lσ hp σ H) {K : PySem.W.Frag} (hK : K = G.K) {tg : List Nat} {t : T} {v : Vv} {lσ' : Sl} (e : setT tg t lσ = some lσ') (r : Rep G ρ Hf t v) {R : L2.St → Hp → Prop} (k : ∀ σ', StA G En ρ Hf lσ' hp σ' H → R σ' H) : tG K tg v σ H R := by
  refine tG_go hK A.S A.L e r fun σ' L' _ off _ => k σ' ⟨A.S, L', A.N, ?_, A.x, A.pr, A.ex⟩
  have off2 : ∀ (j : Nat) (u : T), lσ'[j]? = some (some u) → isBor u = true → j ∉ tg ∧ lσ[j]? = some (some u) := by
    have fl : ∀ (is : List Nat) (xs : List T) (lσ : Sl), Reps G ρ Hf xs (xs.map fun _ => V.non) ∨ (∀ x ∈ xs, isBor x = false) → ∀ (j : Nat) (u : T), ((is.zip xs).foldl (fun s p => s.set p.1 (some p.2)) lσ)[j]? = some (some u) → isBor u = true → xs.length = is.length → j ∉ is ∧ lσ[j]? = some (some u) := by
      intro is
      induction is with
      | nil => intro xs lσ hx j u e b _; exact ⟨by simp, by simpa using e⟩
      | cons i is ih =>
        intro xs lσ hx j u e b hl
        cases xs with
        | nil => simp at hl
        | cons x0 xs =>
          have hb : ∀ y ∈ x0 :: xs, isBor y = false := by
            rcases hx with hx | hx
            · intro y hy
              have key : ∀ (zs : List T) (ws : List V), Reps G ρ Hf zs ws → ∀ y ∈ zs, isBor y = false := fun zs => by
                induction zs with
                | nil => exact fun _ _ _ h => nomatch h
                | cons z zs ih2 =>
                  intro ws rr y hy
                  cases rr with
                  | cons h r =>
                    rcases List.mem_cons.mp hy with rfl | hy
                    · exact h.nbor
                    · exact ih2 _ r y hy
              exact key _ _ hx y hy
            · exact hx
          rw [List.zip_cons_cons, List.foldl_cons] at e
          obtain ⟨h1, h2⟩ := ih xs (lσ.set i (some x0)) (.inr fun y hy => hb y (List.mem_cons_of_mem _ hy)) j u e b (by simpa using hl)
          by_cases q : i = j
          · subst q
            have hl2 : i < lσ.length := by
              have := (List.getElem?_eq_some_iff.mp h2).1
              rwa [List.length_set] at this
            rw [List.getElem?_set_self hl2] at h2
            cases h2
            rw [hb _ List.mem_cons_self] at b; cases b
          · rw [List.getElem?_set_ne q] at h2
            exact ⟨by simp only [List.mem_cons, not_or]; exact ⟨fun z => q z.symm, h1⟩, h2⟩
    have many : ∀ is : List Nat, setMany is t lσ = some lσ' → ∀ (j : Nat) (u : T), lσ'[j]? = some (some u) → isBor u = true → j ∉ is ∧ lσ[j]? = some (some u) := fun is e j u e2 b => by
      cases t with
      | tup xs =>
        simp only [setMany] at e
        split at e
        · rename_i hl
          cases e
          obtain ⟨a, vs, rfl, h1, h2⟩ := B_tup (r.toB (H := H))
          have hb : ∀ x ∈ xs, isBor x = false := by
            have key : ∀ (zs : List T) (ws : List V), Reps G ρ Hf zs ws → ∀ y ∈ zs, isBor y = false := fun zs => by
              induction zs with
              | nil => exact fun _ _ _ h => nomatch h
              | cons z zs ih2 =>
                intro ws rr y hy
                cases rr with
                | cons h r =>
                  rcases List.mem_cons.mp hy with rfl | hy
                  · exact h.nbor
                  · exact ih2 _ r y hy
            exact key _ _ h2
          exact fl is xs lσ (.inr hb) j u e2 b hl
        · cases e
      | _ => cases e
    intro j u e2 b
    match tg, e with
    | [i], e =>
      simp only [setT] at e
      cases e
      by_cases q : i = j
      · subst q
        have hl2 : i < lσ.length := by
          have := (List.getElem?_eq_some_iff.mp e2).1
          rwa [List.length_set] at this
        rw [List.getElem?_set_self hl2] at e2
        cases e2
        rw [r.nbor] at b; cases b
      · rw [List.getElem?_set_ne q] at e2
        exact ⟨by simpa using fun z => q z.symm, e2⟩
    | [], e => exact many [] e j u e2 b
    | i :: k :: is, e => exact many (i :: k :: is) e j u e2 b
  intro j u a e2 b s
  obtain ⟨h1, h2⟩ := off2 j u e2 b
  rw [off j h1] at s
  exact A.O j u a h2 b s
theorem ks_asgT (C : KCx X P call G W CX D T0) {tgE e : Expr} {ie : Kb.E} {tg : List Nat} {pos : Pos} (he : PE X e (tE P call G W ie)) (hg : PG X tgE (tG G.K tg)) (hs : swapsWithSole [tgE] e pos.line X.env = pure false := by rfl) (hw : swappedStores [tgE] e X.env = pure none := by rfl)
    (h1 : (assignEach [tgE] X.env).map (·.2) = [assign tgE X.env] := by rfl) : PS X (.Assign [tgE] e pos) (tS P call G W Wn (.asgT tg ie)) := by
  refine PSimp (ps_asg he hg hs hw h1) fun E σ H ⟨En, lσ, hp, ⟨ρ, Hf, A⟩, q⟩ => ?_
  simp only [exS] at q
  refine go_sE A q fun a h1 ρ1 Hf1 v H1 A1 N1 r1 q => ?_
  split at q
  · rename_i ok
    simp only [Bool.and_eq_true] at ok
    cases es : setT tg a lσ with
    | none => rw [es] at q; exact q.elim
    | some lσ' =>
      rw [es] at q
      exact A1.tgt rfl es (r1.plain ok.1) fun σ' A2 => q _ _ ⟨ρ1, Hf1, A2⟩
  · exact q.elim
theorem ks_expr {e : Expr} {ie : Kb.E} {pos : Pos} (he : PE X e (tE P call G W ie)) (hs : swapsWith e none pos.line X.env = pure false := by rfl) : PS X (.Expr e pos) (tS P call G W Wn (.ex ie)) := by
  refine PSimp (ps_expr he hs) fun E σ H ⟨En, lσ, hp, ⟨ρ, Hf, A⟩, q⟩ => ?_
  simp only [exS] at q
  exact go_sE A q fun a h1 ρ1 Hf1 v H1 A1 N1 r1 q => q _ _ ⟨ρ1, Hf1, A1⟩
theorem ks_ret {e : Expr} {ie : Kb.E} {pos : Pos} (he : PE X e (tE P call G W ie)) : PS X (.Return (some e) pos) (tS P call G W Wn (.ret ie)) := by
  refine PSimp (ps_ret he) fun E σ H ⟨En, lσ, hp, ⟨ρ, Hf, A⟩, q⟩ => ?_
  simp only [exS] at q
  refine go_sE A q fun a h1 ρ1 Hf1 v H1 A1 N1 r1 q => ?_
  split at q
  · rename_i ok
    exact q ρ1 Hf1 H1 v A1.N A1.S (r1.plain ok)
  · exact q.elim
theorem ks_retN {pos : Pos} : PS X (.Return none pos) (tS P call G W Wn .retN) :=
  PSimp ps_retN fun E σ H ⟨En, lσ, hp, ⟨ρ, Hf, A⟩, q⟩ => q ρ Hf H .non A.N A.S .non
theorem ks_pass {pos : Pos} : PS X (.Pass pos) (tS P call G W Wn .pass) := PSimp ps_pass fun E σ H ⟨En, lσ, hp, A, q⟩ => q σ H A
theorem ks_brk {pos : Pos} : PS X (.Break pos) (tS P call G W Wn .brk) := PSimp ps_break fun E σ H ⟨En, lσ, hp, A, q⟩ => q σ H A
theorem ks_cont {pos : Pos} : PS X (.Continue pos) (tS P call G W Wn .cont) := PSimp ps_continue fun E σ H ⟨En, lσ, hp, A, q⟩ => q σ H A
theorem kb_nil : PSs X [] (tB P call G W Wn .nil) := PSsimp pss_nil fun E σ H ⟨En, lσ, hp, A, q⟩ => q σ H A
theorem kb_cons {s : Stmt} {b : List Stmt} {is : Kb.S} {ib : B} (h1 : PS X s (tS P call G W Wn is)) (h2 : PSs X b (tB P call G W Wn ib)) : PSs X (s :: b) (tB P call G W Wn (.cons is ib)) := by
  refine PSsimp (pss_cons h1 h2) fun E σ H ⟨En, lσ, hp, A, q⟩ => ⟨En, lσ, hp, A, ?_⟩
  simp only [exB] at q
  cases hr : exS P call Wn is lσ hp with
  | nx lσ' h' => rw [hr] at q; exact fun σ' H' A' => ⟨En, lσ', h', A', q⟩
  | rt t h' => rw [hr] at q; exact q
  | bk lσ' h' => rw [hr] at q; exact q
  | ct lσ' h' => rw [hr] at q; exact q
  | err c fs lσ' h' => rw [hr] at q; exact q
  | stuck => rw [hr] at q; exact q
theorem ks_raise {s : Stmt} {is : Kb.S} (h : ∀ lσ hp, exS P call Wn is lσ hp = .stuck) : PS X s (tS P call G W Wn is) := PSimp ps_never fun E σ H ⟨En, lσ, hp, A, q⟩ => by rw [h] at q; exact q
theorem ks_if {c : Expr} {a b : List Stmt} {ec : Kb.E} {ia ib : B} {pos : Pos} (hc : PT X c (tTe P call G W ec)) (ha : PSs X a (tB P call G W Wn ia)) (hb : PSs X b (tB P call G W Wn ib)) : PS X (.If c a b pos) (tS P call G W Wn (.ite ec ia ib)) := by
  refine PSimp (ps_if hc ha hb) fun E σ H ⟨En, lσ, hp, ⟨ρ, Hf, A⟩, q⟩ => ?_
  simp only [exS] at q
  refine go_sT A q fun k h1 ρ1 Hf1 H1 A1 N1 q => ?_
  cases k with
  | true => exact ⟨En, lσ, h1, ⟨ρ1, Hf1, A1⟩, q⟩
  | false => exact ⟨En, lσ, h1, ⟨ρ1, Hf1, A1⟩, q⟩
theorem ks_while (C : KCx X P call G W CX D T0) {c : Expr} {b : List Stmt} {ec : Kb.E} {ib : B} {pos : Pos} (hc : PT X c (tTe P call G W ec)) (hb : PSs X b (tB P call G W Wn ib)) : PS X (.While c b [] pos) (tS P call G W Wn (.whl ec ib)) := by
  refine PSimp (ps_while C.own hc hb) fun E σ H ⟨En, lσ, hp, A, q⟩ => ?_
  simp only [exS] at q
  refine ⟨fun m σ H => ∃ lσ hp, St1 G En lσ hp σ H ∧ PostS G W En E (whlG (fun σ h => evT P call ec σ h) (fun σ h => exB P call Wn ib σ h) m lσ hp), ⟨Wn, lσ, hp, A, q⟩, ?_⟩
  intro m σ H ⟨lσ, hp, ⟨ρ, Hf, A⟩, q⟩
  cases m with
  | zero => exact q.elim
  | succ m =>
    simp only [whlG] at q
    refine go_sT A q fun k h1 ρ1 Hf1 H1 A1 N1 q => ?_
    cases k with
    | false => exact q _ _ ⟨ρ1, Hf1, A1⟩
    | true =>
      simp only [if_true] at q ⊢
      refine ⟨fun σ' H' => ∃ lσ hp, St1 G En lσ hp σ' H' ∧ PostS G W En E (whlG (fun σ h => evT P call ec σ h) (fun σ h => exB P call Wn ib σ h) m lσ hp), fun σ' H' h => ⟨m, Nat.lt_succ_self _, h⟩, En, lσ, h1, ⟨ρ1, Hf1, A1⟩, ?_⟩
      cases hr : exB P call Wn ib lσ h1 with
      | nx lσ' h' => rw [hr] at q; exact fun σ' H' A' => ⟨lσ', h', A', q⟩
      | ct lσ' h' => rw [hr] at q; exact fun σ' H' A' => ⟨lσ', h', A', q⟩
      | bk lσ' h' => rw [hr] at q; exact q
      | rt t h' => rw [hr] at q; exact q
      | err c fs lσ' h' => rw [hr] at q; exact q
      | stuck => rw [hr] at q; exact q
theorem ks_for (C : KCx X P call G W CX D T0) {tgE iter : Expr} {b : List Stmt} {it : It} {tg : List Nat} {ib : B} {pos : Pos} (hi : PI X tgE iter (tI P call G W it)) (hg : PG X tgE (tG G.K tg)) (hb : PSs X b (tB P call G W Wn ib))
    (hs : ∀ x, foldedSetIterable iter X.env x = pure x := by intro _; rfl) : PS X (.For tgE iter b [] pos) (tS P call G W Wn (.forS tg it ib)) := by
  refine PSimp (ps_for C.own C.calm hi hg hb hs) fun E σ H ⟨En, lσ, hp, ⟨ρ, Hf, A⟩, q⟩ => ?_
  simp only [exS] at q
  refine go_sI A q fun xs h1 ρ1 Hf1 J H1 A1 N1 wk q => ?_
  obtain ⟨Gd, Y, wlk, gd, yy⟩ := wk
  have up : ∀ {lσ hp σ H}, St1 G { En with ρa := ρ1, Ha := Hf1 } lσ hp σ H → St1 G En lσ hp σ H := fun {lσ hp σ H} ⟨ρ', Hf', A'⟩ =>
    ⟨ρ', Hf', A'.S, A'.L, A'.N, A'.O, A'.x, (let ⟨l, e⟩ := A1.pr; let ⟨m, e2⟩ := A'.pr; ⟨l ++ m, by rw [e2, e, List.append_assoc]⟩), A1.ex.trans A'.ex⟩
  refine for_it wlk (fun i σ H => ∃ lσ2 h2, St1 G { En with ρa := ρ1, Ha := Hf1 } lσ2 h2 σ H ∧ PostS G W En E (forG (fun σ h => exB P call Wn ib σ h) tg (xs.drop i) lσ2 h2)) ?_ ?_ ?_ ?_
  · exact ⟨lσ, h1, ⟨ρ1, Hf1, A1.S, A1.L, A1.N, A1.O, A1.x, ⟨[], by simp⟩, Ex.refl _⟩, q⟩
  · intro i σ H _ ⟨lσ2, h2, ⟨ρ2, Hf2, A2⟩, _⟩
    exact gd H fun a o e => A2.S.ex a o (A2.ex a o e)
  · intro i x σ H H' hi' ⟨lσ2, h2, ⟨ρ2, Hf2, A2⟩, q⟩ hy
    obtain ⟨t, et, item⟩ := yy i H x H' (fun a o e => A2.S.ex a o (A2.ex a o e)) hy
    obtain ⟨Hf3, N3, S3, rt⟩ := item.go A2.S A2.pr A2.ex
    have ed : xs.drop i = t :: xs.drop (i + 1) := by
      obtain ⟨hl, hx⟩ := List.getElem?_eq_some_iff.mp et
      rw [List.drop_eq_getElem_cons hl, hx]
    rw [ed] at q
    simp only [forG] at q
    split at q
    · cases es : setT tg t lσ2 with
      | none => rw [es] at q; exact q.elim
      | some lσ3 =>
        rw [es] at q
        simp only at q
        have A3 := A2.nxt N3 S3
        refine A3.tgt rfl es rt fun σ' A4 => ⟨{ En with ρa := ρ1, Ha := Hf1 }, lσ3, h2, ⟨ρ2, Hf3, A4⟩, ?_⟩
        cases hr : exB P call Wn ib lσ3 h2 with
        | nx lσ' h' => rw [hr] at q; exact fun σ' H' A' => ⟨lσ', h', A', q⟩
        | ct lσ' h' => rw [hr] at q; exact fun σ' H' A' => ⟨lσ', h', A', q⟩
        | bk lσ' h' => rw [hr] at q; exact fun σ' H' A' => q σ' H' (up A')
        | rt t h' => rw [hr] at q; exact q
        | err c fs lσ' h' =>
          rw [hr] at q
          intro σ' ρ' Hf' H' d gs A' e1 e2
          exact q σ' ρ' Hf' H' d gs ⟨A'.S, A'.L, A'.N, A'.O, A'.x, (let ⟨l, e⟩ := A1.pr; let ⟨m, e2⟩ := A'.pr; ⟨l ++ m, by rw [e2, e, List.append_assoc]⟩), A1.ex.trans A'.ex⟩ e1 e2
        | stuck => rw [hr] at q; exact q
    · exact q.elim
  · intro σ H ⟨lσ2, h2, A2, q⟩
    rw [List.drop_eq_nil_of_le (Nat.le_refl _)] at q
    exact q _ _ (up A2)
/-- a try whose handlers never run -/
theorem ks_try {b : List Stmt} {h0 : ExceptHandler} {hs : List ExceptHandler} {ib : B} {pos : Pos} (hb : PSs X.nox b (tB P call G WF Wn ib)) : PS X (.Try b (h0 :: hs) [] [] pos) (tS P call G W Wn (.tryN ib)) := by
  refine PSimp (ps_try_thru0 hb) fun E σ H ⟨En, lσ, hp, A, q⟩ => ⟨En, lσ, hp, A, ?_⟩
  simp only [exS] at q
  cases hr : exB P call Wn ib lσ hp with
  | nx lσ' h' => rw [hr] at q; exact q
  | ct lσ' h' => rw [hr] at q; exact q
  | bk lσ' h' => rw [hr] at q; exact q
  | rt t h' => rw [hr] at q; exact q
  | err c fs lσ' h' => rw [hr] at q; exact q.elim
  | stuck => rw [hr] at q; exact q
theorem KCx.nox (C : KCx X P call G W CX D T0) : KCx X.nox P call G WF CX D T0 where
  hK := C.hK
  calm := C.calm
  room := C.room
  nm := C.nm
  kd := C.kd
  pas := fun σ pins σ' H s e s' I h => C.nil _ _ _ _ _ h
  nil := C.nil
  nN := C.nN
  own := PassesOwn.never
  fn := C.fn
  mt := C.mt
  ini := C.ini
  cl := C.cl
  na := C.na
  sf := C.sf

/-! ### changes -/
theorem RepB.updR {t : T} {v : Vv} {a : Addr} {o : HO} (r : RepB G ρ Hf H t v) (na : isBor t = true → v ≠ .ref a) : RepB G ρ Hf (upd H a o) t v := by
  cases t with
  | bL xs =>
    obtain ⟨b, vs, rfl, h, r, f, m⟩ := r
    exact ⟨b, vs, rfl, by rw [upd_ne (fun z => na rfl (by rw [z]))]; exact h, r, f, m⟩
  | bD xs =>
    obtain ⟨b, vs, rfl, h, r, f, m⟩ := r
    exact ⟨b, vs, rfl, by rw [upd_ne (fun z => na rfl (by rw [z]))]; exact h, r, f, m⟩
  | bI c fs =>
    obtain ⟨b, dx, vs, rfl, h, r, f, m, k⟩ := r
    exact ⟨b, dx, vs, rfl, by rw [upd_ne (fun z => na rfl (by rw [z]))]; exact h, r, f, m, k⟩
  | _ => exact r
theorem RepB.off {t : T} {v : Vv} (r : RepB G ρ Hf H t v) (b : isBor t = true) : ∃ a o, v = .ref a ∧ H a = some o ∧ Hf a = none ∧ a ∉ ρ := by
  cases t <;> first | (simp [isBor] at b; done) | skip
  · obtain ⟨d, vs, e, h, _, f, m⟩ := r; exact ⟨d, _, e, h, f, m⟩
  · obtain ⟨d, vs, e, h, _, f, m⟩ := r; exact ⟨d, _, e, h, f, m⟩
  · obtain ⟨d, dx, vs, e, h, _, f, m, _⟩ := r; exact ⟨d, _, e, h, f, m⟩
theorem StA.setCell (A : StA G En ρ Hf lσ hp σ H) {n : Nat} {a : Addr} {c : C} {o : HO} (ha : ρ[n]? = some a) (hc : CellR G ρ Hf (upd H a o) a c) : StA G En ρ Hf lσ (hp.set n c) σ (upd H a o) := by
  have hn : n < hp.length := by rw [← A.S.len]; exact (List.getElem?_eq_some_iff.mp ha).1
  have fa := (A.S.cell n a hp[n] ha (List.getElem?_eq_getElem hn)).2
  have ma : a ∈ ρ := List.mem_of_getElem? ha
  refine ⟨⟨A.S.ex.updR fa, by rw [List.length_set]; exact A.S.len, A.S.nd, fun m b cc e1 e2 => ?_, fun b u e => ?_⟩, ⟨A.L.len, fun i t e => ?_, A.L.sep⟩, ⟨A.N.pre, A.N.hf, fun b u e nb nx => ?_, A.N.nw, A.N.hn⟩, A.O, A.x, A.pr, A.ex⟩
  · by_cases q : n = m
    · subst q
      rw [ha] at e1; cases e1
      rw [List.getElem?_set_self hn] at e2; cases e2
      exact ⟨hc, fa⟩
    · rw [List.getElem?_set_ne q] at e2
      obtain ⟨h1, h2⟩ := A.S.cell m b cc e1 e2
      have nb : b ≠ a := fun z => by
        subst z
        obtain ⟨l1, g1⟩ := List.getElem?_eq_some_iff.mp ha
        obtain ⟨l2, g2⟩ := List.getElem?_eq_some_iff.mp e1
        exact q ((List.getElem_inj A.S.nd).mp (g1.trans g2.symm))
      exact ⟨h1.mono ⟨[], by simp⟩ (Ex.refl _) fun u z => by rw [upd_ne nb]; exact z, h2⟩
  · by_cases z : b = a
    · subst z; exact ⟨_, upd_same⟩
    · obtain ⟨u', h'⟩ := A.S.dom b u e
      exact ⟨u', by rw [upd_ne z]; exact h'⟩
  · obtain ⟨v, h1, h2⟩ := A.L.slot i t e
    refine ⟨v, h1, h2.updR fun b z => ?_⟩
    obtain ⟨d, _, e1, _, _, m⟩ := h2.off b
    rw [e1] at z; cases z
    exact m ma
  · have nb2 : b ≠ a := fun z => by
      subst z
      have := A.N.nw b ma nb
      rw [e] at this; cases this
    rw [upd_ne nb2]; exact A.N.fr b u e nb nx
theorem StA.setOwn (A : StA G En ρ Hf lσ hp σ H) {i : Nat} {t t' : T} {a : Addr} {o : HO} (hi : lσ[i]? = some (some t)) (b : isBor t = true) (hs : σ[i]? = some (some (.ref a))) (b' : isBor t' = true) (kk : isInsT t = isInsT t') (r' : RepB G ρ Hf (upd H a o) t' (.ref a)) :
    StA G En ρ Hf (lσ.set i (some t')) hp σ (upd H a o) := by
  obtain ⟨v, h1, h2⟩ := A.L.slot i t hi
  rw [hs] at h1; cases h1
  obtain ⟨d, o1, e1, hd, fa, ma⟩ := h2.off b
  cases e1
  have hl := (List.getElem?_eq_some_iff.mp hi).1
  have self : ∀ {j : Nat} {u : T}, (lσ.set i (some t'))[j]? = some (some u) → (i = j ∧ u = t') ∨ (i ≠ j ∧ lσ[j]? = some (some u)) := fun {j u} e => by
    by_cases q : i = j
    · subst q
      rw [List.getElem?_set_self hl] at e
      cases e
      exact .inl ⟨rfl, rfl⟩
    · rw [List.getElem?_set_ne q] at e
      exact .inr ⟨q, e⟩
  refine ⟨A.S.setX fa ma, ⟨by rw [List.length_set]; exact A.L.len, fun j u e => ?_, fun j k t1 u1 c hjk e1 e2 b1 b2 s1 s2 => ?_⟩, ⟨A.N.pre, A.N.hf, fun b2 u e nb nx => ?_, A.N.nw, A.N.hn⟩, fun j u c e bo s => ?_, A.x, A.pr, A.ex⟩
  · rcases self e with ⟨rfl, rfl⟩ | ⟨q, e⟩
    · exact ⟨_, hs, r'⟩
    · obtain ⟨w, h3, h4⟩ := A.L.slot j u e
      exact ⟨w, h3, h4.updR fun bu z => by subst z; exact A.L.sep i j t u a q hi e b bu hs h3⟩
  · rcases self e1 with ⟨p1, g1⟩ | ⟨p1, f1⟩
    · subst p1
      rcases self e2 with ⟨p2, _⟩ | ⟨p2, f2⟩
      · exact hjk p2
      · exact A.L.sep i k t u1 c p2 hi f2 b b2 s1 s2
    · rcases self e2 with ⟨p2, g2⟩ | ⟨p2, f2⟩
      · subst p2
        exact A.L.sep j i t1 t c (fun z => p1 z.symm) f1 hi b1 b s1 s2
      · exact A.L.sep j k t1 u1 c hjk f1 f2 b1 b2 s1 s2
  · have n2 : b2 ≠ a := fun z => by
      subst z
      rcases A.O i t b2 hi b hs with h | h
      · rw [e] at h; cases h.1
      · exact nx h.1
    rw [upd_ne n2]; exact A.N.fr b2 u e nb nx
  · rcases self e with ⟨rfl, rfl⟩ | ⟨q, e⟩
    · rw [← kk]; exact A.O i t c hi b s
    · exact A.O j u c e bo s
def ipAdd : TIp := fun x y H Q => ipI (fun i j => i + j) x y H Q ∨ ∃ i j, x = .str i ∧ y = .str j ∧ i.length + j.length ≤ sizeLine ∧ Q (.str (i ++ j)) H
theorem ip_addS : PIp X .Add ipAdd := fun pins s σ H x y v u Q I r1 r2 h => by
  rcases h with h | h
  · exact ip_add pins s σ H x y v u Q I r1 r2 h
  · exact iop_add_str pins s σ H x y v u Q I r1 r2 h
theorem ks_augA (C : KCx X P call G W CX D T0) {i : Nat} {x : Str} {e : Expr} {ie : Kb.E} {pos pos' : Pos} (hi : X.N[i]? = some x) (hx : X.env.scope.names.lookup x = some .local) (he : PE X e (tE P call G W ie)) :
    PS X (.AugAssign (.Name x pos') .Add e pos) (tS P call G W Wn (.aug i .add ie)) := by
  refine PSimp (ps_aug C.nN hi (.inl hx) he ip_addS (.inr hx)) fun E σ H ⟨En, lσ, hp, ⟨ρ, Hf, A⟩, q⟩ => ?_
  simp only [exS] at q
  split at q
  · rename_i a ea
    obtain ⟨v, h1, h2⟩ := A.L.slot i _ ea
    obtain rfl := B_int h2
    refine ⟨_, h1, go_sE A q fun t h1 ρ1 Hf1 v H1 A1 N1 r1 q => ?_⟩
    cases t with
    | int b =>
      obtain rfl := B_int r1
      exact .inl ⟨a, b, rfl, rfl, q _ _ ⟨ρ1, Hf1, A1.put (.int _)⟩⟩
    | _ => exact False.elim q
  · rename_i a ea
    obtain ⟨v, h1, h2⟩ := A.L.slot i _ ea
    obtain rfl := B_str h2
    refine ⟨_, h1, go_sE A q fun t h1 ρ1 Hf1 v H1 A1 N1 r1 q => ?_⟩
    cases t with
    | str b =>
      obtain rfl := B_str r1
      simp only at q
      split at q
      · rename_i hl
        refine .inr ⟨strV a, strV b, rfl, rfl, by rw [strV_len, strV_len, ← maxLen_eq]; exact hl, ?_⟩
        rw [← strV_app]
        exact q _ _ ⟨ρ1, Hf1, A1.put (.str _)⟩
      · exact False.elim q
    | _ => exact False.elim q
  · exact False.elim q
theorem ks_augS (C : KCx X P call G W CX D T0) {i : Nat} {x : Str} {e : Expr} {ie : Kb.E} {pos pos' : Pos} (hi : X.N[i]? = some x) (hx : X.env.scope.names.lookup x = some .local) (he : PE X e (tE P call G W ie)) :
    PS X (.AugAssign (.Name x pos') .Sub e pos) (tS P call G W Wn (.aug i .sub ie)) := by
  refine PSimp (ps_aug C.nN hi (.inl hx) he ip_sub (.inr hx)) fun E σ H ⟨En, lσ, hp, ⟨ρ, Hf, A⟩, q⟩ => ?_
  simp only [exS] at q
  split at q
  · rename_i a ea
    obtain ⟨v, h1, h2⟩ := A.L.slot i _ ea
    obtain rfl := B_int h2
    refine ⟨_, h1, go_sE A q fun t h1 ρ1 Hf1 v H1 A1 N1 r1 q => ?_⟩
    cases t with
    | int b =>
      obtain rfl := B_int r1
      exact ⟨a, b, rfl, rfl, q _ _ ⟨ρ1, Hf1, A1.put (.int _)⟩⟩
    | _ => exact False.elim q
  · rename_i a ea
    obtain ⟨v, h1, h2⟩ := A.L.slot i _ ea
    obtain rfl := B_str h2
    refine ⟨_, h1, go_sE A q fun t h1 ρ1 Hf1 v H1 A1 N1 r1 q => ?_⟩
    cases t <;> exact False.elim q
  · exact False.elim q

/-! ### fields -/
theorem setF_rf (C : KCx X P call G W CX D T0) {x : Str} {f n : Nat} {y : T} {v u : Vv} {h2 : Hl} {lσ' : Sl} {h' : Hl} (hx : G.nm[f]? = some x) (hf : T0.fld[f]? = some true) {o : Kb.E} (A2 : StA G En ρ Hf lσ h2 σ H) (r2 : RepB G ρ Hf H (.rf n) u) (ry : Rep G ρ Hf y v) (eq : stF o lσ (.rf n) f y h2 = some (lσ', h')) :
    ∃ a Cc dx gs, u = .ref a ∧ H a = some (.ins Cc dx gs) ∧ L2.Cls X.K Cc ∧ NoAttr X.K Cc x ∧ gs.length < 1000 ∧ St1 G En lσ' h' σ (upd H a (.ins Cc dx (L2.putF x v gs))) := by
  simp only [stF] at eq
  cases hn : h2[n]? with
  | none => rw [hn] at eq; cases eq
  | some cc =>
    rw [hn] at eq
    cases cc with
    | ins c fs =>
      simp only at eq
      split at eq
      · rename_i lt
        cases eq
        obtain ⟨a, ea, ⟨dx, gs, ha, rF, ok⟩, fa⟩ := A2.S.at hn
        obtain ⟨b, rfl, eb⟩ := B_rf r2
        rw [ea] at eb; cases eb
        exact ⟨a, _, dx, gs, rfl, ha, C.cl c ok, C.na c f x ok hf hx, by rw [← rF.len]; omega, ⟨ρ, Hf, A2.setCell ea ⟨dx, _, upd_same, RepF.put C.nm hx ry rF, ok⟩⟩⟩
      · cases eq
    | lst xs => cases eq
    | dct kvs => cases eq
def isVarE : Kb.E → Bool
  | .var _ => true | _ => false
/-- o.f = e, o no name -/
theorem ks_setF (C : KCx X P call G W CX D T0) {o e : Expr} {io ie : Kb.E} {x : Str} {f : Nat} {pos pos' : Pos} (hx : G.nm[f]? = some x) (hf : T0.fld[f]? = some true) (ho : PE X o (tE P call G W io)) (he : PE X e (tE P call G W ie)) (hv : isVarE io = false := by rfl) (hs : swapsWith e (some (.Attribute o x pos')) pos.line X.env = pure false := by rfl) :
    PS X (.Assign [.Attribute o x pos'] e pos) (tS P call G W Wn (.setF io f ie)) := by
  refine PSimp (ps_fld ho he hs) fun E σ H ⟨En, lσ, hp, ⟨ρ, Hf, A⟩, q⟩ => ?_
  simp only [exS] at q
  refine go_sE A q fun y h1 ρ1 Hf1 v H1 A1 N1 r1 q => ?_
  refine go_sE A1 q fun t h2 ρ2 Hf2 u H2 A2 N2 r2 q => ?_
  split at q
  · rename_i py
    have ry := ((r1.nx N2).plain py)
    split at q
    · rename_i σ' h' eq
      cases t with
      | rf n =>
        obtain ⟨a, Cc, dx, gs, e1, e2, e3, e4, e5, e6⟩ := setF_rf C hx hf A2 r2 ry eq
        exact ⟨a, Cc, dx, gs, e1, e2, e3, e4, e5, q _ _ e6⟩
      | bI c fs => cases io <;> first | (simp [stF] at eq; done) | (simp [isVarE] at hv)
      | _ => simp [stF] at eq
    · exact False.elim q
  · exact False.elim q
/-- name.f = e -/
theorem ks_setFv (C : KCx X P call G W CX D T0) {i : Nat} {z : Str} {e : Expr} {ie : Kb.E} {x : Str} {f : Nat} {pos pos' pz : Pos} (hx : G.nm[f]? = some x) (hf : T0.fld[f]? = some true) (hN : X.N[i]? = some z) (hvis : visC X.env.scope z = true) (he : PE X e (tE P call G W ie)) (hd : (z == ("__debug__" : Str)) = false := by decide +kernel) (hcd : (z == ("__classdict__" : Str)) = false := by decide +kernel)
    (hs : swapsWith e (some (.Attribute (.Name z pz) x pos')) pos.line X.env = pure false := by rfl) : PS X (.Assign [.Attribute (.Name z pz) x pos'] e pos) (tS P call G W Wn (.setF (.var i) f ie)) := by
  refine PSimp (ps_fld (pe_var hN (vis_of hvis) hd hcd) he hs) fun E σ H ⟨En, lσ, hp, ⟨ρ, Hf, A⟩, q⟩ => ?_
  simp only [exS] at q
  refine go_sE A q fun y h1 ρ1 Hf1 v H1 A1 N1 r1 q => ?_
  simp only [evE] at q
  split at q
  · rename_i t es
    obtain ⟨u, hu, r2⟩ := A1.L.slot i t es
    refine ⟨u, hu, ?_⟩
    simp only [R.toS_ok] at q
    split at q
    · rename_i py
      have ry := r1.plain py
      split at q
      · rename_i σ' h' eq
        cases t with
        | rf n =>
          obtain ⟨a, Cc, dx, gs, e1, e2, e3, e4, e5, e6⟩ := setF_rf C hx hf A1 r2 ry eq
          exact ⟨a, Cc, dx, gs, e1, e2, e3, e4, e5, q _ _ e6⟩
        | bI c fs =>
          simp only [stF] at eq
          split at eq
          · rename_i lt
            cases eq
            obtain ⟨a, dx, gs, rfl, ha, rF, fa, ma, ok⟩ := id r2
            refine ⟨a, _, dx, gs, rfl, ha, C.cl c ok, C.na c f x ok hf hx, by rw [← rF.len]; omega, q _ _ ⟨ρ1, Hf1, A1.setOwn es rfl hu rfl rfl ⟨a, dx, _, rfl, upd_same, RepF.put C.nm hx ry rF, fa, ma, ok⟩⟩⟩
          · cases eq
        | _ => simp [stF] at eq
      · exact False.elim q
    · exact False.elim q
  · exact False.elim q
/-! ### items -/
theorem setI_rf {n : Nat} {y : T} {v u w : Vv} {t : T} {h2 : Hl} {lσ' : Sl} {h' : Hl} {o : Kb.E} (A2 : StA G En ρ Hf lσ h2 σ H) (r2 : RepB G ρ Hf H (.rf n) u) (rk : RepB G ρ Hf H t w) (ry : Rep G ρ Hf y v) (eq : putI o lσ (.rf n) t y h2 = some (lσ', h')) :
    ∃ a vs i j, u = .ref a ∧ w = .int i ∧ H a = some (.lst vs) ∧ L2.ixN vs.length i = some j ∧ St1 G En lσ' h' σ (upd H a (.lst (vs.set j v))) := by
  simp only [putI] at eq
  cases hn : h2[n]? with
  | none => rw [hn] at eq; cases eq
  | some cc =>
    rw [hn] at eq
    cases cc with
    | lst xs =>
      simp only at eq
      cases t <;> first | (simp at eq; done) | skip
      rename_i i
      simp only [Option.map_eq_some_iff] at eq
      obtain ⟨j, ej, eq⟩ := eq
      cases eq
      obtain ⟨a, ea, ⟨vs, ha, rF⟩, fa⟩ := A2.S.at hn
      obtain ⟨b, rfl, eb⟩ := B_rf r2
      rw [ea] at eb; cases eb
      exact ⟨a, vs, i, j, rfl, B_int rk, ha, by rw [← rF.length]; exact ej, ⟨ρ, Hf, A2.setCell ea ⟨_, upd_same, rF.set ry j⟩⟩⟩
    | ins c fs => cases eq
    | dct kvs => cases eq
theorem ks_setI (C : KCx X P call G W CX D T0) {o i e : Expr} {io ii ie : Kb.E} {pos pos' : Pos} (ho : PE X o (tE P call G W io)) (hi : PE X i (tE P call G W ii)) (he : PE X e (tE P call G W ie)) (hv : isVarE io = false := by rfl)
    (ha : ∀ v, assign (.Subscript o i pos') X.env v = (do
      let ov ← holding [v] (eval o X.env)
      let iv ← holding [v, ov] (eval i X.env)
      standAt pos'
      holding [v, ov, iv] (setItem ov iv v)
      release [v, ov, iv] []) := by intro _; rfl) (hs : swapsWithSole [.Subscript o i pos'] e pos.line X.env = pure false := by rfl) (hw : swappedStores [.Subscript o i pos'] e X.env = pure none := by rfl)
    (h1 : (assignEach [.Subscript o i pos'] X.env).map (·.2) = [assign (.Subscript o i pos') X.env] := by rfl) : PS X (.Assign [.Subscript o i pos'] e pos) (tS P call G W Wn (.setI io ii ie)) := by
  refine PSimp (ps_asg he (pg_sub ho hi set_list ha) hs hw h1) fun E σ H ⟨En, lσ, hp, ⟨ρ, Hf, A⟩, q⟩ => ?_
  simp only [exS] at q
  refine go_sE A q fun y h1 ρ1 Hf1 v H1 A1 N1 r1 q => ?_
  refine go_sE A1 q fun t h2 ρ2 Hf2 u H2 A2 N2 r2 q0 => ?_
  refine go_sE A2 q0 fun k h3 ρ3 Hf3 w H3 A3 N3 r3 q => ?_
  clear q0
  split at q
  · rename_i py
    have ry := ((r1.nx N2).nx N3).plain py
    split at q
    · rename_i σ' h' eq
      cases t with
      | rf n =>
        obtain ⟨a, vs, i, j, e1, e2, e3, e4, e5⟩ := setI_rf A3 (r2.nx N3) r3 ry eq
        exact ⟨a, vs, i, j, e1, e2, e3, e4, q _ _ e5⟩
      | bL xs => cases io <;> first | (simp [putI] at eq; done) | (simp [isVarE] at hv)
      | bD xs => cases io <;> first | (simp [putI] at eq; done) | (simp [isVarE] at hv)
      | _ => simp [putI] at eq
    · exact False.elim q
  · exact False.elim q
theorem ks_setIv (C : KCx X P call G W CX D T0) {i e : Expr} {ii ie : Kb.E} {s0 : Nat} {z : Str} {pos pos' pz : Pos} (hN : X.N[s0]? = some z) (hvis : visC X.env.scope z = true) (hi : PE X i (tE P call G W ii)) (he : PE X e (tE P call G W ie)) (hd : (z == ("__debug__" : Str)) = false := by decide +kernel) (hcd : (z == ("__classdict__" : Str)) = false := by decide +kernel)
    (ha : ∀ v, assign (.Subscript (.Name z pz) i pos') X.env v = (do
      let ov ← holding [v] (eval (.Name z pz) X.env)
      let iv ← holding [v, ov] (eval i X.env)
      standAt pos'
      holding [v, ov, iv] (setItem ov iv v)
      release [v, ov, iv] []) := by intro _; rfl) (hs : swapsWithSole [.Subscript (.Name z pz) i pos'] e pos.line X.env = pure false := by rfl) (hw : swappedStores [.Subscript (.Name z pz) i pos'] e X.env = pure none := by rfl)
    (h1 : (assignEach [.Subscript (.Name z pz) i pos'] X.env).map (·.2) = [assign (.Subscript (.Name z pz) i pos') X.env] := by rfl) : PS X (.Assign [.Subscript (.Name z pz) i pos'] e pos) (tS P call G W Wn (.setI (.var s0) ii ie)) := by
  refine PSimp (ps_asg he (pg_sub (pe_var hN (vis_of hvis) hd hcd) hi set_list ha) hs hw h1) fun E σ H ⟨En, lσ, hp, ⟨ρ, Hf, A⟩, q⟩ => ?_
  simp only [exS] at q
  refine go_sE A q fun y h1 ρ1 Hf1 v H1 A1 N1 r1 q => ?_
  simp only [evE] at q
  split at q
  · rename_i t es
    obtain ⟨u, hu, r2⟩ := A1.L.slot s0 t es
    refine ⟨u, hu, ?_⟩
    simp only [R.toS_ok] at q
    have q0 := q
    clear q
    refine go_sE A1 q0 fun k h3 ρ3 Hf3 w H3 A3 N3 r3 q => ?_
    clear q0
    split at q
    · rename_i py
      have ry := (r1.nx N3).plain py
      split at q
      · rename_i σ' h' eq
        cases t with
        | rf n =>
          obtain ⟨a, vs, i, j, e1, e2, e3, e4, e5⟩ := setI_rf A3 (r2.nx N3) r3 ry eq
          exact ⟨a, vs, i, j, e1, e2, e3, e4, q _ _ e5⟩
        | bL xs =>
          cases k <;> first | (simp [putI] at eq; done) | skip
          rename_i ki
          simp only [putI, Option.map_eq_some_iff] at eq
          obtain ⟨j, ej, eq⟩ := eq
          cases eq
          obtain ⟨a, vs, rfl, ha, rF, fa, ma⟩ := id (r2.nx N3)
          exact ⟨a, vs, ki, j, rfl, B_int r3, ha, by rw [← rF.length]; exact ej, q _ _ ⟨ρ3, Hf3, A3.setOwn es rfl hu rfl rfl ⟨a, _, rfl, upd_same, rF.set ry j, fa, ma⟩⟩⟩
        | _ => simp [putI] at eq
      · exact False.elim q
    · exact False.elim q
  · exact False.elim q

/-! ### methods that change a list -/
def idM : MB → String
  | .append => "list.append" | .extend => "list.extend" | .pop => "list.pop" | .popAt => "list.pop" | .reverse => "list.reverse" | .clear => "list.clear" | .insert => "list.insert" | .sort => "list.sort"
def rMb (G : Gm) (b : MB) : V → List V → Hp → VK → Prop := fun x us H Q => ∃ Z ρ Hf hp a ws xs vs v xs', x = .ref a ∧ Sto G Z ρ Hf hp H ∧ H a = some (.lst ws) ∧ Reps G ρ Hf xs ws ∧ RepBs G ρ Hf H vs us ∧ mbT b xs vs hp = some (v, xs') ∧ ∀ w ws', Reps G ρ Hf xs' ws' → Rep G ρ Hf v w → Q w (upd H a (.lst ws'))
theorem vals_nil {us : List V} (r : RepBs G ρ Hf H [] us) : us = [] := by cases r; rfl
theorem mt_mb (b : MB) : MtR X (idM b) (rMb G b) := by
  intro pins s σ H x us vv uus Q I rv rvs h
  obtain ⟨Z, ρ, Hf, hp, a, ws, xs, vs, v, xs', rfl, S, ha, rx, ru, e, q⟩ := h
  cases b with
  | append =>
    match vs, e, ru with
    | [y], e, ru =>
      obtain ⟨w, rfl, ry⟩ := one_of ru
      simp only [mbT] at e
      split at e
      · rename_i ok
        cases e
        simp only [Bool.and_eq_true, decide_eq_true_eq] at ok
        exact mt_append pins s σ H _ _ vv uus Q I rv rvs ⟨a, ws, w, rfl, rfl, ha, by rw [← rx.length, ← maxLen_eq]; exact ok.2, q _ _ (rx.append (.cons (ry.plain ok.1) .nil)) .non⟩
      · cases e
    | [], e, _ => simp [mbT] at e
    | _ :: _ :: _, e, _ => simp [mbT] at e
  | extend =>
    match vs, e, ru with
    | [y], e, ru =>
      obtain ⟨w, rfl, ry⟩ := one_of ru
      simp only [mbT] at e
      split at e
      · rename_i ys ey
        split at e
        · rename_i ok
          cases e
          obtain ⟨b, zs, rfl, hb, rb⟩ := lst'_at S ey ry
          exact mt_extend pins s σ H _ _ vv uus Q I rv rvs ⟨a, b, ws, zs, rfl, rfl, ha, hb, by rw [← rx.length, ← rb.length, ← maxLen_eq]; exact ok, q _ _ (rx.append rb) .non⟩
        · cases e
      · cases e
    | [], e, _ => simp [mbT] at e
    | _ :: _ :: _, e, _ => simp [mbT] at e
  | pop =>
    match vs, e, ru with
    | [], e, ru =>
      obtain rfl := vals_nil ru
      simp only [mbT] at e
      split at e
      · rename_i y ey
        cases e
        rw [List.getLast?_eq_getElem?] at ey
        obtain ⟨w, hw, rw'⟩ := rx.get ey
        exact mt_pop pins s σ H _ _ vv uus Q I rv rvs ⟨a, ws, w, rfl, rfl, ha, by rw [← rx.length]; exact hw, q _ _ rx.dropLast rw'⟩
      · cases e
    | _ :: _, e, _ => simp [mbT] at e
  | popAt =>
    match vs, e, ru with
    | [.int i], e, ru =>
      obtain ⟨w, rfl, ry⟩ := one_of ru
      obtain rfl := B_int ry
      simp only [mbT] at e
      split at e
      · rename_i j ej
        split at e
        · rename_i y ey
          split at e
          · rename_i ok
            cases e
            simp only [decide_eq_true_eq] at ok
            obtain ⟨w, hw, rw'⟩ := rx.get ey
            have hj : seqIndex? i ws.length = some j := by
              rw [← rx.length]
              unfold Kb.ixN at ej
              unfold seqIndex?
              split at ej
              · rename_i h0
                split at ej
                · rename_i h1
                  cases ej
                  simp only [show ¬ (i < 0) by omega, if_false, Bool.and_eq_true, decide_eq_true_eq, if_pos (show 0 ≤ i ∧ i < (xs.length : Int) from ⟨h0, h1⟩)]
                · cases ej
              · rename_i h0
                split at ej
                · rename_i h1
                  cases ej
                  simp only [show (i < 0) by omega, if_true, Bool.and_eq_true, decide_eq_true_eq, if_pos (show 0 ≤ i + (xs.length : Int) ∧ i + (xs.length : Int) < (xs.length : Int) from ⟨by omega, by omega⟩)]
                · cases ej
            exact mt_popAt pins s σ H _ _ vv uus Q I rv rvs ⟨a, ws, i, j, w, rfl, rfl, ha, by omega, by omega, hj, hw, q _ _ (rx.eraseIdx j) rw'⟩
          · cases e
        · cases e
      · cases e
    | [], e, _ => simp [mbT] at e
    | [.non], e, _ => simp [mbT] at e
    | [.bl _], e, _ => simp [mbT] at e
    | [.str _], e, _ => simp [mbT] at e
    | [.lst _], e, _ => simp [mbT] at e
    | [.tup _], e, _ => simp [mbT] at e
    | [.ins _ _], e, _ => simp [mbT] at e
    | [.dct _], e, _ => simp [mbT] at e
    | [.rf _], e, _ => simp [mbT] at e
    | [.kl _], e, _ => simp [mbT] at e
    | [.exc _ _], e, _ => simp [mbT] at e
    | [.bL _], e, _ => simp [mbT] at e
    | [.bD _], e, _ => simp [mbT] at e
    | [.bI _ _], e, _ => simp [mbT] at e
    | _ :: _ :: _, e, _ => simp [mbT] at e
  | reverse =>
    match vs, e, ru with
    | [], e, ru =>
      obtain rfl := vals_nil ru
      simp only [mbT] at e
      cases e
      exact mt_reverse pins s σ H _ _ vv uus Q I rv rvs ⟨a, ws, rfl, rfl, ha, q _ _ rx.rev .non⟩
    | _ :: _, e, _ => simp [mbT] at e
  | clear =>
    match vs, e, ru with
    | [], e, ru =>
      obtain rfl := vals_nil ru
      simp only [mbT] at e
      cases e
      exact mt_clear pins s σ H _ _ vv uus Q I rv rvs ⟨a, ws, rfl, rfl, ha, q _ _ .nil .non⟩
    | _ :: _, e, _ => simp [mbT] at e
  | insert => simp [mbT] at e
  | sort => simp [mbT] at e
theorem mb_rf {n : Nat} {u : Vv} {b : MB} {xs xs' vs : List T} {us : List V} {v : T} {h2 : Hl} (A : StA G En ρ Hf lσ h2 σ H) (r : RepB G ρ Hf H (.rf n) u) (hn : h2[n]? = some (.lst xs)) (ru : RepBs G ρ Hf H vs us) (e : mbT b xs vs h2 = some (v, xs')) {Q : VK}
    (q : ∀ w H', Rep G ρ Hf v w → StA G En ρ Hf lσ (h2.set n (.lst xs')) σ H' → Q w H') : rMb G b u us H Q := by
  obtain ⟨a, ea, ⟨ws, ha, rF⟩, fa⟩ := A.S.at hn
  obtain ⟨b, rfl, eb⟩ := B_rf r
  rw [ea] at eb; cases eb
  exact ⟨En.H, ρ, Hf, h2, a, ws, xs, vs, v, xs', rfl, A.S, ha, rF, ru, e, fun w ws' r1 r2 => q w _ r2 (A.setCell ea ⟨_, upd_same, r1⟩)⟩
theorem mb_own {i : Nat} {u : Vv} {b : MB} {xs xs' vs : List T} {us : List V} {v : T} {h2 : Hl} (A : StA G En ρ Hf lσ h2 σ H) (es : lσ[i]? = some (some (.bL xs))) (hu : σ[i]? = some (some u)) (ru : RepBs G ρ Hf H vs us) (e : mbT b xs vs h2 = some (v, xs')) {Q : VK}
    (q : ∀ w H', Rep G ρ Hf v w → StA G En ρ Hf (lσ.set i (some (.bL xs'))) h2 σ H' → Q w H') : rMb G b u us H Q := by
  obtain ⟨u', hu', r⟩ := A.L.slot i _ es
  rw [hu] at hu'; cases hu'
  obtain ⟨a, ws, rfl, ha, rF, fa, ma⟩ := id r
  exact ⟨En.H, ρ, Hf, h2, a, ws, xs, vs, v, xs', rfl, A.S, ha, rF, ru, e, fun w ws' r1 r2 => q w _ r2 (A.setOwn es rfl hu rfl rfl ⟨a, _, rfl, upd_same, r1, fa, ma⟩)⟩
theorem tyV_list {K : PySem.W.Frag} (hK : K = G.K) {t : T} {u : Vv} {h2 : Hl} {xs : List T} {Z : Hp} (S : Sto G Z ρ Hf h2 H) (r : RepB G ρ Hf H t u) (e : lstOf' t h2 = some xs) : tyV K "list" u H := by
  obtain ⟨a, vs, rfl, h, _⟩ := lst'_at S e r
  exact .inl ⟨rfl, vs, .inl (.inl h)⟩
section
variable {o : Expr} {es : List Expr} {name : Str} {pos apos cpos pz : Pos} {b : MB} {io : Kb.E} {ies : Es} {i s0 : Nat} {x z : Str}
/-- the call of the method, in a statement -/
def MCall (X : Cx) (G : Gm) (b : MB) (name : Str) (es : List Expr) (A : TA) (cpos apos : Pos) : Prop :=
  ∀ (o : Expr) (to : TE), PE X o to → attributeBase o name X.env (eval o X.env) = eval o X.env → PE X (.Call (.Attribute o name apos) es [] cpos) (fun σ H Q => to σ H fun x H1 => tyV X.K "list" x H1 ∧ A σ H1 fun us H2 => rMb G b x us H2 Q)
theorem mc_0 (slot : Slot "list" name (idM b)) (hty : typeOf (.builtin (idM b)) = pure (.type "method_descriptor")) (hline : (apos.endLine == cpos.line) = true := by rfl) : MCall X G b name [] tNil cpos apos := fun o to ho hb =>
  pe_bm0 F.plainAttrs_list slot hty (mt_mb (G := G) b) ho hb hline
theorem mc_1 (slot : Slot "list" name (idM b)) (hty : typeOf (.builtin (idM b)) = pure (.type "method_descriptor")) {e : Expr} (ha : PA X (e :: es) (tEs P call G W ies))
    (hfew : ((backTo cpos (starEach (e :: es) X.env)).all (fun x => !x.1) && (backToKw cpos (keywordEach [] X.env)).all (fun x => x.1.isSome)
      && decide ((e :: es).length + ([] : List Keyword).length + (if ([] : List Keyword).isEmpty then 0 else 1) < 30)) = true := by rfl)
    (hline : (apos.endLine == cpos.line) = true := by rfl) (hs : starEach (e :: es) X.env = (false, eval e X.env) :: starEach es X.env := by rfl) (hplain : (backTo cpos (starEach es X.env)).any (·.1) = false := by rfl) : MCall X G b name (e :: es) (tEs P call G W ies) cpos apos := fun o to ho hb =>
  pe_bm F.plainAttrs_list slot hty (mt_mb (G := G) b) ho ha hb hfew hline hs hplain
theorem mb_onL {t : T} {h : Hl} {f : List T → Option (T × List T)} {r : T × Sl × Hl} (e : onL io lσ t h f = some r) : (∃ n xs v xs', t = .rf n ∧ h[n]? = some (.lst xs) ∧ f xs = some (v, xs') ∧ r = (v, lσ, h.set n (.lst xs'))) ∨ (∃ i xs v xs', io = .var i ∧ t = .bL xs ∧ f xs = some (v, xs') ∧ r = (v, lσ.set i (some (.bL xs')), h)) := by
  unfold onL at e
  cases t with
  | rf n =>
    simp only at e
    split at e
    · rename_i xs hn
      rw [Option.map_eq_some_iff] at e
      obtain ⟨⟨v, xs'⟩, e1, rfl⟩ := e
      exact .inl ⟨n, xs, v, xs', rfl, hn, e1, rfl⟩
    · cases e
  | bL xs =>
    simp only at e
    cases io with
    | var i =>
      simp only [Option.map_eq_some_iff] at e
      obtain ⟨⟨v, xs'⟩, e1, rfl⟩ := e
      exact .inr ⟨i, xs, v, xs', rfl, rfl, e1, rfl⟩
    | _ => cases e
  | _ => cases e
theorem mbT_plain {b : MB} {xs vs xs' : List T} {h : Hl} {v : T} (e : mbT b xs vs h = some (v, xs')) : True := trivial
/-- name.method(..) -/
theorem ks_mbv (C : KCx X P call G W CX D T0) {A0 : TA} (hN : X.N[s0]? = some z) (hvis : visC X.env.scope z = true) (hm : MCall X G b name es A0 cpos apos) (hA : ∀ σ H R, tEs P call G W ies σ H R → A0 σ H R) (hd : (z == ("__debug__" : Str)) = false := by decide +kernel) (hcd : (z == ("__classdict__" : Str)) = false := by decide +kernel)
    (hb : attributeBase (.Name z pz) name X.env (eval (.Name z pz) X.env) = eval (.Name z pz) X.env := by rfl) (hs : swapsWith (.Call (.Attribute (.Name z pz) name apos) es [] cpos) none pos.line X.env = pure false := by rfl) :
    PS X (.Expr (.Call (.Attribute (.Name z pz) name apos) es [] cpos) pos) (tS P call G W Wn (.mb b (.var s0) ies)) := by
  refine PSimp (ps_expr (hm _ _ (pe_var hN (vis_of hvis) hd hcd) hb) hs) fun E σ H ⟨En, lσ, hp, ⟨ρ, Hf, A⟩, q⟩ => ?_
  simp only [exS, evE] at q
  split at q
  · rename_i t es
    obtain ⟨u, hu, r⟩ := A.L.slot s0 t es
    simp only [R.toS_ok] at q
    refine ⟨u, hu, ?_⟩
    split at q
    case isFalse => exact False.elim q
    rename_i hl
    obtain ⟨xs0, e0⟩ := Option.isSome_iff_exists.mp hl
    refine ⟨tyV_list C.hK A.S r e0, hA σ H _ ?_⟩
    have q0 := q
    clear q
    refine go_sEs A q0 fun vs h1 ρ1 Hf1 us H1 A1 N1 r1 q => ?_
    clear q0
    split at q
    · rename_i v σ' h' eq
      rcases mb_onL eq with ⟨n, xs, v', xs', rfl, hn, e1, e2⟩ | ⟨i, xs, v', xs', ei, rfl, e1, e2⟩
      · cases e2
        exact mb_rf A1 (r.nx N1) hn r1 e1 fun w H' rw A2 => q _ _ ⟨_, _, A2⟩
      · cases e2
        cases ei
        exact mb_own A1 es hu r1 e1 fun w H' rw A2 => q _ _ ⟨_, _, A2⟩
    · exact False.elim q
  · exact False.elim q
/-- o.method(..), o no name -/
theorem ks_mb (C : KCx X P call G W CX D T0) {A0 : TA} (ho : PE X o (tE P call G W io)) (hm : MCall X G b name es A0 cpos apos) (hA : ∀ σ H R, tEs P call G W ies σ H R → A0 σ H R) (hv : isVarE io = false := by rfl)
    (hb : attributeBase o name X.env (eval o X.env) = eval o X.env := by rfl) (hs : swapsWith (.Call (.Attribute o name apos) es [] cpos) none pos.line X.env = pure false := by rfl) :
    PS X (.Expr (.Call (.Attribute o name apos) es [] cpos) pos) (tS P call G W Wn (.mb b io ies)) := by
  refine PSimp (ps_expr (hm _ _ ho hb) hs) fun E σ H ⟨En, lσ, hp, ⟨ρ, Hf, A⟩, q⟩ => ?_
  simp only [exS] at q
  refine go_sE A q fun t h0 ρ0 Hf0 u H0 A0' N0 r q1 => ?_
  split at q1
  case isFalse => exact False.elim q1
  rename_i hl
  obtain ⟨xs0, e0⟩ := Option.isSome_iff_exists.mp hl
  refine ⟨tyV_list C.hK A0'.S r e0, hA σ H0 _ ?_⟩
  refine go_sEs A0' q1 fun vs h1 ρ1 Hf1 us H1 A1 N1 r1 q2 => ?_
  clear q1 q
  split at q2
  · rename_i v σ' h' eq
    rcases mb_onL eq with ⟨n, xs, v', xs', rfl, hn, e1, e2⟩ | ⟨i, xs, v', xs', ei, rfl, e1, e2⟩
    · cases e2
      exact mb_rf A1 (r.nx N1) hn r1 e1 fun w H' rw A2 => q2 _ _ ⟨_, _, A2⟩
    · subst ei; cases hv
  · exact False.elim q2
theorem hA_id (σ : L2.St) (H : Hp) (R : List V → Hp → Prop) : tEs P call G W ies σ H R → tEs P call G W ies σ H R := id
theorem hA_nil (σ : L2.St) (H : Hp) (R : List V → Hp → Prop) : tEs P call G W .nil σ H R → tNil σ H R := fun ⟨Z, ρ, Hf, lσ, hp, S, L, h⟩ => h.ret S .nil
/-- y = name.method(..) -/
theorem ks_mbAv (C : KCx X P call G W CX D T0) {A0 : TA} {y : Str} {py : Pos} (hi : X.N[i]? = some y) (hx : X.env.scope.names.lookup y = some .local) (hN : X.N[s0]? = some z) (hvis : visC X.env.scope z = true) (hm : MCall X G b name es A0 cpos apos) (hA : ∀ σ H R, tEs P call G W ies σ H R → A0 σ H R) (hd : (z == ("__debug__" : Str)) = false := by decide +kernel) (hcd : (z == ("__classdict__" : Str)) = false := by decide +kernel)
    (hb : attributeBase (.Name z pz) name X.env (eval (.Name z pz) X.env) = eval (.Name z pz) X.env := by rfl) (hs : swapsWith (.Call (.Attribute (.Name z pz) name apos) es [] cpos) (some (.Name y py)) pos.line X.env = pure false := by rfl) :
    PS X (.Assign [.Name y py] (.Call (.Attribute (.Name z pz) name apos) es [] cpos) pos) (tS P call G W Wn (.mbA i b (.var s0) ies)) := by
  refine PSimp (ps_set C.nN hi (.inl hx) (hm _ _ (pe_var hN (vis_of hvis) hd hcd) hb) hs (.inr hx)) fun E σ H ⟨En, lσ, hp, ⟨ρ, Hf, A⟩, q⟩ => ?_
  simp only [exS, evE] at q
  split at q
  · rename_i t es
    obtain ⟨u, hu, r⟩ := A.L.slot s0 t es
    simp only [R.toS_ok] at q
    refine ⟨u, hu, ?_⟩
    split at q
    case isFalse => exact False.elim q
    rename_i hl
    obtain ⟨xs0, e0⟩ := Option.isSome_iff_exists.mp hl
    refine ⟨tyV_list C.hK A.S r e0, hA σ H _ ?_⟩
    have q0 := q
    clear q
    refine go_sEs A q0 fun vs h1 ρ1 Hf1 us H1 A1 N1 r1 q => ?_
    clear q0
    split at q
    · rename_i v σ' h' eq
      split at q
      · rename_i fr
        rcases mb_onL eq with ⟨n, xs, v', xs', rfl, hn, e1, e2⟩ | ⟨i, xs, v', xs', ei, rfl, e1, e2⟩
        · cases e2
          exact mb_rf A1 (r.nx N1) hn r1 e1 fun w H' rw A2 => q _ _ ⟨_, _, A2.put rw⟩
        · cases e2
          cases ei
          exact mb_own A1 es hu r1 e1 fun w H' rw A2 => q _ _ ⟨_, _, A2.put rw⟩
      · exact False.elim q
    · exact False.elim q
  · exact False.elim q
end
/-- what a slot owned stands for ever from now on -/
theorem kb_frz {i : Nat} {b : List Stmt} {ib : B} (h : PSs X b (tB P call G W Wn ib)) : PSs X b (tB P call G W Wn (.cons (.frz i) ib)) := by
  refine PSsimp h fun E σ H ⟨En, lσ, hp, ⟨ρ, Hf, A⟩, q⟩ => ?_
  simp only [exB, exS] at q
  have key : ∀ {t t' : T} {a : Addr} {o : HO}, lσ[i]? = some (some t) → isBor t = true → isInsT t = false → σ[i]? = some (some (.ref a)) → H a = some o → Hf a = none → a ∉ ρ → (Rep G ρ (upd Hf a o) t' (.ref a)) → St1 G En (lσ.set i (some t')) hp σ H := fun {t t' a o} es b ni hs ha fa ma r' => by
    have nw : En.H a = none := by
      rcases A.O i t a es b hs with h | h
      · exact h.1
      · rw [ni] at h; cases h.2
    have N2 : Nxt En.x En.ρ En.Hf En.H ρ (upd Hf a o) H := ⟨A.N.pre, A.N.hf.trans (Ex.new fa), A.N.fr, A.N.nw, fun d u e n => by
      by_cases z : d = a
      · subst z; exact nw
      · rw [upd_ne z] at e; exact A.N.hn d u e n⟩
    have hl := (List.getElem?_eq_some_iff.mp es).1
    have self : ∀ {j : Nat} {u : T}, (lσ.set i (some t'))[j]? = some (some u) → (i = j ∧ u = t') ∨ (i ≠ j ∧ lσ[j]? = some (some u)) := fun {j u} e => by
      by_cases q : i = j
      · subst q
        rw [List.getElem?_set_self hl] at e
        cases e
        exact .inl ⟨rfl, rfl⟩
      · rw [List.getElem?_set_ne q] at e
        exact .inr ⟨q, e⟩
    have mono : ∀ {u : T} {v : Vv}, RepB G ρ Hf H u v → (isBor u = true → v ≠ .ref a) → RepB G ρ (upd Hf a o) H u v := fun {u v} r na => by
      cases u with
      | bL xs =>
        obtain ⟨d, vs, rfl, h, r, f, m⟩ := r
        have nd : d ≠ a := fun z => na rfl (by rw [z])
        exact ⟨d, vs, rfl, h, r.mono ⟨[], by simp⟩ (Ex.new fa), by rw [upd_ne nd]; exact f, m⟩
      | bD xs =>
        obtain ⟨d, vs, rfl, h, r, f, m⟩ := r
        have nd : d ≠ a := fun z => na rfl (by rw [z])
        exact ⟨d, vs, rfl, h, r.mono ⟨[], by simp⟩ (Ex.new fa), by rw [upd_ne nd]; exact f, m⟩
      | bI c fs =>
        obtain ⟨d, dx, vs, rfl, h, r, f, m, k⟩ := r
        have nd : d ≠ a := fun z => na rfl (by rw [z])
        exact ⟨d, dx, vs, rfl, h, r.mono ⟨[], by simp⟩ (Ex.new fa), by rw [upd_ne nd]; exact f, m, k⟩
      | _ => exact Rep.toB (Rep.mono ⟨[], by simp⟩ (Ex.new fa) r)
    refine ⟨ρ, upd Hf a o, A.S.frz ha fa ma, ⟨by rw [List.length_set]; exact A.L.len, fun j u e => ?_, fun j k t1 u1 c hjk e1 e2 b1 b2 s1 s2 => ?_⟩, N2, fun j u c e bo s => ?_, A.x, A.pr, A.ex.trans (Ex.new fa)⟩
    · rcases self e with ⟨rfl, rfl⟩ | ⟨q, e⟩
      · exact ⟨_, hs, r'.toB⟩
      · obtain ⟨w, h3, h4⟩ := A.L.slot j u e
        exact ⟨w, h3, mono h4 fun bu z => by subst z; exact A.L.sep i j t u a q es e b bu hs h3⟩
    · rcases self e1 with ⟨p1, g1⟩ | ⟨p1, f1⟩
      · rw [g1, r'.nbor] at b1; cases b1
      · rcases self e2 with ⟨p2, g2⟩ | ⟨p2, f2⟩
        · rw [g2, r'.nbor] at b2; cases b2
        · exact A.L.sep j k t1 u1 c hjk f1 f2 b1 b2 s1 s2
    · rcases self e with ⟨rfl, rfl⟩ | ⟨q, e⟩
      · rw [r'.nbor] at bo; cases bo
      · exact A.O j u c e bo s
  split at q
  · rename_i xs es
    obtain ⟨v, hv, r⟩ := A.L.slot i _ es
    obtain ⟨a, vs, rfl, ha, rF, fa, ma⟩ := r
    exact ⟨En, _, hp, key es rfl rfl hv ha fa ma (.lst upd_same (rF.mono ⟨[], by simp⟩ (Ex.new fa))), q⟩
  · rename_i xs es
    obtain ⟨v, hv, r⟩ := A.L.slot i _ es
    obtain ⟨a, vs, rfl, ha, rF, fa, ma⟩ := r
    exact ⟨En, _, hp, key es rfl rfl hv ha fa ma (.dct upd_same (rF.mono ⟨[], by simp⟩ (Ex.new fa))), q⟩
  · exact False.elim q
end
end Kb
end
section
set_option Elab.async false
set_option linter.all false
set_option maxRecDepth 100000
set_option maxHeartbeats 4000000
set_option autoImplicit false
/-! Kb9: defs by depth; the law's end. No exception leaves a def. -/
namespace Kb
open PySem PySem.Spec PyProof.Rows L2
def lvD (D : Dat) (d : Nat) : Dat := { D with lv := 2 * d + 2 }
def spOf (ini : List (Option Nat)) (G : Gm) (call : Nat → List T → Hl → R T) (f : Nat) : Sp := match ini[f]? with
  | some (some c) => spI G call c f
  | _ => sp G call f
/-- what the top has written -/
structure Stat (K : PySem.W.Frag) (mg : Str → Option Value) (P : Prog) (G : Gm) (D : Dat) (T0 : Tab) (ini : List (Option Nat)) (ok : Nat → Prop) : Prop where
  exc : P.exc = false
  hK : K = G.K
  nm : G.nm.Nodup
  kd : KdOk G
  fn : ∀ (f : Nat) (x : Str), T0.fn[f]? = some (some x) → ok f ∧ (∀ c, ini[f]? ≠ some (some c)) ∧ mg x = some (.ref (D.ad f)) ∧ PySem.W.keepIn K (.ref (D.ad f)) = true ∧ Binds K (D.fd f) (D.ps f) []
  mt : ∀ (c : Nat) (kc : Kb.Cls) (m f : Nat) (x : Str), P.cls[c]? = some kc → lkN m kc.meths = some f → G.nm[m]? = some x → G.cok c → ok f ∧ (∀ c, ini[f]? ≠ some (some c)) ∧ Meth K (G.ca c) x (D.ad f) ∧ Binds K (D.fd f) (D.ps f) []
  ini : ∀ (c : Nat) (kc : Kb.Cls) (f : Nat) (x : Str), P.cls[c]? = some kc → kc.init = some f → T0.cn[c]? = some (some x) → ok f ∧ (if kc.mode = 0 then (∀ c, ini[f]? ≠ some (some c)) else ini[f]? = some (some c)) ∧ Mk K (G.ca c) (D.ad f) ∧ mg x = some (.ref (G.ca c)) ∧ G.cok c ∧ Binds K (D.fd f) (D.ps f) []
  cl : ∀ c, G.cok c → L2.Cls K (G.ca c)
  na : ∀ (c f : Nat) (x : Str), G.cok c → T0.fld[f]? = some true → G.nm[f]? = some x → NoAttr K (G.ca c) x
  sf : ∀ c, G.cok c → PySem.W.selfFirst K (G.ca c) = true
theorem spOf_n {ini : List (Option Nat)} {G : Gm} {call : Nat → List T → Hl → R T} {f : Nat} (h : ∀ c, ini[f]? ≠ some (some c)) : spOf ini G call f = sp G call f := by
  unfold spOf
  split
  · rename_i c e; exact absurd e (h c)
  · rfl
theorem spOf_i {ini : List (Option Nat)} {G : Gm} {call : Nat → List T → Hl → R T} {f c : Nat} (h : ini[f]? = some (some c)) : spOf ini G call f = spI G call c f := by
  unfold spOf
  rw [h]
section
variable {Pg : Program} {w : World} {K : PySem.W.Frag} {mg : Str → Option Value} {base : Heap} {P : Prog} {G : Gm} {D : Dat} {T0 : Tab} {ini : List (Option Nat)} {ok : Nat → Prop} {Wn d : Nat}
theorem Stat.kcx (St : Stat K mg P G D T0 ini ok) (IH : ∀ f, ok f → FnOk Pg w K mg base CX0 (2 * d + 2) (D.ad f) (D.fd f) (D.ps f) (spOf ini G (run P Wn d) f))
    {X : Cx} (e1 : X.prog = Pg) (e2 : X.w = w) (e3 : X.K = K) (e4 : X.mg = mg) (e5 : X.base = base) (calm : X.calm = true) (room : Room (2 * d + 3) X.A) (nN : X.N.Nodup) (xe : X.xe = fun _ _ => False) : KCx X P (run P Wn d) G WF CX0 (lvD D d) T0 := by
  subst e1 e2 e3 e4 e5
  exact {
    hK := St.hK
    calm := calm
    room := room
    nm := St.nm
    kd := St.kd
    pas := fun σ pins σ' H s e s' I h => h.elim
    nil := fun _ _ _ _ _ h => h
    nN := nN
    own := by rw [xe]; exact PassesOwn.never
    fn := fun f x h => by
      obtain ⟨h1, h2, h3, h4, h5⟩ := St.fn f x h
      have := IH f h1
      rw [spOf_n h2] at this
      exact ⟨this, h3, h4, h5⟩
    mt := fun c kc m f x a1 a2 a3 a4 => by
      obtain ⟨h1, h2, h3, h4⟩ := St.mt c kc m f x a1 a2 a3 a4
      have := IH f h1
      rw [spOf_n h2] at this
      exact ⟨this, h3, h4⟩
    ini := fun c kc f x a1 a2 a3 => by
      obtain ⟨h1, h2, h3, h4, h5, h6⟩ := St.ini c kc f x a1 a2 a3
      have := IH f h1
      refine ⟨?_, h3, h4, h5, h6⟩
      split at h2
      · rename_i hm
        rw [if_pos hm, ← spOf_n h2]; exact this
      · rename_i hm
        rw [if_neg hm, ← spOf_i h2]; exact this
    cl := St.cl
    na := St.na
    sf := St.sf }
theorem reps_slots {ρ : List Addr} {Hf H : Hp} {ts : List T} {vs : List V} (r : Reps G ρ Hf ts vs) (n : Nat) (m : Nat) (hm : n ≤ m) : Slots G ρ Hf H (ts.map some ++ List.replicate n none) (vs.map some ++ List.replicate m none) := by
  have key : ∀ (i : Nat) (t : T), (ts.map some ++ List.replicate n none)[i]? = some (some t) → ts[i]? = some t := fun i t e => by
    by_cases q : i < ts.length
    · rw [List.getElem?_append_left (by rw [List.length_map]; exact q), List.getElem?_map] at e
      cases z : ts[i]? with
      | none => rw [z] at e; cases e
      | some u => rw [z] at e; cases e; rfl
    · rw [List.getElem?_append_right (by rw [List.length_map]; omega)] at e
      have := List.mem_of_getElem? e
      rw [List.mem_replicate] at this
      cases this.2
  have nb : ∀ (i : Nat) (t : T), ts[i]? = some t → isBor t = false := fun i t e => let ⟨v, _, h⟩ := r.get e; h.nbor
  refine ⟨?_, fun i t e => ?_, fun i j t u a _ e1 e2 b1 _ _ _ => ?_⟩
  · simp only [List.length_append, List.length_map, List.length_replicate]
    rw [r.length]; omega
  · obtain ⟨v, h1, h2⟩ := r.get (key i t e)
    refine ⟨v, ?_, h2.toB⟩
    rw [List.getElem?_append_left (by rw [List.length_map]; exact (List.getElem?_eq_some_iff.mp h1).1), List.getElem?_map, h1]; rfl
  · rw [nb i t (key i t e1)] at b1; cases b1
/-- a def: what its body's reading gives -/
theorem fn_walk {name qual : Str} {st : Stmt} {fa : Addr} {fd : FuncData} {N ps : List Str} {fi : Nat} {kd : Kb.Def} (St : Stat K mg P G D T0 ini ok) (IH : ∀ f, ok f → FnOk Pg w K mg base CX0 (2 * d + 2) (D.ad f) (D.fd f) (D.ps f) (spOf ini G (run P Wn d) f))
    (F : Fun K name qual st fa fd) (Sc : FnScope N ps (defScope st)) (hk : P.defs[fi]? = some kd) (hnp : ps.length = kd.np) (hns : kd.ns - kd.np ≤ N.length - ps.length)
    (body : ∀ (cdv : Value) (A : Around) (outer : List Env) (s : Shared) (H : Hp) (E : XK), KCx (cxOf CX0 Pg w K mg base N qual (defScope st) fa cdv A outer s H E).nox P (run P Wn d) G WF CX0 (lvD D d) T0 →
      PSs (cxOf CX0 Pg w K mg base N qual (defScope st) fa cdv A outer s H E).nox (defBody st) (tB P (run P Wn d) G WF Wn kd.body)) :
    FnOk Pg w K mg base CX0 (2 * d + 4) fa fd ps (sp G (run P Wn (d + 1)) fi) := by
  have hlen : ∀ ts hp, (∀ (Z : Hp) (E : XK) ρ Hf H Q, Post G Z (fun c d _ H => E c d H) [] (RepB G) ρ Hf H Q (run P Wn (d + 1) fi ts hp) → ts.length = kd.np) := fun ts hp Z E ρ Hf H Q h => by
    simp only [run, hk] at h
    split at h
    · rename_i e; exact e
    · exact h.elim
  refine F.ok (k := 2 * d + 3) Sc (fun vs H Q E h => ?_) (fun cdv A outer s H vs Q E hr h => ?_)
  · obtain ⟨Z, ρ, Hf, hp, ts, S, r, h⟩ := h
    rw [← r.length, hlen ts hp Z E ρ Hf H Q h, hnp]
  · obtain ⟨Z, ρ, Hf, hp, ts, S, r, h⟩ := h
    have hl := hlen ts hp Z E ρ Hf H Q h
    have C := St.kcx (Wn := Wn) IH (X := (cxOf CX0 Pg w K mg base N qual (defScope st) fa cdv A outer s H E).nox) rfl rfl rfl rfl rfl rfl hr Sc.nd rfl
    refine ⟨_, body cdv A outer s H E C, ⟨none, ρ, Hf, H, ρ, Hf⟩, startT kd.np kd.ns ts, hp, ⟨ρ, Hf, S.ofZ fun a o e => ⟨o, e⟩, ?_, .refl, ?_, (fun a e => by cases e), ⟨[], by simp⟩, Ex.refl _⟩, ?_⟩
    · unfold startT L2.start
      exact reps_slots r _ _ (by rw [← r.length, hl, ← hnp]; omega)
    · intro i t a e b s
      obtain ⟨v, h1, h2⟩ := (reps_slots (H := H) r (kd.ns - kd.np) (kd.ns - kd.np) (Nat.le_refl _)).slot i t e
      exfalso
      have key : ts[i]? = some t := by
        have e : (ts.map some ++ List.replicate (kd.ns - kd.np) none)[i]? = some (some t) := e
        by_cases q : i < ts.length
        · rw [List.getElem?_append_left (by rw [List.length_map]; exact q), List.getElem?_map] at e
          cases z : ts[i]? with
          | none => rw [z] at e; cases e
          | some u => rw [z] at e; cases e; rfl
        · rw [List.getElem?_append_right (by rw [List.length_map]; omega)] at e
          have := List.mem_of_getElem? e
          rw [List.mem_replicate] at this
          cases this.2
      obtain ⟨u, _, h3⟩ := r.get key
      rw [h3.nbor] at b; cases b
    · simp only [run, hk, if_pos hl, St.exc] at h
      have nbi : ∀ c fs rest, ts ≠ .bI c fs :: rest := fun c fs rest e => by
        subst e
        cases r with
        | cons h _ => have := h.nbor; cases this
      have dom : ∀ {ρ' Hf' h' H'}, Sto G H ρ' Hf' h' H' → Sto G Z ρ' Hf' h' H' := fun {ρ' Hf' h' H'} S' => S'.ofZ fun a o e => let ⟨o1, h1⟩ := S.dom a o e; S'.dom a o1 h1
      cases hr2 : exB P (run P Wn d) Wn kd.body (startT kd.np kd.ns ts) hp with
      | nx σ' h' =>
        rw [hr2] at h
        simp only at h
        have ef : fin σ' h' ts = .ok .non h' := by
          unfold fin
          split
          · rename_i c fs rest; exact absurd rfl (nbi _ _ _)
          · rfl
        rw [ef] at h
        intro σ1 H1 ⟨ρ1, Hf1, A1⟩
        exact h ρ1 Hf1 H1 .non A1.N (dom A1.S) (Rep.non)
      | rt t h' =>
        rw [hr2] at h
        intro ρ1 Hf1 H1 v N1 S1 r1
        have h : Post G Z (fun c d _ H => E c d H) [] (RepB G) ρ Hf H Q (.ok t h') := by
          cases ts with
          | nil => exact h
          | cons x xs => cases x <;> first | exact h | exact absurd rfl (nbi _ _ _)
        exact h ρ1 Hf1 H1 v N1 (dom S1) r1.toB
      | bk σ' h' => rw [hr2] at h; exact h.elim
      | ct σ' h' => rw [hr2] at h; exact h.elim
      | err c fs σ' h' => rw [hr2] at h; exact h.elim
      | stuck => rw [hr2] at h; exact h.elim
/-- an __init__ of a class whose instances are no cells -/
theorem ini_walk {name qual : Str} {st : Stmt} {fa : Addr} {fd : FuncData} {N ps : List Str} {fi c : Nat} {kd : Kb.Def} (St : Stat K mg P G D T0 ini ok) (IH : ∀ f, ok f → FnOk Pg w K mg base CX0 (2 * d + 2) (D.ad f) (D.fd f) (D.ps f) (spOf ini G (run P Wn d) f))
    (F : Fun K name qual st fa fd) (Sc : FnScope N ps (defScope st)) (hk : P.defs[fi]? = some kd) (hnp : ps.length = kd.np) (hns : kd.ns - kd.np ≤ N.length - ps.length)
    (body : ∀ (cdv : Value) (A : Around) (outer : List Env) (s : Shared) (H : Hp) (E : XK), KCx (cxOf CX0 Pg w K mg base N qual (defScope st) fa cdv A outer s H E).nox P (run P Wn d) G WF CX0 (lvD D d) T0 →
      PSs (cxOf CX0 Pg w K mg base N qual (defScope st) fa cdv A outer s H E).nox (defBody st) (tB P (run P Wn d) G WF Wn kd.body)) :
    FnOk Pg w K mg base CX0 (2 * d + 4) fa fd ps (spI G (run P Wn (d + 1)) c fi) := by
  have hlen : ∀ (ts : List T) hp, (∀ (Z : Hp) (E : XK) a ρ Hf H Q, PostI G Z E a ρ Hf H Q (run P Wn (d + 1) fi ts hp) → ts.length = kd.np) := fun ts hp Z E a ρ Hf H Q h => by
    simp only [run, hk] at h
    split at h
    · rename_i e; exact e
    · exact h.elim
  refine F.ok (k := 2 * d + 3) Sc (fun vs H Q E h => ?_) (fun cdv A outer s H vs Q E hr h => ?_)
  · obtain ⟨Z, ρ, Hf, hp, ts, a, dx, ws, rfl, S, r, _, _, _, _, h⟩ := h
    rw [List.length_cons, ← r.length]
    have := hlen _ hp Z E a ρ Hf H Q h
    rw [List.length_cons] at this
    omega
  · obtain ⟨Z, ρ, Hf, hp, ts, a, dx, ws, rfl, S, r, ha, fa', ma, ok', h⟩ := h
    have hl := hlen _ hp Z E a ρ Hf H Q h
    have hl' := hl
    rw [List.length_cons] at hl'
    have C := St.kcx (Wn := Wn) IH (X := (cxOf CX0 Pg w K mg base N qual (defScope st) fa cdv A outer s H E).nox) rfl rfl rfl rfl rfl rfl hr Sc.nd rfl
    have sl := reps_slots (H := H) r (kd.ns - kd.np) (N.length - (V.ref a :: ws).length) (by rw [List.length_cons, ← r.length]; omega)
    have key : ∀ {i : Nat} {t : T}, (ts.map some ++ List.replicate (kd.ns - kd.np) none)[i]? = some (some t) → isBor t = true → False := fun {i t} e b => by
      have e2 : ts[i]? = some t := by
        by_cases q : i < ts.length
        · rw [List.getElem?_append_left (by rw [List.length_map]; exact q), List.getElem?_map] at e
          cases z : ts[i]? with
          | none => rw [z] at e; cases e
          | some u => rw [z] at e; cases e; rfl
        · rw [List.getElem?_append_right (by rw [List.length_map]; omega)] at e
          have := List.mem_of_getElem? e
          rw [List.mem_replicate] at this
          cases this.2
      obtain ⟨u, _, h3⟩ := r.get e2
      rw [h3.nbor] at b; cases b
    refine ⟨_, body cdv A outer s H E C, ⟨some a, ρ, Hf, H, ρ, Hf⟩, startT kd.np kd.ns (.bI c [] :: ts), hp, ⟨ρ, Hf, S.ofZ fun a o e => ⟨o, e⟩, ?_, .refl, ?_, (fun b e => by cases e; exact ⟨_, ha⟩), ⟨[], by simp⟩, Ex.refl _⟩, ?_⟩
    · refine ⟨?_, fun i t e => ?_, fun i j t u b hij e1 e2 b1 b2 s1 s2 => ?_⟩
      · have := sl.len
        show ((some (T.bI c []) :: (ts.map some ++ List.replicate (kd.ns - kd.np) none)).length) ≤ (some (V.ref a) :: (ws.map some ++ List.replicate (N.length - (V.ref a :: ws).length) none)).length
        rw [List.length_cons, List.length_cons]; omega
      · cases i with
        | zero =>
          cases e
          exact ⟨.ref a, rfl, a, dx, [], rfl, ha, .nil, fa', ma, ok'⟩
        | succ i => exact sl.slot i t e
      · cases i with
        | succ i => exact key e1 b1
        | zero =>
          cases j with
          | zero => exact hij rfl
          | succ j => exact key e2 b2
    · intro i t b e bo s
      cases i with
      | succ i => exact (key e bo).elim
      | zero =>
        cases e
        cases s
        exact .inr ⟨rfl, rfl⟩
    · simp only [run, hk, if_pos hl, St.exc] at h
      have dom : ∀ {ρ' Hf' h' H'}, Sto G H ρ' Hf' h' H' → Sto G Z ρ' Hf' h' H' := fun {ρ' Hf' h' H'} S' => S'.ofZ fun a o e => let ⟨o1, h1⟩ := S.dom a o e; S'.dom a o1 h1
      cases hr2 : exB P (run P Wn d) Wn kd.body (startT kd.np kd.ns (.bI c [] :: ts)) hp with
      | nx σ' h' =>
        rw [hr2] at h
        simp only [fin] at h
        intro σ1 H1 ⟨ρ1, Hf1, A1⟩
        split at h
        · rename_i c' fs rest
          obtain ⟨v, h1, h2⟩ := A1.L.slot 0 (.bI c' fs) rfl
          obtain ⟨b, dx', gs, rfl, hb, rF, fb, mb, kb⟩ := id h2
          rcases A1.O 0 (.bI c' fs) b rfl rfl h1 with q | q
          · cases q.2
          · cases q.1
            exact h ρ1 Hf1 H1 c' fs rfl A1.N (dom A1.S) h2
        · exact h.elim
      | rt t h' => rw [hr2] at h; exact h.elim
      | bk σ' h' => rw [hr2] at h; exact h.elim
      | ct σ' h' => rw [hr2] at h; exact h.elim
      | err c fs σ' h' => rw [hr2] at h; exact h.elim
      | stuck => rw [hr2] at h; exact h.elim
/-- no depth at all -/
theorem fn_zero (f : Nat) (k : Nat) (fa : Addr) (fd : FuncData) (ps : List Str) : FnOk Pg w K mg base CX0 k fa fd ps (spOf ini G (run P Wn 0) f) := by
  have no : ∀ vs H Q E, spOf ini G (run P Wn 0) f vs H Q E → False := fun vs H Q E h => by
    by_cases q : ∃ c, ini[f]? = some (some c)
    · obtain ⟨c, q⟩ := q
      rw [spOf_i q] at h
      obtain ⟨Z, ρ, Hf, hp, ts, a, dx, ws, _, _, _, _, _, _, _, h⟩ := h; exact h
    · rw [spOf_n fun c e => q ⟨c, e⟩] at h
      obtain ⟨Z, ρ, Hf, hp, ts, _, _, h⟩ := h; exact h
  exact ⟨fun vs H Q E h => (no _ _ _ _ h).elim, fun A outer s H args us vs Q E _ _ _ _ h => (no _ _ _ _ h).elim⟩
theorem all_fn (St : Stat K mg P G D T0 ini ok) (step : ∀ d, (∀ f, ok f → FnOk Pg w K mg base CX0 (2 * d + 2) (D.ad f) (D.fd f) (D.ps f) (spOf ini G (run P Wn d) f)) → ∀ f, ok f → FnOk Pg w K mg base CX0 (2 * d + 4) (D.ad f) (D.fd f) (D.ps f) (spOf ini G (run P Wn (d + 1)) f)) :
    ∀ d f, ok f → FnOk Pg w K mg base CX0 (2 * d + 2) (D.ad f) (D.fd f) (D.ps f) (spOf ini G (run P Wn d) f) := by
  intro d
  induction d with
  | zero => exact fun f _ => fn_zero f _ _ _ _
  | succ d ih => exact step d ih
/-- the law's promise -/
def spLaw (K : PySem.W.Frag) : Sp := fun vs H Q _ => ∃ (a : Addr) (ns : List Int), vs = [.ref a] ∧ SqL K H a (ns.map V.int) ∧ ns.length ≤ 63 ∧ ∀ H', Q (.bl true) H'
theorem law_sp (hK : K = G.K) {d fi : Nat} (law : ∀ ns : List Int, ns.length ≤ 63 → ∃ h, run P Wn d fi [.kl ns] [] = .ok (.bl true) h) {vs : List V} {H : Hp} {Q : VK} {E : XK} (h : spLaw K vs H Q E) : sp G (run P Wn d) fi vs H Q E := by
  obtain ⟨a, ns, rfl, hs, hl, q⟩ := h
  obtain ⟨h', e⟩ := law ns hl
  refine ⟨H, [], H, [], [.kl ns], ⟨Ex.refl _, rfl, .nil, fun n a c h => by simp at h, fun a o e => ⟨o, e⟩⟩, .cons (.kl (by rw [← hK]; exact hs)) .nil, ?_⟩
  rw [e]
  intro ρ' Hf' H' v N S r
  obtain rfl := B_bl r
  exact q H'
end
end Kb
end
section
set_option Elab.async false
set_option linter.all false
set_option maxRecDepth 100000
set_option maxHeartbeats 4000000
set_option autoImplicit false
/-! Kb10: the rules in the shape in which a program prints them. -/
namespace Kb
open PySem PySem.Spec PyProof.Rows L2
section
variable {X : Cx} {P : Prog} {call : Nat → List T → Hl → R T} {G : Gm} {W : WX} {CX : CXT} {D : Dat} {T0 : Tab} {Wn : Nat}
section
variable {elt tgE iter : Expr} {ifs : List Expr} {scope : Scope} {own : List (Str × Nat)} {pos spos py : Pos} {it : It} {tg : List Nat} {c : Eo} {ie : Kb.E} {i : Nat} {y : Str}
/-- what is asked within the block -/
structure Blk (X : Cx) (P : Prog) (call : Nat → List T → Hl → R T) (G : Gm) (CX : CXT) (D : Dat) (T0 : Tab) (scope : Scope) (tgE elt : Expr) (ifs : List Expr) (tg : List Nat) (c : Eo) (ie : Kb.E) : Prop where
  g : ∀ (s : Shared) (H : Hp) (Cc : Addr) (cl : List (Str × Addr)) (fp : List Addr), KCx (X.blk s H scope (compEnvC scope cl Cc X.env) fp) P call G WF CX D T0 → PG (X.blk s H scope (compEnvC scope cl Cc X.env) fp) tgE (tG G.K tg)
  t : ∀ (s : Shared) (H : Hp) (Cc : Addr) (cl : List (Str × Addr)) (fp : List Addr), KCx (X.blk s H scope (compEnvC scope cl Cc X.env) fp) P call G WF CX D T0 → PTs (X.blk s H scope (compEnvC scope cl Cc X.env) fp) ifs (tCd P call G WF c)
  e : ∀ (s : Shared) (H : Hp) (Cc : Addr) (cl : List (Str × Addr)) (fp : List Addr), KCx (X.blk s H scope (compEnvC scope cl Cc X.env) fp) P call G WF CX D T0 → PE (X.blk s H scope (compEnvC scope cl Cc X.env) fp) elt (tE P call G WF ie)
theorem kp_lc (C : KCx X P call G W CX D T0) (own : List (Str × Nat)) (hi : PI X tgE iter (tI P call G W it)) (B : Blk X P call G CX D T0 scope tgE elt ifs tg c ie) (ok : blkC X.N X.env.scope scope own = true := by rfl) (hs : ∀ x, foldedSetIterable iter X.env x = pure x := by intro _; rfl)
    (hsub : tg.all (fun i => (own.map (·.2)).contains i) = true := by rfl) {ow : List Nat} (how : ow = own.map (·.2) := by rfl) : PE X (.ListComp elt [⟨tgE, iter, ifs, 0⟩] scope pos) (tA P call G W (.lc it tg ow c ie)) := by
  subst how
  exact ka_lc C hi ok (fun s H Cc cl fp => B.g s H Cc cl fp (C.blk s H scope _ fp)) (fun s H Cc cl fp => B.t s H Cc cl fp (C.blk s H scope _ fp)) (fun s H Cc cl fp => B.e s H Cc cl fp (C.blk s H scope _ fp)) hs hsub
theorem kp_lcO (C : KCx X P call G W CX D T0) (own : List (Str × Nat)) (hy : X.N[i]? = some y) (hyl : X.env.scope.names.lookup y = some .local) (hi : PI X tgE iter (tI P call G W it)) (B : Blk X P call G CX D T0 scope tgE elt ifs tg c ie) (hl : (py.line == pos.line) = true := by rfl) (hn : (scope.names.any fun (n, k) => n == y && (k == .local || k == .cell)) = false := by rfl) (hkd : X.env.scope.kind = .function := by rfl)
    (ok : blkC X.N X.env.scope scope own = true := by rfl) (hs : ∀ x, foldedSetIterable iter X.env x = pure x := by intro _; rfl) (hsub : tg.all (fun i => (own.map (·.2)).contains i) = true := by rfl) {ow : List Nat} (how : ow = own.map (·.2) := by rfl) :
    PS X (.Assign [.Name y py] (.ListComp elt [⟨tgE, iter, ifs, 0⟩] scope pos) spos) (tS P call G W Wn (.own i (.lc it tg ow c ie))) := by
  subst how
  exact ks_lcO C hy hyl hl hn hkd hi ok (fun s H Cc cl fp => B.g s H Cc cl fp (C.blk s H scope _ fp)) (fun s H Cc cl fp => B.t s H Cc cl fp (C.blk s H scope _ fp)) (fun s H Cc cl fp => B.e s H Cc cl fp (C.blk s H scope _ fp)) hs hsub
theorem kp_lc0 (C : KCx X P call G W CX D T0) (own : List (Str × Nat)) (hy : X.N[i]? = some y) (hyl : X.env.scope.names.lookup y = some .local) (hi : PI X tgE iter (tI P call G W it)) (B : Blk X P call G CX D T0 scope tgE elt ifs tg c ie) (hl : (py.line == pos.line) = true := by rfl) (hn : (scope.names.any fun (n, k) => n == y && (k == .local || k == .cell)) = false := by rfl) (hkd : X.env.scope.kind = .function := by rfl)
    (ok : blkC X.N X.env.scope scope own = true := by rfl) (hs : ∀ x, foldedSetIterable iter X.env x = pure x := by intro _; rfl) (hsub : tg.all (fun i => (own.map (·.2)).contains i) = true := by rfl) {ow : List Nat} (how : ow = own.map (·.2) := by rfl) :
    PS X (.Assign [.Name y py] (.ListComp elt [⟨tgE, iter, ifs, 0⟩] scope pos) spos) (tS P call G W Wn (.asg i (.al false (.lc it tg ow c ie)))) := by
  subst how
  exact ks_lc0 C hy hyl hl hn hkd hi ok (fun s H Cc cl fp => B.g s H Cc cl fp (C.blk s H scope _ fp)) (fun s H Cc cl fp => B.t s H Cc cl fp (C.blk s H scope _ fp)) (fun s H Cc cl fp => B.e s H Cc cl fp (C.blk s H scope _ fp)) hs hsub
theorem kp_lc1 (C : KCx X P call G W CX D T0) (own : List (Str × Nat)) (hy : X.N[i]? = some y) (hyl : X.env.scope.names.lookup y = some .local) (hi : PI X tgE iter (tI P call G W it)) (B : Blk X P call G CX D T0 scope tgE elt ifs tg c ie) (hl : (py.line == pos.line) = true := by rfl) (hn : (scope.names.any fun (n, k) => n == y && (k == .local || k == .cell)) = false := by rfl) (hkd : X.env.scope.kind = .function := by rfl)
    (ok : blkC X.N X.env.scope scope own = true := by rfl) (hs : ∀ x, foldedSetIterable iter X.env x = pure x := by intro _; rfl) (hsub : tg.all (fun i => (own.map (·.2)).contains i) = true := by rfl) {ow : List Nat} (how : ow = own.map (·.2) := by rfl) :
    PS X (.Assign [.Name y py] (.ListComp elt [⟨tgE, iter, ifs, 0⟩] scope pos) spos) (tS P call G W Wn (.asg i (.al true (.lc it tg ow c ie)))) := by
  subst how
  exact ks_lc1 C hy hyl hl hn hkd hi ok (fun s H Cc cl fp => B.g s H Cc cl fp (C.blk s H scope _ fp)) (fun s H Cc cl fp => B.t s H Cc cl fp (C.blk s H scope _ fp)) (fun s H Cc cl fp => B.e s H Cc cl fp (C.blk s H scope _ fp)) hs hsub
end
theorem kp_try (C : KCx X P call G W CX D T0) {b : List Stmt} {h0 : ExceptHandler} {hs : List ExceptHandler} {ib : B} {pos : Pos} (hb : KCx X.nox P call G WF CX D T0 → PSs X.nox b (tB P call G WF Wn ib)) : PS X (.Try b (h0 :: hs) [] [] pos) (tS P call G W Wn (.tryN ib)) := ks_try (hb C.nox)
/-- a raise that never runs -/
theorem kp_raise {s : Stmt} (h : P.cls[9999]? = none := by rfl) : PS X s (tS P call G W Wn (.rais 9999 .nil)) := ks_raise fun lσ hp => by simp only [exS, evEs, R.toS_ok, h]
theorem ka_cat (C : KCx X P call G W CX D T0) {a b : Expr} {ea eb : Kb.E} {pos : Pos} (ha : PE X a (tE P call G W ea)) (hb : PE X b (tE P call G W eb)) : PE X (.BinOp a .Add b pos) (tA P call G W (.cat ea eb)) := by
  refine PEimp (pe_op op_cat ha hb) fun σ H Q h => ?_
  obtain ⟨Z, ρ, Hf, lσ, hp, S, L, h⟩ := h
  simp only [evA] at h
  refine go_E S L h fun x h1 ρ1 Hf1 v H1 N1 S1 L1 r1 h => ?_
  refine go_E S1 L1 h fun y h2 ρ2 Hf2 u H2 N2 S2 L2 r2 h => ?_
  split at h
  · rename_i a b ea eb
    split at h
    · rename_i hl
      obtain ⟨p, vs, rfl, h3, q1⟩ := lst'_at S2 ea (r1.nx N2)
      obtain ⟨q, ws, rfl, h4, q2⟩ := lst'_at S2 eb r2
      exact ⟨p, q, vs, ws, rfl, rfl, h3, h4, by rw [← q1.length, ← q2.length, ← maxLen_eq]; exact hl, P_al S2 (q1.append q2) h⟩
    · exact h.elim
  · exact h.elim
theorem ka_rep (C : KCx X P call G W CX D T0) {a b : Expr} {ea eb : Kb.E} {pos : Pos} (ha : PE X a (tE P call G W ea)) (hb : PE X b (tE P call G W eb)) : PE X (.BinOp a .Mult b pos) (tA P call G W (.rep ea eb)) := by
  refine PEimp (pe_op op_rep ha hb) fun σ H Q h => ?_
  obtain ⟨Z, ρ, Hf, lσ, hp, S, L, h⟩ := h
  simp only [evA] at h
  refine go_E S L h fun x h1 ρ1 Hf1 v H1 N1 S1 L1 r1 h => ?_
  refine go_E S1 L1 h fun y h2 ρ2 Hf2 u H2 N2 S2 L2 r2 h => ?_
  split at h
  · rename_i a j ea
    split at h
    · rename_i c
      simp only [repOk, Bool.and_eq_true, decide_eq_true_eq] at c
      obtain ⟨p, vs, rfl, h3, q1⟩ := lst'_at S2 ea (r1.nx N2)
      obtain rfl := B_int r2
      exact ⟨p, j, vs, rfl, rfl, h3, by omega, by omega, by rw [← q1.length, ← maxLen_eq]; exact c.1, P_al S2 (q1.rep _) h⟩
    · exact h.elim
  · exact h.elim
end
end Kb
end
section
set_option Elab.async false
set_option linter.all false
set_option maxRecDepth 100000
set_option maxHeartbeats 4000000
set_option autoImplicit false
/-! Kb11: more expressions: methods without arguments, keywords to classes and methods, classes without __init__, the module's constants, chains, dicts. -/
namespace Kb
open PySem PySem.Spec PyProof.Rows L2
section
variable {X : Cx} {P : Prog} {call : Nat → List T → Hl → R T} {G : Gm} {W : WX} {CX : CXT} {D : Dat} {T0 : Tab}
variable {Z : Hp} {ρ : List Addr} {Hf H : Hp} {lσ : Sl} {σ : L2.St} {hp : Hl} {α β : Type} {RR : List Addr → Hp → Hp → α → β → Prop} {Q : β → Hp → Prop}
/-- who is asked for a method: his class, the def -/
theorem meth_who (C : KCx X P call G W CX D T0) {m : Nat} {x : Str} {lσ0 : Sl} {io : E} {f : T → Kb.Cls → Nat → Hl → R T} {σ : L2.St} {Q : VK} (hx : G.nm[m]? = some x) (S : Sto G Z ρ Hf hp H) (L : Slots G ρ Hf H lσ0 σ)
    (h : Post G Z W σ (RepB G) ρ Hf H Q ((evE P call io lσ0 hp).bind fun t h => match insOf t h with
      | some (c, fs) => match P.cls[c]? with
        | some k => match (if (lkF m fs).isNone then lkN m k.meths else none) with
          | some g => f t k g h
          | none => .stuck
        | none => .stuck
      | none => .stuck))
    {R1 : V → Hp → Prop}
    (k : ∀ (t : T) (c g : Nat) (kc : Kb.Cls) (h' : Hl) (ρ' : List Addr) (Hf' H' : Hp) (a dx : Addr) (gs : List (Str × V)), H' a = some (.ins (G.ca c) dx gs) → gs.lookup x = none → G.cok c → P.cls[c]? = some kc → lkN m kc.meths = some g → Nxt none ρ Hf H ρ' Hf' H' → Sto G Z ρ' Hf' h' H' → Slots G ρ' Hf' H' lσ0 σ → RepB G ρ' Hf' H' t (.ref a) →
      Post G Z W σ (RepB G) ρ' Hf' H' Q (f t kc g h') → R1 (.ref a) H') : tE P call G W io σ H R1 := by
  refine go_E S L h fun t h1 ρ1 Hf1 v H1 N1 S1 L1 r1 h => ?_
  split at h
  · rename_i c fs e1
    split at h
    · rename_i kc ek
      split at h
      · rename_i g ef
        obtain ⟨a, dx, gs, rfl, h2, h3, h4⟩ := ins_at S1 e1 r1
        have en : lkF m fs = none ∧ lkN m kc.meths = some g := by
          cases q : lkF m fs with
          | none => rw [q] at ef; simp only [Option.isNone_none, if_true] at ef; exact ⟨rfl, ef⟩
          | some _ => rw [q] at ef; cases ef
        exact k t c g kc h1 ρ1 Hf1 H1 a dx gs h2 ((h3.look C.nm hx).2 en.1) h4 ek en.2 N1 S1 L1 r1 h
      · exact h.elim
    · exact h.elim
  · exact h.elim
theorem k_meth0 (C : KCx X P call G W CX D T0) {pl : Sem Bool} {o : Expr} {io : E} {m : Nat} {x : Str} {apos pos : Pos} (hx : G.nm[m]? = some x) (ho : PE X o (tE P call G W io))
    (ht : eval (.Call (.Attribute o x apos) [] [] pos) X.env = (do
      let ov ← eval o X.env
      standAt apos.atName
      let (f, first) ← holding [ov] (getMethod ov x pl)
      callWith pos f first (backTo pos (starEach [] X.env)) (backToKw pos (keywordEach [] X.env))) := by rfl) :
    PE X (.Call (.Attribute o x apos) [] [] pos) (tE P call G W (.meth io m .nil)) := by
  refine ⟨fun pins s σ H Q I h => ?_⟩
  obtain ⟨Z, ρ, Hf, lσ, hp, S, L, h⟩ := h
  simp only [evE, evEs, R.bind_ok] at h
  refine PySem.W.methodCall_KW (pl := pl) (thn (ho.run pins s σ H (fun v H1 => ∃ (c f : Nat) (kc : Kb.Cls) (a dx : Addr) (gs : List (Str × V)), v = .ref a ∧ H1 a = some (.ins (G.ca c) dx gs) ∧ gs.lookup x = none ∧ G.cok c ∧ P.cls[c]? = some kc ∧ lkN m kc.meths = some f ∧
    sp G call f [v] H1 Q (fun c d H => W c d σ H)) I ?_) fun u s1 ⟨v, H1, I1, rx, c, f, kc, a, dx, gs, ex, ea, l, hc, ek, ef, q⟩ => ?_) ht
  · refine meth_who C (f := fun t k g h => if plainT t && ([] : List T).all plainT then call g (t :: []) h else .stuck) hx S L h fun t c g kc h' ρ' Hf' H' a dx gs e1 e2 e3 e4 e5 N S' L' r h => ?_
    split at h
    · rename_i hp2
      simp only [List.all_nil, Bool.and_true] at hp2
      exact ⟨c, g, kc, a, dx, gs, rfl, e1, e2, e3, e4, e5, Z, ρ', Hf', h', [t], S', .cons (r.plain hp2) .nil, h⟩
    · exact h.elim
  · subst ex
    obtain rfl : u = Value.ref a := rx
    obtain ⟨F, M, B⟩ := C.mt c kc m f x ek ef hx hc
    refine getmeth_ok I1 ea (C.cl c hc) M l ?_
    exact PySem.W.callWith_K0 (first := [.ref a]) I1.kIn M.kp (run_fn (E := fun c d H => W c d σ H) (us := [.ref a]) (vs := [.ref a]) F (C.room.mono (Nat.le_succ _)) B .nil (C.pas σ) I1 (.cons rfl .nil) (by exact q))
/-! ### chains -/
theorem k_cmp2 (C : KCx X P call G W CX D T0) {o p : COp} {op op' : CmpOp} {a b c : Expr} {ea eb ec : E} {pos : Pos} (ha : PE X a (tE P call G W ea)) (hb : PE X b (tE P call G W eb)) (hc : PE X c (tE P call G W ec)) (hop : copN o = op := by rfl) (hop2 : copN p = op' := by rfl)
    (hm : lastMarks [op, op'] [b, c] = false := by with_unfolding_all rfl) : PE X (.Compare a [op, op'] [b, c] pos) (tE P call G W (.cmp2 o p ea eb ec)) := by
  subst hop hop2
  refine PEimp (pe_chain (op_cmpT (G := G) C.hK C.un o) (op_cmpT (G := G) C.hK C.un p) ha hb hc hm) fun σ H Q h => ?_
  obtain ⟨Z, ρ, Hf, lσ, hp, S, L, h⟩ := h
  simp only [evE] at h
  refine go_E S L h fun x h1 ρ1 Hf1 v H1 N1 S1 L1 r1 h => ?_
  refine go_E S1 L1 h fun y h2 ρ2 Hf2 u H2 N2 S2 L2 r2 h => ?_
  refine ⟨Z, W, σ, ρ2, Hf2, h2, x, y, S2, r1.nx N2, r2, (Post.bind h (RepB G)).imp fun z H3 ⟨t, h3, ρ3, Hf3, e3, N3, S3, r3, h⟩ => ?_⟩
  rcases oR_cmpT (o := o) (x := x) (y := y) (h := h2) with ⟨k, q⟩ | q
  · rw [q] at e3; cases e3
    obtain rfl := B_bl r3
    refine ⟨k, rfl, ?_⟩
    cases k with
    | true =>
      refine iteT ?_
      refine go_E S3 (L2.nxt N3) h fun w h4 ρ4 Hf4 vw H4 N4 S4 L4 r4 h => ?_
      exact ⟨Z, W, σ, ρ4, Hf4, h4, y, w, S4, (r2.nx N3).nx N4, r4, h⟩
    | false => exact iteF (P_bl S3 h)
  · rw [q] at e3; cases e3
theorem cmp2_bl {o p : COp} {ea eb ec : E} {lσ : Sl} {h h' : Hl} {t : T} (e : evE P call (.cmp2 o p ea eb ec) lσ h = .ok t h') : ∃ b, t = .bl b := by
  simp only [evE] at e
  cases e1 : evE P call ea lσ h with
  | ok x h1 =>
    rw [e1] at e; simp only [R.bind_ok] at e
    cases e2 : evE P call eb lσ h1 with
    | ok y h2 =>
      rw [e2] at e; simp only [R.bind_ok] at e
      rcases oR_cmpT (o := o) (x := x) (y := y) (h := h2) with ⟨k, q⟩ | q
      · rw [q] at e; simp only [R.bind_ok] at e
        cases k with
        | true =>
          simp only at e
          cases e3 : evE P call ec lσ h2 with
          | ok z h3 =>
            rw [e3] at e; simp only [R.bind_ok] at e
            rcases oR_cmpT (o := p) (x := y) (y := z) (h := h3) with ⟨k, q⟩ | q
            · rw [q] at e; cases e; exact ⟨k, rfl⟩
            · rw [q] at e; cases e
          | err c fs h3 => rw [e3] at e; cases e
          | stuck => rw [e3] at e; cases e
        | false => cases e; exact ⟨false, rfl⟩
      · rw [q] at e; cases e
    | err c fs h2 => rw [e2] at e; cases e
    | stuck => rw [e2] at e; cases e
  | err c fs h1 => rw [e1] at e; cases e
  | stuck => rw [e1] at e; cases e
theorem kt_cmp2 (C : KCx X P call G W CX D T0) {o p : COp} {op op' : CmpOp} {a b c : Expr} {ea eb ec : E} {pos : Pos} (ha : PE X a (tE P call G W ea)) (hb : PE X b (tE P call G W eb)) (hc : PE X c (tE P call G W ec)) (hop : copN o = op := by rfl) (hop2 : copN p = op' := by rfl)
    (hm : lastMarks [op, op'] [b, c] = false := by with_unfolding_all rfl) : PT X (.Compare a [op, op'] [b, c] pos) (tTe P call G W (.cmp2 o p ea eb ec)) := by
  subst hop hop2
  refine PTimp (pt_chain (op_cmpT (G := G) C.hK C.un o) (op_cmpT (G := G) C.hK C.un p) ha hb hc hm) fun σ H Q h => ?_
  obtain ⟨Z, ρ, Hf, lσ, hp, S, L, h⟩ := h
  have h : Post G Z W σ (RepB G) ρ Hf H (fun x H' => ∃ k, x = .bl k ∧ Q k H') (evE P call (.cmp2 o p ea eb ec) lσ hp) := post_bl (fun t h e => cmp2_bl e) h
  simp only [evE] at h
  refine go_E S L h fun x h1 ρ1 Hf1 v H1 N1 S1 L1 r1 h => ?_
  refine go_E S1 L1 h fun y h2 ρ2 Hf2 u H2 N2 S2 L2 r2 h => ?_
  refine ⟨Z, W, σ, ρ2, Hf2, h2, x, y, S2, r1.nx N2, r2, (Post.bind h (RepB G)).imp fun z H3 ⟨t, h3, ρ3, Hf3, e3, N3, S3, r3, h⟩ => ?_⟩
  rcases oR_cmpT (o := o) (x := x) (y := y) (h := h2) with ⟨k, q⟩ | q
  · rw [q] at e3; cases e3
    obtain rfl := B_bl r3
    refine ⟨k, rfl, ?_⟩
    cases k with
    | true =>
      refine iteT ?_
      refine go_E S3 (L2.nxt N3) h fun w h4 ρ4 Hf4 vw H4 N4 S4 L4 r4 h => ?_
      exact ⟨Z, W, σ, ρ4, Hf4, h4, y, w, S4, (r2.nx N3).nx N4, r4, h⟩
    | false => exact iteF (P_bl S3 h)
  · rw [q] at e3; cases e3
/-! ### keywords to classes and methods -/
def shiftA (arr : List (Nat ⊕ T)) : List (Nat ⊕ T) := .inl 0 :: arr.map fun x => match x with
  | .inl i => .inl (i + 1)
  | .inr t => .inr t
theorem arrV_shift (v : V) (vs : List V) (arr : List (Nat ⊕ T)) : arrV (v :: vs) (shiftA arr) = v :: arrV vs arr := by
  have key : ∀ arr : List (Nat ⊕ T), arrV (v :: vs) (arr.map fun x => match x with
      | .inl i => .inl (i + 1)
      | .inr t => .inr t) = arrV vs arr := fun arr => by
    induction arr with
    | nil => rfl
    | cons x r ih => cases x <;> simp only [List.map_cons, arrV, ih, List.getElem?_cons_succ]
  unfold shiftA
  simp only [arrV, key, List.getElem?_cons_zero, Option.getD_some]
theorem RepBs.get {ts : List T} {vs : List V} {i : Nat} {t : T} (r : RepBs G ρ Hf H ts vs) (e : ts[i]? = some t) : ∃ v, vs[i]? = some v ∧ RepB G ρ Hf H t v := by
  induction r generalizing i with
  | nil => simp at e
  | cons h r ih =>
    cases i with
    | zero => simp only [List.getElem?_cons_zero, Option.some.injEq] at e; subst e; exact ⟨_, rfl, h⟩
    | succ i => exact ih (by simpa using e)
theorem arr_atB {ts us : List T} {vs : List V} (r : RepBs G ρ Hf H ts vs) : ∀ {arr : List (Nat ⊕ T)}, (∀ t, Sum.inr t ∈ arr → isNon t = true) → arrT ts arr = some us → RepBs G ρ Hf H us (arrV vs arr) := by
  intro arr
  induction arr generalizing us with
  | nil => intro _ e; simp only [arrT] at e; cases e; exact .nil
  | cons x xs ih =>
    intro hf e
    cases x with
    | inl i =>
      simp only [arrT] at e
      split at e
      · rename_i t ts' e1 e2
        cases e
        obtain ⟨v, h1, h2⟩ := r.get e1
        simp only [arrV, h1, Option.getD_some]
        exact .cons h2 (ih (fun t h => hf t (List.mem_cons_of_mem _ h)) e2)
      · cases e
    | inr t =>
      simp only [arrT, Option.map_eq_some_iff] at e
      obtain ⟨ts', e1, rfl⟩ := e
      have h1 := hf t List.mem_cons_self
      simp only [arrV]
      refine .cons ?_ (ih (fun t h => hf t (List.mem_cons_of_mem _ h)) e1)
      cases t <;> first | (simp [isNon] at h1; done) | exact (Rep.non).toB
theorem k_newK0 (C : KCx X P call G W CX D T0) {c f : Nat} {kc : Kb.Cls} {x : Str} {kws : List Keyword} {ks : List Str} {iks : Es} {arr : List (Nat ⊕ T)} {g : List Value → List Value → List Value} {p pos : Pos} (hk : P.cls[c]? = some kc) (hi : kc.init = some f) (hx : T0.cn[c]? = some (some x)) (hg : Gl X x) (hkw : PK X kws (tEs P call G W iks))
    (hb : KBn X.K (D.fd f) (D.ps f) 1 ks g (fun vs zs => arrV (vs ++ zs) (shiftA arr))) (hl : ks.length = Es.len iks := by rfl) (hf : ∀ t, Sum.inr t ∈ arr → isNon t = true := by intro t h; simp at h <;> (rw [h]; rfl))
    (hall : (backToKw pos (keywordEach kws X.env)).all (·.1.isSome) = true := by rfl) (hks : (backToKw pos (keywordEach kws X.env)).filterMap (·.1) = ks := by rfl)
    (hdb : (x == ("__debug__" : Str)) = false := by decide +kernel)
    (hpl : ((backTo pos (starEach [] X.env)).any (·.1) || (backToKw pos (keywordEach kws X.env)).any (·.1.isNone)) = false := by rfl) : PE X (.Call (.Name x p) [] kws pos) (tE P call G W (.newK c .nil iks arr)) := by
  obtain ⟨F, M, hm, ok, _⟩ := C.ini c kc f x hk hi hx
  refine ⟨fun pins s σ H Q I h => (pe_makeK0 (E := fun c d H => W c d σ H) M F C.room hg hm hb (C.pas σ) hkw hall hks hdb hpl).run pins s σ H Q I ?_⟩
  obtain ⟨Z, ρ, Hf, lσ, hp, S, L, h⟩ := h
  simp only [evE, evEs, R.bind_ok] at h
  refine go_EsL S L h fun ws h2 ρ2 Hf2 zs H2 N2 S2 L2 r2 l2 h => ?_
  refine ⟨rfl, l2.trans hl.symm, fun a dx na nd hne => ?_⟩
  split at h
  · rename_i us' e1
    show _root_.id (if kc.mode = 0 then sp G call f else spI G call c f) (arrV (.ref a :: ([] ++ zs)) (shiftA arr)) _ _ _
    rw [arrV_shift]
    exact new_core C hk hi ok S2 (arr_atB r2 hf e1) h a dx na nd hne
  · exact h.elim
theorem k_newK (C : KCx X P call G W CX D T0) {c f : Nat} {kc : Kb.Cls} {x : Str} {e : Expr} {es : List Expr} {kws : List Keyword} {ks : List Str} {ies iks : Es} {arr : List (Nat ⊕ T)} {g : List Value → List Value → List Value} {p pos : Pos} (hk : P.cls[c]? = some kc) (hi : kc.init = some f) (hx : T0.cn[c]? = some (some x)) (hg : Gl X x) (ha : PA X (e :: es) (tEs P call G W ies)) (hkw : PK X kws (tEs P call G W iks))
    (hb : KBn X.K (D.fd f) (D.ps f) (Es.len ies + 1) ks g (fun vs zs => arrV (vs ++ zs) (shiftA arr))) (hl : ks.length = Es.len iks := by rfl) (hf : ∀ t, Sum.inr t ∈ arr → isNon t = true := by intro t h; simp at h <;> (rw [h]; rfl))
    (hall : (backToKw pos (keywordEach kws X.env)).all (·.1.isSome) = true := by rfl) (hks : (backToKw pos (keywordEach kws X.env)).filterMap (·.1) = ks := by rfl)
    (hdb : (x == ("__debug__" : Str)) = false := by decide +kernel) (he : starEach (e :: es) X.env = (false, eval e X.env) :: starEach es X.env := by rfl)
    (hpl : ((backTo pos (starEach (e :: es) X.env)).any (·.1) || (backToKw pos (keywordEach kws X.env)).any (·.1.isNone)) = false := by rfl) : PE X (.Call (.Name x p) (e :: es) kws pos) (tE P call G W (.newK c ies iks arr)) := by
  obtain ⟨F, M, hm, ok, _⟩ := C.ini c kc f x hk hi hx
  refine ⟨fun pins s σ H Q I h => (pe_makeK (n := Es.len ies) (E := fun c d H => W c d σ H) M F C.room hg hm hb (C.pas σ) ha hkw hall hks hdb he hpl).run pins s σ H Q I ?_⟩
  obtain ⟨Z, ρ, Hf, lσ, hp, S, L, h⟩ := h
  simp only [evE] at h
  refine go_EsL S L h fun vs h1 ρ1 Hf1 us H1 N1 S1 L1 r1 l1 h => ?_
  refine go_EsL S1 L1 h fun ws h2 ρ2 Hf2 zs H2 N2 S2 L2 r2 l2 h => ?_
  refine ⟨l1, l2.trans hl.symm, fun a dx na nd hne => ?_⟩
  split at h
  · rename_i us' e1
    show _root_.id (if kc.mode = 0 then sp G call f else spI G call c f) (arrV (.ref a :: (us ++ zs)) (shiftA arr)) _ _ _
    rw [arrV_shift]
    exact new_core C hk hi ok S2 (arr_atB (RepBs.append r2 (r1.nx N2)) hf e1) h a dx na nd hne
  · exact h.elim
theorem k_methK0 (C : KCx X P call G W CX D T0) {pl : Sem Bool} {o : Expr} {kws : List Keyword} {ks : List Str} {iks : Es} {arr : List (Nat ⊕ T)} {io : E} {m : Nat} {x : Str} {apos pos : Pos} (hx : G.nm[m]? = some x) (ho : PE X o (tE P call G W io)) (hkw : PK X kws (tEs P call G W iks))
    (hb : ∀ (c f : Nat) (kc : Kb.Cls), P.cls[c]? = some kc → lkN m kc.meths = some f → ∃ g, KBn X.K (D.fd f) (D.ps f) 1 ks g (fun vs zs => arrV (vs ++ zs) (shiftA arr))) (hl : ks.length = Es.len iks := by rfl) (hf : ∀ t, Sum.inr t ∈ arr → isNon t = true := by intro t h; simp at h <;> (rw [h]; rfl))
    (hall : (backToKw pos (keywordEach kws X.env)).all (·.1.isSome) = true := by rfl) (hks : (backToKw pos (keywordEach kws X.env)).filterMap (·.1) = ks := by rfl)
    (hpl : ((backTo pos (starEach [] X.env)).any (·.1) || (backToKw pos (keywordEach kws X.env)).any (·.1.isNone)) = false := by rfl)
    (ht : eval (.Call (.Attribute o x apos) [] kws pos) X.env = (do
      let ov ← eval o X.env
      standAt apos.atName
      let (f, first) ← holding [ov] (getMethod ov x pl)
      callWith pos f first (backTo pos (starEach [] X.env)) (backToKw pos (keywordEach kws X.env))) := by rfl) :
    PE X (.Call (.Attribute o x apos) [] kws pos) (tE P call G W (.methK io m .nil iks arr)) := by
  refine ⟨fun pins s σ H Q I h => ?_⟩
  obtain ⟨Z, ρ, Hf, lσ, hp, S, L, h⟩ := h
  simp only [evE, evEs, R.bind_ok] at h
  refine PySem.W.methodCall_KW (pl := pl) (thn (ho.run pins s σ H (fun v H1 => ∃ (c f : Nat) (kc : Kb.Cls) (a dx : Addr) (gs : List (Str × V)), v = .ref a ∧ H1 a = some (.ins (G.ca c) dx gs) ∧ gs.lookup x = none ∧ G.cok c ∧ P.cls[c]? = some kc ∧ lkN m kc.meths = some f ∧
    tEs P call G W iks σ H1 fun zs H2 => zs.length = ks.length ∧ sp G call f (v :: arrV zs arr) H2 Q (fun c d H => W c d σ H)) I ?_) fun u s1 ⟨v, H1, I1, rx, c, f, kc, a, dx, gs, ex, ea, l, hc, ek, ef, q⟩ => ?_) ht
  · refine meth_who C (f := fun t k g h => (evEs P call iks lσ h).bind fun ws h => if plainT t && ([] ++ ws).all plainT then match arrT ([] ++ ws) arr with
      | some us => call g (t :: us) h
      | none => .stuck
      else .stuck) hx S L h fun t c g kc h' ρ' Hf' H' a dx gs e1 e2 e3 e4 e5 N S' L' r h => ?_
    refine ⟨c, g, kc, a, dx, gs, rfl, e1, e2, e3, e4, e5, ?_⟩
    refine go_EsL S' L' h fun ws h2 ρ2 Hf2 zs H2 N2 S2 L2 r2 l2 h => ?_
    refine ⟨l2.trans hl.symm, ?_⟩
    split at h
    · rename_i hp2
      simp only [List.nil_append, Bool.and_eq_true] at hp2
      split at h
      · rename_i us e6
        exact ⟨Z, ρ2, Hf2, h2, t :: us, S2, .cons ((r.nx N2).plain hp2.1) (arr_at (r2.plain hp2.2) hf e6), h⟩
      · exact h.elim
    · exact h.elim
  · subst ex
    obtain rfl : u = Value.ref a := rx
    obtain ⟨F, M, _⟩ := C.mt c kc m f x ek ef hx hc
    obtain ⟨g, hb⟩ := hb c f kc ek ef
    refine getmeth_ok I1 ea (C.cl c hc) M l ?_
    refine PySem.W.callWith_KW0 (first := [.ref a]) (h₀ := X.base) I.ok.mod.kin M.kp hall ?_ hpl
    refine thn (hkw.run pos pins s1 σ H1 _ I1 q) fun ws s2 ⟨zs, H2, I2, rz, l2, q2⟩ => ⟨I2.kIn, ?_⟩
    rw [hks]
    refine run_fnN (E := fun c d H => W c d σ H) (us := [.ref a]) (vs := [.ref a]) F (C.room.mono (Nat.le_succ _)) hb (C.pas σ) I2 (.cons rfl .nil) rz rfl l2 ?_
    show sp G call f (arrV (.ref a :: ([] ++ zs)) (shiftA arr)) H2 Q _
    rw [arrV_shift]; exact q2
/-! ### the module's constants -/
theorem k_gint (C : KCx X P call G W CX D T0) {k : Nat} {i : Int} {x : Str} {pos : Pos} (hg : Gl X x) (hm : ∃ t, X.mg x = some (.int i t)) (hk : P.globs[k]? = some (.int i)) (hd : (x == ("__debug__" : Str)) = false := by decide +kernel) : PE X (.Name x pos) (tE P call G W (.glo k)) := by
  obtain ⟨t, hm⟩ := hm
  refine PEimp (pe_glob (v := .int i) hg hm ⟨_, rfl⟩ hd) fun σ H Q h => ?_
  obtain ⟨Z, ρ, Hf, lσ, hp, S, L, h⟩ := h
  simp only [evE, hk] at h
  exact P_int S h
theorem k_gstr (C : KCx X P call G W CX D T0) {k : Nat} {z : List Nat} {x : Str} {pos : Pos} (hg : Gl X x) (hm : ∃ t s, X.mg x = some (.str s t) ∧ s = strV z) (hk : P.globs[k]? = some (.str z)) (hd : (x == ("__debug__" : Str)) = false := by decide +kernel) : PE X (.Name x pos) (tE P call G W (.glo k)) := by
  obtain ⟨t, s, hm, rfl⟩ := hm
  refine PEimp (pe_glob (v := .str (strV z)) hg hm ⟨_, rfl⟩ hd) fun σ H Q h => ?_
  obtain ⟨Z, ρ, Hf, lσ, hp, S, L, h⟩ := h
  simp only [evE, hk] at h
  exact P_str S h
/-- a tuple of the module: its address; what it holds, for ever -/
theorem k_gtup (C : KCx X P call G W CX D T0) {k : Nat} {xs : List T} {x : Str} {pos : Pos} (hg : Gl X x) (hm : ∃ a, X.mg x = some (.ref a) ∧ ∀ ρ Hf, Rep G ρ Hf (.tup xs) (.ref a)) (hk : P.globs[k]? = some (.tup xs)) (hd : (x == ("__debug__" : Str)) = false := by decide +kernel) : PE X (.Name x pos) (tE P call G W (.glo k)) := by
  obtain ⟨a, hm, hr⟩ := hm
  refine PEimp (pe_glob (v := .ref a) hg hm rfl hd) fun σ H Q h => ?_
  obtain ⟨Z, ρ, Hf, lσ, hp, S, L, h⟩ := h
  simp only [evE, hk] at h
  exact h.ret S (hr ρ Hf).toB
end
end Kb
end
section
set_option Elab.async false
set_option linter.all false
set_option maxRecDepth 100000
set_option maxHeartbeats 4000000
set_option autoImplicit false
/-! Kb12: classes without __init__; dicts; ranges with a step; more built-ins. -/
namespace Kb
open PySem PySem.Spec PyProof.Rows L2
section
variable {X : Cx} {P : Prog} {call : Nat → List T → Hl → R T} {G : Gm} {W : WX} {CX : CXT} {D : Dat} {T0 : Tab} {Wn : Nat}
variable {Z : Hp} {ρ : List Addr} {Hf H : Hp} {lσ : Sl} {σ : L2.St} {hp : Hl}
/-- C() where C has no __init__ of its own -/
theorem run_bare {pins : List (Addr × Obj)} {s : Shared} {Q : VK} {c : Addr} (mk : PySem.W.makesIn X.K c = true) (hi : PySem.W.findIn X.K (.ref c) "__init__" = some (some (.builtin "object.__init__"))) (I : Inv X pins σ H s)
    (h : ∀ x dx, H x = none → H dx = none → dx ≠ x → Q (.ref x) (upd (upd H dx (.own x)) x (.ins c dx []))) : wpAny (model X.prog X.w) X.A (PySem.call (.ref c) []) (EP X pins σ Q) X.xe s := by
  have q := h (s.heap.objs.size + 1) s.heap.objs.size (I.hok.fresh (Nat.le_succ _)) (I.hok.fresh (Nat.le_refl _)) (Nat.ne_of_lt (Nat.lt_succ_self _))
  have J := Inv.made (C := c) I
  have inst : ((s.heap.push PySem.W.emptyDict).push (PySem.W.instObj c s.heap.objs.size)).get? (s.heap.objs.size + 1) = some (PySem.W.instObj c s.heap.objs.size) := by
    rw [show s.heap.objs.size + 1 = (s.heap.push PySem.W.emptyDict).objs.size by rw [Heap.size_push]]; exact Heap.get?_push_size _ rfl
  have ty : PySem.W.Looks (model X.prog X.w) ((s.heap.push PySem.W.emptyDict).push (PySem.W.instObj c s.heap.objs.size)) (isInstance (.ref (s.heap.objs.size + 1)) (.type "object")) true :=
    ((PySem.W.Looks.ld inst).andThen .now).andThen ((PySem.W.makes_of (M := model X.prog X.w) I.kIn mk).top.keeps fun b o e => by exact Heap.get?_push_of_some _ (Heap.get?_push_of_some _ e))
  refine wpAny_call (make_map0 I.kIn mk hi (fun self => PySem.W.Looks.of_pure (PySem.W.oi_bind self)) ?_)
  refine codeAny_call_builtin PySem.W.oi_plain PySem.W.entry_oi (PySem.W.check_slot PySem.W.oi_kind PySem.W.oi_split ty (PySem.W.oi_args _) ?_)
  rw [PySem.W.oi_run]
  exact wpAny_pure (And.intro rfl ⟨V.ref (s.heap.objs.size + 1), _, J, rfl, q⟩)
theorem k_new0 (C : KCx X P call G W CX D T0) {c : Nat} {kc : Kb.Cls} {x : Str} {p pos : Pos} (hk : P.cls[c]? = some kc) (hi : kc.init = none) (ok : G.cok c) (mk : PySem.W.makesIn X.K (G.ca c) = true) (hin : PySem.W.findIn X.K (.ref (G.ca c)) "__init__" = some (some (.builtin "object.__init__")))
    (kp : PySem.W.keepIn X.K (.ref (G.ca c)) = true) (hg : Gl X x) (hm : X.mg x = some (.ref (G.ca c))) (hdb : (x == ("__debug__" : Str)) = false := by decide +kernel) : PE X (.Call (.Name x p) [] [] pos) (tE P call G W (.new c .nil)) := by
  refine ⟨fun pins s σ H Q I h => ?_⟩
  refine wpAny_Call_Name_kw (ld_glob I hg hm ?_ hdb)
  refine PySem.W.callWith_K0 I.kIn kp (run_bare mk hin I fun a dx na nd hne => ?_)
  obtain ⟨Z, ρ, Hf, lσ, hp, S, L, h⟩ := h
  simp only [evE, evEs, R.bind_ok, newT, hk, hi, List.isEmpty_nil, if_true] at h
  have nD : Nxt none ρ Hf H ρ Hf (upd H dx (.own a)) := .newB nd
  have SD : Sto G Z ρ Hf hp (upd H dx (.own a)) := S.newB nd
  have na' : upd H dx (.own a) a = none := by rw [upd_ne hne.symm]; exact na
  split at h
  · have SA : Sto G Z ρ Hf hp (upd (upd H dx (.own a)) a (.ins (G.ca c) dx [])) := SD.newB na'
    have aρ : a ∉ ρ := fun z => by
      obtain ⟨_, _, _, _, q, _⟩ := S.mem z
      obtain ⟨o, ho⟩ := q.there
      rw [na] at ho; cases ho
    have SN : Sto G Z (ρ ++ [a]) Hf (hp ++ [.ins c []]) (upd (upd H dx (.own a)) a (.ins (G.ca c) dx [])) := SA.cellN ⟨dx, [], upd_same, .nil, ok⟩ (S.ex.free0 na) aρ
    refine h (ρ ++ [a]) Hf _ _ ⟨⟨[a], rfl⟩, Ex.refl _, fun b o e nb hxx => ?_, fun b hb nb => ?_, fun b o e n => by rw [n] at e; cases e⟩ SN (Rep.rf ?_)
    · rw [upd_ne (ne_of_none e na), upd_ne (ne_of_none e nd)]; exact e
    · rcases List.mem_append.mp hb with hb | hb
      · exact (nb hb).elim
      · simp at hb; subst hb; exact na
    · rw [← S.len, List.getElem?_append_right (Nat.le_refl _), Nat.sub_self]; rfl
  · exact h ρ _ _ _ (nD.trans SD (Nxt.new SD.ex na')) (SD.new na') (Rep.ins ok upd_same .nil)
/-! ### dicts -/
theorem keyEq {k pk : T} {v pv : Vv} (fk : keyT k = true) (key : L2.Key) (ek : v = kV key) (rk : RepB G ρ Hf H k v) : (∀ i, pk = .int i → (eqF pk k = true ↔ (Sum.inl i : L2.Key) = key)) ∧ (∀ s, pk = .str s → (eqF pk k = true ↔ (Sum.inr (strV s) : L2.Key) = key)) := by
  cases k with
  | int j =>
    obtain rfl := B_int rk
    cases key with
    | inl i => cases ek; exact ⟨fun i e => by subst e; simp [eqF], fun s e => by subst e; simp [eqF]⟩
    | inr s => cases ek
  | str t =>
    obtain rfl := B_str rk
    cases key with
    | inl i => cases ek
    | inr s =>
      cases ek
      refine ⟨fun i e => by subst e; simp [eqF], fun s e => ?_⟩
      subst e
      simp only [eqF, beq_iff_eq, Sum.inr.injEq]
      exact ⟨fun z => by rw [z], fun z => strV_inj z⟩
  | _ => simp [keyT] at fk
theorem RepK.put {k t : T} {w : Vv} (fk : keyT k = true) {v : Vv} (rk : RepB G ρ Hf H k v) (rt : Rep G ρ Hf t w) : ∃ key : L2.Key, v = kV key ∧ ∀ kvs gs, RepK G ρ Hf kvs gs → RepK G ρ Hf (dput kvs k t) (putK gs key w) := by
  obtain ⟨key, ek, hk⟩ := key_kV fk rk
  have kq := fun (pk : T) => keyEq (pk := pk) (pv := v) fk key ek rk
  have mapR : ∀ (kvs : List (T × T)) (gs : List (L2.Key × Vv)), RepK G ρ Hf kvs gs → RepK G ρ Hf (kvs.map fun p => if eqF p.1 k then (p.1, t) else p) (gs.map fun kv => if kv.1 = key then (kv.1, w) else kv) := by
    intro kvs
    induction kvs with
    | nil => intro gs r; cases r; exact .nil
    | cons p ps ih =>
      intro gs r
      cases r with
      | @consI i t2 v2 ts vs h r =>
        have q := (kq (.int i)).1 i rfl
        rw [List.map_cons, List.map_cons]
        by_cases z : (Sum.inl i : L2.Key) = key
        · rw [if_pos z, if_pos (q.mpr z)]; exact .consI rt (ih _ r)
        · rw [if_neg z, if_neg (fun y => z (q.mp y))]; exact .consI h (ih _ r)
      | @consS i t2 v2 ts vs h r =>
        have q := (kq (.str i)).2 i rfl
        rw [List.map_cons, List.map_cons]
        by_cases z : (Sum.inr (strV i) : L2.Key) = key
        · rw [if_pos z, if_pos (q.mpr z)]; exact .consS rt (ih _ r)
        · rw [if_neg z, if_neg (fun y => z (q.mp y))]; exact .consS h (ih _ r)
  have appR : ∀ (kvs : List (T × T)) (gs : List (L2.Key × Vv)), RepK G ρ Hf kvs gs → RepK G ρ Hf (kvs ++ [(k, t)]) (gs ++ [(key, w)]) := by
    intro kvs
    induction kvs with
    | nil =>
      intro gs r; cases r
      cases k with
      | int i => obtain rfl := B_int rk; cases key <;> cases ek; exact .consI rt .nil
      | str s => obtain rfl := B_str rk; cases key <;> cases ek; exact .consS rt .nil
      | _ => simp [keyT] at fk
    | cons p ps ih =>
      intro gs r
      cases r with
      | consI h r => exact .consI h (ih _ r)
      | consS h r => exact .consS h (ih _ r)
  refine ⟨key, ek, fun kvs gs r => ?_⟩
  have hall : (gs.any fun kv => decide (kv.1 = key)) = kvs.any fun p => eqF p.1 k := by rw [(hk kvs gs r).1, valV_any]
  unfold dput putK
  rw [hall]
  split
  · exact mapR kvs gs r
  · exact appR kvs gs r
theorem RepK.len : ∀ {kvs : List (T × T)} {gs : List (L2.Key × Vv)}, RepK G ρ Hf kvs gs → kvs.length = gs.length := by
  intro kvs
  induction kvs with
  | nil => intro gs r; cases r; rfl
  | cons p ps ih =>
    intro gs r
    cases r with
    | consI h r => rw [List.length_cons, List.length_cons, ih r]
    | consS h r => rw [List.length_cons, List.length_cons, ih r]
theorem P_alD (S : Sto G Z ρ Hf hp H) {Q : VK} {xs : List (T × T)} {vs : List (L2.Key × Vv)} (r : RepK G ρ Hf xs vs) (p : Post G Z W σ (AllocR G Z) ρ Hf H Q (.ok (.dct xs) hp)) : ∀ q, H q = none → Q (.ref q) (upd H q (.dK vs)) := fun q hq => by
  obtain ⟨f, m, z⟩ := S.free hq
  exact p ρ Hf _ (.ref q) (.newB hq) (S.newB hq) ⟨q, rfl, ⟨vs, upd_same, r⟩, f, m, z, fun _ _ e => nomatch e⟩
theorem ka_dnew {pos : Pos} : PE X (.Dict [] [] pos) (tA P call G W (.dct [] .nil)) := by
  refine PEimp pe_dnewK fun σ H Q h => ?_
  obtain ⟨Z, ρ, Hf, lσ, hp, S, L, h⟩ := h
  simp only [evA, evEs, R.bind_ok] at h
  exact P_alD S .nil h
/-- d[k] = e -/
theorem setD_at {o : Kb.E} {En : Ent} {t k y : T} {u w v : V} {h2 : Hl} {lσ' : Sl} {h' : Hl} (A : StA G En ρ Hf lσ h2 σ H) (rt : RepB G ρ Hf H t u) (hs : ∀ q, o = .var q → lσ[q]? = some (some t) ∧ σ[q]? = some (some u)) (rk : RepB G ρ Hf H k w) (ry : Rep G ρ Hf y v) (eq : putD o lσ t k y h2 = some (lσ', h')) :
    ∃ a H4, u = .ref a ∧ DPut H a w v H4 ∧ St1 G En lσ' h' σ H4 := by
  cases t with
  | rf n =>
    simp only [putD] at eq
    split at eq
    · rename_i kvs hn
      split at eq
      · rename_i c
        simp only [Bool.and_eq_true, decide_eq_true_eq] at c
        cases eq
        obtain ⟨a, ea, ⟨gs, ha, rK⟩, fa⟩ := A.S.at hn
        obtain ⟨b, rfl, eb⟩ := B_rf rt
        rw [ea] at eb; cases eb
        obtain ⟨key, rfl, put⟩ := RepK.put c.1 rk ry
        exact ⟨a, _, rfl, DPut.k ha (by rw [← rK.len, ← maxLen_eq]; exact c.2), ρ, Hf, A.setCell ea ⟨_, upd_same, put _ _ rK⟩⟩
      · cases eq
    · cases eq
  | bD kvs =>
    simp only [putD] at eq
    split at eq
    · rename_i q
      split at eq
      · rename_i c
        simp only [Bool.and_eq_true, decide_eq_true_eq] at c
        cases eq
        obtain ⟨h1, h2⟩ := hs q rfl
        obtain ⟨a, gs, rfl, ha, rK, fa, ma⟩ := id rt
        obtain ⟨key, rfl, put⟩ := RepK.put c.1 rk ry
        exact ⟨a, _, rfl, DPut.k ha (by rw [← rK.len, ← maxLen_eq]; exact c.2), ρ, Hf, A.setOwn h1 rfl h2 rfl rfl ⟨a, _, rfl, upd_same, put _ _ rK, fa, ma⟩⟩
      · cases eq
    · cases eq
  | _ => simp [putD] at eq
theorem ks_setD (C : KCx X P call G W CX D T0) {o i e : Expr} {io ii ie : Kb.E} {pos pos' : Pos} (ho : PE X o (tE P call G W io)) (hi : PE X i (tE P call G W ii)) (he : PE X e (tE P call G W ie)) (hv : isVarE io = false := by rfl)
    (hs : swapsWith e (some (.Subscript o i pos')) pos.line X.env = pure false := by rfl) : PS X (.Assign [.Subscript o i pos'] e pos) (tS P call G W Wn (.setD io ii ie)) := by
  refine PSimp (ps_dput C.un1 ho hi he hs) fun E σ H ⟨En, lσ, hp, ⟨ρ, Hf, A⟩, q⟩ => ?_
  simp only [exS] at q
  refine go_sE A q fun y h1 ρ1 Hf1 v H1 A1 N1 r1 q => ?_
  refine go_sE A1 q fun t h2 ρ2 Hf2 u H2 A2 N2 r2 q0 => ?_
  refine go_sE A2 q0 fun k h3 ρ3 Hf3 w H3 A3 N3 r3 q => ?_
  split at q
  · rename_i py
    split at q
    · rename_i σ' h' eq
      obtain ⟨a, H4, e1, e2, e3⟩ := setD_at A3 (r2.nx N3) (fun q e => by subst e; simp [isVarE] at hv) r3 (((r1.nx N2).nx N3).plain py) eq
      exact ⟨a, H4, e1, e2, q _ _ e3⟩
    · exact False.elim q
  · exact False.elim q
theorem ks_setDv (C : KCx X P call G W CX D T0) {i e : Expr} {ii ie : Kb.E} {s0 : Nat} {z : Str} {pos pos' pz : Pos} (hN : X.N[s0]? = some z) (hvis : visC X.env.scope z = true) (hi : PE X i (tE P call G W ii)) (he : PE X e (tE P call G W ie)) (hd : (z == ("__debug__" : Str)) = false := by decide +kernel) (hcd : (z == ("__classdict__" : Str)) = false := by decide +kernel)
    (hs : swapsWith e (some (.Subscript (.Name z pz) i pos')) pos.line X.env = pure false := by rfl) : PS X (.Assign [.Subscript (.Name z pz) i pos'] e pos) (tS P call G W Wn (.setD (.var s0) ii ie)) := by
  refine PSimp (ps_dput C.un1 (pe_var hN (vis_of hvis) hd hcd) hi he hs) fun E σ H ⟨En, lσ, hp, ⟨ρ, Hf, A⟩, q⟩ => ?_
  simp only [exS] at q
  refine go_sE A q fun y h1 ρ1 Hf1 v H1 A1 N1 r1 q => ?_
  simp only [evE] at q
  split at q
  · rename_i t es
    obtain ⟨u, hu, r2⟩ := A1.L.slot s0 t es
    refine ⟨u, hu, ?_⟩
    simp only [R.toS_ok] at q
    have q0 := q
    clear q
    refine go_sE A1 q0 fun k h3 ρ3 Hf3 w H3 A3 N3 r3 q => ?_
    clear q0
    split at q
    · rename_i py
      split at q
      · rename_i σ' h' eq
        obtain ⟨a, H4, e1, e2, e3⟩ := setD_at A3 (r2.nx N3) (fun q e => by cases e; exact ⟨es, hu⟩) r3 ((r1.nx N3).plain py) eq
        exact ⟨a, H4, e1, e2, q _ _ e3⟩
      · exact False.elim q
    · exact False.elim q
  · exact False.elim q
theorem dget_at {x k : T} {kvs : List (T × T)} {v u : V} (S : Sto G Z ρ Hf hp H) (e : dctOf x hp = some kvs) (fk : keyT k = true) (rx : RepB G ρ Hf H x v) (rk : RepB G ρ Hf H k u) : ∃ a o, v = .ref a ∧ IsD H a ∧ DGet H a u o ∧ (∀ t, fndK k kvs = some t → ∃ w, o = some w ∧ Rep G ρ Hf t w) ∧ (fndK k kvs = none → o = none) := by
  obtain ⟨a, gs, h1, h2, h3⟩ := dct_at S e rx
  obtain ⟨key, rfl, hk⟩ := key_kV fk rk
  exact ⟨a, _, h1, .inl ⟨gs, .inl h2⟩, DGet.k h2, (hk kvs gs h3).2.1, (hk kvs gs h3).2.2⟩
theorem k_get2 (C : KCx X P call G W CX D T0) {o e f : Expr} {io ie jf : E} {apos cpos : Pos} (ho : PE X o (tE P call G W io)) (he : PE X e (tE P call G W ie)) (hf : PE X f (tE P call G W jf)) (hbase : attributeBase o "get" X.env (eval o X.env) = eval o X.env := by rfl)
    (hfew : ((backTo cpos (starEach [e, f] X.env)).all (fun x => !x.1) && (backToKw cpos (keywordEach [] X.env)).all (fun x => x.1.isSome) && decide (([e, f] : List Expr).length + ([] : List Keyword).length + (if ([] : List Keyword).isEmpty then 0 else 1) < 30)) = true := by rfl)
    (hline : (apos.endLine == cpos.line) = true := by rfl) (htr : backTo cpos (starEach [e, f] X.env) = [(false, eval e X.env), (false, eval f X.env)] := by rfl) :
    PE X (.Call (.Attribute o "get" apos) [e, f] [] cpos) (tE P call G W (.bm .getD io (.cons ie (.cons jf .nil)))) := by
  refine PEimp (pe_dget2 C.un1 ho he hf ⟨hbase, hfew, hline, htr⟩) fun σ H Q h => ?_
  obtain ⟨Z, ρ, Hf, lσ, hp, S, L, h⟩ := h
  simp only [evE, evEs, R.bind_assoc, R.bind_ok] at h
  refine go_E S L h fun x h1 ρ1 Hf1 v H1 N1 S1 L1 r1 h => ?_
  split at h
  · rename_i pre
    have ⟨kvs0, e0⟩ : ∃ kvs, dctOf x h1 = some kvs := Option.isSome_iff_exists.mp pre
    obtain ⟨a, gs0, rfl, h2, _⟩ := dct_at S1 e0 r1
    refine ⟨a, rfl, .inl ⟨gs0, .inl h2⟩, ?_⟩
    refine go_E S1 L1 h fun k h3 ρ3 Hf3 u H3 N3 S3 L3 r3 h => ?_
    refine go_E S3 L3 h fun y h4 ρ4 Hf4 w H4 N4 S4 L4 r4 h => ?_
    simp only [bmT, getDF] at h
    split at h
    · rename_i kvs ek
      split at h
      · rename_i fk
        obtain ⟨a', o, e1, _, g, s1, s2⟩ := dget_at S4 ek fk ((r1.nx N3).nx N4) (r3.nx N4)
        cases e1
        refine ⟨o, g, ?_⟩
        cases q : fndK k kvs with
        | none =>
          rw [s2 q]
          rw [q] at h
          exact h.ret S4 r4
        | some t =>
          obtain ⟨w', e2, rw'⟩ := s1 t q
          rw [e2]
          rw [q] at h
          exact h.ret S4 rw'.toB
      · exact h.elim
    · exact h.elim
  · exact h.elim
theorem k_get1 (C : KCx X P call G W CX D T0) {o e : Expr} {io ie : E} {apos cpos : Pos} (ho : PE X o (tE P call G W io)) (he : PE X e (tE P call G W ie)) (m : M1 X o "get" apos e cpos) :
    PE X (.Call (.Attribute o "get" apos) [e] [] cpos) (tE P call G W (.bm .get io (.cons ie .nil))) := by
  refine PEimp (pe_dget1 C.un1 ho he m) fun σ H Q h => ?_
  obtain ⟨Z, ρ, Hf, lσ, hp, S, L, h⟩ := h
  simp only [evE, evEs, R.bind_assoc, R.bind_ok] at h
  refine go_E S L h fun x h1 ρ1 Hf1 v H1 N1 S1 L1 r1 h => ?_
  split at h
  · rename_i pre
    have ⟨kvs0, e0⟩ : ∃ kvs, dctOf x h1 = some kvs := Option.isSome_iff_exists.mp pre
    obtain ⟨a, gs0, rfl, h2, _⟩ := dct_at S1 e0 r1
    refine ⟨a, rfl, .inl ⟨gs0, .inl h2⟩, ?_⟩
    refine go_E S1 L1 h fun k h3 ρ3 Hf3 u H3 N3 S3 L3 r3 h => ?_
    simp only [bmT, getF] at h
    split at h
    · rename_i kvs ek
      split at h
      · rename_i fk
        obtain ⟨a', o, e1, _, g, s1, s2⟩ := dget_at S3 ek fk (r1.nx N3) r3
        cases e1
        refine ⟨o, g, ?_⟩
        cases q : fndK k kvs with
        | none =>
          rw [s2 q]
          rw [q] at h
          exact h.ret S3 (Rep.non).toB
        | some t =>
          obtain ⟨w', e2, rw'⟩ := s1 t q
          rw [e2]
          rw [q] at h
          exact h.ret S3 rw'.toB
      · exact h.elim
    · exact h.elim
  · exact h.elim
/-! ### methods of texts -/
theorem k_bmS {b : BM} {id : String} {name : Str} {o e : Expr} {es : List Expr} {io : E} {ies : Es} {apos cpos : Pos} (hb : ∀ x h, bmPre b x h = isStrT x) (slot : Slot "str" name id) (hty : typeOf (.builtin id) = pure (.type "method_descriptor")) (hm : MtR X id (rM G (bmT b))) (ho : PE X o (tE P call G W io)) (ha : PA X (e :: es) (tEs P call G W ies))
    (hbase : attributeBase o name X.env (eval o X.env) = eval o X.env := by rfl)
    (hfew : ((backTo cpos (starEach (e :: es) X.env)).all (fun x => !x.1) && (backToKw cpos (keywordEach [] X.env)).all (fun x => x.1.isSome) && decide ((e :: es).length + ([] : List Keyword).length + (if ([] : List Keyword).isEmpty then 0 else 1) < 30)) = true := by rfl)
    (hline : (apos.endLine == cpos.line) = true := by rfl) (hs : starEach (e :: es) X.env = (false, eval e X.env) :: starEach es X.env := by rfl) (hplain : (backTo cpos (starEach es X.env)).any (·.1) = false := by rfl) :
    PE X (.Call (.Attribute o name apos) (e :: es) [] cpos) (tE P call G W (.bm b io ies)) := by
  refine PEimp (pe_bm PySem.F.plainAttrs_str slot hty hm ho ha hbase hfew hline hs hplain) fun σ H Q h => ?_
  obtain ⟨Z, ρ, Hf, lσ, hp, S, L, h⟩ := h
  simp only [evE] at h
  refine go_E S L h fun x h1 ρ1 Hf1 v H1 N1 S1 L1 r1 h => ?_
  split at h
  · rename_i pre
    rw [hb] at pre
    cases x <;> first | (simp [isStrT] at pre; done) | skip
    obtain rfl := B_str r1
    refine ⟨rfl, ?_⟩
    refine go_Es S1 L1 h fun xs h2 ρ2 Hf2 vs H2 N2 S2 L2 r2 h => ?_
    exact ⟨Z, W, σ, ρ2, Hf2, h2, _, xs, S2, r1.nx N2, r2, h⟩
  · exact h.elim
theorem k_sw (C : KCx X P call G W CX D T0) {o e : Expr} {io ie : E} {apos cpos : Pos} (ho : PE X o (tE P call G W io)) (he : PE X e (tE P call G W ie)) (hbase : attributeBase o "startswith" X.env (eval o X.env) = eval o X.env := by rfl)
    (hfew : ((backTo cpos (starEach [e] X.env)).all (fun x => !x.1) && (backToKw cpos (keywordEach [] X.env)).all (fun x => x.1.isSome) && decide (([e] : List Expr).length + ([] : List Keyword).length + (if ([] : List Keyword).isEmpty then 0 else 1) < 30)) = true := by rfl)
    (hline : (apos.endLine == cpos.line) = true := by rfl) (hs : starEach [e] X.env = (false, eval e X.env) :: starEach [] X.env := by rfl) (hplain : (backTo cpos (starEach [] X.env)).any (·.1) = false := by rfl) :
    PE X (.Call (.Attribute o "startswith" apos) [e] [] cpos) (tE P call G W (.bm .startswith io (.cons ie .nil))) :=
  k_bmS (fun _ _ => rfl) PySem.F.slot_str_startswith PySem.F.type_str_startswith mt_swT ho (ka_cons he ka_nil hs) hbase hfew hline hs hplain
theorem k_join (C : KCx X P call G W CX D T0) {o e : Expr} {io ie : E} {apos cpos : Pos} (ho : PE X o (tE P call G W io)) (he : PE X e (tE P call G W ie)) (hbase : attributeBase o "join" X.env (eval o X.env) = eval o X.env := by rfl)
    (hfew : ((backTo cpos (starEach [e] X.env)).all (fun x => !x.1) && (backToKw cpos (keywordEach [] X.env)).all (fun x => x.1.isSome) && decide (([e] : List Expr).length + ([] : List Keyword).length + (if ([] : List Keyword).isEmpty then 0 else 1) < 30)) = true := by rfl)
    (hline : (apos.endLine == cpos.line) = true := by rfl) (hs : starEach [e] X.env = (false, eval e X.env) :: starEach [] X.env := by rfl) (hplain : (backTo cpos (starEach [] X.env)).any (·.1) = false := by rfl) :
    PE X (.Call (.Attribute o "join" apos) [e] [] cpos) (tE P call G W (.bm .join io (.cons ie .nil))) :=
  k_bmS (fun _ _ => rfl) PySem.F.slot_str_join PySem.F.type_str_join (mt_joinT C.hK) ho (ka_cons he ka_nil hs) hbase hfew hline hs hplain
/-! ### displays of dicts -/
def keyV : T → V
  | .int i => .int i | .str s => .str (strV s) | _ => .non
def PD (X : Cx) (P : Prog) (call : Nat → List T → Hl → R T) (G : Gm) (W : WX) (pos : Pos) (keys : List (Option Expr)) (values : List Expr) (ks : List T) (ies : Es) : Prop :=
  ks.length = Es.len ies ∧ keys.length = ks.length ∧ keys.length = values.length ∧ keys.all (·.isSome) = true ∧ ∃ trs, PPs X pos keys values trs ∧ ∀ (σ : L2.St) (H : Hp) (Q : List (V × V) → Hp → Prop), tEs P call G W ies σ H (fun us H' => Q ((ks.map keyV).zip us) H') → tPairs trs σ H Q
theorem kpp_nil {pos : Pos} : PD X P call G W pos [] [] [] .nil := ⟨rfl, rfl, rfl, rfl, [], pps_nil, fun σ H Q ⟨Z, ρ, Hf, lσ, hp, S, L, h⟩ => h.ret S .nil⟩
theorem kpp_cons {pos : Pos} {k v : Expr} {kt : T} {tk : TE} {keys : List (Option Expr)} {values : List Expr} {ks : List T} {ie : E} {ies : Es} (hk : PE X k tk) (hq : ∀ σ H (Q : VK), Q (keyV kt) H → tk σ H Q) (hv : PE X v (tE P call G W ie)) (hr : PD X P call G W pos keys values ks ies) :
    PD X P call G W pos (some k :: keys) (v :: values) (kt :: ks) (.cons ie ies) := by
  obtain ⟨h1, h2, h3, h4, trs, hp, himp⟩ := hr
  refine ⟨by rw [List.length_cons, h1]; rfl, by rw [List.length_cons, List.length_cons, h2], by rw [List.length_cons, List.length_cons, h3], by simp [h4], _, pps_cons hk hv hp, fun σ H Q h => hq σ H _ ?_⟩
  obtain ⟨Z, ρ, Hf, lσ, hp, S, L, h⟩ := h
  simp only [evEs] at h
  refine go_E S L h fun x h1 ρ1 Hf1 u H1 N1 S1 L1 r1 h => himp _ _ _ ?_
  refine go_Es S1 L1 h fun xs h2 ρ2 Hf2 us H2 N2 S2 L2 r2 h => ?_
  exact h.ret S2 (.cons (r1.nx N2) r2)
theorem kpp_int {pos : Pos} {i : Int} {j p} {v : Expr} {keys : List (Option Expr)} {values : List Expr} {ks : List T} {ie : E} {ies : Es} (hv : PE X v (tE P call G W ie)) (hr : PD X P call G W pos keys values ks ies) :
    PD X P call G W pos (some (.Constant (.int i) j p) :: keys) (v :: values) (.int i :: ks) (.cons ie ies) := kpp_cons pe_int (fun _ _ _ q => q) hv hr
theorem kpp_str {pos : Pos} {x : Str} {z : List Nat} {j p} {v : Expr} {keys : List (Option Expr)} {values : List Expr} {ks : List T} {ie : E} {ies : Es} (hv : PE X v (tE P call G W ie)) (hr : PD X P call G W pos keys values ks ies) (hx : x = strV z := by decide +kernel) :
    PD X P call G W pos (some (.Constant (.str x) j p) :: keys) (v :: values) (.str z :: ks) (.cons ie ies) := by
  subst hx
  exact kpp_cons pe_str (fun _ _ _ q => q) hv hr
theorem disp_kvs : ∀ (ks : List T) (vs : List T) (us : List V), ks.all keyT = true → Reps G ρ Hf vs us → vs.length = ks.length → ∃ kvs : List (L2.Key × V), (ks.map keyV).zip us = kvs.map (fun kv => (kV kv.1, kv.2)) ∧ kvs.length = ks.length ∧
    ∀ d gs, RepK G ρ Hf d gs → RepK G ρ Hf ((ks.zip vs).foldl (fun d p => dput d p.1 p.2) d) (mergeK gs kvs) := by
  intro ks
  induction ks with
  | nil => intro vs us _ r e; exact ⟨[], by simp, rfl, fun d gs r => r⟩
  | cons k ks ih =>
    intro vs us fk r e
    cases r with
    | nil => cases e
    | @cons t u ts us h r =>
      simp only [List.all_cons, Bool.and_eq_true] at fk
      obtain ⟨kvs, e1, e2, e3⟩ := ih ts us fk.2 r (by simpa using e)
      have rk : RepB G ρ Hf Hf k (keyV k) := by cases k <;> first | (simp [keyT] at fk; done) | exact Rep.int _ | exact Rep.str _
      obtain ⟨key, ek, put⟩ := RepK.put (H := Hf) fk.1 rk h
      refine ⟨(key, u) :: kvs, by simp only [List.map_cons, List.zip_cons_cons, e1, ek], by simp [e2], fun d gs r => ?_⟩
      simp only [List.zip_cons_cons, List.foldl_cons]
      exact e3 _ _ (put _ _ r)
theorem ka_disp (C : KCx X P call G W CX D T0) {pos : Pos} {keys : List (Option Expr)} {values : List Expr} {ks : List T} {ies : Es} (hd : PD X P call G W pos keys values ks ies) (h0 : keys ≠ [] := by intro z; cases z) (h15 : keys.length ≤ 15 := by decide) : PE X (.Dict keys values pos) (tA P call G W (.dct ks ies)) := by
  obtain ⟨h1, h2, h3, h4, trs, hp, himp⟩ := hd
  refine PEimp (pe_disp hp h4 h3 h0 h15) fun σ H Q h => ?_
  obtain ⟨Z, ρ, Hf, lσ, hp, S, L, h⟩ := h
  intro p np
  obtain ⟨f, m, z⟩ := S.free np
  have N0 : Nxt none ρ Hf H ρ Hf (upd H p (.dK [])) := .newB np
  have S0 : Sto G Z ρ Hf hp (upd H p (.dK [])) := S.newB np
  simp only [evA] at h
  refine himp _ _ _ ⟨Z, ρ, Hf, lσ, hp, S0, L.nxt N0, ?_⟩
  generalize evEs P call ies lσ hp = r at h
  cases r with
  | err c fs h' => exact PErr.from S0 N0 h
  | stuck => exact h
  | ok vs h' =>
    simp only [R.bind_ok] at h
    intro ρ' Hf' H' us N S' r
    have hp' : H' p = some (.dK []) := N.fr p _ upd_same m (by simp)
    refine ⟨hp', ?_⟩
    split at h
    · rename_i c
      simp only [Bool.and_eq_true, decide_eq_true_eq] at c
      obtain ⟨⟨⟨c1, c2⟩, c3⟩, c4⟩ := c
      obtain ⟨kvs, e1, e2, e3⟩ := disp_kvs ks vs us c1 (r.plain c2) c3
      refine ⟨kvs, e1, by omega, ?_⟩
      have f' : Hf' p = none := by
        cases y : Hf' p with
        | none => rfl
        | some o => have := N.hn p o y f; rw [upd_same] at this; cases this
      have m' : p ∉ ρ' := fun y => by have := N.nw p y m; rw [upd_same] at this; cases this
      have back : ∀ {b : Addr}, upd H p (.dK []) b = none → H b = none := fun {b} e => by
        by_cases q : b = p
        · subst q; exact np
        · rw [upd_ne q] at e; exact e
      refine h ρ' Hf' _ (.ref p) ⟨N.pre, N.hf, fun b o e nb _ => ?_, fun b hb nb => back (N.nw b hb nb), fun b o e n => back (N.hn b o e n)⟩ (S'.setX f' m') ⟨p, rfl, ⟨_, upd_same, e3 _ _ .nil⟩, f', m', z, fun _ _ e => nomatch e⟩
      rw [upd_ne (ne_of_none e np)]
      exact N.fr b o (by rw [upd_ne (ne_of_none e np)]; exact e) nb (by simp)
    · exact h.elim
end
end Kb
end
section
set_option Elab.async false
set_option linter.all false
set_option maxRecDepth 100000
set_option maxHeartbeats 4000000
set_option autoImplicit false
/-! Kb13: zip over lists, tuples and texts in any mixture. -/
namespace Kb
open PySem PySem.Spec PyProof.Rows L2
/-- what is zipped -/
inductive Sk where
  | lst (a : Addr) | tup (a : Addr) | txt (z : Str)
def Sk.val : Sk → V
  | .lst a => .ref a | .tup a => .ref a | .txt z => .str z
def Sk.std (K : PySem.W.Frag) (H : Hp) : Sk → List V → Prop
  | .lst a, vs => SqL K H a vs
  | .tup a, vs => SqT K H a vs
  | .txt z, vs => vs = z.cps.toList.map fun c => V.str ⟨#[c]⟩
def Sk.adr : Sk → List Addr
  | .lst a => [a] | .tup a => [a] | .txt _ => []
def Sk.it : Sk → Tok → Addr → Nat → Heap → Prop
  | .lst a, _, b, i, h => h.IsListIter b a i
  | .tup a, _, b, i, h => h.IsTupleIter b a i
  | .txt z, t, b, i, h => h.IsStrIter b (strIterType z) z t i
def Sk.obj : Sk → Tok → Obj
  | .lst a, _ => { cls := .type "list_iterator", data := .fields #[.ref a, .int 0 0] }
  | .tup a, _ => { cls := .type "tuple_iterator", data := .fields #[.ref a, .int 0 0] }
  | .txt z, t => { cls := .type (strIterType z), data := .fields #[.str z t, .int 0 0] }
theorem Sk.std_ex {K : PySem.W.Frag} {H H' : Hp} {k : Sk} {vs : List V} (h : k.std K H vs) (e : Ex H H') : k.std K H' vs := by
  cases k with
  | lst a => exact e.sq h
  | tup a => exact e.st h
  | txt z => exact h
theorem Sk.it_fields {k : Sk} {t : Tok} {b : Addr} {i : Nat} {h : Heap} (e : k.it t b i h) : ∃ o n fs, h.get? b = some o ∧ o.cls = .type n ∧ o.data = .fields fs := by
  cases k <;> obtain ⟨o, e1, e2, e3⟩ := e <;> exact ⟨o, _, _, e1, e2, e3⟩
theorem Sk.it_keep {k : Sk} {t : Tok} {b : Addr} {i : Nat} {h h' : Heap} (e : k.it t b i h) (hk : ∀ o, h.get? b = some o → h'.get? b = some o) : k.it t b i h' := by
  cases k <;> obtain ⟨o, e1, e2⟩ := e <;> exact ⟨o, hk _ e1, e2⟩
theorem Sk.it_new (k : Sk) (t : Tok) {b : Addr} {h : Heap} (e : h.get? b = some (k.obj t)) : k.it t b 0 h := by
  cases k <;> exact ⟨_, e, rfl, rfl⟩
section
variable {X : Cx} {pins : List (Addr × Obj)} {σ : L2.St} {H : Hp} {s : Shared} {A : Around}
theorem Sk.std_inj (I : Inv X pins σ H s) {k : Sk} {vs ws : List V} (h : k.std X.K H vs) (h' : k.std X.K H ws) : vs = ws := by
  cases k with
  | lst a => exact I.list_inj h h'
  | tup a => exact I.tuple_inj h h'
  | txt z => exact h.trans h'.symm
theorem vals_back {xs : List V} {us : List Value} {i : Nat} {u : Value} (r : Vals xs us) (e : us[i]? = some u) : ∃ x, xs[i]? = some x ∧ RelV x u := by
  have hl : i < xs.length := by rw [r.length]; exact (List.getElem?_eq_some_iff.mp e).1
  obtain ⟨w, e1, e2⟩ := r.get (List.getElem?_eq_getElem hl)
  rw [e] at e1; cases e1
  exact ⟨_, List.getElem?_eq_getElem hl, e2⟩
/-- its iterator's turns, as the heap stands -/
theorem Sk.draws (I : Inv X pins σ H s) (hh : A.handled = none) (k : Sk) (t : Tok) (b : Addr) (na : b ∉ k.adr) {vs : List V} (hv : k.std X.K H vs) :
    ∃ (Pv : Nat → Value → Prop) (St : Nat → Heap → Prop), Draws X.prog X.w A b (b :: k.adr) vs.length Pv St ∧ (∀ i, k.it t b i s.heap → St i s.heap) ∧ (∀ i h, St i h → k.it t b i h) ∧ ∀ i u, Pv i u → ∃ x, vs[i]? = some x ∧ RelV x u := by
  cases k with
  | lst a =>
    obtain ⟨its, rv, p, _⟩ := I.list hv
    have hl : vs.length = its.toArray.size := by rw [rv.length]; simp
    rw [hl]
    refine ⟨_, _, Draws.list hh b a (fun e => na (by rw [← e]; exact List.mem_singleton.mpr rfl)) its.toArray, fun i e => ⟨e, p.isList⟩, fun i h e => e.1, fun i u e => ?_⟩
    obtain ⟨x, e1, e2⟩ := vals_back rv (by simpa using e)
    exact ⟨x, e1, e2⟩
  | tup a =>
    obtain ⟨its, rv, p, _⟩ := I.tuple hv
    have hl : vs.length = its.toArray.size := by rw [rv.length]; simp
    rw [hl]
    refine ⟨_, _, Draws.tuple hh b a (fun e => na (by rw [← e]; exact List.mem_singleton.mpr rfl)) its.toArray, fun i e => ⟨e, p⟩, fun i h e => e.1, fun i u e => ?_⟩
    obtain ⟨x, e1, e2⟩ := vals_back rv (by simpa using e)
    exact ⟨x, e1, e2⟩
  | txt z =>
    have hv : vs = z.cps.toList.map fun c => V.str ⟨#[c]⟩ := hv
    have hl : vs.length = z.cps.size := by rw [hv]; simp
    rw [hl]
    refine ⟨_, _, Draws.text hh b z t, fun i e => e, fun i h e => e, fun i u ⟨c, tk, e1, e2⟩ => ⟨.str ⟨#[c]⟩, ?_, tk, e2⟩⟩
    rw [hv, List.getElem?_map]
    have : z.cps.toList[i]? = some c := by simpa using e1
    rw [this]; rfl
theorem Sk.begins (I : Inv X pins σ H s) (k : Sk) {vs : List V} (hv : k.std X.K H vs) {u : Value} (r : RelV k.val u) : ∃ (t : Tok) (HB : Heap → Prop), Begins u (k.obj t) HB ∧ HB s.heap ∧ ∀ c ∈ k.adr, c < s.heap.objs.size := by
  cases k with
  | lst a =>
    obtain ⟨its, rv, p, _⟩ := I.list hv
    cases r
    exact ⟨0, _, begins_list a its.toArray, p.isList, fun c hc => by rw [List.mem_singleton.mp hc]; exact p.lt⟩
  | tup a =>
    obtain ⟨its, rv, p, _⟩ := I.tuple hv
    cases r
    obtain ⟨o, ho, _⟩ := id p
    exact ⟨0, _, begins_tuple a its.toArray, p, fun c hc => by rw [List.mem_singleton.mp hc]; exact Heap.lt_size ho⟩
  | txt z =>
    obtain ⟨t, rfl⟩ := r
    exact ⟨t, _, begins_text z t, trivial, fun c hc => nomatch hc⟩
end
/-- the pairs as they come -/
def Izz (K : PySem.W.Frag) (k1 k2 : Sk) : L2.It :=
  ⟨fun i H => ∃ vs ws, k1.std K H vs ∧ k2.std K H ws ∧ i < vs.length ∧ i < ws.length,
    fun i H v H' => ∃ T x y, v = .ref T ∧ H T = none ∧ H' = upd H T (.tup [x, y]) ∧ (∀ vs, k1.std K H vs → vs[i]? = some x) ∧ ∀ ws, k2.std K H ws → ws[i]? = some y,
    fun i H => ∃ vs ws, k1.std K H vs ∧ k2.std K H ws ∧ i ≤ vs.length ∧ i ≤ ws.length ∧ (i = vs.length ∨ i = ws.length)⟩
structure Zap (z TI TO i1 i2 : Addr) (k1 k2 : Sk) : Prop where
  TIz : TI ≠ z
  TOz : TO ≠ z
  TIO : TI ≠ TO
  TI1 : TI ≠ i1
  TI2 : TI ≠ i2
  TO1 : TO ≠ i1
  TO2 : TO ≠ i2
  z1 : z ≠ i1
  z2 : z ≠ i2
  i12 : i1 ≠ i2
  k1z : z ∉ k1.adr
  k1T : TO ∉ k1.adr
  k11 : i1 ∉ k1.adr
  k12 : i2 ∉ k1.adr
  k2z : z ∉ k2.adr
  k2T : TO ∉ k2.adr
  k21 : i1 ∉ k2.adr
  k22 : i2 ∉ k2.adr
theorem Zap.sep {z TI TO i1 i2 : Addr} {k1 k2 : Sk} (D : Zap z TI TO i1 i2 k1 k2) : ZipSep2 z TI TO i1 i2 (i1 :: k1.adr) (i2 :: k2.adr) where
  TIz := D.TIz
  TOz := D.TOz
  TITO := D.TIO
  TIi1 := D.TI1
  mem1 := List.mem_cons_self
  zf1 := fun h => by rcases List.mem_cons.mp h with h | h; exact D.z1 h; exact D.k1z h
  Tf1 := fun h => by rcases List.mem_cons.mp h with h | h; exact D.TO1 h; exact D.k1T h
  TIi2 := D.TI2
  mem2 := List.mem_cons_self
  zf2 := fun h => by rcases List.mem_cons.mp h with h | h; exact D.z2 h; exact D.k2z h
  Tf2 := fun h => by rcases List.mem_cons.mp h with h | h; exact D.TO2 h; exact D.k2T h
  sep1_2 := fun h => by rcases List.mem_cons.mp h with h | h; exact D.i12 h; exact D.k21 h
  sep2_1 := fun h => by rcases List.mem_cons.mp h with h | h; exact D.i12 h.symm; exact D.k12 h
theorem turn_zz {P : Program} {w : World} {K : PySem.W.Frag} {elts : List Expr} {kk : Nat} {tpos : Pos} {z TI TO i1 i2 : Addr} {k1 k2 : Sk} {t1 t2 : Tok} (D : Zap z TI TO i1 i2 k1 k2) :
    Turn P w K (.Tuple elts kk tpos) (Izz K k1 k2) [z, TI, TO, i1, i2] z (fun i h => IsZip h z TI TO .none ∧ IsTupOf2 h TI (.ref i1) (.ref i2) ∧ (∃ x y, IsTupOf2 h TO x y) ∧ k1.it t1 i1 i h ∧ k2.it t2 i2 i h) where
  mem := List.mem_cons_self
  obj := fun i h ⟨hz, hTI, ⟨x, y, hTO⟩, h1, h2⟩ c hc => by
    obtain ⟨o1, n1, f1, e1, _, d1⟩ := Sk.it_fields h1
    obtain ⟨o2, n2, f2, e2, _, d2⟩ := Sk.it_fields h2
    simp only [List.mem_cons, List.not_mem_nil, or_false] at hc
    rcases hc with rfl | rfl | rfl | rfl | rfl
    · exact ⟨_, hz, fun v q => by cases q⟩
    · exact ⟨_, hTI, fun v q => by cases q⟩
    · exact ⟨_, hTO, fun v q => by cases q⟩
    · exact ⟨o1, e1, fun v q => by rw [d1] at q; cases q⟩
    · exact ⟨o2, e2, fun v q => by rw [d2] at q; cases q⟩
  keep := fun i h h' ⟨hz, hTI, ⟨x, y, hTO⟩, h1, h2⟩ k =>
    ⟨k z (by simp) _ hz, k TI (by simp) _ hTI, ⟨x, y, k TO (by simp) _ hTO⟩, Sk.it_keep h1 (k i1 (by simp)), Sk.it_keep h2 (k i2 (by simp))⟩
  item := by
    intro X hP hw hK hc i pins s σ H E I hf st hg
    subst hP hw hK
    obtain ⟨hz, hTI, ⟨x0, y0, hTO⟩, h1, h2⟩ := st
    obtain ⟨vs, ws, sv, sw, lv, lw⟩ := hg
    have hh : X.A.in1.handled = none := I.ok.hd hc
    obtain ⟨P1, S1, D1, a1, b1, c1⟩ := Sk.draws (A := X.A.in1) I hh k1 t1 i1 D.k11 sv
    obtain ⟨P2, S2, D2, a2, b2, c2⟩ := Sk.draws (A := X.A.in1) I hh k2 t2 i2 D.k22 sw
    refine wpAny_pyNext_zipD2_item D.sep D1 D2 hz hTI hTO (a1 i h1) (a2 i h2) lv lw fun u1 u2 h' tk p1 p2 z' TO' s1 s2 hT hsz hk => ?_
    obtain ⟨x, ex, rx⟩ := c1 i u1 p1
    obtain ⟨y, ey, ry⟩ := c2 i u2 p2
    have hzl : z < s.heap.objs.size := Heap.lt_size hz
    refine ⟨_, rfl, wpAny_letOwnedTupleGo_zip (s := { s with heap := h', toks := tk }) z' fun g gz sb => ?_⟩
    have gT : g.get? s.heap.objs.size = some { cls := .type "tuple", data := .seq #[u1, u2] } := (sb.2 _ (Nat.ne_of_gt hzl)).trans hT
    have keep : ∀ c o, c ∉ [z, TI, TO, i1, i2] → s.heap.get? c = some o → g.get? c = some o := fun c o hb q => by
      simp only [List.mem_cons, List.not_mem_nil, or_false, not_or] at hb
      exact (sb.2 c hb.1).trans (hk c o hb.1 hb.2.2.1 hb.2.2.2.1 hb.2.2.2.2 q)
    have J : Inv X pins σ (upd H s.heap.objs.size (.tup [x, y])) { s with heap := g, toks := tk } :=
      I.turnedNew (ch := [z, TI, TO, i1, i2]) keep hf (Nat.le_refl _) ⟨by show 2 ≤ sizeLine; decide, [u1, u2], .cons rx (.cons ry .nil), ⟨_, gT, rfl, _, rfl⟩⟩
    have old : ∀ c ∈ [z, TI, TO, i1, i2], c ≠ s.heap.objs.size := fun c hc => by
      obtain ⟨o1, _, _, e1, _⟩ := Sk.it_fields h1
      obtain ⟨o2, _, _, e2, _⟩ := Sk.it_fields h2
      simp only [List.mem_cons, List.not_mem_nil, or_false] at hc
      rcases hc with rfl | rfl | rfl | rfl | rfl
      · exact Nat.ne_of_lt hzl
      · exact Nat.ne_of_lt (Heap.lt_size hTI)
      · exact Nat.ne_of_lt (Heap.lt_size hTO)
      · exact Nat.ne_of_lt (Heap.lt_size e1)
      · exact Nat.ne_of_lt (Heap.lt_size e2)
    refine ⟨.ref s.heap.objs.size, _, J, rfl, ⟨_, x, y, rfl, I.hok.fresh (Nat.le_refl _), rfl, fun l hl => by rw [Sk.std_inj I hl sv]; exact ex, fun l hl => by rw [Sk.std_inj I hl sw]; exact ey⟩,
      ⟨gz, (sb.2 _ D.TIz).trans (hk _ _ D.TIz D.TIO D.TI1 D.TI2 hTI), ⟨u1, u2, (sb.2 _ D.TOz).trans TO'⟩, Sk.it_keep (b1 _ _ s1) fun o q => (sb.2 _ D.z1.symm).trans q, Sk.it_keep (b2 _ _ s2) fun o q => (sb.2 _ D.z2.symm).trans q⟩, fun c hcm => ?_⟩
    rw [upd_ne (old c hcm)]
    exact (hf c hcm).1
  done := by
    intro X hP hw hK hc i pins s σ H E I hf st hg
    subst hP hw hK
    obtain ⟨hz, hTI, ⟨x0, y0, hTO⟩, h1, h2⟩ := st
    obtain ⟨vs, ws, sv, sw, lv, lw, le⟩ := hg
    have hh : X.A.in1.handled = none := I.ok.hd hc
    obtain ⟨P1, S1, D1, a1, b1, c1⟩ := Sk.draws (A := X.A.in1) I hh k1 t1 i1 D.k11 sv
    obtain ⟨P2, S2, D2, a2, b2, c2⟩ := Sk.draws (A := X.A.in1) I hh k2 t2 i2 D.k22 sw
    refine wpAny_pyNext_zipD2_end D.sep D1 D2 hz hTI hTO (a1 i h1) (a2 i h2) lv lw le fun h' tk hk => ⟨rfl, I.turnedL (ch := [z, TI, TO, i1, i2]) (fun c o hb q => ?_) hf⟩
    simp only [List.mem_cons, List.not_mem_nil, or_false, not_or] at hb
    exact hk c o hb.1 hb.2.2.1 hb.2.2.2.1 hb.2.2.2.2 q
  self := fun A i s Q E st h => wpAny_pyIter_zip st.1 h
def iZz (K : PySem.W.Frag) (ta : TA) : TI := fun σ H R => ta σ H fun us H1 => ∃ k1 k2 vs ws, us = [Sk.val k1, Sk.val k2] ∧ k1.std K H1 vs ∧ k2.std K H1 ws ∧ R (Izz K k1 k2) H1
theorem pi_zz {X : Cx} {e e2 : Expr} {ta : TA} {p pos tpos : Pos} {elts : List Expr} {kk : Nat} (hg : Gl X "zip") (hm : X.mg "zip" = none) (ha : PA X [e, e2] ta)
    (hs : starEach [e, e2] X.env = (false, eval e X.env) :: starEach [e2] X.env := by rfl) (hpl : (backTo pos (starEach [e2] X.env)).any (·.1) = false := by rfl) :
    PI X (.Tuple elts kk tpos) (.Call (.Name "zip" p) [e, e2] [] pos) (iZz X.K ta) := by
  refine ⟨fun pins s σ H R I h => Call_ (ld_blt I hg hm PyProof.Rows.boot_zip (PyProof.Rows.callWith_type1 (thn (ha.run pos pins s σ H _ I h) fun us s1 ⟨xs, H1, J, r, k1, k2, vs, ws, ex, sv, sw, q⟩ => ?_) hs hpl))⟩
  subst ex
  cases r with
  | cons r1 rr =>
    cases rr with
    | cons r2 rr =>
      cases rr
      obtain ⟨t1, B1, b1, c1, l1⟩ := Sk.begins J k1 sv r1
      obtain ⟨t2, B2, b2, c2, l2⟩ := Sk.begins J k2 sw r2
      refine zip_begins2 b1 b2 c1 c2 fun h' hz hTI hTO g1 g2 hsz hk => wpAny_pyIter_zip hz ?_
      have J2 : Inv X pins σ H1 { s1 with heap := h' } := J.kept (t' := s1.toks) hk
      have nm : ∀ {k : Sk} {c : Addr}, (∀ c ∈ k.adr, c < s1.heap.objs.size) → s1.heap.objs.size ≤ c → c ∉ k.adr := fun hl hc hm => absurd (hl _ hm) (Nat.not_lt.mpr hc)
      have n1 := Nat.le_add_right s1.heap.objs.size
      have ne : ∀ a b : Nat, a ≠ b → (s1.heap.objs.size + a : Nat) ≠ s1.heap.objs.size + b := fun a b h e => h (Nat.add_left_cancel e)
      generalize hN : s1.heap.objs.size = N at *
      refine ⟨N + 4, [N + 4, N + 2, N + 3, N, N + 1], _, _, H1, rfl, J2, turn_zz (t1 := t1) (t2 := t2) ⟨ne 2 4 (by decide), ne 3 4 (by decide), ne 2 3 (by decide), ne 2 0 (by decide), ne 2 1 (by decide), ne 3 0 (by decide), ne 3 1 (by decide), ne 4 0 (by decide), ne 4 1 (by decide), ne 0 1 (by decide), nm l1 (n1 4), nm l1 (n1 3), nm l1 (Nat.le_refl _), nm l1 (n1 1), nm l2 (n1 4), nm l2 (n1 3), nm l2 (Nat.le_refl _), nm l2 (n1 1)⟩, ⟨hz, hTI, ⟨_, _, hTO⟩, Sk.it_new k1 t1 g1, Sk.it_new k2 t2 g2⟩, fun c hc => ?_, q⟩
      have hle : s1.heap.objs.size ≤ c := by
        rw [hN]
        simp only [List.mem_cons, List.not_mem_nil, or_false] at hc
        rcases hc with rfl | rfl | rfl | rfl | rfl <;> first | exact Nat.le_refl _ | exact n1 _
      exact J.fpOk hle (J.hok.fresh hle)
section
variable {X : Cx} {P : Prog} {call : Nat → List T → Hl → R T} {G : Gm} {W : WX} {CX : CXT} {D : Dat} {T0 : Tab}
variable {Z : Hp} {ρ : List Addr} {Hf H : Hp} {lσ : Sl} {σ : L2.St} {hp : Hl}
theorem walk_src {x : T} {xs : List T} {v : Vv} (e : walkOf x = some xs) (r : RepB G ρ Hf H x v) : ∃ (k : Sk) (vs : List V), v = k.val ∧ k.std G.K Hf vs ∧ Reps G ρ Hf xs vs := by
  cases x <;> simp only [walkOf] at e
  case str s =>
    split at e
    · cases e
      refine ⟨.txt (strV s), _, B_str r, rfl, ?_⟩
      rw [strV_list]
      clear r
      induction s with
      | nil => exact .nil
      | cons c s ih => exact .cons (Rep.str [c]) (ih (by simp only [List.length_cons] at *; omega))
    · cases e
  case lst ys => cases e; obtain ⟨a, vs, rfl, h1, h2⟩ := B_lst r; exact ⟨.lst a, vs, rfl, .inl (.inl h1), h2⟩
  case tup ys => cases e; obtain ⟨a, vs, rfl, h1, h2⟩ := B_tup r; exact ⟨.tup a, vs, rfl, h1, h2⟩
  case kl ns => cases e; obtain ⟨a, rfl, h1⟩ := B_kl r; exact ⟨.lst a, _, rfl, h1, reps_ints ns⟩
  all_goals cases e
theorem wr_zz {k1 k2 : Sk} {xs ys : List T} {vs ws : List V} (s1 : k1.std G.K Hf vs) (s2 : k2.std G.K Hf ws) (q1 : Reps G ρ Hf xs vs) (q2 : Reps G ρ Hf ys ws) : WalksR G ρ Hf H ((xs.zip ys).map fun p => T.tup [p.1, p.2]) (Izz G.K k1 k2) := by
  have hl : ((xs.zip ys).map fun p => T.tup [p.1, p.2]).length = min vs.length ws.length := by rw [List.length_map, List.length_zip, q1.length, q2.length]
  refine ⟨fun H' => k1.std G.K H' vs ∧ k2.std G.K H' ws, YPair (fun i => vs[i]?) (fun i => ws[i]?), ?_, fun H' e => ⟨Sk.std_ex s1 e, Sk.std_ex s2 e⟩, fun i H' v H'' _ hy => ?_⟩
  · rw [hl]
    refine ⟨fun i H' hi g => ⟨vs, ws, g.1, g.2, by omega, by omega⟩, fun H' g => ⟨vs, ws, g.1, g.2, by omega, by omega, by omega⟩, fun i H' v H'' hi g y => ?_⟩
    obtain ⟨T, x, y, e1, e2, e3, e4, e5⟩ := y
    exact ⟨T, x, y, e1, e2, e3, e4 vs g.1, e5 ws g.2⟩
  · obtain ⟨T, x, y, rfl, e2, e3, e4, e5⟩ := hy
    obtain ⟨t, h1, h2⟩ := q1.get' e4
    obtain ⟨u, h3, h4⟩ := q2.get' e5
    refine ⟨.tup [t, u], ?_, .inr ⟨t, u, x, y, T, rfl, rfl, e2, e3, h2, h4⟩⟩
    rw [List.getElem?_map, (List.getElem?_zip_eq_some (z := (t, u))).mpr ⟨h1, h3⟩]; rfl
theorem ki_zip (C : KCx X P call G W CX D T0) {a b : Expr} {ea eb : E} {p pos tpos : Pos} {elts : List Expr} {kk : Nat} (hg : Gl X "zip") (hm : X.mg "zip" = none) (ha : PE X a (tE P call G W ea)) (hb : PE X b (tE P call G W eb))
    (hs : starEach [a, b] X.env = (false, eval a X.env) :: starEach [b] X.env := by rfl) (hs2 : starEach [b] X.env = (false, eval b X.env) :: starEach [] X.env := by rfl) (hpl : (backTo pos (starEach [b] X.env)).any (·.1) = false := by rfl) :
    PI X (.Tuple elts kk tpos) (.Call (.Name "zip" p) [a, b] [] pos) (tI P call G W (.zip ea eb)) := by
  refine PIimp (pi_zz hg hm (pa_cons ha (pa_cons hb pa_nil hs2) hs) hs hpl) fun σ H R h => ?_
  obtain ⟨Z, ρ, Hf, lσ, hp, S, L, h⟩ := h
  simp only [evI] at h
  refine go_E S L h fun x h1 ρ1 Hf1 v H1 N1 S1 L1 r1 h => ?_
  refine go_E S1 L1 h fun y h2 ρ2 Hf2 u H2 N2 S2 L2 r2 h => ?_
  split at h
  · rename_i xs ys e1 e2
    obtain ⟨k1, vs, rfl, s1, q1⟩ := walk_src e1 (r1.nx N2)
    obtain ⟨k2, ws, rfl, s2, q2⟩ := walk_src e2 r2
    refine ⟨k1, k2, vs, ws, rfl, by rw [C.hK]; exact Sk.std_ex s1 S2.ex, by rw [C.hK]; exact Sk.std_ex s2 S2.ex, ?_⟩
    rw [C.hK]
    exact h.ret S2 (wr_zz s1 s2 q1 q2)
  · exact h.elim
end
end Kb
end
section
/-! Kb14: obj.f += e, for instances in cells. -/
set_option Elab.async false
set_option linter.all false
set_option maxRecDepth 100000
set_option maxHeartbeats 4000000
set_option autoImplicit false
namespace Kb
open PySem PySem.Spec PyProof.Rows L2
section
variable {X : Cx} {P : Prog} {call : Nat → List T → Hl → R T} {G : Gm} {W : WX} {CX : CXT} {D : Dat} {T0 : Tab} {Wn : Nat}
variable {o e : Expr} {io ie : Kb.E} {x : Str} {f : Nat} {pos pos' : Pos}
theorem ks_augFa (C : KCx X P call G W CX D T0) (hx : G.nm[f]? = some x) (hf : T0.fld[f]? = some true) (ho : PE X o (tE P call G W io)) (he : PE X e (tE P call G W ie)) :
    PS X (.AugAssign (.Attribute o x pos') .Add e pos) (tS P call G W Wn (.augF io f .add ie)) := by
  refine PSimp (ps_fldaug ho he in_add) fun E σ H ⟨En, lσ, hp, ⟨ρ, Hf, A⟩, q⟩ => ?_
  simp only [exS] at q
  refine go_sE A q fun t h1 ρ1 Hf1 u H1 A1 N1 r1 q => ?_
  cases t with
  | rf n =>
    simp only at q
    split at q
    · rename_i c fs hn
      split at q
      · rename_i i hl
        obtain ⟨a, ea, ⟨dx, gs, ha, rF, ok⟩, fa⟩ := A1.S.at hn
        obtain ⟨b, rfl, eb⟩ := B_rf r1
        rw [ea] at eb; cases eb
        obtain ⟨w, l1, l2⟩ := (rF.look C.nm hx).1 _ hl
        obtain rfl := B_int (H := H1) l2.toB
        refine ⟨a, _, dx, gs, .int i, rfl, ha, C.cl c ok, C.na c f x ok hf hx, l1, ?_⟩
        refine go_sE A1 q fun y h2 ρ2 Hf2 v H2 A2 N2 r2 q2 => ?_
        cases y with
        | int j =>
          obtain rfl := B_int r2
          simp only at q2
          split at q2
          · rename_i c' fs' hn2
            split at q2
            · rename_i hc
              obtain ⟨rfl, lt⟩ := hc
              obtain ⟨a', ea', ⟨dx', gs', ha', rF', ok'⟩, fa'⟩ := A2.S.at hn2
              obtain ⟨b2, e1, eb2⟩ := B_rf (r1.nx N2)
              cases e1
              rw [ea'] at eb2; cases eb2
              exact ⟨i, j, rfl, rfl, dx', _, ha', by rw [← rF'.len]; omega, q2 _ _ ⟨ρ2, Hf2, A2.setCell ea' ⟨dx', _, upd_same, RepF.put C.nm hx (.int _) rF', ok'⟩⟩⟩
            · exact False.elim q2
          · exact False.elim q2
        | _ => exact False.elim q2
      · exact False.elim q
    · exact False.elim q
  | _ => exact False.elim q
theorem ks_augFs (C : KCx X P call G W CX D T0) (hx : G.nm[f]? = some x) (hf : T0.fld[f]? = some true) (ho : PE X o (tE P call G W io)) (he : PE X e (tE P call G W ie)) :
    PS X (.AugAssign (.Attribute o x pos') .Sub e pos) (tS P call G W Wn (.augF io f .sub ie)) := by
  refine PSimp (ps_fldaug ho he in_sub) fun E σ H ⟨En, lσ, hp, ⟨ρ, Hf, A⟩, q⟩ => ?_
  simp only [exS] at q
  refine go_sE A q fun t h1 ρ1 Hf1 u H1 A1 N1 r1 q => ?_
  cases t with
  | rf n =>
    simp only at q
    split at q
    · rename_i c fs hn
      split at q
      · rename_i i hl
        obtain ⟨a, ea, ⟨dx, gs, ha, rF, ok⟩, fa⟩ := A1.S.at hn
        obtain ⟨b, rfl, eb⟩ := B_rf r1
        rw [ea] at eb; cases eb
        obtain ⟨w, l1, l2⟩ := (rF.look C.nm hx).1 _ hl
        obtain rfl := B_int (H := H1) l2.toB
        refine ⟨a, _, dx, gs, .int i, rfl, ha, C.cl c ok, C.na c f x ok hf hx, l1, ?_⟩
        refine go_sE A1 q fun y h2 ρ2 Hf2 v H2 A2 N2 r2 q2 => ?_
        cases y with
        | int j =>
          obtain rfl := B_int r2
          simp only at q2
          split at q2
          · rename_i c' fs' hn2
            split at q2
            · rename_i hc
              obtain ⟨rfl, lt⟩ := hc
              obtain ⟨a', ea', ⟨dx', gs', ha', rF', ok'⟩, fa'⟩ := A2.S.at hn2
              obtain ⟨b2, e1, eb2⟩ := B_rf (r1.nx N2)
              cases e1
              rw [ea'] at eb2; cases eb2
              exact ⟨i, j, rfl, rfl, dx', _, ha', by rw [← rF'.len]; omega, q2 _ _ ⟨ρ2, Hf2, A2.setCell ea' ⟨dx', _, upd_same, RepF.put C.nm hx (.int _) rF', ok'⟩⟩⟩
            · exact False.elim q2
          · exact False.elim q2
        | _ => exact False.elim q2
      · exact False.elim q
    · exact False.elim q
  | _ => exact False.elim q
end
end Kb
end
section
namespace K47
open Kb
/-- Share.__init__(self, over, under) slots self, over, under, divisor -/
def b_Shareu__initu_ : B := (B.cons (S.ite (E.cmp .eq (E.var 2) (E.cst (T.int 0))) (B.cons (S.rais 9999 Es.nil) B.nil) B.nil) (B.cons (S.asg 3 (E.bf .gcd (Es.cons (E.var 1) (Es.cons (E.var 2) Es.nil)))) (B.cons (S.ite (E.cmp .lt (E.var 2) (E.cst (T.int 0))) (B.cons (S.asg 3 (E.neg (E.var 3))) B.nil) B.nil) (B.cons (S.setF (E.var 0) 0 (E.bin .fdiv (E.var 1) (E.var 3))) (B.cons (S.setF (E.var 0) 1 (E.bin .fdiv (E.var 2) (E.var 3))) B.nil)))))
/-- Share.__eq__(self, other) slots self, other -/
def b_Shareu__equ_ : B := (B.cons (S.ret (E.and (E.isi (E.var 1) [.cls 3]) (E.and (E.cmp .eq (E.fld (E.var 0) 0) (E.fld (E.var 1) 0)) (E.cmp .eq (E.fld (E.var 0) 1) (E.fld (E.var 1) 1))))) B.nil)
/-- Share.__add__(self, other) slots self, other -/
def b_Shareu__addu_ : B := (B.cons (S.ret (E.new 3 (Es.cons (E.bin .add (E.bin .mul (E.fld (E.var 0) 0) (E.fld (E.var 1) 1)) (E.bin .mul (E.fld (E.var 1) 0) (E.fld (E.var 0) 1))) (Es.cons (E.bin .mul (E.fld (E.var 0) 1) (E.fld (E.var 1) 1)) Es.nil)))) B.nil)
/-- Share.__sub__(self, other) slots self, other -/
def b_Shareu__subu_ : B := (B.cons (S.ret (E.new 3 (Es.cons (E.bin .sub (E.bin .mul (E.fld (E.var 0) 0) (E.fld (E.var 1) 1)) (E.bin .mul (E.fld (E.var 1) 0) (E.fld (E.var 0) 1))) (Es.cons (E.bin .mul (E.fld (E.var 0) 1) (E.fld (E.var 1) 1)) Es.nil)))) B.nil)
/-- Share.__mul__(self, other) slots self, other -/
def b_Shareu__mulu_ : B := (B.cons (S.ret (E.new 3 (Es.cons (E.bin .mul (E.fld (E.var 0) 0) (E.fld (E.var 1) 0)) (Es.cons (E.bin .mul (E.fld (E.var 0) 1) (E.fld (E.var 1) 1)) Es.nil)))) B.nil)
/-- Share.is_below(self, other) slots self, other -/
def b_Share_is_below : B := (B.cons (S.ret (E.cmp .lt (E.bin .mul (E.fld (E.var 0) 0) (E.fld (E.var 1) 1)) (E.bin .mul (E.fld (E.var 1) 0) (E.fld (E.var 0) 1)))) B.nil)
def b_chances_of_L3 : B := (B.cons (S.mb .append (E.var 4) (Es.cons (E.tup (Es.cons (E.meth (E.var 0) 3 (Es.cons (E.var 5) (Es.cons (E.var 7) Es.nil))) (Es.cons (E.bin .mul (E.var 6) (E.meth (E.var 0) 2 (Es.cons (E.var 5) (Es.cons (E.var 7) Es.nil)))) Es.nil))) Es.nil)) B.nil)
def b_chances_of_L2 : B := (B.cons (S.forS [7] (It.e (E.tup (Es.cons (E.cst (T.int 0)) (Es.cons (E.cst (T.int 1)) Es.nil)))) b_chances_of_L3) B.nil)
def b_chances_of_L1 : B := (B.cons (S.own 4 (A.lst Es.nil)) (B.cons (S.forS [5, 6] (It.e (E.var 2)) b_chances_of_L2) (B.cons (S.frz 4) (B.cons (S.asg 2 (E.var 4)) B.nil))))
def b_chances_of_C1 : E := (E.var 6)
/-- chances_of(source, many) slots source, many, found, _, longer, state, chance, bit -/
def b_chances_of : B := (B.cons (S.asg 2 (E.al false (A.lst (Es.cons (E.tup (Es.cons (E.cst (T.int 0)) (Es.cons (E.new 3 (Es.cons (E.cst (T.int 1)) (Es.cons (E.cst (T.int 1)) Es.nil))) Es.nil))) Es.nil)))) (B.cons (S.forS [3] (It.rng1 (E.var 1)) b_chances_of_L1) (B.cons (S.ret (E.al false (A.lc (It.e (E.var 2)) [3, 6] [3, 6] Eo.none b_chances_of_C1))) B.nil)))
/-- greater_of(one, other) slots one, other -/
def b_greater_of : B := (B.cons (S.ret (E.ife (E.meth (E.var 0) 4 (Es.cons (E.var 1) Es.nil)) (E.var 1) (E.var 0))) B.nil)
def b_greatest_chances_C1 : E := (E.bin .mul (E.var 5) (E.var 7))
def b_greatest_chances_C2 : E := (E.call 7 (Es.cons (E.var 8) (Es.cons (E.var 9) Es.nil)))
def b_greatest_chances_L1 : B := (B.cons (S.asg 6 (E.al false (A.lc (It.e (E.call 6 (Es.cons (E.var 4) (Es.cons (E.var 2) Es.nil)))) [7] [7] Eo.none b_greatest_chances_C1))) (B.cons (S.asg 3 (E.ife (E.cmp .is (E.var 3) (E.cst T.non)) (E.var 6) (E.al false (A.lc (It.zip (E.var 3) (E.var 6)) [8, 9] [8, 9] Eo.none b_greatest_chances_C2)))) B.nil))
/-- greatest_chances(sources, factors, many) slots sources, factors, many, found, source, factor, lessened, chance, one, other -/
def b_greatest_chances : B := (B.cons (S.asg 3 (E.cst T.non)) (B.cons (S.forS [4, 5] (It.zip (E.var 0) (E.var 1)) b_greatest_chances_L1) (B.cons (S.ret (E.var 3)) B.nil)))
def b_total_of_L1 : B := (B.cons (S.asg 1 (E.bin .add (E.var 1) (E.var 2))) B.nil)
/-- total_of(shares) slots shares, total, share -/
def b_total_of : B := (B.cons (S.asg 1 (E.new 3 (Es.cons (E.cst (T.int 0)) (Es.cons (E.cst (T.int 1)) Es.nil)))) (B.cons (S.forS [2] (It.e (E.var 0)) b_total_of_L1) (B.cons (S.ret (E.var 1)) B.nil)))
/-- greatest_sum(sources, factors, many) slots sources, factors, many -/
def b_greatest_sum : B := (B.cons (S.ret (E.call 9 (Es.cons (E.call 8 (Es.cons (E.var 0) (Es.cons (E.var 1) (Es.cons (E.var 2) Es.nil)))) Es.nil))) B.nil)
def b_least_loss_C1 : E := (E.new 3 (Es.cons (E.cst (T.int 1)) (Es.cons (E.cst (T.int 1)) Es.nil)))
/-- least_loss(sources, many) slots sources, many, greatest, _ -/
def b_least_loss : B := (B.cons (S.asg 2 (E.call 10 (Es.cons (E.var 0) (Es.cons (E.al false (A.lc (It.e (E.var 0)) [3] [3] Eo.none b_least_loss_C1)) (Es.cons (E.var 1) Es.nil))))) (B.cons (S.ret (E.new 3 (Es.cons (E.fld (E.var 2) 1) (Es.cons (E.fld (E.var 2) 0) Es.nil)))) B.nil))
/-- is_integer(value) slots value -/
def b_is_integer : B := (B.cons (S.ret (E.and (E.isi (E.var 0) [.int]) (E.not (E.isi (E.var 0) [.bool])))) B.nil)
/-- is_number(value) slots value -/
def b_is_number : B := (B.cons (S.ret (E.and (E.call 12 (Es.cons (E.var 0) Es.nil)) (E.cmp .ge (E.var 0) (E.cst (T.int 0))))) B.nil)
/-- is_between(value, least, most) slots value, least, most -/
def b_is_between : B := (B.cons (S.ret (E.and (E.call 12 (Es.cons (E.var 0) Es.nil)) (E.cmp2 .le .le (E.var 1) (E.var 0) (E.var 2)))) B.nil)
/-- is_row(value) slots value -/
def b_is_row : B := (B.cons (S.ret (E.isi (E.var 0) [.tuple, .list])) B.nil)
def b_are_states_L1 : B := (B.cons (S.ite (E.or (E.not (E.call 15 (Es.cons (E.var 1) Es.nil))) (E.or (E.cmp .ne (E.bf .len (Es.cons (E.var 1) Es.nil)) (E.cst (T.int 4))) (E.or (E.not (E.call 13 (Es.cons (E.idx (E.var 1) (E.cst (T.int 0))) Es.nil))) (E.not (E.call 13 (Es.cons (E.idx (E.var 1) (E.cst (T.int 2))) Es.nil)))))) (B.cons (S.ret (E.cst (T.bl false))) B.nil) B.nil) (B.cons (S.ite (E.and (E.cmp .eq (E.idx (E.var 1) (E.cst (T.int 0))) (E.cst (T.int 0))) (E.cmp .eq (E.idx (E.var 1) (E.cst (T.int 2))) (E.cst (T.int 0)))) (B.cons (S.ret (E.cst (T.bl false))) B.nil) B.nil) (B.cons (S.ite (E.or (E.not (E.call 14 (Es.cons (E.idx (E.var 1) (E.cst (T.int 1))) (Es.cons (E.cst (T.int 0)) (Es.cons (E.bin .sub (E.bf .len (Es.cons (E.var 0) Es.nil)) (E.cst (T.int 1))) Es.nil))))) (E.not (E.call 14 (Es.cons (E.idx (E.var 1) (E.cst (T.int 3))) (Es.cons (E.cst (T.int 0)) (Es.cons (E.bin .sub (E.bf .len (Es.cons (E.var 0) Es.nil)) (E.cst (T.int 1))) Es.nil)))))) (B.cons (S.ret (E.cst (T.bl false))) B.nil) B.nil) B.nil)))
/-- are_states(value) slots value, row -/
def b_are_states : B := (B.cons (S.ite (E.or (E.not (E.call 15 (Es.cons (E.var 0) Es.nil))) (E.cmp .eq (E.bf .len (Es.cons (E.var 0) Es.nil)) (E.cst (T.int 0)))) (B.cons (S.ret (E.cst (T.bl false))) B.nil) B.nil) (B.cons (S.forS [1] (It.e (E.var 0)) b_are_states_L1) (B.cons (S.ret (E.cst (T.bl true))) B.nil)))
def b_Sourceu__initu__C1 : E := (E.bf .tuple (Es.cons (E.var 2) Es.nil))
/-- Source.__init__(self, rows) slots self, rows, row -/
def b_Sourceu__initu_ : B := (B.cons (S.ite (E.not (E.call 16 (Es.cons (E.var 1) Es.nil))) (B.cons (S.rais 9999 Es.nil) B.nil) B.nil) (B.cons (S.setF (E.var 0) 5 (E.bf .tuple (Es.cons (E.al false (A.lc (It.e (E.var 1)) [2] [2] Eo.none b_Sourceu__initu__C1)) Es.nil))) B.nil))
/-- Source.chance_in(self, state, bit) slots self, state, bit, row -/
def b_Source_chance_in : B := (B.cons (S.asg 3 (E.idx (E.fld (E.var 0) 5) (E.var 1))) (B.cons (S.ret (E.new 3 (Es.cons (E.idx (E.var 3) (E.bin .mul (E.cst (T.int 2)) (E.var 2))) (Es.cons (E.bin .add (E.idx (E.var 3) (E.cst (T.int 0))) (E.idx (E.var 3) (E.cst (T.int 2)))) Es.nil)))) B.nil))
/-- Source.next_of(self, state, bit) slots self, state, bit -/
def b_Source_next_of : B := (B.cons (S.ret (E.idx (E.idx (E.fld (E.var 0) 5) (E.var 1)) (E.bin .add (E.bin .mul (E.cst (T.int 2)) (E.var 2)) (E.cst (T.int 1))))) B.nil)
def b_Source_chance_L1 : B := (B.cons (S.asg 5 (E.bf .int (Es.cons (E.var 4) Es.nil))) (B.cons (S.asg 2 (E.bin .mul (E.var 2) (E.meth (E.var 0) 2 (Es.cons (E.var 3) (Es.cons (E.var 5) Es.nil))))) (B.cons (S.asg 3 (E.meth (E.var 0) 3 (Es.cons (E.var 3) (Es.cons (E.var 5) Es.nil)))) B.nil)))
/-- Source.chance(self, word) slots self, word, found, state, character, bit -/
def b_Source_chance : B := (B.cons (S.asg 2 (E.new 3 (Es.cons (E.cst (T.int 1)) (Es.cons (E.cst (T.int 1)) Es.nil)))) (B.cons (S.asg 3 (E.cst (T.int 0))) (B.cons (S.forS [4] (It.e (E.var 1)) b_Source_chance_L1) (B.cons (S.ret (E.var 2)) B.nil))))
def b__law_box_C1 : E := (E.bf .int (Es.cons (E.var 1) Es.nil))
/-- _law_box(script) slots script, cell -/
def b__law_box : B := (B.cons (S.ret (E.al true (A.lst (Es.cons (E.al false (A.lc (It.e (E.var 0)) [1] [1] Eo.none b__law_box_C1)) (Es.cons (E.cst (T.int 0)) (Es.cons (E.cst (T.int 0)) (Es.cons (E.cst (T.int 1)) (Es.cons (E.cst (T.int 0)) Es.nil)))))))) B.nil)
/-- _law_draw(box, many) slots box, many, mixed, cell, digit -/
def b__law_draw : B := (B.cons (S.ite (E.and (E.cmp .le (E.idx (E.var 0) (E.cst (T.int 2))) (E.cst (T.int 0))) (E.cmp .lt (E.idx (E.var 0) (E.cst (T.int 1))) (E.bf .len (Es.cons (E.idx (E.var 0) (E.cst (T.int 0))) Es.nil)))) (B.cons (S.asg 3 (E.idx (E.idx (E.var 0) (E.cst (T.int 0))) (E.idx (E.var 0) (E.cst (T.int 1))))) (B.cons (S.setI (E.var 0) (E.cst (T.int 1)) (E.bin .add (E.idx (E.var 0) (E.cst (T.int 1))) (E.cst (T.int 1)))) (B.cons (S.ite (E.cmp .ge (E.var 3) (E.bin .pow (E.cst (T.int 10)) (E.cst (T.int 18)))) (B.cons (S.setI (E.var 0) (E.cst (T.int 2)) (E.var 3)) B.nil) (B.cons (S.setI (E.var 0) (E.cst (T.int 3)) (E.bin .mod (E.bf .int (Es.cons (E.bin .add (E.bin .mul (E.idx (E.var 0) (E.cst (T.int 3))) (E.cst (T.int 8191))) (E.var 3)) Es.nil)) (E.cst (T.int 2147483647)))) B.nil)) B.nil))) B.nil) (B.cons (S.ite (E.cmp .gt (E.idx (E.var 0) (E.cst (T.int 2))) (E.cst (T.int 0))) (B.cons (S.asg 4 (E.bin .mod (E.bf .int (Es.cons (E.idx (E.var 0) (E.cst (T.int 2))) Es.nil)) (E.var 1))) (B.cons (S.setI (E.var 0) (E.cst (T.int 2)) (E.bin .fdiv (E.bf .int (Es.cons (E.idx (E.var 0) (E.cst (T.int 2))) Es.nil)) (E.var 1))) (B.cons (S.ret (E.var 4)) B.nil))) B.nil) (B.cons (S.setI (E.var 0) (E.cst (T.int 4)) (E.bin .add (E.idx (E.var 0) (E.cst (T.int 4))) (E.cst (T.int 1)))) (B.cons (S.asg 2 (E.bin .mod (E.bf .int (Es.cons (E.bin .add (E.bin .mul (E.idx (E.var 0) (E.cst (T.int 3))) (E.cst (T.int 48271))) (E.bin .mul (E.idx (E.var 0) (E.cst (T.int 4))) (E.cst (T.int 69621)))) Es.nil)) (E.cst (T.int 2147483647)))) (B.cons (S.asg 2 (E.bin .mod (E.bf .int (Es.cons (E.bin .add (E.bin .mul (E.bin .fdiv (E.var 2) (E.cst (T.int 7))) (E.cst (T.int 16807))) (E.bin .mul (E.idx (E.var 0) (E.cst (T.int 4))) (E.cst (T.int 40692)))) Es.nil)) (E.cst (T.int 2147483629)))) (B.cons (S.setI (E.var 0) (E.cst (T.int 3)) (E.var 2)) (B.cons (S.ret (E.bin .mod (E.bf .int (Es.cons (E.bin .fdiv (E.var 2) (E.cst (T.int 13))) Es.nil)) (E.var 1))) B.nil)))))))
def b__law_gcd_L1c : E := (E.cmp .gt (E.var 1) (E.cst (T.int 0)))
def b__law_gcd_L1 : B := (B.cons (S.asg 2 (E.bin .mod (E.bf .int (Es.cons (E.var 0) Es.nil)) (E.var 1))) (B.cons (S.asg 0 (E.var 1)) (B.cons (S.asg 1 (E.var 2)) B.nil)))
/-- _law_gcd(one, other) slots one, other, rest -/
def b__law_gcd : B := (B.cons (S.whl b__law_gcd_L1c b__law_gcd_L1) (B.cons (S.ret (E.var 0)) B.nil))
/-- _law_lowest(over, under) slots over, under, common -/
def b__law_lowest : B := (B.cons (S.asg 2 (E.call 23 (Es.cons (E.bf .abs (Es.cons (E.var 0) Es.nil)) (Es.cons (E.var 1) Es.nil)))) (B.cons (S.ret (E.tup (Es.cons (E.bin .fdiv (E.var 0) (E.var 2)) (Es.cons (E.bin .fdiv (E.var 1) (E.var 2)) Es.nil)))) B.nil))
/-- _law_is_integer(value) slots value -/
def b__law_is_integer : B := (B.cons (S.ret (E.and (E.isi (E.var 0) [.int]) (E.not (E.isi (E.var 0) [.bool])))) B.nil)
/-- _law_is_share(value, due) slots value, due -/
def b__law_is_share : B := (B.cons (S.ite (E.or (E.not (E.isi (E.var 0) [.cls 3])) (E.or (E.not (E.call 25 (Es.cons (E.fld (E.var 0) 0) Es.nil))) (E.not (E.call 25 (Es.cons (E.fld (E.var 0) 1) Es.nil))))) (B.cons (S.ret (E.cst (T.bl false))) B.nil) B.nil) (B.cons (S.ret (E.and (E.cmp .eq (E.fld (E.var 0) 0) (E.idx (E.var 1) (E.cst (T.int 0)))) (E.cmp .eq (E.fld (E.var 0) 1) (E.idx (E.var 1) (E.cst (T.int 1)))))) B.nil))
def b__law_quadruples_L1 : B := (B.cons (S.asg 4 (E.idx (E.al false (A.lst (Es.cons (E.cst (T.int 2)) (Es.cons (E.cst (T.int 3)) (Es.cons (E.cst (T.int 11)) (Es.cons (E.cst (T.int 1001)) Es.nil)))))) (E.call 22 (Es.cons (E.var 0) (Es.cons (E.cst (T.int 4)) Es.nil))))) (B.cons (S.own 5 (A.lst (Es.cons (E.call 22 (Es.cons (E.var 0) (Es.cons (E.var 4) Es.nil))) (Es.cons (E.call 22 (Es.cons (E.var 0) (Es.cons (E.var 4) Es.nil))) Es.nil)))) (B.cons (S.ite (E.cmp .eq (E.bin .add (E.idx (E.var 5) (E.cst (T.int 0))) (E.idx (E.var 5) (E.cst (T.int 1)))) (E.cst (T.int 0))) (B.cons (S.setI (E.var 5) (E.call 22 (Es.cons (E.var 0) (Es.cons (E.cst (T.int 2)) Es.nil))) (E.cst (T.int 1))) B.nil) B.nil) (B.cons (S.mb .append (E.var 2) (Es.cons (E.tup (Es.cons (E.idx (E.var 5) (E.cst (T.int 0))) (Es.cons (E.call 22 (Es.cons (E.var 0) (Es.cons (E.var 1) Es.nil))) (Es.cons (E.idx (E.var 5) (E.cst (T.int 1))) (Es.cons (E.call 22 (Es.cons (E.var 0) (Es.cons (E.var 1) Es.nil))) Es.nil))))) Es.nil)) B.nil))))
/-- _law_quadruples(box) slots box, states, rows, k, high, weights -/
def b__law_quadruples : B := (B.cons (S.asg 1 (E.bin .add (E.cst (T.int 1)) (E.call 22 (Es.cons (E.var 0) (Es.cons (E.cst (T.int 4)) Es.nil))))) (B.cons (S.own 2 (A.lst Es.nil)) (B.cons (S.forS [3] (It.rng1 (E.var 1)) b__law_quadruples_L1) (B.cons (S.frz 2) (B.cons (S.ret (E.var 2)) B.nil)))))
/-- _law_factor(box) slots box, kind, under, over -/
def b__law_factor : B := (B.cons (S.asg 1 (E.call 22 (Es.cons (E.var 0) (Es.cons (E.cst (T.int 6)) Es.nil)))) (B.cons (S.ite (E.cmp .lt (E.var 1) (E.cst (T.int 2))) (B.cons (S.ret (E.tup (Es.cons (E.var 1) (Es.cons (E.cst (T.int 1)) Es.nil)))) B.nil) B.nil) (B.cons (S.ite (E.cmp .eq (E.var 1) (E.cst (T.int 2))) (B.cons (S.ret (E.tup (Es.cons (E.cst (T.int 1)) (Es.cons (E.bin .shl (E.cst (T.int 1)) (E.call 22 (Es.cons (E.var 0) (Es.cons (E.cst (T.int 41)) Es.nil)))) Es.nil)))) B.nil) B.nil) (B.cons (S.ite (E.cmp .eq (E.var 1) (E.cst (T.int 3))) (B.cons (S.asg 3 (E.call 22 (Es.cons (E.var 0) (Es.cons (E.bin .pow (E.cst (T.int 10)) (E.cst (T.int 60))) Es.nil)))) (B.cons (S.ret (E.call 24 (Es.cons (E.var 3) (Es.cons (E.bin .add (E.bin .add (E.var 3) (E.cst (T.int 1))) (E.call 22 (Es.cons (E.var 0) (Es.cons (E.bin .pow (E.cst (T.int 10)) (E.cst (T.int 59))) Es.nil)))) Es.nil)))) B.nil)) B.nil) (B.cons (S.asg 2 (E.bin .add (E.cst (T.int 1)) (E.call 22 (Es.cons (E.var 0) (Es.cons (E.cst (T.int 12)) Es.nil))))) (B.cons (S.ret (E.call 24 (Es.cons (E.call 22 (Es.cons (E.var 0) (Es.cons (E.bin .add (E.var 2) (E.cst (T.int 1))) Es.nil))) (Es.cons (E.var 2) Es.nil)))) B.nil))))))
def b__law_level_L2 : B := (B.cons (S.asg 8 (E.idx (E.var 0) (E.var 7))) (B.cons (S.asg 9 (E.bin .add (E.idx (E.var 8) (E.cst (T.int 0))) (E.idx (E.var 8) (E.cst (T.int 2))))) (B.cons (S.mb .append (E.var 4) (Es.cons (E.tup (Es.cons (E.bin .mul (E.var 5) (E.idx (E.var 8) (E.cst (T.int 0)))) (Es.cons (E.bin .mul (E.var 6) (E.var 9)) (Es.cons (E.idx (E.var 8) (E.cst (T.int 1))) Es.nil)))) Es.nil)) (B.cons (S.mb .append (E.var 4) (Es.cons (E.tup (Es.cons (E.bin .mul (E.var 5) (E.idx (E.var 8) (E.cst (T.int 2)))) (Es.cons (E.bin .mul (E.var 6) (E.var 9)) (Es.cons (E.idx (E.var 8) (E.cst (T.int 3))) Es.nil)))) Es.nil)) B.nil))))
def b__law_level_L1 : B := (B.cons (S.own 4 (A.lst Es.nil)) (B.cons (S.forS [5, 6, 7] (It.e (E.var 2)) b__law_level_L2) (B.cons (S.frz 4) (B.cons (S.asg 2 (E.var 4)) B.nil))))
/-- _law_level(rows, many) slots rows, many, level, k, below, over, under, state, row, total -/
def b__law_level : B := (B.cons (S.asg 2 (E.al false (A.lst (Es.cons (E.tup (Es.cons (E.cst (T.int 1)) (Es.cons (E.cst (T.int 1)) (Es.cons (E.cst (T.int 0)) Es.nil)))) Es.nil)))) (B.cons (S.forS [3] (It.rng1 (E.var 1)) b__law_level_L1) (B.cons (S.ret (E.var 2)) B.nil)))
def b__law_common_L3 : B := (B.cons (S.asg 3 (E.bin .mul (E.var 3) (E.bin .add (E.idx (E.var 6) (E.cst (T.int 0))) (E.idx (E.var 6) (E.cst (T.int 2)))))) B.nil)
def b__law_common_L2 : B := (B.cons (S.forS [7] (It.rng1 (E.var 2)) b__law_common_L3) B.nil)
def b__law_common_L1 : B := (B.cons (S.forS [6] (It.e (E.var 4)) b__law_common_L2) B.nil)
def b__law_common_L4 : B := (B.cons (S.asg 3 (E.bin .mul (E.var 3) (E.idx (E.var 5) (E.cst (T.int 1))))) B.nil)
/-- _law_common(tables, factors, many) slots tables, factors, many, common, rows, factor, row, k -/
def b__law_common : B := (B.cons (S.asg 3 (E.cst (T.int 1))) (B.cons (S.forS [4] (It.e (E.var 0)) b__law_common_L1) (B.cons (S.forS [5] (It.e (E.var 1)) b__law_common_L4) (B.cons (S.ret (E.var 3)) B.nil))))
def b__law_sum_C1 : E := (E.call 29 (Es.cons (E.var 9) (Es.cons (E.var 2) Es.nil)))
def b__law_sum_L2 : B := (B.cons (S.asgT [10, 11, 12] (E.idx (E.idx (E.var 3) (E.var 8)) (E.var 6))) (B.cons (S.asg 7 (E.bf .max2 (Es.cons (E.var 7) (Es.cons (E.bin .mul (E.bin .mul (E.var 10) (E.idx (E.idx (E.var 1) (E.var 8)) (E.cst (T.int 0)))) (E.bin .fdiv (E.var 4) (E.bin .mul (E.var 11) (E.idx (E.idx (E.var 1) (E.var 8)) (E.cst (T.int 1)))))) Es.nil)))) B.nil))
def b__law_sum_L1 : B := (B.cons (S.asg 7 (E.cst (T.int 0))) (B.cons (S.forS [8] (It.rng1 (E.bf .len (Es.cons (E.var 3) Es.nil))) b__law_sum_L2) (B.cons (S.asg 5 (E.bin .add (E.var 5) (E.var 7))) B.nil)))
/-- _law_sum(tables, factors, many) slots tables, factors, many, levels, common, total, at, best, k, rows, over, under, state -/
def b__law_sum : B := (B.cons (S.asg 3 (E.al false (A.lc (It.e (E.var 0)) [9] [9] Eo.none b__law_sum_C1))) (B.cons (S.asg 4 (E.call 30 (Es.cons (E.var 0) (Es.cons (E.var 1) (Es.cons (E.var 2) Es.nil))))) (B.cons (S.asg 5 (E.cst (T.int 0))) (B.cons (S.forS [6] (It.rng1 (E.bin .shl (E.cst (T.int 1)) (E.var 2))) b__law_sum_L1) (B.cons (S.ret (E.call 24 (Es.cons (E.var 5) (Es.cons (E.var 4) Es.nil)))) B.nil)))))
def b__law_sum_holds_C1 : E := (E.new 3 (Es.cons (E.idx (E.var 8) (E.cst (T.int 0))) (Es.cons (E.idx (E.var 8) (E.cst (T.int 1))) Es.nil)))
def b__law_sum_holds_C2 : E := (E.call 26 (Es.cons (E.idx (E.var 5) (E.var 9)) (Es.cons (E.idx (E.var 2) (E.var 9)) Es.nil)))
/-- _law_sum_holds(box, sources, factors, many, due) slots box, sources, factors, many, due, passed, kind, told, factor, k -/
def b__law_sum_holds : B := (B.cons (S.asg 5 (E.al false (A.lc (It.e (E.var 2)) [8] [8] Eo.none b__law_sum_holds_C1))) (B.cons (S.asg 6 (E.call 22 (Es.cons (E.var 0) (Es.cons (E.cst (T.int 3)) Es.nil)))) (B.cons (S.ite (E.cmp .eq (E.var 6) (E.cst (T.int 0))) (B.cons (S.asg 7 (E.call 10 (Es.cons (E.bf .tuple (Es.cons (E.var 1) Es.nil)) (Es.cons (E.bf .tuple (Es.cons (E.var 5) Es.nil)) (Es.cons (E.var 3) Es.nil))))) B.nil) (B.cons (S.ite (E.cmp .eq (E.var 6) (E.cst (T.int 1))) (B.cons (S.asg 7 (E.call 10 (Es.cons (E.var 1) (Es.cons (E.var 5) (Es.cons (E.var 3) Es.nil))))) B.nil) (B.cons (S.asg 7 (E.callK 10 Es.nil (Es.cons (E.var 3) (Es.cons (E.var 5) (Es.cons (E.var 1) Es.nil))) [.inl 2, .inl 1, .inl 0])) B.nil)) B.nil)) (B.cons (S.ite (E.or (E.cmp .ne (E.bf .len (Es.cons (E.var 5) Es.nil)) (E.bf .len (Es.cons (E.var 2) Es.nil))) (E.not (E.bf .all (Es.cons (E.al false (A.lc (It.rng1 (E.bf .len (Es.cons (E.var 2) Es.nil))) [9] [9] Eo.none b__law_sum_holds_C2)) Es.nil)))) (B.cons (S.ret (E.cst (T.bl false))) B.nil) B.nil) (B.cons (S.ret (E.call 26 (Es.cons (E.var 7) (Es.cons (E.var 4) Es.nil)))) B.nil)))))
/-- _law_loss_holds(box, sources, many, due) slots box, sources, many, due, kind, told -/
def b__law_loss_holds : B := (B.cons (S.asg 4 (E.call 22 (Es.cons (E.var 0) (Es.cons (E.cst (T.int 3)) Es.nil)))) (B.cons (S.ite (E.cmp .eq (E.var 4) (E.cst (T.int 0))) (B.cons (S.asg 5 (E.call 11 (Es.cons (E.bf .tuple (Es.cons (E.var 1) Es.nil)) (Es.cons (E.var 2) Es.nil)))) B.nil) (B.cons (S.ite (E.cmp .eq (E.var 4) (E.cst (T.int 1))) (B.cons (S.asg 5 (E.call 11 (Es.cons (E.var 1) (Es.cons (E.var 2) Es.nil)))) B.nil) (B.cons (S.asg 5 (E.callK 11 Es.nil (Es.cons (E.var 2) (Es.cons (E.var 1) Es.nil)) [.inl 1, .inl 0])) B.nil)) B.nil)) (B.cons (S.ret (E.call 26 (Es.cons (E.var 5) (Es.cons (E.tup (Es.cons (E.idx (E.var 3) (E.cst (T.int 1))) (Es.cons (E.idx (E.var 3) (E.cst (T.int 0))) Es.nil))) Es.nil)))) B.nil)))
def b__law_losses_C1 : E := (E.call 27 (Es.cons (E.var 0) Es.nil))
def b__law_losses_C2 : E := (E.new 4 (Es.cons (E.var 10) Es.nil))
def b__law_losses_C3 : E := (E.call 28 (Es.cons (E.var 0) Es.nil))
def b__law_losses_C4 : E := (E.tup (Es.cons (E.cst (T.int 1)) (Es.cons (E.cst (T.int 1)) Es.nil)))
/-- _law_losses(box) slots box, tables, sources, factors, many, ones, due, whole, less, k, rows -/
def b__law_losses : B := (B.cons (S.asg 1 (E.al false (A.lc (It.rng1 (E.bin .add (E.cst (T.int 1)) (E.call 22 (Es.cons (E.var 0) (Es.cons (E.cst (T.int 4)) Es.nil))))) [9] [9] Eo.none b__law_losses_C1))) (B.cons (S.asg 2 (E.al false (A.lc (It.e (E.var 1)) [10] [10] Eo.none b__law_losses_C2))) (B.cons (S.asg 3 (E.al false (A.lc (It.e (E.var 1)) [10] [10] Eo.none b__law_losses_C3))) (B.cons (S.asg 4 (E.idx (E.al false (A.lst (Es.cons (E.cst (T.int 0)) (Es.cons (E.cst (T.int 1)) (Es.cons (E.cst (T.int 2)) (Es.cons (E.cst (T.int 3)) (Es.cons (E.cst (T.int 4)) Es.nil))))))) (E.call 22 (Es.cons (E.var 0) (Es.cons (E.cst (T.int 5)) Es.nil))))) (B.cons (S.ite (E.cmp .eq (E.call 22 (Es.cons (E.var 0) (Es.cons (E.cst (T.int 32)) Es.nil))) (E.cst (T.int 0))) (B.cons (S.asg 4 (E.cst (T.int 8))) B.nil) B.nil) (B.cons (S.asg 5 (E.al false (A.lc (It.e (E.var 1)) [10] [10] Eo.none b__law_losses_C4))) (B.cons (S.asg 6 (E.call 31 (Es.cons (E.var 1) (Es.cons (E.var 3) (Es.cons (E.var 4) Es.nil))))) (B.cons (S.asg 7 (E.call 31 (Es.cons (E.var 1) (Es.cons (E.var 5) (Es.cons (E.var 4) Es.nil))))) (B.cons (S.ite (E.or (E.not (E.call 32 (Es.cons (E.var 0) (Es.cons (E.var 2) (Es.cons (E.var 3) (Es.cons (E.var 4) (Es.cons (E.var 6) Es.nil))))))) (E.not (E.call 33 (Es.cons (E.var 0) (Es.cons (E.var 2) (Es.cons (E.var 4) (Es.cons (E.var 7) Es.nil))))))) (B.cons (S.ret (E.cst (T.bl false))) B.nil) B.nil) (B.cons (S.asg 8 (E.call 22 (Es.cons (E.var 0) (Es.cons (E.bin .add (E.var 4) (E.cst (T.int 1))) Es.nil)))) (B.cons (S.ite (E.not (E.call 33 (Es.cons (E.var 0) (Es.cons (E.var 2) (Es.cons (E.var 8) (Es.cons (E.call 31 (Es.cons (E.var 1) (Es.cons (E.var 5) (Es.cons (E.var 8) Es.nil)))) Es.nil)))))) (B.cons (S.ret (E.cst (T.bl false))) B.nil) B.nil) (B.cons (S.ite (E.or (E.not (E.call 32 (Es.cons (E.var 0) (Es.cons (E.var 2) (Es.cons (E.var 5) (Es.cons (E.var 4) (Es.cons (E.var 7) Es.nil))))))) (E.not (E.call 32 (Es.cons (E.var 0) (Es.cons (E.var 2) (Es.cons (E.var 3) (Es.cons (E.var 4) (Es.cons (E.var 6) Es.nil)))))))) (B.cons (S.ret (E.cst (T.bl false))) B.nil) B.nil) (B.cons (S.ret (E.and (E.cmp .eq (E.bf .len (Es.cons (E.var 2) Es.nil)) (E.bf .len (Es.cons (E.var 1) Es.nil))) (E.call 33 (Es.cons (E.var 0) (Es.cons (E.var 2) (Es.cons (E.var 4) (Es.cons (E.var 7) Es.nil))))))) B.nil)))))))))))))
/-- law(script) slots script -/
def b_law : B := (B.cons (S.tryN (B.cons (S.ret (E.call 34 (Es.cons (E.call 21 (Es.cons (E.var 0) Es.nil)) Es.nil))) B.nil)) B.nil)
def prog : Prog where
  defs := [⟨3, 4, b_Shareu__initu_⟩,
    ⟨2, 2, b_Shareu__equ_⟩,
    ⟨2, 2, b_Shareu__addu_⟩,
    ⟨2, 2, b_Shareu__subu_⟩,
    ⟨2, 2, b_Shareu__mulu_⟩,
    ⟨2, 2, b_Share_is_below⟩,
    ⟨2, 8, b_chances_of⟩,
    ⟨2, 2, b_greater_of⟩,
    ⟨3, 10, b_greatest_chances⟩,
    ⟨1, 3, b_total_of⟩,
    ⟨3, 3, b_greatest_sum⟩,
    ⟨2, 4, b_least_loss⟩,
    ⟨1, 1, b_is_integer⟩,
    ⟨1, 1, b_is_number⟩,
    ⟨3, 3, b_is_between⟩,
    ⟨1, 1, b_is_row⟩,
    ⟨1, 2, b_are_states⟩,
    ⟨2, 3, b_Sourceu__initu_⟩,
    ⟨3, 4, b_Source_chance_in⟩,
    ⟨3, 3, b_Source_next_of⟩,
    ⟨2, 6, b_Source_chance⟩,
    ⟨1, 2, b__law_box⟩,
    ⟨2, 5, b__law_draw⟩,
    ⟨2, 3, b__law_gcd⟩,
    ⟨2, 3, b__law_lowest⟩,
    ⟨1, 1, b__law_is_integer⟩,
    ⟨2, 2, b__law_is_share⟩,
    ⟨1, 6, b__law_quadruples⟩,
    ⟨1, 4, b__law_factor⟩,
    ⟨2, 10, b__law_level⟩,
    ⟨3, 8, b__law_common⟩,
    ⟨3, 13, b__law_sum⟩,
    ⟨5, 10, b__law_sum_holds⟩,
    ⟨4, 6, b__law_loss_holds⟩,
    ⟨1, 11, b__law_losses⟩,
    ⟨1, 1, b_law⟩]
  cls := [⟨2, none, [], [], []⟩,
    ⟨2, none, [], [6], [0]⟩,
    ⟨2, none, [], [7], [0]⟩,
    ⟨1, (some 0), [(8, 1), (9, 2), (10, 3), (11, 4), (4, 5)], [], []⟩,
    ⟨1, (some 17), [(2, 18), (3, 19)], [], []⟩]
  globs := []
  mAdd := 9
  mSub := 10
  mMul := 11
  mEq := 8
/- names: 0 over, 1 under, 2 chance_in, 3 next_of, 4 is_below, 5 states, 6 number, 7 rows, 8 __eq__, 9 __add__, 10 __sub__, 11 __mul__ -/
/- classes: 0 BudgetError, 1 InvalidNumber, 2 InvalidRows, 3 Share, 4 Source -/
/- defs: 0 Share.__init__, 1 Share.__eq__, 2 Share.__add__, 3 Share.__sub__, 4 Share.__mul__, 5 Share.is_below, 6 chances_of, 7 greater_of, 8 greatest_chances, 9 total_of, 10 greatest_sum, 11 least_loss, 12 is_integer, 13 is_number, 14 is_between, 15 is_row, 16 are_states, 17 Source.__init__, 18 Source.chance_in, 19 Source.next_of, 20 Source.chance, 21 _law_box, 22 _law_draw, 23 _law_gcd, 24 _law_lowest, 25 _law_is_integer, 26 _law_is_share, 27 _law_quadruples, 28 _law_factor, 29 _law_level, 30 _law_common, 31 _law_sum, 32 _law_sum_holds, 33 _law_loss_holds, 34 _law_losses, 35 law -/
end K47
end
section
set_option Elab.async false
set_option linter.all false
set_option maxRecDepth 100000
set_option maxHeartbeats 4000000
set_option autoImplicit false
namespace K47
open Kb PySem PySem.Spec PyProof.Rows L2
def top (i : Nat) : Stmt := PySem.Challenge.pw_keptbudgets_k47_greatest_sums.main.body.getD i (.Pass ⟨0, 0, 0, 0⟩)
def nmL : List Str := ["over", "under", "chance_in", "next_of", "is_below", "states", "number", "rows", "__eq__", "__add__", "__sub__", "__mul__"]
def tab : Tab := ⟨(none :: none :: none :: none :: none :: none :: some "chances_of" :: some "greater_of" :: some "greatest_chances" :: some "total_of" :: some "greatest_sum" :: some "least_loss" :: some "is_integer" :: some "is_number" :: some "is_between" :: some "is_row" :: some "are_states" :: none :: none :: none :: none :: some "_law_box" :: some "_law_draw" :: some "_law_gcd" :: some "_law_lowest" :: some "_law_is_integer" :: some "_law_is_share" :: some "_law_quadruples" :: some "_law_factor" :: some "_law_level" :: some "_law_common" :: some "_law_sum" :: some "_law_sum_holds" :: some "_law_loss_holds" :: some "_law_losses" :: some "law" :: []), [none, none, none, some "Share", some "Source"], [true, true, false, false, false, true, true, true, false, false, false, false]⟩
def ini : List (Option Nat) := (some 3 :: none :: none :: none :: none :: none :: none :: none :: none :: none :: none :: none :: none :: none :: none :: none :: none :: some 4 :: none :: none :: none :: none :: none :: none :: none :: none :: none :: none :: none :: none :: none :: none :: none :: none :: none :: none :: [])
def cokB : Nat → Bool := fun c => [3, 4].contains c
abbrev gm (K : PySem.W.Frag) (ca : Nat → Addr) : Gm := ⟨K, ca, nmL, fun c => cokB c = true⟩
abbrev okf (f : Nat) : Prop := [0, 1, 2, 3, 4, 5, 6, 7, 8, 9, 10, 11, 12, 13, 14, 15, 16, 17, 18, 19, 21, 22, 23, 24, 25, 26, 27, 28, 29, 30, 31, 32, 33, 34, 35].contains f = true
abbrev s_0 : Stmt := inClass (top 6) 0
abbrev s_1 : Stmt := inClass (top 6) 1
abbrev s_2 : Stmt := inClass (top 6) 2
abbrev s_3 : Stmt := inClass (top 6) 3
abbrev s_4 : Stmt := inClass (top 6) 4
abbrev s_5 : Stmt := inClass (top 6) 5
abbrev s_6 : Stmt := top 8
abbrev s_7 : Stmt := top 9
abbrev s_8 : Stmt := top 10
abbrev s_9 : Stmt := top 11
abbrev s_10 : Stmt := top 12
abbrev s_11 : Stmt := top 13
abbrev s_12 : Stmt := top 15
abbrev s_13 : Stmt := top 16
abbrev s_14 : Stmt := top 17
abbrev s_15 : Stmt := top 18
abbrev s_16 : Stmt := top 20
abbrev s_17 : Stmt := inClass (top 21) 0
abbrev s_18 : Stmt := inClass (top 21) 1
abbrev s_19 : Stmt := inClass (top 21) 2
abbrev s_21 : Stmt := top 23
abbrev s_22 : Stmt := top 24
abbrev s_23 : Stmt := top 25
abbrev s_24 : Stmt := top 26
abbrev s_25 : Stmt := top 27
abbrev s_26 : Stmt := top 28
abbrev s_27 : Stmt := top 29
abbrev s_28 : Stmt := top 30
abbrev s_29 : Stmt := top 31
abbrev s_30 : Stmt := top 32
abbrev s_31 : Stmt := top 33
abbrev s_32 : Stmt := top 34
abbrev s_33 : Stmt := top 35
abbrev s_34 : Stmt := top 36
abbrev s_35 : Stmt := top 37
structure Txt (K : PySem.W.Frag) (mg : Str → Option Value) (ca : Nat → Addr) (D : Dat) : Prop where
  z_abs : mg "abs" = none
  z_all : mg "all" = none
  z_bool : mg "bool" = none
  z_int : mg "int" = none
  z_isinstance : mg "isinstance" = none
  z_len : mg "len" = none
  z_list : mg "list" = none
  z_max : mg "max" = none
  z_range : mg "range" = none
  z_tuple : mg "tuple" = none
  z_zip : mg "zip" = none
  g_gcd : mg "gcd" = some (.builtin "math.gcd")
  c_Share : mg "Share" = some (.ref (ca 3))
  c_Source : mg "Source" = some (.ref (ca 4))
  kb_0 : KBn K (D.fd 10) (D.ps 10) 0 (["many", "factors", "sources"] : List Str) (fun us ws => arrW (us ++ ws) ([.inl 2, .inl 1, .inl 0] : List (Nat ⊕ T))) (fun vs zs => arrV (vs ++ zs) ([.inl 2, .inl 1, .inl 0] : List (Nat ⊕ T)))
  kb_1 : KBn K (D.fd 11) (D.ps 11) 0 (["many", "sources"] : List Str) (fun us ws => arrW (us ++ ws) ([.inl 1, .inl 0] : List (Nat ⊕ T))) (fun vs zs => arrV (vs ++ zs) ([.inl 1, .inl 0] : List (Nat ⊕ T)))
theorem opnm {K : PySem.W.Frag} {ca : Nat → Addr} : OpNm prog (gm K ca) := ⟨fun h => by first | rfl | exact absurd h (by decide), fun h => by first | rfl | exact absurd h (by decide), fun h => by first | rfl | exact absurd h (by decide), fun h => by first | rfl | exact absurd h (by decide), fun c k h m hm => by
  have hk : k ∈ prog.cls := List.mem_of_getElem? h
  have all : ∀ k ∈ prog.cls, ∀ p ∈ k.meths, p.1 < 1000 := by decide
  have key : ∀ l : List (Nat × Nat), (∀ p ∈ l, p.1 < 1000) → lkN m l = none := fun l => by
    induction l with
    | nil => exact fun _ => rfl
    | cons p l ih =>
      intro hp
      have h1 := hp p List.mem_cons_self
      show (if p.1 = m then some p.2 else lkN m l) = none
      rw [if_neg (by omega)]
      exact ih fun q hq => hp q (List.mem_cons_of_mem _ hq)
  exact key _ (all k hk)⟩
section
variable {Pg : Program} {w : World} {K : PySem.W.Frag} {mg : Str → Option Value} {base : Heap} {ca : Nat → Addr} {D : Dat} {Wn d : Nat}
theorem w_0 (Tx : Txt K mg ca D) (fa : Addr) (cdv : Value) (A : Around) (outer : List Env) (s : Shared) (H : L2.Hp) (E : XK) (C : KCx (cxOf CX0 Pg w K mg base (["self", "over", "under", "divisor"] : List Str) "Share.__init__" (defScope s_0) fa cdv A outer s H E).nox prog (run prog Wn d) (gm K ca) WF CX0 (lvD D d) tab) :
    PSs (cxOf CX0 Pg w K mg base (["self", "over", "under", "divisor"] : List Str) "Share.__init__" (defScope s_0) fa cdv A outer s H E).nox (defBody s_0) (tB prog (run prog Wn d) (gm K ca) WF Wn b_Shareu__initu_) :=
  (kb_cons (ks_if (kt_cmp C opnm (k_var (by rfl) (by rfl)) k_int) (kb_cons kp_raise kb_nil) kb_nil) (kb_cons (ks_asg C (by rfl) (by rfl) (k_bfun call_gcdT (by rfl) Tx.g_gcd (ka_cons (k_var (by rfl) (by rfl)) (ka_cons (k_var (by rfl) (by rfl)) ka_nil)))) (kb_cons (ks_if (kt_cmp C opnm (k_var (by rfl) (by rfl)) k_int) (kb_cons (ks_asg C (by rfl) (by rfl) (k_neg (k_var (by rfl) (by rfl)))) kb_nil) kb_nil) (kb_cons (ks_setFv C (by rfl) (by rfl) (by rfl) (by rfl) (k_bin C opnm (k_var (by rfl) (by rfl)) (k_var (by rfl) (by rfl)))) (kb_cons (ks_setFv C (by rfl) (by rfl) (by rfl) (by rfl) (k_bin C opnm (k_var (by rfl) (by rfl)) (k_var (by rfl) (by rfl)))) kb_nil)))))
theorem w_1 (Tx : Txt K mg ca D) (fa : Addr) (cdv : Value) (A : Around) (outer : List Env) (s : Shared) (H : L2.Hp) (E : XK) (C : KCx (cxOf CX0 Pg w K mg base (["self", "other"] : List Str) "Share.__eq__" (defScope s_1) fa cdv A outer s H E).nox prog (run prog Wn d) (gm K ca) WF CX0 (lvD D d) tab) :
    PSs (cxOf CX0 Pg w K mg base (["self", "other"] : List Str) "Share.__eq__" (defScope s_1) fa cdv A outer s H E).nox (defBody s_1) (tB prog (run prog Wn d) (gm K ca) WF Wn b_Shareu__equ_) :=
  (kb_cons (ks_ret (k_and C (k_isi1 C (by rfl) Tx.z_isinstance (k_var (by rfl) (by rfl)) (.cls (by rfl) Tx.c_Share (by rfl) .nil)) (k_and C (k_cmp C opnm (k_fld C (k_var (by rfl) (by rfl)) (by rfl) (by rfl)) (k_fld C (k_var (by rfl) (by rfl)) (by rfl) (by rfl))) (k_one (k_cmp C opnm (k_fld C (k_var (by rfl) (by rfl)) (by rfl) (by rfl)) (k_fld C (k_var (by rfl) (by rfl)) (by rfl) (by rfl))))))) kb_nil)
theorem w_2 (Tx : Txt K mg ca D) (fa : Addr) (cdv : Value) (A : Around) (outer : List Env) (s : Shared) (H : L2.Hp) (E : XK) (C : KCx (cxOf CX0 Pg w K mg base (["self", "other"] : List Str) "Share.__add__" (defScope s_2) fa cdv A outer s H E).nox prog (run prog Wn d) (gm K ca) WF CX0 (lvD D d) tab) :
    PSs (cxOf CX0 Pg w K mg base (["self", "other"] : List Str) "Share.__add__" (defScope s_2) fa cdv A outer s H E).nox (defBody s_2) (tB prog (run prog Wn d) (gm K ca) WF Wn b_Shareu__addu_) :=
  (kb_cons (ks_ret (k_new1 C (by rfl) (by rfl) (by rfl) (by rfl) (ka_cons (k_bin C opnm (k_bin C opnm (k_fld C (k_var (by rfl) (by rfl)) (by rfl) (by rfl)) (k_fld C (k_var (by rfl) (by rfl)) (by rfl) (by rfl))) (k_bin C opnm (k_fld C (k_var (by rfl) (by rfl)) (by rfl) (by rfl)) (k_fld C (k_var (by rfl) (by rfl)) (by rfl) (by rfl)))) (ka_cons (k_bin C opnm (k_fld C (k_var (by rfl) (by rfl)) (by rfl) (by rfl)) (k_fld C (k_var (by rfl) (by rfl)) (by rfl) (by rfl))) ka_nil)))) kb_nil)
theorem w_3 (Tx : Txt K mg ca D) (fa : Addr) (cdv : Value) (A : Around) (outer : List Env) (s : Shared) (H : L2.Hp) (E : XK) (C : KCx (cxOf CX0 Pg w K mg base (["self", "other"] : List Str) "Share.__sub__" (defScope s_3) fa cdv A outer s H E).nox prog (run prog Wn d) (gm K ca) WF CX0 (lvD D d) tab) :
    PSs (cxOf CX0 Pg w K mg base (["self", "other"] : List Str) "Share.__sub__" (defScope s_3) fa cdv A outer s H E).nox (defBody s_3) (tB prog (run prog Wn d) (gm K ca) WF Wn b_Shareu__subu_) :=
  (kb_cons (ks_ret (k_new1 C (by rfl) (by rfl) (by rfl) (by rfl) (ka_cons (k_bin C opnm (k_bin C opnm (k_fld C (k_var (by rfl) (by rfl)) (by rfl) (by rfl)) (k_fld C (k_var (by rfl) (by rfl)) (by rfl) (by rfl))) (k_bin C opnm (k_fld C (k_var (by rfl) (by rfl)) (by rfl) (by rfl)) (k_fld C (k_var (by rfl) (by rfl)) (by rfl) (by rfl)))) (ka_cons (k_bin C opnm (k_fld C (k_var (by rfl) (by rfl)) (by rfl) (by rfl)) (k_fld C (k_var (by rfl) (by rfl)) (by rfl) (by rfl))) ka_nil)))) kb_nil)
theorem w_4 (Tx : Txt K mg ca D) (fa : Addr) (cdv : Value) (A : Around) (outer : List Env) (s : Shared) (H : L2.Hp) (E : XK) (C : KCx (cxOf CX0 Pg w K mg base (["self", "other"] : List Str) "Share.__mul__" (defScope s_4) fa cdv A outer s H E).nox prog (run prog Wn d) (gm K ca) WF CX0 (lvD D d) tab) :
    PSs (cxOf CX0 Pg w K mg base (["self", "other"] : List Str) "Share.__mul__" (defScope s_4) fa cdv A outer s H E).nox (defBody s_4) (tB prog (run prog Wn d) (gm K ca) WF Wn b_Shareu__mulu_) :=
  (kb_cons (ks_ret (k_new1 C (by rfl) (by rfl) (by rfl) (by rfl) (ka_cons (k_bin C opnm (k_fld C (k_var (by rfl) (by rfl)) (by rfl) (by rfl)) (k_fld C (k_var (by rfl) (by rfl)) (by rfl) (by rfl))) (ka_cons (k_bin C opnm (k_fld C (k_var (by rfl) (by rfl)) (by rfl) (by rfl)) (k_fld C (k_var (by rfl) (by rfl)) (by rfl) (by rfl))) ka_nil)))) kb_nil)
theorem w_5 (Tx : Txt K mg ca D) (fa : Addr) (cdv : Value) (A : Around) (outer : List Env) (s : Shared) (H : L2.Hp) (E : XK) (C : KCx (cxOf CX0 Pg w K mg base (["self", "other"] : List Str) "Share.is_below" (defScope s_5) fa cdv A outer s H E).nox prog (run prog Wn d) (gm K ca) WF CX0 (lvD D d) tab) :
    PSs (cxOf CX0 Pg w K mg base (["self", "other"] : List Str) "Share.is_below" (defScope s_5) fa cdv A outer s H E).nox (defBody s_5) (tB prog (run prog Wn d) (gm K ca) WF Wn b_Share_is_below) :=
  (kb_cons (ks_ret (k_cmp C opnm (k_bin C opnm (k_fld C (k_var (by rfl) (by rfl)) (by rfl) (by rfl)) (k_fld C (k_var (by rfl) (by rfl)) (by rfl) (by rfl))) (k_bin C opnm (k_fld C (k_var (by rfl) (by rfl)) (by rfl) (by rfl)) (k_fld C (k_var (by rfl) (by rfl)) (by rfl) (by rfl))))) kb_nil)
theorem w_6 (Tx : Txt K mg ca D) (fa : Addr) (cdv : Value) (A : Around) (outer : List Env) (s : Shared) (H : L2.Hp) (E : XK) (C : KCx (cxOf CX0 Pg w K mg base (["source", "many", "found", "_", "longer", "state", "chance", "bit"] : List Str) "chances_of" (defScope s_6) fa cdv A outer s H E).nox prog (run prog Wn d) (gm K ca) WF CX0 (lvD D d) tab) :
    PSs (cxOf CX0 Pg w K mg base (["source", "many", "found", "_", "longer", "state", "chance", "bit"] : List Str) "chances_of" (defScope s_6) fa cdv A outer s H E).nox (defBody s_6) (tB prog (run prog Wn d) (gm K ca) WF Wn b_chances_of) :=
  (kb_cons (ks_asg C (by rfl) (by rfl) (k_al0 (ka_lst (ka_cons (k_tup (ka_cons k_int (ka_cons (k_new1 C (by rfl) (by rfl) (by rfl) (by rfl) (ka_cons k_int (ka_cons k_int ka_nil))) ka_nil))) ka_nil)))) (kb_cons (ks_for C (ki_rng1 (by rfl) Tx.z_range (k_var (by rfl) (by rfl))) (kg_name (G := gm K ca) C.nN (by rfl) (by rfl)) (kb_cons (ks_own C (by rfl) (by rfl) (ka_lst ka_nil)) (kb_cons (ks_for C (ki_e C (k_var (by rfl) (by rfl))) (kg_tup C.hK C.calm (kgs_cons (G := gm K ca) (kg_name (G := gm K ca) C.nN (by rfl) (by rfl)) (kgs_cons (G := gm K ca) (kg_name (G := gm K ca) C.nN (by rfl) (by rfl)) kgs_nil))) (kb_cons (ks_for C (ki_e C (k_tup (ka_cons k_int (ka_cons k_int ka_nil)))) (kg_name (G := gm K ca) C.nN (by rfl) (by rfl)) (kb_cons (ks_mbv C (by rfl) (by rfl) (mc_1 (b := .append) PySem.F.slot_list_append PySem.F.type_list_append (ka_cons (k_tup (ka_cons (k_meth C (by rfl) (k_var (by rfl) (by rfl)) (ka_cons (k_var (by rfl) (by rfl)) (ka_cons (k_var (by rfl) (by rfl)) ka_nil))) (ka_cons (k_bin C opnm (k_var (by rfl) (by rfl)) (k_meth C (by rfl) (k_var (by rfl) (by rfl)) (ka_cons (k_var (by rfl) (by rfl)) (ka_cons (k_var (by rfl) (by rfl)) ka_nil)))) ka_nil))) ka_nil)) hA_id) kb_nil)) kb_nil)) (kb_frz (kb_cons (ks_asg C (by rfl) (by rfl) (k_var (by rfl) (by rfl))) kb_nil))))) (kb_cons (ks_ret (k_al0 (kp_lc C [("_", 3), ("chance", 6)] (ki_e C (k_var (by rfl) (by rfl))) ⟨fun s H Cc cl fp C => (kg_tup C.hK C.calm (kgs_cons (G := gm K ca) (kg_name (G := gm K ca) C.nN (by rfl) (by rfl)) (kgs_cons (G := gm K ca) (kg_name (G := gm K ca) C.nN (by rfl) (by rfl)) kgs_nil))), fun s H Cc cl fp C => kc_none, fun s H Cc cl fp C => (k_var (by rfl) (by rfl))⟩))) kb_nil)))
theorem w_7 (Tx : Txt K mg ca D) (fa : Addr) (cdv : Value) (A : Around) (outer : List Env) (s : Shared) (H : L2.Hp) (E : XK) (C : KCx (cxOf CX0 Pg w K mg base (["one", "other"] : List Str) "greater_of" (defScope s_7) fa cdv A outer s H E).nox prog (run prog Wn d) (gm K ca) WF CX0 (lvD D d) tab) :
    PSs (cxOf CX0 Pg w K mg base (["one", "other"] : List Str) "greater_of" (defScope s_7) fa cdv A outer s H E).nox (defBody s_7) (tB prog (run prog Wn d) (gm K ca) WF Wn b_greater_of) :=
  (kb_cons (ks_ret (k_ife (kt_val C (k_meth C (by rfl) (k_var (by rfl) (by rfl)) (ka_cons (k_var (by rfl) (by rfl)) ka_nil))) (k_var (by rfl) (by rfl)) (k_var (by rfl) (by rfl)))) kb_nil)
theorem w_8 (Tx : Txt K mg ca D) (fa : Addr) (cdv : Value) (A : Around) (outer : List Env) (s : Shared) (H : L2.Hp) (E : XK) (C : KCx (cxOf CX0 Pg w K mg base (["sources", "factors", "many", "found", "source", "factor", "lessened", "chance", "one", "other"] : List Str) "greatest_chances" (defScope s_8) fa cdv A outer s H E).nox prog (run prog Wn d) (gm K ca) WF CX0 (lvD D d) tab) :
    PSs (cxOf CX0 Pg w K mg base (["sources", "factors", "many", "found", "source", "factor", "lessened", "chance", "one", "other"] : List Str) "greatest_chances" (defScope s_8) fa cdv A outer s H E).nox (defBody s_8) (tB prog (run prog Wn d) (gm K ca) WF Wn b_greatest_chances) :=
  (kb_cons (ks_asg C (by rfl) (by rfl) k_non) (kb_cons (ks_for C (ki_zip C (by rfl) Tx.z_zip (k_var (by rfl) (by rfl)) (k_var (by rfl) (by rfl))) (kg_tup C.hK C.calm (kgs_cons (G := gm K ca) (kg_name (G := gm K ca) C.nN (by rfl) (by rfl)) (kgs_cons (G := gm K ca) (kg_nameC (G := gm K ca) C.nN (by rfl) (.inr (by rfl)) (.inl (by rfl))) kgs_nil))) (kb_cons (kp_lc0 C [("chance", 7)] (by rfl) (by rfl) (ki_e C (k_call C (by rfl) (by rfl) (ka_cons (k_var (by rfl) (by rfl)) (ka_cons (k_var (by rfl) (by rfl)) ka_nil)))) ⟨fun s H Cc cl fp C => (kg_name (G := gm K ca) C.nN (by rfl) (by rfl)), fun s H Cc cl fp C => kc_none, fun s H Cc cl fp C => (k_bin C opnm (k_var (by rfl) (by rfl)) (k_var (by rfl) (by rfl)))⟩) (kb_cons (ks_asg C (by rfl) (by rfl) (k_ife (kt_cmp C opnm (k_var (by rfl) (by rfl)) k_non) (k_var (by rfl) (by rfl)) (k_al0 (kp_lc C [("one", 8), ("other", 9)] (ki_zip C (by rfl) Tx.z_zip (k_var (by rfl) (by rfl)) (k_var (by rfl) (by rfl))) ⟨fun s H Cc cl fp C => (kg_tup C.hK C.calm (kgs_cons (G := gm K ca) (kg_name (G := gm K ca) C.nN (by rfl) (by rfl)) (kgs_cons (G := gm K ca) (kg_name (G := gm K ca) C.nN (by rfl) (by rfl)) kgs_nil))), fun s H Cc cl fp C => kc_none, fun s H Cc cl fp C => (k_call C (by rfl) (by rfl) (ka_cons (k_var (by rfl) (by rfl)) (ka_cons (k_var (by rfl) (by rfl)) ka_nil)))⟩)))) kb_nil))) (kb_cons (ks_ret (k_var (by rfl) (by rfl))) kb_nil)))
theorem w_9 (Tx : Txt K mg ca D) (fa : Addr) (cdv : Value) (A : Around) (outer : List Env) (s : Shared) (H : L2.Hp) (E : XK) (C : KCx (cxOf CX0 Pg w K mg base (["shares", "total", "share"] : List Str) "total_of" (defScope s_9) fa cdv A outer s H E).nox prog (run prog Wn d) (gm K ca) WF CX0 (lvD D d) tab) :
    PSs (cxOf CX0 Pg w K mg base (["shares", "total", "share"] : List Str) "total_of" (defScope s_9) fa cdv A outer s H E).nox (defBody s_9) (tB prog (run prog Wn d) (gm K ca) WF Wn b_total_of) :=
  (kb_cons (ks_asg C (by rfl) (by rfl) (k_new1 C (by rfl) (by rfl) (by rfl) (by rfl) (ka_cons k_int (ka_cons k_int ka_nil)))) (kb_cons (ks_for C (ki_e C (k_var (by rfl) (by rfl))) (kg_name (G := gm K ca) C.nN (by rfl) (by rfl)) (kb_cons (ks_asg C (by rfl) (by rfl) (k_bin C opnm (k_var (by rfl) (by rfl)) (k_var (by rfl) (by rfl)))) kb_nil)) (kb_cons (ks_ret (k_var (by rfl) (by rfl))) kb_nil)))
theorem w_10 (Tx : Txt K mg ca D) (fa : Addr) (cdv : Value) (A : Around) (outer : List Env) (s : Shared) (H : L2.Hp) (E : XK) (C : KCx (cxOf CX0 Pg w K mg base (["sources", "factors", "many"] : List Str) "greatest_sum" (defScope s_10) fa cdv A outer s H E).nox prog (run prog Wn d) (gm K ca) WF CX0 (lvD D d) tab) :
    PSs (cxOf CX0 Pg w K mg base (["sources", "factors", "many"] : List Str) "greatest_sum" (defScope s_10) fa cdv A outer s H E).nox (defBody s_10) (tB prog (run prog Wn d) (gm K ca) WF Wn b_greatest_sum) :=
  (kb_cons (ks_ret (k_call C (by rfl) (by rfl) (ka_cons (k_call C (by rfl) (by rfl) (ka_cons (k_var (by rfl) (by rfl)) (ka_cons (k_var (by rfl) (by rfl)) (ka_cons (k_var (by rfl) (by rfl)) ka_nil)))) ka_nil))) kb_nil)
theorem w_11 (Tx : Txt K mg ca D) (fa : Addr) (cdv : Value) (A : Around) (outer : List Env) (s : Shared) (H : L2.Hp) (E : XK) (C : KCx (cxOf CX0 Pg w K mg base (["sources", "many", "greatest", "_"] : List Str) "least_loss" (defScope s_11) fa cdv A outer s H E).nox prog (run prog Wn d) (gm K ca) WF CX0 (lvD D d) tab) :
    PSs (cxOf CX0 Pg w K mg base (["sources", "many", "greatest", "_"] : List Str) "least_loss" (defScope s_11) fa cdv A outer s H E).nox (defBody s_11) (tB prog (run prog Wn d) (gm K ca) WF Wn b_least_loss) :=
  (kb_cons (ks_asg C (by rfl) (by rfl) (k_call C (by rfl) (by rfl) (ka_cons (k_var (by rfl) (by rfl)) (ka_cons (k_al0 (kp_lc C [("_", 3)] (ki_e C (k_var (by rfl) (by rfl))) ⟨fun s H Cc cl fp C => (kg_name (G := gm K ca) C.nN (by rfl) (by rfl)), fun s H Cc cl fp C => kc_none, fun s H Cc cl fp C => (k_new1 C (by rfl) (by rfl) (by rfl) (by rfl) (ka_cons k_int (ka_cons k_int ka_nil)))⟩)) (ka_cons (k_var (by rfl) (by rfl)) ka_nil))))) (kb_cons (ks_ret (k_new1 C (by rfl) (by rfl) (by rfl) (by rfl) (ka_cons (k_fld C (k_var (by rfl) (by rfl)) (by rfl) (by rfl)) (ka_cons (k_fld C (k_var (by rfl) (by rfl)) (by rfl) (by rfl)) ka_nil)))) kb_nil))
theorem w_12 (Tx : Txt K mg ca D) (fa : Addr) (cdv : Value) (A : Around) (outer : List Env) (s : Shared) (H : L2.Hp) (E : XK) (C : KCx (cxOf CX0 Pg w K mg base (["value"] : List Str) "is_integer" (defScope s_12) fa cdv A outer s H E).nox prog (run prog Wn d) (gm K ca) WF CX0 (lvD D d) tab) :
    PSs (cxOf CX0 Pg w K mg base (["value"] : List Str) "is_integer" (defScope s_12) fa cdv A outer s H E).nox (defBody s_12) (tB prog (run prog Wn d) (gm K ca) WF Wn b_is_integer) :=
  (kb_cons (ks_ret (k_and C (k_isi1 C (by rfl) Tx.z_isinstance (k_var (by rfl) (by rfl)) (.ty (by rfl) (by rfl) Tx.z_int (by rfl) .nil)) (k_one (k_not C (k_isi1 C (by rfl) Tx.z_isinstance (k_var (by rfl) (by rfl)) (.ty (by rfl) (by rfl) Tx.z_bool (by rfl) .nil)))))) kb_nil)
theorem w_13 (Tx : Txt K mg ca D) (fa : Addr) (cdv : Value) (A : Around) (outer : List Env) (s : Shared) (H : L2.Hp) (E : XK) (C : KCx (cxOf CX0 Pg w K mg base (["value"] : List Str) "is_number" (defScope s_13) fa cdv A outer s H E).nox prog (run prog Wn d) (gm K ca) WF CX0 (lvD D d) tab) :
    PSs (cxOf CX0 Pg w K mg base (["value"] : List Str) "is_number" (defScope s_13) fa cdv A outer s H E).nox (defBody s_13) (tB prog (run prog Wn d) (gm K ca) WF Wn b_is_number) :=
  (kb_cons (ks_ret (k_and C (k_call C (by rfl) (by rfl) (ka_cons (k_var (by rfl) (by rfl)) ka_nil)) (k_one (k_cmp C opnm (k_var (by rfl) (by rfl)) k_int)))) kb_nil)
theorem w_14 (Tx : Txt K mg ca D) (fa : Addr) (cdv : Value) (A : Around) (outer : List Env) (s : Shared) (H : L2.Hp) (E : XK) (C : KCx (cxOf CX0 Pg w K mg base (["value", "least", "most"] : List Str) "is_between" (defScope s_14) fa cdv A outer s H E).nox prog (run prog Wn d) (gm K ca) WF CX0 (lvD D d) tab) :
    PSs (cxOf CX0 Pg w K mg base (["value", "least", "most"] : List Str) "is_between" (defScope s_14) fa cdv A outer s H E).nox (defBody s_14) (tB prog (run prog Wn d) (gm K ca) WF Wn b_is_between) :=
  (kb_cons (ks_ret (k_and C (k_call C (by rfl) (by rfl) (ka_cons (k_var (by rfl) (by rfl)) ka_nil)) (k_one (k_cmp2 C (k_var (by rfl) (by rfl)) (k_var (by rfl) (by rfl)) (k_var (by rfl) (by rfl)))))) kb_nil)
theorem w_15 (Tx : Txt K mg ca D) (fa : Addr) (cdv : Value) (A : Around) (outer : List Env) (s : Shared) (H : L2.Hp) (E : XK) (C : KCx (cxOf CX0 Pg w K mg base (["value"] : List Str) "is_row" (defScope s_15) fa cdv A outer s H E).nox prog (run prog Wn d) (gm K ca) WF CX0 (lvD D d) tab) :
    PSs (cxOf CX0 Pg w K mg base (["value"] : List Str) "is_row" (defScope s_15) fa cdv A outer s H E).nox (defBody s_15) (tB prog (run prog Wn d) (gm K ca) WF Wn b_is_row) :=
  (kb_cons (ks_ret (k_isiT C (by rfl) Tx.z_isinstance (k_var (by rfl) (by rfl)) (.ty (by rfl) (by rfl) Tx.z_tuple (by rfl) (.ty (by rfl) (by rfl) Tx.z_list (by rfl) .nil)) (by decide))) kb_nil)
theorem w_16 (Tx : Txt K mg ca D) (fa : Addr) (cdv : Value) (A : Around) (outer : List Env) (s : Shared) (H : L2.Hp) (E : XK) (C : KCx (cxOf CX0 Pg w K mg base (["value", "row"] : List Str) "are_states" (defScope s_16) fa cdv A outer s H E).nox prog (run prog Wn d) (gm K ca) WF CX0 (lvD D d) tab) :
    PSs (cxOf CX0 Pg w K mg base (["value", "row"] : List Str) "are_states" (defScope s_16) fa cdv A outer s H E).nox (defBody s_16) (tB prog (run prog Wn d) (gm K ca) WF Wn b_are_states) :=
  (kb_cons (ks_if (PW.pt (kw_or (kt_not (kt_val C (k_call C (by rfl) (by rfl) (ka_cons (k_var (by rfl) (by rfl)) ka_nil)))) (kw_or1 (kt_cmp C opnm (k_bf (call_lenT C.hK) (by rfl) Tx.z_len (by rfl) (ka_cons (k_var (by rfl) (by rfl)) ka_nil)) k_int)))) (kb_cons (ks_ret k_bl) kb_nil) kb_nil) (kb_cons (ks_for C (ki_e C (k_var (by rfl) (by rfl))) (kg_name (G := gm K ca) C.nN (by rfl) (by rfl)) (kb_cons (ks_if (PW.pt (kw_or (kt_not (kt_val C (k_call C (by rfl) (by rfl) (ka_cons (k_var (by rfl) (by rfl)) ka_nil)))) (kw_or (kt_cmp C opnm (k_bf (call_lenT C.hK) (by rfl) Tx.z_len (by rfl) (ka_cons (k_var (by rfl) (by rfl)) ka_nil)) k_int) (kw_or (kt_not (kt_val C (k_call C (by rfl) (by rfl) (ka_cons (k_idx C (k_var (by rfl) (by rfl)) k_int) ka_nil)))) (kw_or1 (kt_not (kt_val C (k_call C (by rfl) (by rfl) (ka_cons (k_idx C (k_var (by rfl) (by rfl)) k_int) ka_nil))))))))) (kb_cons (ks_ret k_bl) kb_nil) kb_nil) (kb_cons (ks_if (PW.pt (kw_and (kt_cmp C opnm (k_idx C (k_var (by rfl) (by rfl)) k_int) k_int) (kw_and1 (kt_cmp C opnm (k_idx C (k_var (by rfl) (by rfl)) k_int) k_int)))) (kb_cons (ks_ret k_bl) kb_nil) kb_nil) (kb_cons (ks_if (PW.pt (kw_or (kt_not (kt_val C (k_call C (by rfl) (by rfl) (ka_cons (k_idx C (k_var (by rfl) (by rfl)) k_int) (ka_cons k_int (ka_cons (k_bin C opnm (k_bf (call_lenT C.hK) (by rfl) Tx.z_len (by rfl) (ka_cons (k_var (by rfl) (by rfl)) ka_nil)) k_int) ka_nil)))))) (kw_or1 (kt_not (kt_val C (k_call C (by rfl) (by rfl) (ka_cons (k_idx C (k_var (by rfl) (by rfl)) k_int) (ka_cons k_int (ka_cons (k_bin C opnm (k_bf (call_lenT C.hK) (by rfl) Tx.z_len (by rfl) (ka_cons (k_var (by rfl) (by rfl)) ka_nil)) k_int) ka_nil))))))))) (kb_cons (ks_ret k_bl) kb_nil) kb_nil) kb_nil)))) (kb_cons (ks_ret k_bl) kb_nil)))
theorem w_17 (Tx : Txt K mg ca D) (fa : Addr) (cdv : Value) (A : Around) (outer : List Env) (s : Shared) (H : L2.Hp) (E : XK) (C : KCx (cxOf CX0 Pg w K mg base (["self", "rows", "row"] : List Str) "Source.__init__" (defScope s_17) fa cdv A outer s H E).nox prog (run prog Wn d) (gm K ca) WF CX0 (lvD D d) tab) :
    PSs (cxOf CX0 Pg w K mg base (["self", "rows", "row"] : List Str) "Source.__init__" (defScope s_17) fa cdv A outer s H E).nox (defBody s_17) (tB prog (run prog Wn d) (gm K ca) WF Wn b_Sourceu__initu_) :=
  (kb_cons (ks_if (kt_not (kt_val C (k_call C (by rfl) (by rfl) (ka_cons (k_var (by rfl) (by rfl)) ka_nil)))) (kb_cons kp_raise kb_nil) kb_nil) (kb_cons (ks_setFv C (by rfl) (by rfl) (by rfl) (by rfl) (k_bty (call_tupT C.hK) (by rfl) Tx.z_tuple (by rfl) (ka_cons (k_al0 (kp_lc C [("row", 2)] (ki_e C (k_var (by rfl) (by rfl))) ⟨fun s H Cc cl fp C => (kg_name (G := gm K ca) C.nN (by rfl) (by rfl)), fun s H Cc cl fp C => kc_none, fun s H Cc cl fp C => (k_bty (call_tupT C.hK) (by rfl) Tx.z_tuple (by rfl) (ka_cons (k_var (by rfl) (by rfl)) ka_nil))⟩)) ka_nil))) kb_nil))
theorem w_18 (Tx : Txt K mg ca D) (fa : Addr) (cdv : Value) (A : Around) (outer : List Env) (s : Shared) (H : L2.Hp) (E : XK) (C : KCx (cxOf CX0 Pg w K mg base (["self", "state", "bit", "row"] : List Str) "Source.chance_in" (defScope s_18) fa cdv A outer s H E).nox prog (run prog Wn d) (gm K ca) WF CX0 (lvD D d) tab) :
    PSs (cxOf CX0 Pg w K mg base (["self", "state", "bit", "row"] : List Str) "Source.chance_in" (defScope s_18) fa cdv A outer s H E).nox (defBody s_18) (tB prog (run prog Wn d) (gm K ca) WF Wn b_Source_chance_in) :=
  (kb_cons (ks_asg C (by rfl) (by rfl) (k_idx C (k_fld C (k_var (by rfl) (by rfl)) (by rfl) (by rfl)) (k_var (by rfl) (by rfl)))) (kb_cons (ks_ret (k_new1 C (by rfl) (by rfl) (by rfl) (by rfl) (ka_cons (k_idx C (k_var (by rfl) (by rfl)) (k_bin C opnm k_int (k_var (by rfl) (by rfl)))) (ka_cons (k_bin C opnm (k_idx C (k_var (by rfl) (by rfl)) k_int) (k_idx C (k_var (by rfl) (by rfl)) k_int)) ka_nil)))) kb_nil))
theorem w_19 (Tx : Txt K mg ca D) (fa : Addr) (cdv : Value) (A : Around) (outer : List Env) (s : Shared) (H : L2.Hp) (E : XK) (C : KCx (cxOf CX0 Pg w K mg base (["self", "state", "bit"] : List Str) "Source.next_of" (defScope s_19) fa cdv A outer s H E).nox prog (run prog Wn d) (gm K ca) WF CX0 (lvD D d) tab) :
    PSs (cxOf CX0 Pg w K mg base (["self", "state", "bit"] : List Str) "Source.next_of" (defScope s_19) fa cdv A outer s H E).nox (defBody s_19) (tB prog (run prog Wn d) (gm K ca) WF Wn b_Source_next_of) :=
  (kb_cons (ks_ret (k_idx C (k_idx C (k_fld C (k_var (by rfl) (by rfl)) (by rfl) (by rfl)) (k_var (by rfl) (by rfl))) (k_bin C opnm (k_bin C opnm k_int (k_var (by rfl) (by rfl))) k_int))) kb_nil)
theorem w_21 (Tx : Txt K mg ca D) (fa : Addr) (cdv : Value) (A : Around) (outer : List Env) (s : Shared) (H : L2.Hp) (E : XK) (C : KCx (cxOf CX0 Pg w K mg base (["script", "cell"] : List Str) "_law_box" (defScope s_21) fa cdv A outer s H E).nox prog (run prog Wn d) (gm K ca) WF CX0 (lvD D d) tab) :
    PSs (cxOf CX0 Pg w K mg base (["script", "cell"] : List Str) "_law_box" (defScope s_21) fa cdv A outer s H E).nox (defBody s_21) (tB prog (run prog Wn d) (gm K ca) WF Wn b__law_box) :=
  (kb_cons (ks_ret (k_al1 (ka_lst (ka_cons (k_al0 (kp_lc C [("cell", 1)] (ki_e C (k_var (by rfl) (by rfl))) ⟨fun s H Cc cl fp C => (kg_name (G := gm K ca) C.nN (by rfl) (by rfl)), fun s H Cc cl fp C => kc_none, fun s H Cc cl fp C => (k_bty call_intT (by rfl) Tx.z_int (by rfl) (ka_cons (k_var (by rfl) (by rfl)) ka_nil))⟩)) (ka_cons k_int (ka_cons k_int (ka_cons k_int (ka_cons k_int ka_nil)))))))) kb_nil)
theorem w_22 (Tx : Txt K mg ca D) (fa : Addr) (cdv : Value) (A : Around) (outer : List Env) (s : Shared) (H : L2.Hp) (E : XK) (C : KCx (cxOf CX0 Pg w K mg base (["box", "many", "mixed", "cell", "digit"] : List Str) "_law_draw" (defScope s_22) fa cdv A outer s H E).nox prog (run prog Wn d) (gm K ca) WF CX0 (lvD D d) tab) :
    PSs (cxOf CX0 Pg w K mg base (["box", "many", "mixed", "cell", "digit"] : List Str) "_law_draw" (defScope s_22) fa cdv A outer s H E).nox (defBody s_22) (tB prog (run prog Wn d) (gm K ca) WF Wn b__law_draw) :=
  (kb_cons (ks_if (PW.pt (kw_and (kt_cmp C opnm (k_idx C (k_var (by rfl) (by rfl)) k_int) k_int) (kw_and1 (kt_cmp C opnm (k_idx C (k_var (by rfl) (by rfl)) k_int) (k_bf (call_lenT C.hK) (by rfl) Tx.z_len (by rfl) (ka_cons (k_idx C (k_var (by rfl) (by rfl)) k_int) ka_nil)))))) (kb_cons (ks_asg C (by rfl) (by rfl) (k_idx C (k_idx C (k_var (by rfl) (by rfl)) k_int) (k_idx C (k_var (by rfl) (by rfl)) k_int))) (kb_cons (ks_setIv C (by rfl) (by rfl) k_int (k_bin C opnm (k_idx C (k_var (by rfl) (by rfl)) k_int) k_int)) (kb_cons (ks_if (kt_cmp C opnm (k_var (by rfl) (by rfl)) (k_bin C opnm k_int k_int)) (kb_cons (ks_setIv C (by rfl) (by rfl) k_int (k_var (by rfl) (by rfl))) kb_nil) (kb_cons (ks_setIv C (by rfl) (by rfl) k_int (k_bin C opnm (k_bty call_intT (by rfl) Tx.z_int (by rfl) (ka_cons (k_bin C opnm (k_bin C opnm (k_idx C (k_var (by rfl) (by rfl)) k_int) k_int) (k_var (by rfl) (by rfl))) ka_nil)) k_int)) kb_nil)) kb_nil))) kb_nil) (kb_cons (ks_if (kt_cmp C opnm (k_idx C (k_var (by rfl) (by rfl)) k_int) k_int) (kb_cons (ks_asg C (by rfl) (by rfl) (k_bin C opnm (k_bty call_intT (by rfl) Tx.z_int (by rfl) (ka_cons (k_idx C (k_var (by rfl) (by rfl)) k_int) ka_nil)) (k_var (by rfl) (by rfl)))) (kb_cons (ks_setIv C (by rfl) (by rfl) k_int (k_bin C opnm (k_bty call_intT (by rfl) Tx.z_int (by rfl) (ka_cons (k_idx C (k_var (by rfl) (by rfl)) k_int) ka_nil)) (k_var (by rfl) (by rfl)))) (kb_cons (ks_ret (k_var (by rfl) (by rfl))) kb_nil))) kb_nil) (kb_cons (ks_setIv C (by rfl) (by rfl) k_int (k_bin C opnm (k_idx C (k_var (by rfl) (by rfl)) k_int) k_int)) (kb_cons (ks_asg C (by rfl) (by rfl) (k_bin C opnm (k_bty call_intT (by rfl) Tx.z_int (by rfl) (ka_cons (k_bin C opnm (k_bin C opnm (k_idx C (k_var (by rfl) (by rfl)) k_int) k_int) (k_bin C opnm (k_idx C (k_var (by rfl) (by rfl)) k_int) k_int)) ka_nil)) k_int)) (kb_cons (ks_asg C (by rfl) (by rfl) (k_bin C opnm (k_bty call_intT (by rfl) Tx.z_int (by rfl) (ka_cons (k_bin C opnm (k_bin C opnm (k_bin C opnm (k_var (by rfl) (by rfl)) k_int) k_int) (k_bin C opnm (k_idx C (k_var (by rfl) (by rfl)) k_int) k_int)) ka_nil)) k_int)) (kb_cons (ks_setIv C (by rfl) (by rfl) k_int (k_var (by rfl) (by rfl))) (kb_cons (ks_ret (k_bin C opnm (k_bty call_intT (by rfl) Tx.z_int (by rfl) (ka_cons (k_bin C opnm (k_var (by rfl) (by rfl)) k_int) ka_nil)) (k_var (by rfl) (by rfl)))) kb_nil)))))))
theorem w_23 (Tx : Txt K mg ca D) (fa : Addr) (cdv : Value) (A : Around) (outer : List Env) (s : Shared) (H : L2.Hp) (E : XK) (C : KCx (cxOf CX0 Pg w K mg base (["one", "other", "rest"] : List Str) "_law_gcd" (defScope s_23) fa cdv A outer s H E).nox prog (run prog Wn d) (gm K ca) WF CX0 (lvD D d) tab) :
    PSs (cxOf CX0 Pg w K mg base (["one", "other", "rest"] : List Str) "_law_gcd" (defScope s_23) fa cdv A outer s H E).nox (defBody s_23) (tB prog (run prog Wn d) (gm K ca) WF Wn b__law_gcd) :=
  (kb_cons (ks_while C (kt_cmp C opnm (k_var (by rfl) (by rfl)) k_int) (kb_cons (ks_asg C (by rfl) (by rfl) (k_bin C opnm (k_bty call_intT (by rfl) Tx.z_int (by rfl) (ka_cons (k_var (by rfl) (by rfl)) ka_nil)) (k_var (by rfl) (by rfl)))) (kb_cons (ks_asg C (by rfl) (by rfl) (k_var (by rfl) (by rfl))) (kb_cons (ks_asg C (by rfl) (by rfl) (k_var (by rfl) (by rfl))) kb_nil)))) (kb_cons (ks_ret (k_var (by rfl) (by rfl))) kb_nil))
theorem w_24 (Tx : Txt K mg ca D) (fa : Addr) (cdv : Value) (A : Around) (outer : List Env) (s : Shared) (H : L2.Hp) (E : XK) (C : KCx (cxOf CX0 Pg w K mg base (["over", "under", "common"] : List Str) "_law_lowest" (defScope s_24) fa cdv A outer s H E).nox prog (run prog Wn d) (gm K ca) WF CX0 (lvD D d) tab) :
    PSs (cxOf CX0 Pg w K mg base (["over", "under", "common"] : List Str) "_law_lowest" (defScope s_24) fa cdv A outer s H E).nox (defBody s_24) (tB prog (run prog Wn d) (gm K ca) WF Wn b__law_lowest) :=
  (kb_cons (ks_asg C (by rfl) (by rfl) (k_call C (by rfl) (by rfl) (ka_cons (k_bf call_absT (by rfl) Tx.z_abs (by rfl) (ka_cons (k_var (by rfl) (by rfl)) ka_nil)) (ka_cons (k_var (by rfl) (by rfl)) ka_nil)))) (kb_cons (ks_ret (k_tup (ka_cons (k_bin C opnm (k_var (by rfl) (by rfl)) (k_var (by rfl) (by rfl))) (ka_cons (k_bin C opnm (k_var (by rfl) (by rfl)) (k_var (by rfl) (by rfl))) ka_nil)))) kb_nil))
theorem w_25 (Tx : Txt K mg ca D) (fa : Addr) (cdv : Value) (A : Around) (outer : List Env) (s : Shared) (H : L2.Hp) (E : XK) (C : KCx (cxOf CX0 Pg w K mg base (["value"] : List Str) "_law_is_integer" (defScope s_25) fa cdv A outer s H E).nox prog (run prog Wn d) (gm K ca) WF CX0 (lvD D d) tab) :
    PSs (cxOf CX0 Pg w K mg base (["value"] : List Str) "_law_is_integer" (defScope s_25) fa cdv A outer s H E).nox (defBody s_25) (tB prog (run prog Wn d) (gm K ca) WF Wn b__law_is_integer) :=
  (kb_cons (ks_ret (k_and C (k_isi1 C (by rfl) Tx.z_isinstance (k_var (by rfl) (by rfl)) (.ty (by rfl) (by rfl) Tx.z_int (by rfl) .nil)) (k_one (k_not C (k_isi1 C (by rfl) Tx.z_isinstance (k_var (by rfl) (by rfl)) (.ty (by rfl) (by rfl) Tx.z_bool (by rfl) .nil)))))) kb_nil)
theorem w_26 (Tx : Txt K mg ca D) (fa : Addr) (cdv : Value) (A : Around) (outer : List Env) (s : Shared) (H : L2.Hp) (E : XK) (C : KCx (cxOf CX0 Pg w K mg base (["value", "due"] : List Str) "_law_is_share" (defScope s_26) fa cdv A outer s H E).nox prog (run prog Wn d) (gm K ca) WF CX0 (lvD D d) tab) :
    PSs (cxOf CX0 Pg w K mg base (["value", "due"] : List Str) "_law_is_share" (defScope s_26) fa cdv A outer s H E).nox (defBody s_26) (tB prog (run prog Wn d) (gm K ca) WF Wn b__law_is_share) :=
  (kb_cons (ks_if (PW.pt (kw_or (kt_not (kt_val C (k_isi1 C (by rfl) Tx.z_isinstance (k_var (by rfl) (by rfl)) (.cls (by rfl) Tx.c_Share (by rfl) .nil)))) (kw_or (kt_not (kt_val C (k_call C (by rfl) (by rfl) (ka_cons (k_fld C (k_var (by rfl) (by rfl)) (by rfl) (by rfl)) ka_nil)))) (kw_or1 (kt_not (kt_val C (k_call C (by rfl) (by rfl) (ka_cons (k_fld C (k_var (by rfl) (by rfl)) (by rfl) (by rfl)) ka_nil)))))))) (kb_cons (ks_ret k_bl) kb_nil) kb_nil) (kb_cons (ks_ret (k_and C (k_cmp C opnm (k_fld C (k_var (by rfl) (by rfl)) (by rfl) (by rfl)) (k_idx C (k_var (by rfl) (by rfl)) k_int)) (k_one (k_cmp C opnm (k_fld C (k_var (by rfl) (by rfl)) (by rfl) (by rfl)) (k_idx C (k_var (by rfl) (by rfl)) k_int))))) kb_nil))
theorem w_27 (Tx : Txt K mg ca D) (fa : Addr) (cdv : Value) (A : Around) (outer : List Env) (s : Shared) (H : L2.Hp) (E : XK) (C : KCx (cxOf CX0 Pg w K mg base (["box", "states", "rows", "k", "high", "weights"] : List Str) "_law_quadruples" (defScope s_27) fa cdv A outer s H E).nox prog (run prog Wn d) (gm K ca) WF CX0 (lvD D d) tab) :
    PSs (cxOf CX0 Pg w K mg base (["box", "states", "rows", "k", "high", "weights"] : List Str) "_law_quadruples" (defScope s_27) fa cdv A outer s H E).nox (defBody s_27) (tB prog (run prog Wn d) (gm K ca) WF Wn b__law_quadruples) :=
  (kb_cons (ks_asg C (by rfl) (by rfl) (k_bin C opnm k_int (k_call C (by rfl) (by rfl) (ka_cons (k_var (by rfl) (by rfl)) (ka_cons k_int ka_nil))))) (kb_cons (ks_own C (by rfl) (by rfl) (ka_lst ka_nil)) (kb_cons (ks_for C (ki_rng1 (by rfl) Tx.z_range (k_var (by rfl) (by rfl))) (kg_name (G := gm K ca) C.nN (by rfl) (by rfl)) (kb_cons (ks_asg C (by rfl) (by rfl) (k_idx C (k_al0 (ka_lst (ka_cons k_int (ka_cons k_int (ka_cons k_int (ka_cons k_int ka_nil)))))) (k_call C (by rfl) (by rfl) (ka_cons (k_var (by rfl) (by rfl)) (ka_cons k_int ka_nil))))) (kb_cons (ks_own C (by rfl) (by rfl) (ka_lst (ka_cons (k_call C (by rfl) (by rfl) (ka_cons (k_var (by rfl) (by rfl)) (ka_cons (k_var (by rfl) (by rfl)) ka_nil))) (ka_cons (k_call C (by rfl) (by rfl) (ka_cons (k_var (by rfl) (by rfl)) (ka_cons (k_var (by rfl) (by rfl)) ka_nil))) ka_nil)))) (kb_cons (ks_if (kt_cmp C opnm (k_bin C opnm (k_idx C (k_var (by rfl) (by rfl)) k_int) (k_idx C (k_var (by rfl) (by rfl)) k_int)) k_int) (kb_cons (ks_setIv C (by rfl) (by rfl) (k_call C (by rfl) (by rfl) (ka_cons (k_var (by rfl) (by rfl)) (ka_cons k_int ka_nil))) k_int) kb_nil) kb_nil) (kb_cons (ks_mbv C (by rfl) (by rfl) (mc_1 (b := .append) PySem.F.slot_list_append PySem.F.type_list_append (ka_cons (k_tup (ka_cons (k_idx C (k_var (by rfl) (by rfl)) k_int) (ka_cons (k_call C (by rfl) (by rfl) (ka_cons (k_var (by rfl) (by rfl)) (ka_cons (k_var (by rfl) (by rfl)) ka_nil))) (ka_cons (k_idx C (k_var (by rfl) (by rfl)) k_int) (ka_cons (k_call C (by rfl) (by rfl) (ka_cons (k_var (by rfl) (by rfl)) (ka_cons (k_var (by rfl) (by rfl)) ka_nil))) ka_nil))))) ka_nil)) hA_id) kb_nil))))) (kb_frz (kb_cons (ks_ret (k_var (by rfl) (by rfl))) kb_nil)))))
theorem w_28 (Tx : Txt K mg ca D) (fa : Addr) (cdv : Value) (A : Around) (outer : List Env) (s : Shared) (H : L2.Hp) (E : XK) (C : KCx (cxOf CX0 Pg w K mg base (["box", "kind", "under", "over"] : List Str) "_law_factor" (defScope s_28) fa cdv A outer s H E).nox prog (run prog Wn d) (gm K ca) WF CX0 (lvD D d) tab) :
    PSs (cxOf CX0 Pg w K mg base (["box", "kind", "under", "over"] : List Str) "_law_factor" (defScope s_28) fa cdv A outer s H E).nox (defBody s_28) (tB prog (run prog Wn d) (gm K ca) WF Wn b__law_factor) :=
  (kb_cons (ks_asg C (by rfl) (by rfl) (k_call C (by rfl) (by rfl) (ka_cons (k_var (by rfl) (by rfl)) (ka_cons k_int ka_nil)))) (kb_cons (ks_if (kt_cmp C opnm (k_var (by rfl) (by rfl)) k_int) (kb_cons (ks_ret (k_tup (ka_cons (k_var (by rfl) (by rfl)) (ka_cons k_int ka_nil)))) kb_nil) kb_nil) (kb_cons (ks_if (kt_cmp C opnm (k_var (by rfl) (by rfl)) k_int) (kb_cons (ks_ret (k_tup (ka_cons k_int (ka_cons (k_bin C opnm k_int (k_call C (by rfl) (by rfl) (ka_cons (k_var (by rfl) (by rfl)) (ka_cons k_int ka_nil)))) ka_nil)))) kb_nil) kb_nil) (kb_cons (ks_if (kt_cmp C opnm (k_var (by rfl) (by rfl)) k_int) (kb_cons (ks_asg C (by rfl) (by rfl) (k_call C (by rfl) (by rfl) (ka_cons (k_var (by rfl) (by rfl)) (ka_cons (k_bin C opnm k_int k_int) ka_nil)))) (kb_cons (ks_ret (k_call C (by rfl) (by rfl) (ka_cons (k_var (by rfl) (by rfl)) (ka_cons (k_bin C opnm (k_bin C opnm (k_var (by rfl) (by rfl)) k_int) (k_call C (by rfl) (by rfl) (ka_cons (k_var (by rfl) (by rfl)) (ka_cons (k_bin C opnm k_int k_int) ka_nil)))) ka_nil)))) kb_nil)) kb_nil) (kb_cons (ks_asg C (by rfl) (by rfl) (k_bin C opnm k_int (k_call C (by rfl) (by rfl) (ka_cons (k_var (by rfl) (by rfl)) (ka_cons k_int ka_nil))))) (kb_cons (ks_ret (k_call C (by rfl) (by rfl) (ka_cons (k_call C (by rfl) (by rfl) (ka_cons (k_var (by rfl) (by rfl)) (ka_cons (k_bin C opnm (k_var (by rfl) (by rfl)) k_int) ka_nil))) (ka_cons (k_var (by rfl) (by rfl)) ka_nil)))) kb_nil))))))
theorem w_29 (Tx : Txt K mg ca D) (fa : Addr) (cdv : Value) (A : Around) (outer : List Env) (s : Shared) (H : L2.Hp) (E : XK) (C : KCx (cxOf CX0 Pg w K mg base (["rows", "many", "level", "k", "below", "over", "under", "state", "row", "total"] : List Str) "_law_level" (defScope s_29) fa cdv A outer s H E).nox prog (run prog Wn d) (gm K ca) WF CX0 (lvD D d) tab) :
    PSs (cxOf CX0 Pg w K mg base (["rows", "many", "level", "k", "below", "over", "under", "state", "row", "total"] : List Str) "_law_level" (defScope s_29) fa cdv A outer s H E).nox (defBody s_29) (tB prog (run prog Wn d) (gm K ca) WF Wn b__law_level) :=
  (kb_cons (ks_asg C (by rfl) (by rfl) (k_al0 (ka_lst (ka_cons (k_tup (ka_cons k_int (ka_cons k_int (ka_cons k_int ka_nil)))) ka_nil)))) (kb_cons (ks_for C (ki_rng1 (by rfl) Tx.z_range (k_var (by rfl) (by rfl))) (kg_name (G := gm K ca) C.nN (by rfl) (by rfl)) (kb_cons (ks_own C (by rfl) (by rfl) (ka_lst ka_nil)) (kb_cons (ks_for C (ki_e C (k_var (by rfl) (by rfl))) (kg_tup C.hK C.calm (kgs_cons (G := gm K ca) (kg_name (G := gm K ca) C.nN (by rfl) (by rfl)) (kgs_cons (G := gm K ca) (kg_name (G := gm K ca) C.nN (by rfl) (by rfl)) (kgs_cons (G := gm K ca) (kg_name (G := gm K ca) C.nN (by rfl) (by rfl)) kgs_nil)))) (kb_cons (ks_asg C (by rfl) (by rfl) (k_idx C (k_var (by rfl) (by rfl)) (k_var (by rfl) (by rfl)))) (kb_cons (ks_asg C (by rfl) (by rfl) (k_bin C opnm (k_idx C (k_var (by rfl) (by rfl)) k_int) (k_idx C (k_var (by rfl) (by rfl)) k_int))) (kb_cons (ks_mbv C (by rfl) (by rfl) (mc_1 (b := .append) PySem.F.slot_list_append PySem.F.type_list_append (ka_cons (k_tup (ka_cons (k_bin C opnm (k_var (by rfl) (by rfl)) (k_idx C (k_var (by rfl) (by rfl)) k_int)) (ka_cons (k_bin C opnm (k_var (by rfl) (by rfl)) (k_var (by rfl) (by rfl))) (ka_cons (k_idx C (k_var (by rfl) (by rfl)) k_int) ka_nil)))) ka_nil)) hA_id) (kb_cons (ks_mbv C (by rfl) (by rfl) (mc_1 (b := .append) PySem.F.slot_list_append PySem.F.type_list_append (ka_cons (k_tup (ka_cons (k_bin C opnm (k_var (by rfl) (by rfl)) (k_idx C (k_var (by rfl) (by rfl)) k_int)) (ka_cons (k_bin C opnm (k_var (by rfl) (by rfl)) (k_var (by rfl) (by rfl))) (ka_cons (k_idx C (k_var (by rfl) (by rfl)) k_int) ka_nil)))) ka_nil)) hA_id) kb_nil))))) (kb_frz (kb_cons (ks_asg C (by rfl) (by rfl) (k_var (by rfl) (by rfl))) kb_nil))))) (kb_cons (ks_ret (k_var (by rfl) (by rfl))) kb_nil)))
theorem w_30 (Tx : Txt K mg ca D) (fa : Addr) (cdv : Value) (A : Around) (outer : List Env) (s : Shared) (H : L2.Hp) (E : XK) (C : KCx (cxOf CX0 Pg w K mg base (["tables", "factors", "many", "common", "rows", "factor", "row", "k"] : List Str) "_law_common" (defScope s_30) fa cdv A outer s H E).nox prog (run prog Wn d) (gm K ca) WF CX0 (lvD D d) tab) :
    PSs (cxOf CX0 Pg w K mg base (["tables", "factors", "many", "common", "rows", "factor", "row", "k"] : List Str) "_law_common" (defScope s_30) fa cdv A outer s H E).nox (defBody s_30) (tB prog (run prog Wn d) (gm K ca) WF Wn b__law_common) :=
  (kb_cons (ks_asg C (by rfl) (by rfl) k_int) (kb_cons (ks_for C (ki_e C (k_var (by rfl) (by rfl))) (kg_name (G := gm K ca) C.nN (by rfl) (by rfl)) (kb_cons (ks_for C (ki_e C (k_var (by rfl) (by rfl))) (kg_name (G := gm K ca) C.nN (by rfl) (by rfl)) (kb_cons (ks_for C (ki_rng1 (by rfl) Tx.z_range (k_var (by rfl) (by rfl))) (kg_name (G := gm K ca) C.nN (by rfl) (by rfl)) (kb_cons (ks_asg C (by rfl) (by rfl) (k_bin C opnm (k_var (by rfl) (by rfl)) (k_bin C opnm (k_idx C (k_var (by rfl) (by rfl)) k_int) (k_idx C (k_var (by rfl) (by rfl)) k_int)))) kb_nil)) kb_nil)) kb_nil)) (kb_cons (ks_for C (ki_e C (k_var (by rfl) (by rfl))) (kg_name (G := gm K ca) C.nN (by rfl) (by rfl)) (kb_cons (ks_asg C (by rfl) (by rfl) (k_bin C opnm (k_var (by rfl) (by rfl)) (k_idx C (k_var (by rfl) (by rfl)) k_int))) kb_nil)) (kb_cons (ks_ret (k_var (by rfl) (by rfl))) kb_nil))))
theorem w_31 (Tx : Txt K mg ca D) (fa : Addr) (cdv : Value) (A : Around) (outer : List Env) (s : Shared) (H : L2.Hp) (E : XK) (C : KCx (cxOf CX0 Pg w K mg base (["tables", "factors", "many", "levels", "common", "total", "at", "best", "k", "rows", "over", "under", "state"] : List Str) "_law_sum" (defScope s_31) fa cdv A outer s H E).nox prog (run prog Wn d) (gm K ca) WF CX0 (lvD D d) tab) :
    PSs (cxOf CX0 Pg w K mg base (["tables", "factors", "many", "levels", "common", "total", "at", "best", "k", "rows", "over", "under", "state"] : List Str) "_law_sum" (defScope s_31) fa cdv A outer s H E).nox (defBody s_31) (tB prog (run prog Wn d) (gm K ca) WF Wn b__law_sum) :=
  (kb_cons (kp_lc0 C [("rows", 9)] (by rfl) (by rfl) (ki_e C (k_var (by rfl) (by rfl))) ⟨fun s H Cc cl fp C => (kg_name (G := gm K ca) C.nN (by rfl) (by rfl)), fun s H Cc cl fp C => kc_none, fun s H Cc cl fp C => (k_call C (by rfl) (by rfl) (ka_cons (k_var (by rfl) (by rfl)) (ka_cons (k_var (by rfl) (by rfl)) ka_nil)))⟩) (kb_cons (ks_asg C (by rfl) (by rfl) (k_call C (by rfl) (by rfl) (ka_cons (k_var (by rfl) (by rfl)) (ka_cons (k_var (by rfl) (by rfl)) (ka_cons (k_var (by rfl) (by rfl)) ka_nil))))) (kb_cons (ks_asg C (by rfl) (by rfl) k_int) (kb_cons (ks_for C (ki_rng1 (by rfl) Tx.z_range (k_bin C opnm k_int (k_var (by rfl) (by rfl)))) (kg_name (G := gm K ca) C.nN (by rfl) (by rfl)) (kb_cons (ks_asg C (by rfl) (by rfl) k_int) (kb_cons (ks_for C (ki_rng1 (by rfl) Tx.z_range (k_bf (call_lenT C.hK) (by rfl) Tx.z_len (by rfl) (ka_cons (k_var (by rfl) (by rfl)) ka_nil))) (kg_name (G := gm K ca) C.nN (by rfl) (by rfl)) (kb_cons (ks_asgT C (k_idx C (k_idx C (k_var (by rfl) (by rfl)) (k_var (by rfl) (by rfl))) (k_var (by rfl) (by rfl))) (kg_tup C.hK C.calm (kgs_cons (G := gm K ca) (kg_name (G := gm K ca) C.nN (by rfl) (by rfl)) (kgs_cons (G := gm K ca) (kg_name (G := gm K ca) C.nN (by rfl) (by rfl)) (kgs_cons (G := gm K ca) (kg_name (G := gm K ca) C.nN (by rfl) (by rfl)) kgs_nil))))) (kb_cons (ks_asg C (by rfl) (by rfl) (k_bf (call_max2T C.calm) (by rfl) Tx.z_max (by rfl) (ka_cons (k_var (by rfl) (by rfl)) (ka_cons (k_bin C opnm (k_bin C opnm (k_var (by rfl) (by rfl)) (k_idx C (k_idx C (k_var (by rfl) (by rfl)) (k_var (by rfl) (by rfl))) k_int)) (k_bin C opnm (k_var (by rfl) (by rfl)) (k_bin C opnm (k_var (by rfl) (by rfl)) (k_idx C (k_idx C (k_var (by rfl) (by rfl)) (k_var (by rfl) (by rfl))) k_int)))) ka_nil)))) kb_nil))) (kb_cons (ks_asg C (by rfl) (by rfl) (k_bin C opnm (k_var (by rfl) (by rfl)) (k_var (by rfl) (by rfl)))) kb_nil)))) (kb_cons (ks_ret (k_call C (by rfl) (by rfl) (ka_cons (k_var (by rfl) (by rfl)) (ka_cons (k_var (by rfl) (by rfl)) ka_nil)))) kb_nil)))))
theorem w_32 (Tx : Txt K mg ca D) (fa : Addr) (cdv : Value) (A : Around) (outer : List Env) (s : Shared) (H : L2.Hp) (E : XK) (C : KCx (cxOf CX0 Pg w K mg base (["box", "sources", "factors", "many", "due", "passed", "kind", "told", "factor", "k"] : List Str) "_law_sum_holds" (defScope s_32) fa cdv A outer s H E).nox prog (run prog Wn d) (gm K ca) WF CX0 (lvD D d) tab) :
    PSs (cxOf CX0 Pg w K mg base (["box", "sources", "factors", "many", "due", "passed", "kind", "told", "factor", "k"] : List Str) "_law_sum_holds" (defScope s_32) fa cdv A outer s H E).nox (defBody s_32) (tB prog (run prog Wn d) (gm K ca) WF Wn b__law_sum_holds) :=
  (kb_cons (ks_asgC C (by rfl) (by rfl) (by rfl) (k_al0 (kp_lc C [("factor", 8)] (ki_e C (k_var (by rfl) (by rfl))) ⟨fun s H Cc cl fp C => (kg_name (G := gm K ca) C.nN (by rfl) (by rfl)), fun s H Cc cl fp C => kc_none, fun s H Cc cl fp C => (k_new1 C (by rfl) (by rfl) (by rfl) (by rfl) (ka_cons (k_idx C (k_var (by rfl) (by rfl)) k_int) (ka_cons (k_idx C (k_var (by rfl) (by rfl)) k_int) ka_nil)))⟩))) (kb_cons (ks_asg C (by rfl) (by rfl) (k_call C (by rfl) (by rfl) (ka_cons (k_var (by rfl) (by rfl)) (ka_cons k_int ka_nil)))) (kb_cons (ks_if (kt_cmp C opnm (k_var (by rfl) (by rfl)) k_int) (kb_cons (ks_asg C (by rfl) (by rfl) (k_call C (by rfl) (by rfl) (ka_cons (k_bty (call_tupT C.hK) (by rfl) Tx.z_tuple (by rfl) (ka_cons (k_var (by rfl) (by rfl)) ka_nil)) (ka_cons (k_bty (call_tupT C.hK) (by rfl) Tx.z_tuple (by rfl) (ka_cons (k_var (by rfl) (by rfl)) ka_nil)) (ka_cons (k_var (by rfl) (by rfl)) ka_nil))))) kb_nil) (kb_cons (ks_if (kt_cmp C opnm (k_var (by rfl) (by rfl)) k_int) (kb_cons (ks_asg C (by rfl) (by rfl) (k_call C (by rfl) (by rfl) (ka_cons (k_var (by rfl) (by rfl)) (ka_cons (k_var (by rfl) (by rfl)) (ka_cons (k_var (by rfl) (by rfl)) ka_nil))))) kb_nil) (kb_cons (ks_asg C (by rfl) (by rfl) (k_callK0 C (by rfl) (by rfl) (kk_cons (k_var (by rfl) (by rfl)) (kk_cons (k_var (by rfl) (by rfl)) (kk_cons (k_var (by rfl) (by rfl)) kk_nil))) Tx.kb_0)) kb_nil)) kb_nil)) (kb_cons (ks_if (PW.pt (kw_or (kt_cmp C opnm (k_bf (call_lenT C.hK) (by rfl) Tx.z_len (by rfl) (ka_cons (k_var (by rfl) (by rfl)) ka_nil)) (k_bf (call_lenT C.hK) (by rfl) Tx.z_len (by rfl) (ka_cons (k_var (by rfl) (by rfl)) ka_nil))) (kw_or1 (kt_not (kt_val C (k_bf (call_allT C.hK C.calm) (by rfl) Tx.z_all (by rfl) (ka_cons (k_al0 (kp_lc C [("k", 9)] (ki_rng1 (by rfl) Tx.z_range (k_bf (call_lenT C.hK) (by rfl) Tx.z_len (by rfl) (ka_cons (k_var (by rfl) (by rfl)) ka_nil))) ⟨fun s H Cc cl fp C => (kg_name (G := gm K ca) C.nN (by rfl) (by rfl)), fun s H Cc cl fp C => kc_none, fun s H Cc cl fp C => (k_call C (by rfl) (by rfl) (ka_cons (k_idx C (k_var (by rfl) (by rfl)) (k_var (by rfl) (by rfl))) (ka_cons (k_idx C (k_var (by rfl) (by rfl)) (k_var (by rfl) (by rfl))) ka_nil)))⟩)) ka_nil))))))) (kb_cons (ks_ret k_bl) kb_nil) kb_nil) (kb_cons (ks_ret (k_call C (by rfl) (by rfl) (ka_cons (k_var (by rfl) (by rfl)) (ka_cons (k_var (by rfl) (by rfl)) ka_nil)))) kb_nil)))))
theorem w_33 (Tx : Txt K mg ca D) (fa : Addr) (cdv : Value) (A : Around) (outer : List Env) (s : Shared) (H : L2.Hp) (E : XK) (C : KCx (cxOf CX0 Pg w K mg base (["box", "sources", "many", "due", "kind", "told"] : List Str) "_law_loss_holds" (defScope s_33) fa cdv A outer s H E).nox prog (run prog Wn d) (gm K ca) WF CX0 (lvD D d) tab) :
    PSs (cxOf CX0 Pg w K mg base (["box", "sources", "many", "due", "kind", "told"] : List Str) "_law_loss_holds" (defScope s_33) fa cdv A outer s H E).nox (defBody s_33) (tB prog (run prog Wn d) (gm K ca) WF Wn b__law_loss_holds) :=
  (kb_cons (ks_asg C (by rfl) (by rfl) (k_call C (by rfl) (by rfl) (ka_cons (k_var (by rfl) (by rfl)) (ka_cons k_int ka_nil)))) (kb_cons (ks_if (kt_cmp C opnm (k_var (by rfl) (by rfl)) k_int) (kb_cons (ks_asg C (by rfl) (by rfl) (k_call C (by rfl) (by rfl) (ka_cons (k_bty (call_tupT C.hK) (by rfl) Tx.z_tuple (by rfl) (ka_cons (k_var (by rfl) (by rfl)) ka_nil)) (ka_cons (k_var (by rfl) (by rfl)) ka_nil)))) kb_nil) (kb_cons (ks_if (kt_cmp C opnm (k_var (by rfl) (by rfl)) k_int) (kb_cons (ks_asg C (by rfl) (by rfl) (k_call C (by rfl) (by rfl) (ka_cons (k_var (by rfl) (by rfl)) (ka_cons (k_var (by rfl) (by rfl)) ka_nil)))) kb_nil) (kb_cons (ks_asg C (by rfl) (by rfl) (k_callK0 C (by rfl) (by rfl) (kk_cons (k_var (by rfl) (by rfl)) (kk_cons (k_var (by rfl) (by rfl)) kk_nil)) Tx.kb_1)) kb_nil)) kb_nil)) (kb_cons (ks_ret (k_call C (by rfl) (by rfl) (ka_cons (k_var (by rfl) (by rfl)) (ka_cons (k_tup (ka_cons (k_idx C (k_var (by rfl) (by rfl)) k_int) (ka_cons (k_idx C (k_var (by rfl) (by rfl)) k_int) ka_nil))) ka_nil)))) kb_nil)))
theorem w_34 (Tx : Txt K mg ca D) (fa : Addr) (cdv : Value) (A : Around) (outer : List Env) (s : Shared) (H : L2.Hp) (E : XK) (C : KCx (cxOf CX0 Pg w K mg base (["box", "tables", "sources", "factors", "many", "ones", "due", "whole", "less", "k", "rows"] : List Str) "_law_losses" (defScope s_34) fa cdv A outer s H E).nox prog (run prog Wn d) (gm K ca) WF CX0 (lvD D d) tab) :
    PSs (cxOf CX0 Pg w K mg base (["box", "tables", "sources", "factors", "many", "ones", "due", "whole", "less", "k", "rows"] : List Str) "_law_losses" (defScope s_34) fa cdv A outer s H E).nox (defBody s_34) (tB prog (run prog Wn d) (gm K ca) WF Wn b__law_losses) :=
  (kb_cons (kp_lc0 C [("k", 9)] (by rfl) (by rfl) (ki_rng1 (by rfl) Tx.z_range (k_bin C opnm k_int (k_call C (by rfl) (by rfl) (ka_cons (k_var (by rfl) (by rfl)) (ka_cons k_int ka_nil))))) ⟨fun s H Cc cl fp C => (kg_name (G := gm K ca) C.nN (by rfl) (by rfl)), fun s H Cc cl fp C => kc_none, fun s H Cc cl fp C => (k_call C (by rfl) (by rfl) (ka_cons (k_var (by rfl) (by rfl)) ka_nil))⟩) (kb_cons (kp_lc0 C [("rows", 10)] (by rfl) (by rfl) (ki_e C (k_var (by rfl) (by rfl))) ⟨fun s H Cc cl fp C => (kg_name (G := gm K ca) C.nN (by rfl) (by rfl)), fun s H Cc cl fp C => kc_none, fun s H Cc cl fp C => (k_new1 C (by rfl) (by rfl) (by rfl) (by rfl) (ka_cons (k_var (by rfl) (by rfl)) ka_nil))⟩) (kb_cons (kp_lc0 C [("rows", 10)] (by rfl) (by rfl) (ki_e C (k_var (by rfl) (by rfl))) ⟨fun s H Cc cl fp C => (kg_name (G := gm K ca) C.nN (by rfl) (by rfl)), fun s H Cc cl fp C => kc_none, fun s H Cc cl fp C => (k_call C (by rfl) (by rfl) (ka_cons (k_var (by rfl) (by rfl)) ka_nil))⟩) (kb_cons (ks_asg C (by rfl) (by rfl) (k_idx C (k_al0 (ka_lst (ka_cons k_int (ka_cons k_int (ka_cons k_int (ka_cons k_int (ka_cons k_int ka_nil))))))) (k_call C (by rfl) (by rfl) (ka_cons (k_var (by rfl) (by rfl)) (ka_cons k_int ka_nil))))) (kb_cons (ks_if (kt_cmp C opnm (k_call C (by rfl) (by rfl) (ka_cons (k_var (by rfl) (by rfl)) (ka_cons k_int ka_nil))) k_int) (kb_cons (ks_asg C (by rfl) (by rfl) k_int) kb_nil) kb_nil) (kb_cons (kp_lc0 C [("rows", 10)] (by rfl) (by rfl) (ki_e C (k_var (by rfl) (by rfl))) ⟨fun s H Cc cl fp C => (kg_name (G := gm K ca) C.nN (by rfl) (by rfl)), fun s H Cc cl fp C => kc_none, fun s H Cc cl fp C => (k_tup (ka_cons k_int (ka_cons k_int ka_nil)))⟩) (kb_cons (ks_asg C (by rfl) (by rfl) (k_call C (by rfl) (by rfl) (ka_cons (k_var (by rfl) (by rfl)) (ka_cons (k_var (by rfl) (by rfl)) (ka_cons (k_var (by rfl) (by rfl)) ka_nil))))) (kb_cons (ks_asg C (by rfl) (by rfl) (k_call C (by rfl) (by rfl) (ka_cons (k_var (by rfl) (by rfl)) (ka_cons (k_var (by rfl) (by rfl)) (ka_cons (k_var (by rfl) (by rfl)) ka_nil))))) (kb_cons (ks_if (PW.pt (kw_or (kt_not (kt_val C (k_call C (by rfl) (by rfl) (ka_cons (k_var (by rfl) (by rfl)) (ka_cons (k_var (by rfl) (by rfl)) (ka_cons (k_var (by rfl) (by rfl)) (ka_cons (k_var (by rfl) (by rfl)) (ka_cons (k_var (by rfl) (by rfl)) ka_nil)))))))) (kw_or1 (kt_not (kt_val C (k_call C (by rfl) (by rfl) (ka_cons (k_var (by rfl) (by rfl)) (ka_cons (k_var (by rfl) (by rfl)) (ka_cons (k_var (by rfl) (by rfl)) (ka_cons (k_var (by rfl) (by rfl)) ka_nil)))))))))) (kb_cons (ks_ret k_bl) kb_nil) kb_nil) (kb_cons (ks_asg C (by rfl) (by rfl) (k_call C (by rfl) (by rfl) (ka_cons (k_var (by rfl) (by rfl)) (ka_cons (k_bin C opnm (k_var (by rfl) (by rfl)) k_int) ka_nil)))) (kb_cons (ks_if (kt_not (kt_val C (k_call C (by rfl) (by rfl) (ka_cons (k_var (by rfl) (by rfl)) (ka_cons (k_var (by rfl) (by rfl)) (ka_cons (k_var (by rfl) (by rfl)) (ka_cons (k_call C (by rfl) (by rfl) (ka_cons (k_var (by rfl) (by rfl)) (ka_cons (k_var (by rfl) (by rfl)) (ka_cons (k_var (by rfl) (by rfl)) ka_nil)))) ka_nil))))))) (kb_cons (ks_ret k_bl) kb_nil) kb_nil) (kb_cons (ks_if (PW.pt (kw_or (kt_not (kt_val C (k_call C (by rfl) (by rfl) (ka_cons (k_var (by rfl) (by rfl)) (ka_cons (k_var (by rfl) (by rfl)) (ka_cons (k_var (by rfl) (by rfl)) (ka_cons (k_var (by rfl) (by rfl)) (ka_cons (k_var (by rfl) (by rfl)) ka_nil)))))))) (kw_or1 (kt_not (kt_val C (k_call C (by rfl) (by rfl) (ka_cons (k_var (by rfl) (by rfl)) (ka_cons (k_var (by rfl) (by rfl)) (ka_cons (k_var (by rfl) (by rfl)) (ka_cons (k_var (by rfl) (by rfl)) (ka_cons (k_var (by rfl) (by rfl)) ka_nil))))))))))) (kb_cons (ks_ret k_bl) kb_nil) kb_nil) (kb_cons (ks_ret (k_and C (k_cmp C opnm (k_bf (call_lenT C.hK) (by rfl) Tx.z_len (by rfl) (ka_cons (k_var (by rfl) (by rfl)) ka_nil)) (k_bf (call_lenT C.hK) (by rfl) Tx.z_len (by rfl) (ka_cons (k_var (by rfl) (by rfl)) ka_nil))) (k_one (k_call C (by rfl) (by rfl) (ka_cons (k_var (by rfl) (by rfl)) (ka_cons (k_var (by rfl) (by rfl)) (ka_cons (k_var (by rfl) (by rfl)) (ka_cons (k_var (by rfl) (by rfl)) ka_nil)))))))) kb_nil)))))))))))))
theorem w_35 (Tx : Txt K mg ca D) (fa : Addr) (cdv : Value) (A : Around) (outer : List Env) (s : Shared) (H : L2.Hp) (E : XK) (C : KCx (cxOf CX0 Pg w K mg base (["script"] : List Str) "law" (defScope s_35) fa cdv A outer s H E).nox prog (run prog Wn d) (gm K ca) WF CX0 (lvD D d) tab) :
    PSs (cxOf CX0 Pg w K mg base (["script"] : List Str) "law" (defScope s_35) fa cdv A outer s H E).nox (defBody s_35) (tB prog (run prog Wn d) (gm K ca) WF Wn b_law) :=
  (kb_cons (kp_try C fun C => (kb_cons (ks_ret (k_call C (by rfl) (by rfl) (ka_cons (k_call C (by rfl) (by rfl) (ka_cons (k_var (by rfl) (by rfl)) ka_nil)) ka_nil))) kb_nil)) kb_nil)
end
end K47
end
section
set_option Elab.async false
set_option linter.all false
set_option maxRecDepth 100000
set_option maxHeartbeats 4000000
set_option autoImplicit false
namespace K47
abbrev WF0 : Nat := 100000
end K47
namespace K47
open Kb PySem PySem.Spec PyProof.Rows L2
structure Funs (K : PySem.W.Frag) (D : Dat) : Prop where
  f_0 : Fun K "__init__" "Share.__init__" s_0 (D.ad 0) (D.fd 0)
  p_0 : D.ps 0 = (["self", "over", "under"] : List Str)
  f_1 : Fun K "__eq__" "Share.__eq__" s_1 (D.ad 1) (D.fd 1)
  p_1 : D.ps 1 = (["self", "other"] : List Str)
  f_2 : Fun K "__add__" "Share.__add__" s_2 (D.ad 2) (D.fd 2)
  p_2 : D.ps 2 = (["self", "other"] : List Str)
  f_3 : Fun K "__sub__" "Share.__sub__" s_3 (D.ad 3) (D.fd 3)
  p_3 : D.ps 3 = (["self", "other"] : List Str)
  f_4 : Fun K "__mul__" "Share.__mul__" s_4 (D.ad 4) (D.fd 4)
  p_4 : D.ps 4 = (["self", "other"] : List Str)
  f_5 : Fun K "is_below" "Share.is_below" s_5 (D.ad 5) (D.fd 5)
  p_5 : D.ps 5 = (["self", "other"] : List Str)
  f_6 : Fun K "chances_of" "chances_of" s_6 (D.ad 6) (D.fd 6)
  p_6 : D.ps 6 = (["source", "many"] : List Str)
  f_7 : Fun K "greater_of" "greater_of" s_7 (D.ad 7) (D.fd 7)
  p_7 : D.ps 7 = (["one", "other"] : List Str)
  f_8 : Fun K "greatest_chances" "greatest_chances" s_8 (D.ad 8) (D.fd 8)
  p_8 : D.ps 8 = (["sources", "factors", "many"] : List Str)
  f_9 : Fun K "total_of" "total_of" s_9 (D.ad 9) (D.fd 9)
  p_9 : D.ps 9 = (["shares"] : List Str)
  f_10 : Fun K "greatest_sum" "greatest_sum" s_10 (D.ad 10) (D.fd 10)
  p_10 : D.ps 10 = (["sources", "factors", "many"] : List Str)
  f_11 : Fun K "least_loss" "least_loss" s_11 (D.ad 11) (D.fd 11)
  p_11 : D.ps 11 = (["sources", "many"] : List Str)
  f_12 : Fun K "is_integer" "is_integer" s_12 (D.ad 12) (D.fd 12)
  p_12 : D.ps 12 = (["value"] : List Str)
  f_13 : Fun K "is_number" "is_number" s_13 (D.ad 13) (D.fd 13)
  p_13 : D.ps 13 = (["value"] : List Str)
  f_14 : Fun K "is_between" "is_between" s_14 (D.ad 14) (D.fd 14)
  p_14 : D.ps 14 = (["value", "least", "most"] : List Str)
  f_15 : Fun K "is_row" "is_row" s_15 (D.ad 15) (D.fd 15)
  p_15 : D.ps 15 = (["value"] : List Str)
  f_16 : Fun K "are_states" "are_states" s_16 (D.ad 16) (D.fd 16)
  p_16 : D.ps 16 = (["value"] : List Str)
  f_17 : Fun K "__init__" "Source.__init__" s_17 (D.ad 17) (D.fd 17)
  p_17 : D.ps 17 = (["self", "rows"] : List Str)
  f_18 : Fun K "chance_in" "Source.chance_in" s_18 (D.ad 18) (D.fd 18)
  p_18 : D.ps 18 = (["self", "state", "bit"] : List Str)
  f_19 : Fun K "next_of" "Source.next_of" s_19 (D.ad 19) (D.fd 19)
  p_19 : D.ps 19 = (["self", "state", "bit"] : List Str)
  f_21 : Fun K "_law_box" "_law_box" s_21 (D.ad 21) (D.fd 21)
  p_21 : D.ps 21 = (["script"] : List Str)
  f_22 : Fun K "_law_draw" "_law_draw" s_22 (D.ad 22) (D.fd 22)
  p_22 : D.ps 22 = (["box", "many"] : List Str)
  f_23 : Fun K "_law_gcd" "_law_gcd" s_23 (D.ad 23) (D.fd 23)
  p_23 : D.ps 23 = (["one", "other"] : List Str)
  f_24 : Fun K "_law_lowest" "_law_lowest" s_24 (D.ad 24) (D.fd 24)
  p_24 : D.ps 24 = (["over", "under"] : List Str)
  f_25 : Fun K "_law_is_integer" "_law_is_integer" s_25 (D.ad 25) (D.fd 25)
  p_25 : D.ps 25 = (["value"] : List Str)
  f_26 : Fun K "_law_is_share" "_law_is_share" s_26 (D.ad 26) (D.fd 26)
  p_26 : D.ps 26 = (["value", "due"] : List Str)
  f_27 : Fun K "_law_quadruples" "_law_quadruples" s_27 (D.ad 27) (D.fd 27)
  p_27 : D.ps 27 = (["box"] : List Str)
  f_28 : Fun K "_law_factor" "_law_factor" s_28 (D.ad 28) (D.fd 28)
  p_28 : D.ps 28 = (["box"] : List Str)
  f_29 : Fun K "_law_level" "_law_level" s_29 (D.ad 29) (D.fd 29)
  p_29 : D.ps 29 = (["rows", "many"] : List Str)
  f_30 : Fun K "_law_common" "_law_common" s_30 (D.ad 30) (D.fd 30)
  p_30 : D.ps 30 = (["tables", "factors", "many"] : List Str)
  f_31 : Fun K "_law_sum" "_law_sum" s_31 (D.ad 31) (D.fd 31)
  p_31 : D.ps 31 = (["tables", "factors", "many"] : List Str)
  f_32 : Fun K "_law_sum_holds" "_law_sum_holds" s_32 (D.ad 32) (D.fd 32)
  p_32 : D.ps 32 = (["box", "sources", "factors", "many", "due"] : List Str)
  f_33 : Fun K "_law_loss_holds" "_law_loss_holds" s_33 (D.ad 33) (D.fd 33)
  p_33 : D.ps 33 = (["box", "sources", "many", "due"] : List Str)
  f_34 : Fun K "_law_losses" "_law_losses" s_34 (D.ad 34) (D.fd 34)
  p_34 : D.ps 34 = (["box"] : List Str)
  f_35 : Fun K "law" "law" s_35 (D.ad 35) (D.fd 35)
  p_35 : D.ps 35 = (["script"] : List Str)
theorem sc_0 : FnScope ["self", "over", "under", "divisor"] ["self", "over", "under"] (defScope s_0) := ⟨rfl, rfl, rfl, by decide +kernel, rfl, by decide +kernel, by decide +kernel⟩
theorem sc_1 : FnScope ["self", "other"] ["self", "other"] (defScope s_1) := ⟨rfl, rfl, rfl, by decide +kernel, rfl, by decide +kernel, by decide +kernel⟩
theorem sc_2 : FnScope ["self", "other"] ["self", "other"] (defScope s_2) := ⟨rfl, rfl, rfl, by decide +kernel, rfl, by decide +kernel, by decide +kernel⟩
theorem sc_3 : FnScope ["self", "other"] ["self", "other"] (defScope s_3) := ⟨rfl, rfl, rfl, by decide +kernel, rfl, by decide +kernel, by decide +kernel⟩
theorem sc_4 : FnScope ["self", "other"] ["self", "other"] (defScope s_4) := ⟨rfl, rfl, rfl, by decide +kernel, rfl, by decide +kernel, by decide +kernel⟩
theorem sc_5 : FnScope ["self", "other"] ["self", "other"] (defScope s_5) := ⟨rfl, rfl, rfl, by decide +kernel, rfl, by decide +kernel, by decide +kernel⟩
theorem sc_6 : FnScope ["source", "many", "found", "_", "longer", "state", "chance", "bit"] ["source", "many"] (defScope s_6) := ⟨rfl, rfl, rfl, by decide +kernel, rfl, by decide +kernel, by decide +kernel⟩
theorem sc_7 : FnScope ["one", "other"] ["one", "other"] (defScope s_7) := ⟨rfl, rfl, rfl, by decide +kernel, rfl, by decide +kernel, by decide +kernel⟩
theorem sc_8 : FnScope ["sources", "factors", "many", "found", "source", "factor", "lessened", "chance", "one", "other"] ["sources", "factors", "many"] (defScope s_8) := ⟨rfl, rfl, rfl, by decide +kernel, rfl, by decide +kernel, by decide +kernel⟩
theorem sc_9 : FnScope ["shares", "total", "share"] ["shares"] (defScope s_9) := ⟨rfl, rfl, rfl, by decide +kernel, rfl, by decide +kernel, by decide +kernel⟩
theorem sc_10 : FnScope ["sources", "factors", "many"] ["sources", "factors", "many"] (defScope s_10) := ⟨rfl, rfl, rfl, by decide +kernel, rfl, by decide +kernel, by decide +kernel⟩
theorem sc_11 : FnScope ["sources", "many", "greatest", "_"] ["sources", "many"] (defScope s_11) := ⟨rfl, rfl, rfl, by decide +kernel, rfl, by decide +kernel, by decide +kernel⟩
theorem sc_12 : FnScope ["value"] ["value"] (defScope s_12) := ⟨rfl, rfl, rfl, by decide +kernel, rfl, by decide +kernel, by decide +kernel⟩
theorem sc_13 : FnScope ["value"] ["value"] (defScope s_13) := ⟨rfl, rfl, rfl, by decide +kernel, rfl, by decide +kernel, by decide +kernel⟩
theorem sc_14 : FnScope ["value", "least", "most"] ["value", "least", "most"] (defScope s_14) := ⟨rfl, rfl, rfl, by decide +kernel, rfl, by decide +kernel, by decide +kernel⟩
theorem sc_15 : FnScope ["value"] ["value"] (defScope s_15) := ⟨rfl, rfl, rfl, by decide +kernel, rfl, by decide +kernel, by decide +kernel⟩
theorem sc_16 : FnScope ["value", "row"] ["value"] (defScope s_16) := ⟨rfl, rfl, rfl, by decide +kernel, rfl, by decide +kernel, by decide +kernel⟩
theorem sc_17 : FnScope ["self", "rows", "row"] ["self", "rows"] (defScope s_17) := ⟨rfl, rfl, rfl, by decide +kernel, rfl, by decide +kernel, by decide +kernel⟩
theorem sc_18 : FnScope ["self", "state", "bit", "row"] ["self", "state", "bit"] (defScope s_18) := ⟨rfl, rfl, rfl, by decide +kernel, rfl, by decide +kernel, by decide +kernel⟩
theorem sc_19 : FnScope ["self", "state", "bit"] ["self", "state", "bit"] (defScope s_19) := ⟨rfl, rfl, rfl, by decide +kernel, rfl, by decide +kernel, by decide +kernel⟩
theorem sc_21 : FnScope ["script", "cell"] ["script"] (defScope s_21) := ⟨rfl, rfl, rfl, by decide +kernel, rfl, by decide +kernel, by decide +kernel⟩
theorem sc_22 : FnScope ["box", "many", "mixed", "cell", "digit"] ["box", "many"] (defScope s_22) := ⟨rfl, rfl, rfl, by decide +kernel, rfl, by decide +kernel, by decide +kernel⟩
theorem sc_23 : FnScope ["one", "other", "rest"] ["one", "other"] (defScope s_23) := ⟨rfl, rfl, rfl, by decide +kernel, rfl, by decide +kernel, by decide +kernel⟩
theorem sc_24 : FnScope ["over", "under", "common"] ["over", "under"] (defScope s_24) := ⟨rfl, rfl, rfl, by decide +kernel, rfl, by decide +kernel, by decide +kernel⟩
theorem sc_25 : FnScope ["value"] ["value"] (defScope s_25) := ⟨rfl, rfl, rfl, by decide +kernel, rfl, by decide +kernel, by decide +kernel⟩
theorem sc_26 : FnScope ["value", "due"] ["value", "due"] (defScope s_26) := ⟨rfl, rfl, rfl, by decide +kernel, rfl, by decide +kernel, by decide +kernel⟩
theorem sc_27 : FnScope ["box", "states", "rows", "k", "high", "weights"] ["box"] (defScope s_27) := ⟨rfl, rfl, rfl, by decide +kernel, rfl, by decide +kernel, by decide +kernel⟩
theorem sc_28 : FnScope ["box", "kind", "under", "over"] ["box"] (defScope s_28) := ⟨rfl, rfl, rfl, by decide +kernel, rfl, by decide +kernel, by decide +kernel⟩
theorem sc_29 : FnScope ["rows", "many", "level", "k", "below", "over", "under", "state", "row", "total"] ["rows", "many"] (defScope s_29) := ⟨rfl, rfl, rfl, by decide +kernel, rfl, by decide +kernel, by decide +kernel⟩
theorem sc_30 : FnScope ["tables", "factors", "many", "common", "rows", "factor", "row", "k"] ["tables", "factors", "many"] (defScope s_30) := ⟨rfl, rfl, rfl, by decide +kernel, rfl, by decide +kernel, by decide +kernel⟩
theorem sc_31 : FnScope ["tables", "factors", "many", "levels", "common", "total", "at", "best", "k", "rows", "over", "under", "state"] ["tables", "factors", "many"] (defScope s_31) := ⟨rfl, rfl, rfl, by decide +kernel, rfl, by decide +kernel, by decide +kernel⟩
theorem sc_32 : FnScope ["box", "sources", "factors", "many", "due", "passed", "kind", "told", "factor", "k"] ["box", "sources", "factors", "many", "due"] (defScope s_32) := ⟨rfl, rfl, rfl, by decide +kernel, rfl, by decide +kernel, by decide +kernel⟩
theorem sc_33 : FnScope ["box", "sources", "many", "due", "kind", "told"] ["box", "sources", "many", "due"] (defScope s_33) := ⟨rfl, rfl, rfl, by decide +kernel, rfl, by decide +kernel, by decide +kernel⟩
theorem sc_34 : FnScope ["box", "tables", "sources", "factors", "many", "ones", "due", "whole", "less", "k", "rows"] ["box"] (defScope s_34) := ⟨rfl, rfl, rfl, by decide +kernel, rfl, by decide +kernel, by decide +kernel⟩
theorem sc_35 : FnScope ["script"] ["script"] (defScope s_35) := ⟨rfl, rfl, rfl, by decide +kernel, rfl, by decide +kernel, by decide +kernel⟩
section
variable {Pg : Program} {w : World} {K : PySem.W.Frag} {mg : Str → Option Value} {base : Heap} {ca : Nat → Addr} {D : Dat} {Wn d : Nat}
theorem step (Tx : Txt K mg ca D) (Fs : Funs K D) (St : Stat K mg prog (gm K ca) D tab ini okf) (d : Nat) (IH : ∀ f, okf f → FnOk Pg w K mg base CX0 (2 * d + 2) (D.ad f) (D.fd f) (D.ps f) (spOf ini (gm K ca) (run prog Wn d) f)) :
    ∀ f, okf f → FnOk Pg w K mg base CX0 (2 * d + 4) (D.ad f) (D.fd f) (D.ps f) (spOf ini (gm K ca) (run prog Wn (d + 1)) f) := by
  intro f hf
  have hm : f ∈ [0, 1, 2, 3, 4, 5, 6, 7, 8, 9, 10, 11, 12, 13, 14, 15, 16, 17, 18, 19, 21, 22, 23, 24, 25, 26, 27, 28, 29, 30, 31, 32, 33, 34, 35] := List.contains_iff_mem.mp hf
  simp only [List.mem_cons, List.not_mem_nil, or_false] at hm
  rcases hm with rfl | rfl | rfl | rfl | rfl | rfl | rfl | rfl | rfl | rfl | rfl | rfl | rfl | rfl | rfl | rfl | rfl | rfl | rfl | rfl | rfl | rfl | rfl | rfl | rfl | rfl | rfl | rfl | rfl | rfl | rfl | rfl | rfl | rfl | rfl
  · rw [Fs.p_0, spOf_i (c := 3) (by rfl)]; exact ini_walk St IH Fs.f_0 sc_0 rfl rfl (by decide) (fun cdv A outer s H E C => w_0 Tx _ cdv A outer s H E C)
  · rw [Fs.p_1, spOf_n (by intro c e; cases e)]; exact fn_walk St IH Fs.f_1 sc_1 rfl rfl (by decide) (fun cdv A outer s H E C => w_1 Tx _ cdv A outer s H E C)
  · rw [Fs.p_2, spOf_n (by intro c e; cases e)]; exact fn_walk St IH Fs.f_2 sc_2 rfl rfl (by decide) (fun cdv A outer s H E C => w_2 Tx _ cdv A outer s H E C)
  · rw [Fs.p_3, spOf_n (by intro c e; cases e)]; exact fn_walk St IH Fs.f_3 sc_3 rfl rfl (by decide) (fun cdv A outer s H E C => w_3 Tx _ cdv A outer s H E C)
  · rw [Fs.p_4, spOf_n (by intro c e; cases e)]; exact fn_walk St IH Fs.f_4 sc_4 rfl rfl (by decide) (fun cdv A outer s H E C => w_4 Tx _ cdv A outer s H E C)
  · rw [Fs.p_5, spOf_n (by intro c e; cases e)]; exact fn_walk St IH Fs.f_5 sc_5 rfl rfl (by decide) (fun cdv A outer s H E C => w_5 Tx _ cdv A outer s H E C)
  · rw [Fs.p_6, spOf_n (by intro c e; cases e)]; exact fn_walk St IH Fs.f_6 sc_6 rfl rfl (by decide) (fun cdv A outer s H E C => w_6 Tx _ cdv A outer s H E C)
  · rw [Fs.p_7, spOf_n (by intro c e; cases e)]; exact fn_walk St IH Fs.f_7 sc_7 rfl rfl (by decide) (fun cdv A outer s H E C => w_7 Tx _ cdv A outer s H E C)
  · rw [Fs.p_8, spOf_n (by intro c e; cases e)]; exact fn_walk St IH Fs.f_8 sc_8 rfl rfl (by decide) (fun cdv A outer s H E C => w_8 Tx _ cdv A outer s H E C)
  · rw [Fs.p_9, spOf_n (by intro c e; cases e)]; exact fn_walk St IH Fs.f_9 sc_9 rfl rfl (by decide) (fun cdv A outer s H E C => w_9 Tx _ cdv A outer s H E C)
  · rw [Fs.p_10, spOf_n (by intro c e; cases e)]; exact fn_walk St IH Fs.f_10 sc_10 rfl rfl (by decide) (fun cdv A outer s H E C => w_10 Tx _ cdv A outer s H E C)
  · rw [Fs.p_11, spOf_n (by intro c e; cases e)]; exact fn_walk St IH Fs.f_11 sc_11 rfl rfl (by decide) (fun cdv A outer s H E C => w_11 Tx _ cdv A outer s H E C)
  · rw [Fs.p_12, spOf_n (by intro c e; cases e)]; exact fn_walk St IH Fs.f_12 sc_12 rfl rfl (by decide) (fun cdv A outer s H E C => w_12 Tx _ cdv A outer s H E C)
  · rw [Fs.p_13, spOf_n (by intro c e; cases e)]; exact fn_walk St IH Fs.f_13 sc_13 rfl rfl (by decide) (fun cdv A outer s H E C => w_13 Tx _ cdv A outer s H E C)
  · rw [Fs.p_14, spOf_n (by intro c e; cases e)]; exact fn_walk St IH Fs.f_14 sc_14 rfl rfl (by decide) (fun cdv A outer s H E C => w_14 Tx _ cdv A outer s H E C)
  · rw [Fs.p_15, spOf_n (by intro c e; cases e)]; exact fn_walk St IH Fs.f_15 sc_15 rfl rfl (by decide) (fun cdv A outer s H E C => w_15 Tx _ cdv A outer s H E C)
  · rw [Fs.p_16, spOf_n (by intro c e; cases e)]; exact fn_walk St IH Fs.f_16 sc_16 rfl rfl (by decide) (fun cdv A outer s H E C => w_16 Tx _ cdv A outer s H E C)
  · rw [Fs.p_17, spOf_i (c := 4) (by rfl)]; exact ini_walk St IH Fs.f_17 sc_17 rfl rfl (by decide) (fun cdv A outer s H E C => w_17 Tx _ cdv A outer s H E C)
  · rw [Fs.p_18, spOf_n (by intro c e; cases e)]; exact fn_walk St IH Fs.f_18 sc_18 rfl rfl (by decide) (fun cdv A outer s H E C => w_18 Tx _ cdv A outer s H E C)
  · rw [Fs.p_19, spOf_n (by intro c e; cases e)]; exact fn_walk St IH Fs.f_19 sc_19 rfl rfl (by decide) (fun cdv A outer s H E C => w_19 Tx _ cdv A outer s H E C)
  · rw [Fs.p_21, spOf_n (by intro c e; cases e)]; exact fn_walk St IH Fs.f_21 sc_21 rfl rfl (by decide) (fun cdv A outer s H E C => w_21 Tx _ cdv A outer s H E C)
  · rw [Fs.p_22, spOf_n (by intro c e; cases e)]; exact fn_walk St IH Fs.f_22 sc_22 rfl rfl (by decide) (fun cdv A outer s H E C => w_22 Tx _ cdv A outer s H E C)
  · rw [Fs.p_23, spOf_n (by intro c e; cases e)]; exact fn_walk St IH Fs.f_23 sc_23 rfl rfl (by decide) (fun cdv A outer s H E C => w_23 Tx _ cdv A outer s H E C)
  · rw [Fs.p_24, spOf_n (by intro c e; cases e)]; exact fn_walk St IH Fs.f_24 sc_24 rfl rfl (by decide) (fun cdv A outer s H E C => w_24 Tx _ cdv A outer s H E C)
  · rw [Fs.p_25, spOf_n (by intro c e; cases e)]; exact fn_walk St IH Fs.f_25 sc_25 rfl rfl (by decide) (fun cdv A outer s H E C => w_25 Tx _ cdv A outer s H E C)
  · rw [Fs.p_26, spOf_n (by intro c e; cases e)]; exact fn_walk St IH Fs.f_26 sc_26 rfl rfl (by decide) (fun cdv A outer s H E C => w_26 Tx _ cdv A outer s H E C)
  · rw [Fs.p_27, spOf_n (by intro c e; cases e)]; exact fn_walk St IH Fs.f_27 sc_27 rfl rfl (by decide) (fun cdv A outer s H E C => w_27 Tx _ cdv A outer s H E C)
  · rw [Fs.p_28, spOf_n (by intro c e; cases e)]; exact fn_walk St IH Fs.f_28 sc_28 rfl rfl (by decide) (fun cdv A outer s H E C => w_28 Tx _ cdv A outer s H E C)
  · rw [Fs.p_29, spOf_n (by intro c e; cases e)]; exact fn_walk St IH Fs.f_29 sc_29 rfl rfl (by decide) (fun cdv A outer s H E C => w_29 Tx _ cdv A outer s H E C)
  · rw [Fs.p_30, spOf_n (by intro c e; cases e)]; exact fn_walk St IH Fs.f_30 sc_30 rfl rfl (by decide) (fun cdv A outer s H E C => w_30 Tx _ cdv A outer s H E C)
  · rw [Fs.p_31, spOf_n (by intro c e; cases e)]; exact fn_walk St IH Fs.f_31 sc_31 rfl rfl (by decide) (fun cdv A outer s H E C => w_31 Tx _ cdv A outer s H E C)
  · rw [Fs.p_32, spOf_n (by intro c e; cases e)]; exact fn_walk St IH Fs.f_32 sc_32 rfl rfl (by decide) (fun cdv A outer s H E C => w_32 Tx _ cdv A outer s H E C)
  · rw [Fs.p_33, spOf_n (by intro c e; cases e)]; exact fn_walk St IH Fs.f_33 sc_33 rfl rfl (by decide) (fun cdv A outer s H E C => w_33 Tx _ cdv A outer s H E C)
  · rw [Fs.p_34, spOf_n (by intro c e; cases e)]; exact fn_walk St IH Fs.f_34 sc_34 rfl rfl (by decide) (fun cdv A outer s H E C => w_34 Tx _ cdv A outer s H E C)
  · rw [Fs.p_35, spOf_n (by intro c e; cases e)]; exact fn_walk St IH Fs.f_35 sc_35 rfl rfl (by decide) (fun cdv A outer s H E C => w_35 Tx _ cdv A outer s H E C)
end
theorem all_mk (lawT : ∀ ns : List Int, ns.length ≤ 63 → ∃ h, run prog WF0 24 35 [.kl ns] [] = .ok (.bl true) h) {l : PySem.W.OpenLaw} {w : World} {K : PySem.W.Frag} {h : Heap} {mg : Str → Option Value} {fa C3 C4 f0 f1 f2 f3 f4 f5 f6 f7 f8 f9 f10 f11 f12 f13 f14 f15 f16 f17 f18 f19 f21 f22 f23 f24 f25 f26 f27 f28 f29 f30 f31 f32 f33 f34 f35 : Addr} (X : K.In h) (G : h.Ns mainGlobals mg) (hfa : mg "law" = some (.ref fa))
    {od0 an0 : Option Addr} {sl0 : Array (Option Value)} {oc0 kV0 dc0 pm0 cd0 ct0 : Value}
    {od1 an1 : Option Addr} {sl1 : Array (Option Value)} {oc1 kV1 dc1 pm1 cd1 ct1 : Value}
    {od2 an2 : Option Addr} {sl2 : Array (Option Value)} {oc2 kV2 dc2 pm2 cd2 ct2 : Value}
    {od3 an3 : Option Addr} {sl3 : Array (Option Value)} {oc3 kV3 dc3 pm3 cd3 ct3 : Value}
    {od4 an4 : Option Addr} {sl4 : Array (Option Value)} {oc4 kV4 dc4 pm4 cd4 ct4 : Value}
    {od5 an5 : Option Addr} {sl5 : Array (Option Value)} {oc5 kV5 dc5 pm5 cd5 ct5 : Value}
    {od6 an6 : Option Addr} {sl6 : Array (Option Value)} {oc6 kV6 dc6 pm6 cd6 ct6 : Value}
    {od7 an7 : Option Addr} {sl7 : Array (Option Value)} {oc7 kV7 dc7 pm7 cd7 ct7 : Value}
    {od8 an8 : Option Addr} {sl8 : Array (Option Value)} {oc8 kV8 dc8 pm8 cd8 ct8 : Value}
    {od9 an9 : Option Addr} {sl9 : Array (Option Value)} {oc9 kV9 dc9 pm9 cd9 ct9 : Value}
    {od10 an10 : Option Addr} {sl10 : Array (Option Value)} {oc10 kV10 dc10 pm10 cd10 ct10 : Value}
    {od11 an11 : Option Addr} {sl11 : Array (Option Value)} {oc11 kV11 dc11 pm11 cd11 ct11 : Value}
    {od12 an12 : Option Addr} {sl12 : Array (Option Value)} {oc12 kV12 dc12 pm12 cd12 ct12 : Value}
    {od13 an13 : Option Addr} {sl13 : Array (Option Value)} {oc13 kV13 dc13 pm13 cd13 ct13 : Value}
    {od14 an14 : Option Addr} {sl14 : Array (Option Value)} {oc14 kV14 dc14 pm14 cd14 ct14 : Value}
    {od15 an15 : Option Addr} {sl15 : Array (Option Value)} {oc15 kV15 dc15 pm15 cd15 ct15 : Value}
    {od16 an16 : Option Addr} {sl16 : Array (Option Value)} {oc16 kV16 dc16 pm16 cd16 ct16 : Value}
    {od17 an17 : Option Addr} {sl17 : Array (Option Value)} {oc17 kV17 dc17 pm17 cd17 ct17 : Value}
    {od18 an18 : Option Addr} {sl18 : Array (Option Value)} {oc18 kV18 dc18 pm18 cd18 ct18 : Value}
    {od19 an19 : Option Addr} {sl19 : Array (Option Value)} {oc19 kV19 dc19 pm19 cd19 ct19 : Value}
    {od21 an21 : Option Addr} {sl21 : Array (Option Value)} {oc21 kV21 dc21 pm21 cd21 ct21 : Value}
    {od22 an22 : Option Addr} {sl22 : Array (Option Value)} {oc22 kV22 dc22 pm22 cd22 ct22 : Value}
    {od23 an23 : Option Addr} {sl23 : Array (Option Value)} {oc23 kV23 dc23 pm23 cd23 ct23 : Value}
    {od24 an24 : Option Addr} {sl24 : Array (Option Value)} {oc24 kV24 dc24 pm24 cd24 ct24 : Value}
    {od25 an25 : Option Addr} {sl25 : Array (Option Value)} {oc25 kV25 dc25 pm25 cd25 ct25 : Value}
    {od26 an26 : Option Addr} {sl26 : Array (Option Value)} {oc26 kV26 dc26 pm26 cd26 ct26 : Value}
    {od27 an27 : Option Addr} {sl27 : Array (Option Value)} {oc27 kV27 dc27 pm27 cd27 ct27 : Value}
    {od28 an28 : Option Addr} {sl28 : Array (Option Value)} {oc28 kV28 dc28 pm28 cd28 ct28 : Value}
    {od29 an29 : Option Addr} {sl29 : Array (Option Value)} {oc29 kV29 dc29 pm29 cd29 ct29 : Value}
    {od30 an30 : Option Addr} {sl30 : Array (Option Value)} {oc30 kV30 dc30 pm30 cd30 ct30 : Value}
    {od31 an31 : Option Addr} {sl31 : Array (Option Value)} {oc31 kV31 dc31 pm31 cd31 ct31 : Value}
    {od32 an32 : Option Addr} {sl32 : Array (Option Value)} {oc32 kV32 dc32 pm32 cd32 ct32 : Value}
    {od33 an33 : Option Addr} {sl33 : Array (Option Value)} {oc33 kV33 dc33 pm33 cd33 ct33 : Value}
    {od34 an34 : Option Addr} {sl34 : Array (Option Value)} {oc34 kV34 dc34 pm34 cd34 ct34 : Value}
    {od35 an35 : Option Addr} {sl35 : Array (Option Value)} {oc35 kV35 dc35 pm35 cd35 ct35 : Value}
    (aC3 : PySem.W.nsIn K mainGlobals "Share" = some (some (.ref C3)))
    (aC4 : PySem.W.nsIn K mainGlobals "Source" = some (some (.ref C4)))
    (a0 : PySem.W.findIn K (.ref C3) "__init__" = some (some (.ref f0)))
    (i0 : PySem.W.isFn K (.ref f0) = true)
    (l0 : K.lookup f0 = some ⟨oc0, od0, .func (PySem.W.fnOf "__init__" "Share.__init__" (defArgs s_0) (defBody s_0) (defScope s_0) .none kV0 dc0 pm0 an0 cd0 ct0), sl0⟩)
    (c0 : PySem.W.codeIn K cd0 "Share.__init__" = true)
    (k0 : PySem.W.keepIn K (.ref f0) = true)
    (a1 : PySem.W.findIn K (.ref C3) "__eq__" = some (some (.ref f1)))
    (i1 : PySem.W.isFn K (.ref f1) = true)
    (l1 : K.lookup f1 = some ⟨oc1, od1, .func (PySem.W.fnOf "__eq__" "Share.__eq__" (defArgs s_1) (defBody s_1) (defScope s_1) .none kV1 dc1 pm1 an1 cd1 ct1), sl1⟩)
    (c1 : PySem.W.codeIn K cd1 "Share.__eq__" = true)
    (k1 : PySem.W.keepIn K (.ref f1) = true)
    (a2 : PySem.W.findIn K (.ref C3) "__add__" = some (some (.ref f2)))
    (i2 : PySem.W.isFn K (.ref f2) = true)
    (l2 : K.lookup f2 = some ⟨oc2, od2, .func (PySem.W.fnOf "__add__" "Share.__add__" (defArgs s_2) (defBody s_2) (defScope s_2) .none kV2 dc2 pm2 an2 cd2 ct2), sl2⟩)
    (c2 : PySem.W.codeIn K cd2 "Share.__add__" = true)
    (k2 : PySem.W.keepIn K (.ref f2) = true)
    (a3 : PySem.W.findIn K (.ref C3) "__sub__" = some (some (.ref f3)))
    (i3 : PySem.W.isFn K (.ref f3) = true)
    (l3 : K.lookup f3 = some ⟨oc3, od3, .func (PySem.W.fnOf "__sub__" "Share.__sub__" (defArgs s_3) (defBody s_3) (defScope s_3) .none kV3 dc3 pm3 an3 cd3 ct3), sl3⟩)
    (c3 : PySem.W.codeIn K cd3 "Share.__sub__" = true)
    (k3 : PySem.W.keepIn K (.ref f3) = true)
    (a4 : PySem.W.findIn K (.ref C3) "__mul__" = some (some (.ref f4)))
    (i4 : PySem.W.isFn K (.ref f4) = true)
    (l4 : K.lookup f4 = some ⟨oc4, od4, .func (PySem.W.fnOf "__mul__" "Share.__mul__" (defArgs s_4) (defBody s_4) (defScope s_4) .none kV4 dc4 pm4 an4 cd4 ct4), sl4⟩)
    (c4 : PySem.W.codeIn K cd4 "Share.__mul__" = true)
    (k4 : PySem.W.keepIn K (.ref f4) = true)
    (a5 : PySem.W.findIn K (.ref C3) "is_below" = some (some (.ref f5)))
    (i5 : PySem.W.isFn K (.ref f5) = true)
    (l5 : K.lookup f5 = some ⟨oc5, od5, .func (PySem.W.fnOf "is_below" "Share.is_below" (defArgs s_5) (defBody s_5) (defScope s_5) .none kV5 dc5 pm5 an5 cd5 ct5), sl5⟩)
    (c5 : PySem.W.codeIn K cd5 "Share.is_below" = true)
    (k5 : PySem.W.keepIn K (.ref f5) = true)
    (a6 : PySem.W.nsIn K mainGlobals "chances_of" = some (some (.ref f6)))
    (l6 : K.lookup f6 = some ⟨oc6, od6, .func (PySem.W.fnOf "chances_of" "chances_of" (defArgs s_6) (defBody s_6) (defScope s_6) .none kV6 dc6 pm6 an6 cd6 ct6), sl6⟩)
    (c6 : PySem.W.codeIn K cd6 "chances_of" = true)
    (k6 : PySem.W.keepIn K (.ref f6) = true)
    (a7 : PySem.W.nsIn K mainGlobals "greater_of" = some (some (.ref f7)))
    (l7 : K.lookup f7 = some ⟨oc7, od7, .func (PySem.W.fnOf "greater_of" "greater_of" (defArgs s_7) (defBody s_7) (defScope s_7) .none kV7 dc7 pm7 an7 cd7 ct7), sl7⟩)
    (c7 : PySem.W.codeIn K cd7 "greater_of" = true)
    (k7 : PySem.W.keepIn K (.ref f7) = true)
    (a8 : PySem.W.nsIn K mainGlobals "greatest_chances" = some (some (.ref f8)))
    (l8 : K.lookup f8 = some ⟨oc8, od8, .func (PySem.W.fnOf "greatest_chances" "greatest_chances" (defArgs s_8) (defBody s_8) (defScope s_8) .none kV8 dc8 pm8 an8 cd8 ct8), sl8⟩)
    (c8 : PySem.W.codeIn K cd8 "greatest_chances" = true)
    (k8 : PySem.W.keepIn K (.ref f8) = true)
    (a9 : PySem.W.nsIn K mainGlobals "total_of" = some (some (.ref f9)))
    (l9 : K.lookup f9 = some ⟨oc9, od9, .func (PySem.W.fnOf "total_of" "total_of" (defArgs s_9) (defBody s_9) (defScope s_9) .none kV9 dc9 pm9 an9 cd9 ct9), sl9⟩)
    (c9 : PySem.W.codeIn K cd9 "total_of" = true)
    (k9 : PySem.W.keepIn K (.ref f9) = true)
    (a10 : PySem.W.nsIn K mainGlobals "greatest_sum" = some (some (.ref f10)))
    (l10 : K.lookup f10 = some ⟨oc10, od10, .func (PySem.W.fnOf "greatest_sum" "greatest_sum" (defArgs s_10) (defBody s_10) (defScope s_10) .none kV10 dc10 pm10 an10 cd10 ct10), sl10⟩)
    (c10 : PySem.W.codeIn K cd10 "greatest_sum" = true)
    (k10 : PySem.W.keepIn K (.ref f10) = true)
    (a11 : PySem.W.nsIn K mainGlobals "least_loss" = some (some (.ref f11)))
    (l11 : K.lookup f11 = some ⟨oc11, od11, .func (PySem.W.fnOf "least_loss" "least_loss" (defArgs s_11) (defBody s_11) (defScope s_11) .none kV11 dc11 pm11 an11 cd11 ct11), sl11⟩)
    (c11 : PySem.W.codeIn K cd11 "least_loss" = true)
    (k11 : PySem.W.keepIn K (.ref f11) = true)
    (a12 : PySem.W.nsIn K mainGlobals "is_integer" = some (some (.ref f12)))
    (l12 : K.lookup f12 = some ⟨oc12, od12, .func (PySem.W.fnOf "is_integer" "is_integer" (defArgs s_12) (defBody s_12) (defScope s_12) .none kV12 dc12 pm12 an12 cd12 ct12), sl12⟩)
    (c12 : PySem.W.codeIn K cd12 "is_integer" = true)
    (k12 : PySem.W.keepIn K (.ref f12) = true)
    (a13 : PySem.W.nsIn K mainGlobals "is_number" = some (some (.ref f13)))
    (l13 : K.lookup f13 = some ⟨oc13, od13, .func (PySem.W.fnOf "is_number" "is_number" (defArgs s_13) (defBody s_13) (defScope s_13) .none kV13 dc13 pm13 an13 cd13 ct13), sl13⟩)
    (c13 : PySem.W.codeIn K cd13 "is_number" = true)
    (k13 : PySem.W.keepIn K (.ref f13) = true)
    (a14 : PySem.W.nsIn K mainGlobals "is_between" = some (some (.ref f14)))
    (l14 : K.lookup f14 = some ⟨oc14, od14, .func (PySem.W.fnOf "is_between" "is_between" (defArgs s_14) (defBody s_14) (defScope s_14) .none kV14 dc14 pm14 an14 cd14 ct14), sl14⟩)
    (c14 : PySem.W.codeIn K cd14 "is_between" = true)
    (k14 : PySem.W.keepIn K (.ref f14) = true)
    (a15 : PySem.W.nsIn K mainGlobals "is_row" = some (some (.ref f15)))
    (l15 : K.lookup f15 = some ⟨oc15, od15, .func (PySem.W.fnOf "is_row" "is_row" (defArgs s_15) (defBody s_15) (defScope s_15) .none kV15 dc15 pm15 an15 cd15 ct15), sl15⟩)
    (c15 : PySem.W.codeIn K cd15 "is_row" = true)
    (k15 : PySem.W.keepIn K (.ref f15) = true)
    (a16 : PySem.W.nsIn K mainGlobals "are_states" = some (some (.ref f16)))
    (l16 : K.lookup f16 = some ⟨oc16, od16, .func (PySem.W.fnOf "are_states" "are_states" (defArgs s_16) (defBody s_16) (defScope s_16) .none kV16 dc16 pm16 an16 cd16 ct16), sl16⟩)
    (c16 : PySem.W.codeIn K cd16 "are_states" = true)
    (k16 : PySem.W.keepIn K (.ref f16) = true)
    (a17 : PySem.W.findIn K (.ref C4) "__init__" = some (some (.ref f17)))
    (i17 : PySem.W.isFn K (.ref f17) = true)
    (l17 : K.lookup f17 = some ⟨oc17, od17, .func (PySem.W.fnOf "__init__" "Source.__init__" (defArgs s_17) (defBody s_17) (defScope s_17) .none kV17 dc17 pm17 an17 cd17 ct17), sl17⟩)
    (c17 : PySem.W.codeIn K cd17 "Source.__init__" = true)
    (k17 : PySem.W.keepIn K (.ref f17) = true)
    (a18 : PySem.W.findIn K (.ref C4) "chance_in" = some (some (.ref f18)))
    (i18 : PySem.W.isFn K (.ref f18) = true)
    (l18 : K.lookup f18 = some ⟨oc18, od18, .func (PySem.W.fnOf "chance_in" "Source.chance_in" (defArgs s_18) (defBody s_18) (defScope s_18) .none kV18 dc18 pm18 an18 cd18 ct18), sl18⟩)
    (c18 : PySem.W.codeIn K cd18 "Source.chance_in" = true)
    (k18 : PySem.W.keepIn K (.ref f18) = true)
    (a19 : PySem.W.findIn K (.ref C4) "next_of" = some (some (.ref f19)))
    (i19 : PySem.W.isFn K (.ref f19) = true)
    (l19 : K.lookup f19 = some ⟨oc19, od19, .func (PySem.W.fnOf "next_of" "Source.next_of" (defArgs s_19) (defBody s_19) (defScope s_19) .none kV19 dc19 pm19 an19 cd19 ct19), sl19⟩)
    (c19 : PySem.W.codeIn K cd19 "Source.next_of" = true)
    (k19 : PySem.W.keepIn K (.ref f19) = true)
    (a21 : PySem.W.nsIn K mainGlobals "_law_box" = some (some (.ref f21)))
    (l21 : K.lookup f21 = some ⟨oc21, od21, .func (PySem.W.fnOf "_law_box" "_law_box" (defArgs s_21) (defBody s_21) (defScope s_21) .none kV21 dc21 pm21 an21 cd21 ct21), sl21⟩)
    (c21 : PySem.W.codeIn K cd21 "_law_box" = true)
    (k21 : PySem.W.keepIn K (.ref f21) = true)
    (a22 : PySem.W.nsIn K mainGlobals "_law_draw" = some (some (.ref f22)))
    (l22 : K.lookup f22 = some ⟨oc22, od22, .func (PySem.W.fnOf "_law_draw" "_law_draw" (defArgs s_22) (defBody s_22) (defScope s_22) .none kV22 dc22 pm22 an22 cd22 ct22), sl22⟩)
    (c22 : PySem.W.codeIn K cd22 "_law_draw" = true)
    (k22 : PySem.W.keepIn K (.ref f22) = true)
    (a23 : PySem.W.nsIn K mainGlobals "_law_gcd" = some (some (.ref f23)))
    (l23 : K.lookup f23 = some ⟨oc23, od23, .func (PySem.W.fnOf "_law_gcd" "_law_gcd" (defArgs s_23) (defBody s_23) (defScope s_23) .none kV23 dc23 pm23 an23 cd23 ct23), sl23⟩)
    (c23 : PySem.W.codeIn K cd23 "_law_gcd" = true)
    (k23 : PySem.W.keepIn K (.ref f23) = true)
    (a24 : PySem.W.nsIn K mainGlobals "_law_lowest" = some (some (.ref f24)))
    (l24 : K.lookup f24 = some ⟨oc24, od24, .func (PySem.W.fnOf "_law_lowest" "_law_lowest" (defArgs s_24) (defBody s_24) (defScope s_24) .none kV24 dc24 pm24 an24 cd24 ct24), sl24⟩)
    (c24 : PySem.W.codeIn K cd24 "_law_lowest" = true)
    (k24 : PySem.W.keepIn K (.ref f24) = true)
    (a25 : PySem.W.nsIn K mainGlobals "_law_is_integer" = some (some (.ref f25)))
    (l25 : K.lookup f25 = some ⟨oc25, od25, .func (PySem.W.fnOf "_law_is_integer" "_law_is_integer" (defArgs s_25) (defBody s_25) (defScope s_25) .none kV25 dc25 pm25 an25 cd25 ct25), sl25⟩)
    (c25 : PySem.W.codeIn K cd25 "_law_is_integer" = true)
    (k25 : PySem.W.keepIn K (.ref f25) = true)
    (a26 : PySem.W.nsIn K mainGlobals "_law_is_share" = some (some (.ref f26)))
    (l26 : K.lookup f26 = some ⟨oc26, od26, .func (PySem.W.fnOf "_law_is_share" "_law_is_share" (defArgs s_26) (defBody s_26) (defScope s_26) .none kV26 dc26 pm26 an26 cd26 ct26), sl26⟩)
    (c26 : PySem.W.codeIn K cd26 "_law_is_share" = true)
    (k26 : PySem.W.keepIn K (.ref f26) = true)
    (a27 : PySem.W.nsIn K mainGlobals "_law_quadruples" = some (some (.ref f27)))
    (l27 : K.lookup f27 = some ⟨oc27, od27, .func (PySem.W.fnOf "_law_quadruples" "_law_quadruples" (defArgs s_27) (defBody s_27) (defScope s_27) .none kV27 dc27 pm27 an27 cd27 ct27), sl27⟩)
    (c27 : PySem.W.codeIn K cd27 "_law_quadruples" = true)
    (k27 : PySem.W.keepIn K (.ref f27) = true)
    (a28 : PySem.W.nsIn K mainGlobals "_law_factor" = some (some (.ref f28)))
    (l28 : K.lookup f28 = some ⟨oc28, od28, .func (PySem.W.fnOf "_law_factor" "_law_factor" (defArgs s_28) (defBody s_28) (defScope s_28) .none kV28 dc28 pm28 an28 cd28 ct28), sl28⟩)
    (c28 : PySem.W.codeIn K cd28 "_law_factor" = true)
    (k28 : PySem.W.keepIn K (.ref f28) = true)
    (a29 : PySem.W.nsIn K mainGlobals "_law_level" = some (some (.ref f29)))
    (l29 : K.lookup f29 = some ⟨oc29, od29, .func (PySem.W.fnOf "_law_level" "_law_level" (defArgs s_29) (defBody s_29) (defScope s_29) .none kV29 dc29 pm29 an29 cd29 ct29), sl29⟩)
    (c29 : PySem.W.codeIn K cd29 "_law_level" = true)
    (k29 : PySem.W.keepIn K (.ref f29) = true)
    (a30 : PySem.W.nsIn K mainGlobals "_law_common" = some (some (.ref f30)))
    (l30 : K.lookup f30 = some ⟨oc30, od30, .func (PySem.W.fnOf "_law_common" "_law_common" (defArgs s_30) (defBody s_30) (defScope s_30) .none kV30 dc30 pm30 an30 cd30 ct30), sl30⟩)
    (c30 : PySem.W.codeIn K cd30 "_law_common" = true)
    (k30 : PySem.W.keepIn K (.ref f30) = true)
    (a31 : PySem.W.nsIn K mainGlobals "_law_sum" = some (some (.ref f31)))
    (l31 : K.lookup f31 = some ⟨oc31, od31, .func (PySem.W.fnOf "_law_sum" "_law_sum" (defArgs s_31) (defBody s_31) (defScope s_31) .none kV31 dc31 pm31 an31 cd31 ct31), sl31⟩)
    (c31 : PySem.W.codeIn K cd31 "_law_sum" = true)
    (k31 : PySem.W.keepIn K (.ref f31) = true)
    (a32 : PySem.W.nsIn K mainGlobals "_law_sum_holds" = some (some (.ref f32)))
    (l32 : K.lookup f32 = some ⟨oc32, od32, .func (PySem.W.fnOf "_law_sum_holds" "_law_sum_holds" (defArgs s_32) (defBody s_32) (defScope s_32) .none kV32 dc32 pm32 an32 cd32 ct32), sl32⟩)
    (c32 : PySem.W.codeIn K cd32 "_law_sum_holds" = true)
    (k32 : PySem.W.keepIn K (.ref f32) = true)
    (a33 : PySem.W.nsIn K mainGlobals "_law_loss_holds" = some (some (.ref f33)))
    (l33 : K.lookup f33 = some ⟨oc33, od33, .func (PySem.W.fnOf "_law_loss_holds" "_law_loss_holds" (defArgs s_33) (defBody s_33) (defScope s_33) .none kV33 dc33 pm33 an33 cd33 ct33), sl33⟩)
    (c33 : PySem.W.codeIn K cd33 "_law_loss_holds" = true)
    (k33 : PySem.W.keepIn K (.ref f33) = true)
    (a34 : PySem.W.nsIn K mainGlobals "_law_losses" = some (some (.ref f34)))
    (l34 : K.lookup f34 = some ⟨oc34, od34, .func (PySem.W.fnOf "_law_losses" "_law_losses" (defArgs s_34) (defBody s_34) (defScope s_34) .none kV34 dc34 pm34 an34 cd34 ct34), sl34⟩)
    (c34 : PySem.W.codeIn K cd34 "_law_losses" = true)
    (k34 : PySem.W.keepIn K (.ref f34) = true)
    (a35 : PySem.W.nsIn K mainGlobals "law" = some (some (.ref f35)))
    (l35 : K.lookup f35 = some ⟨oc35, od35, .func (PySem.W.fnOf "law" "law" (defArgs s_35) (defBody s_35) (defScope s_35) .none kV35 dc35 pm35 an35 cd35 ct35), sl35⟩)
    (c35 : PySem.W.codeIn K cd35 "law" = true)
    (k35 : PySem.W.keepIn K (.ref f35) = true)
    (pg3 : PySem.W.plainGet K C3 Str.empty = true)
    (hd3 : PySem.W.hasDictIn K C3 = true)
    (po3 : PySem.W.plainOver K C3 = true)
    (sa3 : PySem.W.findIn K (.ref C3) "__setattr__" = some (some (.builtin "object.__setattr__")))
    (mk3 : PySem.W.makesIn K C3 = true)
    (kc3 : PySem.W.keepIn K (.ref C3) = true)
    (sf3 : PySem.W.selfFirst K C3 = true)
    (dc_3 : PySem.W.findIn K (.ref C3) "__class__" = some (some (.builtin "object.__class__")))
    (mo3 : PySem.W.mroIn K C3 (.type "object") = some true)
    (n3_number : PySem.W.findIn K (.ref C3) "number" = some none)
    (n3_over : PySem.W.findIn K (.ref C3) "over" = some none)
    (n3_rows : PySem.W.findIn K (.ref C3) "rows" = some none)
    (n3_states : PySem.W.findIn K (.ref C3) "states" = some none)
    (n3_under : PySem.W.findIn K (.ref C3) "under" = some none)
    (ko3_int : PySem.W.kitOne K (.ref C3) (.type "int") = some false)
    (ko3_bool : PySem.W.kitOne K (.ref C3) (.type "bool") = some false)
    (ko3_str : PySem.W.kitOne K (.ref C3) (.type "str") = some false)
    (ko3_tuple : PySem.W.kitOne K (.ref C3) (.type "tuple") = some false)
    (ko3_list : PySem.W.kitOne K (.ref C3) (.type "list") = some false)
    (kk3_3 : PySem.W.kitOne K (.ref C3) (.ref C3) = some true)
    (kk3_4 : PySem.W.kitOne K (.ref C3) (.ref C4) = some false)
    (kb3_NoneType : PySem.W.kitOne K (.type "NoneType") (.ref C3) = some false)
    (kb3_bool : PySem.W.kitOne K (.type "bool") (.ref C3) = some false)
    (kb3_int : PySem.W.kitOne K (.type "int") (.ref C3) = some false)
    (kb3_str : PySem.W.kitOne K (.type "str") (.ref C3) = some false)
    (kb3_tuple : PySem.W.kitOne K (.type "tuple") (.ref C3) = some false)
    (kb3_list : PySem.W.kitOne K (.type "list") (.ref C3) = some false)
    (pg4 : PySem.W.plainGet K C4 Str.empty = true)
    (hd4 : PySem.W.hasDictIn K C4 = true)
    (po4 : PySem.W.plainOver K C4 = true)
    (sa4 : PySem.W.findIn K (.ref C4) "__setattr__" = some (some (.builtin "object.__setattr__")))
    (mk4 : PySem.W.makesIn K C4 = true)
    (kc4 : PySem.W.keepIn K (.ref C4) = true)
    (sf4 : PySem.W.selfFirst K C4 = true)
    (dc_4 : PySem.W.findIn K (.ref C4) "__class__" = some (some (.builtin "object.__class__")))
    (mo4 : PySem.W.mroIn K C4 (.type "object") = some true)
    (n4_number : PySem.W.findIn K (.ref C4) "number" = some none)
    (n4_over : PySem.W.findIn K (.ref C4) "over" = some none)
    (n4_rows : PySem.W.findIn K (.ref C4) "rows" = some none)
    (n4_states : PySem.W.findIn K (.ref C4) "states" = some none)
    (n4_under : PySem.W.findIn K (.ref C4) "under" = some none)
    (ko4_int : PySem.W.kitOne K (.ref C4) (.type "int") = some false)
    (ko4_bool : PySem.W.kitOne K (.ref C4) (.type "bool") = some false)
    (ko4_str : PySem.W.kitOne K (.ref C4) (.type "str") = some false)
    (ko4_tuple : PySem.W.kitOne K (.ref C4) (.type "tuple") = some false)
    (ko4_list : PySem.W.kitOne K (.ref C4) (.type "list") = some false)
    (kk4_3 : PySem.W.kitOne K (.ref C4) (.ref C3) = some false)
    (kk4_4 : PySem.W.kitOne K (.ref C4) (.ref C4) = some true)
    (kb4_NoneType : PySem.W.kitOne K (.type "NoneType") (.ref C4) = some false)
    (kb4_bool : PySem.W.kitOne K (.type "bool") (.ref C4) = some false)
    (kb4_int : PySem.W.kitOne K (.type "int") (.ref C4) = some false)
    (kb4_str : PySem.W.kitOne K (.type "str") (.ref C4) = some false)
    (kb4_tuple : PySem.W.kitOne K (.type "tuple") (.ref C4) = some false)
    (kb4_list : PySem.W.kitOne K (.type "list") (.ref C4) = some false)
    (sp1 : PySem.W.specialIn K (.builtin "object.__class__") "__get__" = some (some (.builtin "getset_descriptor.__get__")))
    (sp2 : PySem.W.takesIn K (.builtin "object.__class__") = some true)
    (z_abs : PySem.W.nsIn K mainGlobals "abs" = some none)
    (z_all : PySem.W.nsIn K mainGlobals "all" = some none)
    (z_bool : PySem.W.nsIn K mainGlobals "bool" = some none)
    (z_int : PySem.W.nsIn K mainGlobals "int" = some none)
    (z_isinstance : PySem.W.nsIn K mainGlobals "isinstance" = some none)
    (z_len : PySem.W.nsIn K mainGlobals "len" = some none)
    (z_list : PySem.W.nsIn K mainGlobals "list" = some none)
    (z_max : PySem.W.nsIn K mainGlobals "max" = some none)
    (z_range : PySem.W.nsIn K mainGlobals "range" = some none)
    (z_tuple : PySem.W.nsIn K mainGlobals "tuple" = some none)
    (z_zip : PySem.W.nsIn K mainGlobals "zip" = some none)
    (g_gcd : PySem.W.nsIn K mainGlobals "gcd" = some (some (.builtin "math.gcd")))
    : ∃ fd : FuncData, (∀ (s : Shared) (v : Value), BindsTo s fd ⟨[v], []⟩ [("script", v)]) ∧ ∀ base : Heap, K.In base → base.Ns mainGlobals mg → FnOk l.prog w K mg base CX0 65 fa fd ["script"] (spLaw K) := by
  have e := hfa.symm.trans (PySem.W.mg_of X G a35)
  cases e
  have F0 := fun_mk (st := s_0) l0 c0 k0
  have F1 := fun_mk (st := s_1) l1 c1 k1
  have F2 := fun_mk (st := s_2) l2 c2 k2
  have F3 := fun_mk (st := s_3) l3 c3 k3
  have F4 := fun_mk (st := s_4) l4 c4 k4
  have F5 := fun_mk (st := s_5) l5 c5 k5
  have F6 := fun_mk (st := s_6) l6 c6 k6
  have F7 := fun_mk (st := s_7) l7 c7 k7
  have F8 := fun_mk (st := s_8) l8 c8 k8
  have F9 := fun_mk (st := s_9) l9 c9 k9
  have F10 := fun_mk (st := s_10) l10 c10 k10
  have F11 := fun_mk (st := s_11) l11 c11 k11
  have F12 := fun_mk (st := s_12) l12 c12 k12
  have F13 := fun_mk (st := s_13) l13 c13 k13
  have F14 := fun_mk (st := s_14) l14 c14 k14
  have F15 := fun_mk (st := s_15) l15 c15 k15
  have F16 := fun_mk (st := s_16) l16 c16 k16
  have F17 := fun_mk (st := s_17) l17 c17 k17
  have F18 := fun_mk (st := s_18) l18 c18 k18
  have F19 := fun_mk (st := s_19) l19 c19 k19
  have F21 := fun_mk (st := s_21) l21 c21 k21
  have F22 := fun_mk (st := s_22) l22 c22 k22
  have F23 := fun_mk (st := s_23) l23 c23 k23
  have F24 := fun_mk (st := s_24) l24 c24 k24
  have F25 := fun_mk (st := s_25) l25 c25 k25
  have F26 := fun_mk (st := s_26) l26 c26 k26
  have F27 := fun_mk (st := s_27) l27 c27 k27
  have F28 := fun_mk (st := s_28) l28 c28 k28
  have F29 := fun_mk (st := s_29) l29 c29 k29
  have F30 := fun_mk (st := s_30) l30 c30 k30
  have F31 := fun_mk (st := s_31) l31 c31 k31
  have F32 := fun_mk (st := s_32) l32 c32 k32
  have F33 := fun_mk (st := s_33) l33 c33 k33
  have F34 := fun_mk (st := s_34) l34 c34 k34
  have F35 := fun_mk (st := s_35) l35 c35 k35
  let D : Dat := ⟨(fun c => ((f0 :: f1 :: f2 :: f3 :: f4 :: f5 :: f6 :: f7 :: f8 :: f9 :: f10 :: f11 :: f12 :: f13 :: f14 :: f15 :: f16 :: f17 :: f18 :: f19 :: 0 :: f21 :: f22 :: f23 :: f24 :: f25 :: f26 :: f27 :: f28 :: f29 :: f30 :: f31 :: f32 :: f33 :: f34 :: fa :: []) : List Addr).getD c 0), (fun c => ((PySem.W.fnOf "__init__" "Share.__init__" (defArgs s_0) (defBody s_0) (defScope s_0) .none kV0 dc0 pm0 an0 cd0 ct0 :: PySem.W.fnOf "__eq__" "Share.__eq__" (defArgs s_1) (defBody s_1) (defScope s_1) .none kV1 dc1 pm1 an1 cd1 ct1 :: PySem.W.fnOf "__add__" "Share.__add__" (defArgs s_2) (defBody s_2) (defScope s_2) .none kV2 dc2 pm2 an2 cd2 ct2 :: PySem.W.fnOf "__sub__" "Share.__sub__" (defArgs s_3) (defBody s_3) (defScope s_3) .none kV3 dc3 pm3 an3 cd3 ct3 :: PySem.W.fnOf "__mul__" "Share.__mul__" (defArgs s_4) (defBody s_4) (defScope s_4) .none kV4 dc4 pm4 an4 cd4 ct4 :: PySem.W.fnOf "is_below" "Share.is_below" (defArgs s_5) (defBody s_5) (defScope s_5) .none kV5 dc5 pm5 an5 cd5 ct5 :: PySem.W.fnOf "chances_of" "chances_of" (defArgs s_6) (defBody s_6) (defScope s_6) .none kV6 dc6 pm6 an6 cd6 ct6 :: PySem.W.fnOf "greater_of" "greater_of" (defArgs s_7) (defBody s_7) (defScope s_7) .none kV7 dc7 pm7 an7 cd7 ct7 :: PySem.W.fnOf "greatest_chances" "greatest_chances" (defArgs s_8) (defBody s_8) (defScope s_8) .none kV8 dc8 pm8 an8 cd8 ct8 :: PySem.W.fnOf "total_of" "total_of" (defArgs s_9) (defBody s_9) (defScope s_9) .none kV9 dc9 pm9 an9 cd9 ct9 :: PySem.W.fnOf "greatest_sum" "greatest_sum" (defArgs s_10) (defBody s_10) (defScope s_10) .none kV10 dc10 pm10 an10 cd10 ct10 :: PySem.W.fnOf "least_loss" "least_loss" (defArgs s_11) (defBody s_11) (defScope s_11) .none kV11 dc11 pm11 an11 cd11 ct11 :: PySem.W.fnOf "is_integer" "is_integer" (defArgs s_12) (defBody s_12) (defScope s_12) .none kV12 dc12 pm12 an12 cd12 ct12 :: PySem.W.fnOf "is_number" "is_number" (defArgs s_13) (defBody s_13) (defScope s_13) .none kV13 dc13 pm13 an13 cd13 ct13 :: PySem.W.fnOf "is_between" "is_between" (defArgs s_14) (defBody s_14) (defScope s_14) .none kV14 dc14 pm14 an14 cd14 ct14 :: PySem.W.fnOf "is_row" "is_row" (defArgs s_15) (defBody s_15) (defScope s_15) .none kV15 dc15 pm15 an15 cd15 ct15 :: PySem.W.fnOf "are_states" "are_states" (defArgs s_16) (defBody s_16) (defScope s_16) .none kV16 dc16 pm16 an16 cd16 ct16 :: PySem.W.fnOf "__init__" "Source.__init__" (defArgs s_17) (defBody s_17) (defScope s_17) .none kV17 dc17 pm17 an17 cd17 ct17 :: PySem.W.fnOf "chance_in" "Source.chance_in" (defArgs s_18) (defBody s_18) (defScope s_18) .none kV18 dc18 pm18 an18 cd18 ct18 :: PySem.W.fnOf "next_of" "Source.next_of" (defArgs s_19) (defBody s_19) (defScope s_19) .none kV19 dc19 pm19 an19 cd19 ct19 :: PySem.W.fnOf "law" "law" (defArgs s_35) (defBody s_35) (defScope s_35) .none kV35 dc35 pm35 an35 cd35 ct35 :: PySem.W.fnOf "_law_box" "_law_box" (defArgs s_21) (defBody s_21) (defScope s_21) .none kV21 dc21 pm21 an21 cd21 ct21 :: PySem.W.fnOf "_law_draw" "_law_draw" (defArgs s_22) (defBody s_22) (defScope s_22) .none kV22 dc22 pm22 an22 cd22 ct22 :: PySem.W.fnOf "_law_gcd" "_law_gcd" (defArgs s_23) (defBody s_23) (defScope s_23) .none kV23 dc23 pm23 an23 cd23 ct23 :: PySem.W.fnOf "_law_lowest" "_law_lowest" (defArgs s_24) (defBody s_24) (defScope s_24) .none kV24 dc24 pm24 an24 cd24 ct24 :: PySem.W.fnOf "_law_is_integer" "_law_is_integer" (defArgs s_25) (defBody s_25) (defScope s_25) .none kV25 dc25 pm25 an25 cd25 ct25 :: PySem.W.fnOf "_law_is_share" "_law_is_share" (defArgs s_26) (defBody s_26) (defScope s_26) .none kV26 dc26 pm26 an26 cd26 ct26 :: PySem.W.fnOf "_law_quadruples" "_law_quadruples" (defArgs s_27) (defBody s_27) (defScope s_27) .none kV27 dc27 pm27 an27 cd27 ct27 :: PySem.W.fnOf "_law_factor" "_law_factor" (defArgs s_28) (defBody s_28) (defScope s_28) .none kV28 dc28 pm28 an28 cd28 ct28 :: PySem.W.fnOf "_law_level" "_law_level" (defArgs s_29) (defBody s_29) (defScope s_29) .none kV29 dc29 pm29 an29 cd29 ct29 :: PySem.W.fnOf "_law_common" "_law_common" (defArgs s_30) (defBody s_30) (defScope s_30) .none kV30 dc30 pm30 an30 cd30 ct30 :: PySem.W.fnOf "_law_sum" "_law_sum" (defArgs s_31) (defBody s_31) (defScope s_31) .none kV31 dc31 pm31 an31 cd31 ct31 :: PySem.W.fnOf "_law_sum_holds" "_law_sum_holds" (defArgs s_32) (defBody s_32) (defScope s_32) .none kV32 dc32 pm32 an32 cd32 ct32 :: PySem.W.fnOf "_law_loss_holds" "_law_loss_holds" (defArgs s_33) (defBody s_33) (defScope s_33) .none kV33 dc33 pm33 an33 cd33 ct33 :: PySem.W.fnOf "_law_losses" "_law_losses" (defArgs s_34) (defBody s_34) (defScope s_34) .none kV34 dc34 pm34 an34 cd34 ct34 :: PySem.W.fnOf "law" "law" (defArgs s_35) (defBody s_35) (defScope s_35) .none kV35 dc35 pm35 an35 cd35 ct35 :: []) : List FuncData).getD c (PySem.W.fnOf "law" "law" (defArgs s_35) (defBody s_35) (defScope s_35) .none kV35 dc35 pm35 an35 cd35 ct35)), (fun c => ((["self", "over", "under"] :: ["self", "other"] :: ["self", "other"] :: ["self", "other"] :: ["self", "other"] :: ["self", "other"] :: ["source", "many"] :: ["one", "other"] :: ["sources", "factors", "many"] :: ["shares"] :: ["sources", "factors", "many"] :: ["sources", "many"] :: ["value"] :: ["value"] :: ["value", "least", "most"] :: ["value"] :: ["value"] :: ["self", "rows"] :: ["self", "state", "bit"] :: ["self", "state", "bit"] :: ["self", "word"] :: ["script"] :: ["box", "many"] :: ["one", "other"] :: ["over", "under"] :: ["value"] :: ["value", "due"] :: ["box"] :: ["box"] :: ["rows", "many"] :: ["tables", "factors", "many"] :: ["tables", "factors", "many"] :: ["box", "sources", "factors", "many", "due"] :: ["box", "sources", "many", "due"] :: ["box"] :: ["script"] :: []) : List (List Str)).getD c []), 0⟩
  let ca : Nat → Addr := (fun c => ([0, 0, 0, C3, C4] : List Addr).getD c 0)
  have Fs : Funs K D := ⟨F0, rfl, F1, rfl, F2, rfl, F3, rfl, F4, rfl, F5, rfl, F6, rfl, F7, rfl, F8, rfl, F9, rfl, F10, rfl, F11, rfl, F12, rfl, F13, rfl, F14, rfl, F15, rfl, F16, rfl, F17, rfl, F18, rfl, F19, rfl, F21, rfl, F22, rfl, F23, rfl, F24, rfl, F25, rfl, F26, rfl, F27, rfl, F28, rfl, F29, rfl, F30, rfl, F31, rfl, F32, rfl, F33, rfl, F34, rfl, F35, rfl⟩
  have b0 : Binds K (D.fd 0) (D.ps 0) [] := F0.binds (ps := ["self", "over", "under"]) fun _ _ _ _ _ _ us hl => match us, hl with | [_, _, _], _ => rfl
  have b1 : Binds K (D.fd 1) (D.ps 1) [] := F1.binds (ps := ["self", "other"]) fun _ _ _ _ _ _ us hl => match us, hl with | [_, _], _ => rfl
  have b2 : Binds K (D.fd 2) (D.ps 2) [] := F2.binds (ps := ["self", "other"]) fun _ _ _ _ _ _ us hl => match us, hl with | [_, _], _ => rfl
  have b3 : Binds K (D.fd 3) (D.ps 3) [] := F3.binds (ps := ["self", "other"]) fun _ _ _ _ _ _ us hl => match us, hl with | [_, _], _ => rfl
  have b4 : Binds K (D.fd 4) (D.ps 4) [] := F4.binds (ps := ["self", "other"]) fun _ _ _ _ _ _ us hl => match us, hl with | [_, _], _ => rfl
  have b5 : Binds K (D.fd 5) (D.ps 5) [] := F5.binds (ps := ["self", "other"]) fun _ _ _ _ _ _ us hl => match us, hl with | [_, _], _ => rfl
  have b6 : Binds K (D.fd 6) (D.ps 6) [] := F6.binds (ps := ["source", "many"]) fun _ _ _ _ _ _ us hl => match us, hl with | [_, _], _ => rfl
  have b7 : Binds K (D.fd 7) (D.ps 7) [] := F7.binds (ps := ["one", "other"]) fun _ _ _ _ _ _ us hl => match us, hl with | [_, _], _ => rfl
  have b8 : Binds K (D.fd 8) (D.ps 8) [] := F8.binds (ps := ["sources", "factors", "many"]) fun _ _ _ _ _ _ us hl => match us, hl with | [_, _, _], _ => rfl
  have b9 : Binds K (D.fd 9) (D.ps 9) [] := F9.binds (ps := ["shares"]) fun _ _ _ _ _ _ us hl => match us, hl with | [_], _ => rfl
  have b10 : Binds K (D.fd 10) (D.ps 10) [] := F10.binds (ps := ["sources", "factors", "many"]) fun _ _ _ _ _ _ us hl => match us, hl with | [_, _, _], _ => rfl
  have b11 : Binds K (D.fd 11) (D.ps 11) [] := F11.binds (ps := ["sources", "many"]) fun _ _ _ _ _ _ us hl => match us, hl with | [_, _], _ => rfl
  have b12 : Binds K (D.fd 12) (D.ps 12) [] := F12.binds (ps := ["value"]) fun _ _ _ _ _ _ us hl => match us, hl with | [_], _ => rfl
  have b13 : Binds K (D.fd 13) (D.ps 13) [] := F13.binds (ps := ["value"]) fun _ _ _ _ _ _ us hl => match us, hl with | [_], _ => rfl
  have b14 : Binds K (D.fd 14) (D.ps 14) [] := F14.binds (ps := ["value", "least", "most"]) fun _ _ _ _ _ _ us hl => match us, hl with | [_, _, _], _ => rfl
  have b15 : Binds K (D.fd 15) (D.ps 15) [] := F15.binds (ps := ["value"]) fun _ _ _ _ _ _ us hl => match us, hl with | [_], _ => rfl
  have b16 : Binds K (D.fd 16) (D.ps 16) [] := F16.binds (ps := ["value"]) fun _ _ _ _ _ _ us hl => match us, hl with | [_], _ => rfl
  have b17 : Binds K (D.fd 17) (D.ps 17) [] := F17.binds (ps := ["self", "rows"]) fun _ _ _ _ _ _ us hl => match us, hl with | [_, _], _ => rfl
  have b18 : Binds K (D.fd 18) (D.ps 18) [] := F18.binds (ps := ["self", "state", "bit"]) fun _ _ _ _ _ _ us hl => match us, hl with | [_, _, _], _ => rfl
  have b19 : Binds K (D.fd 19) (D.ps 19) [] := F19.binds (ps := ["self", "state", "bit"]) fun _ _ _ _ _ _ us hl => match us, hl with | [_, _, _], _ => rfl
  have b21 : Binds K (D.fd 21) (D.ps 21) [] := F21.binds (ps := ["script"]) fun _ _ _ _ _ _ us hl => match us, hl with | [_], _ => rfl
  have b22 : Binds K (D.fd 22) (D.ps 22) [] := F22.binds (ps := ["box", "many"]) fun _ _ _ _ _ _ us hl => match us, hl with | [_, _], _ => rfl
  have b23 : Binds K (D.fd 23) (D.ps 23) [] := F23.binds (ps := ["one", "other"]) fun _ _ _ _ _ _ us hl => match us, hl with | [_, _], _ => rfl
  have b24 : Binds K (D.fd 24) (D.ps 24) [] := F24.binds (ps := ["over", "under"]) fun _ _ _ _ _ _ us hl => match us, hl with | [_, _], _ => rfl
  have b25 : Binds K (D.fd 25) (D.ps 25) [] := F25.binds (ps := ["value"]) fun _ _ _ _ _ _ us hl => match us, hl with | [_], _ => rfl
  have b26 : Binds K (D.fd 26) (D.ps 26) [] := F26.binds (ps := ["value", "due"]) fun _ _ _ _ _ _ us hl => match us, hl with | [_, _], _ => rfl
  have b27 : Binds K (D.fd 27) (D.ps 27) [] := F27.binds (ps := ["box"]) fun _ _ _ _ _ _ us hl => match us, hl with | [_], _ => rfl
  have b28 : Binds K (D.fd 28) (D.ps 28) [] := F28.binds (ps := ["box"]) fun _ _ _ _ _ _ us hl => match us, hl with | [_], _ => rfl
  have b29 : Binds K (D.fd 29) (D.ps 29) [] := F29.binds (ps := ["rows", "many"]) fun _ _ _ _ _ _ us hl => match us, hl with | [_, _], _ => rfl
  have b30 : Binds K (D.fd 30) (D.ps 30) [] := F30.binds (ps := ["tables", "factors", "many"]) fun _ _ _ _ _ _ us hl => match us, hl with | [_, _, _], _ => rfl
  have b31 : Binds K (D.fd 31) (D.ps 31) [] := F31.binds (ps := ["tables", "factors", "many"]) fun _ _ _ _ _ _ us hl => match us, hl with | [_, _, _], _ => rfl
  have b32 : Binds K (D.fd 32) (D.ps 32) [] := F32.binds (ps := ["box", "sources", "factors", "many", "due"]) fun _ _ _ _ _ _ us hl => match us, hl with | [_, _, _, _, _], _ => rfl
  have b33 : Binds K (D.fd 33) (D.ps 33) [] := F33.binds (ps := ["box", "sources", "many", "due"]) fun _ _ _ _ _ _ us hl => match us, hl with | [_, _, _, _], _ => rfl
  have b34 : Binds K (D.fd 34) (D.ps 34) [] := F34.binds (ps := ["box"]) fun _ _ _ _ _ _ us hl => match us, hl with | [_], _ => rfl
  have b35 : Binds K (D.fd 35) (D.ps 35) [] := F35.binds (ps := ["script"]) fun _ _ _ _ _ _ us hl => match us, hl with | [_], _ => rfl
  have Tx : Txt K mg ca D := ⟨PySem.W.mg_none_of X G z_abs, PySem.W.mg_none_of X G z_all, PySem.W.mg_none_of X G z_bool, PySem.W.mg_none_of X G z_int, PySem.W.mg_none_of X G z_isinstance, PySem.W.mg_none_of X G z_len, PySem.W.mg_none_of X G z_list, PySem.W.mg_none_of X G z_max, PySem.W.mg_none_of X G z_range, PySem.W.mg_none_of X G z_tuple, PySem.W.mg_none_of X G z_zip, PySem.W.mg_of X G g_gcd, PySem.W.mg_of X G aC3, PySem.W.mg_of X G aC4, (kbn_of (n := 0) (ks := ["many", "factors", "sources"]) (arr := [.inl 2, .inl 1, .inl 0]) F10 fun _ _ _ _ _ _ us ws h1 h2 => match us, ws, h1, h2 with | [], [_, _, _], _, _ => rfl), (kbn_of (n := 0) (ks := ["many", "sources"]) (arr := [.inl 1, .inl 0]) F11 fun _ _ _ _ _ _ us ws h1 h2 => match us, ws, h1, h2 with | [], [_, _], _, _ => rfl)⟩
  have St : Stat K mg prog (gm K ca) D tab ini okf := by
    refine ⟨rfl, rfl, (show nmL.Nodup by decide +kernel), ?kd, ?fn, ?mt, ?ini, ?cl, ?na, ?sf⟩
    case kd =>
      refine ⟨?ty, ⟨sp1, sp2⟩, ?own, ?blt⟩
      case ty =>
        intro c hk
        have hc : c = 3 ∨ c = 4 := by simpa [cokB] using hk
        rcases hc with rfl | rfl
        · exact ⟨⟨pg3, hd3, po3, sa3⟩, dc_3, mo3⟩
        · exact ⟨⟨pg4, hd4, po4, sa4⟩, dc_4, mo4⟩
      case own =>
        intro c k hk hd
        have hc : c = 3 ∨ c = 4 := by simpa [cokB] using hk
        rcases hc with rfl | rfl
        · cases k with
          | int => exact ko3_int
          | bool => exact ko3_bool
          | str => exact ko3_str
          | tuple => exact ko3_tuple
          | list => exact ko3_list
          | cls d =>
            have hd2 : cokB d = true := hd d rfl
            have hd3 : d = 3 ∨ d = 4 := by simpa [cokB] using hd2
            rcases hd3 with rfl | rfl
            · exact kk3_3
            · exact kk3_4
        · cases k with
          | int => exact ko4_int
          | bool => exact ko4_bool
          | str => exact ko4_str
          | tuple => exact ko4_tuple
          | list => exact ko4_list
          | cls d =>
            have hd2 : cokB d = true := hd d rfl
            have hd3 : d = 3 ∨ d = 4 := by simpa [cokB] using hd2
            rcases hd3 with rfl | rfl
            · exact kk4_3
            · exact kk4_4
      case blt =>
        intro n c hn hk
        simp only [List.mem_cons, List.not_mem_nil, or_false] at hn
        have hc : c = 3 ∨ c = 4 := by simpa [cokB] using hk
        rcases hc with rfl | rfl
        · rcases hn with rfl | rfl | rfl | rfl | rfl | rfl
          · exact kb3_NoneType
          · exact kb3_bool
          · exact kb3_int
          · exact kb3_str
          · exact kb3_tuple
          · exact kb3_list
        · rcases hn with rfl | rfl | rfl | rfl | rfl | rfl
          · exact kb4_NoneType
          · exact kb4_bool
          · exact kb4_int
          · exact kb4_str
          · exact kb4_tuple
          · exact kb4_list
    case fn =>
      intro f x h
      match f, h with
      | 0, h => have e : some (none : Option Str) = some (some x) := h; cases e
      | 1, h => have e : some (none : Option Str) = some (some x) := h; cases e
      | 2, h => have e : some (none : Option Str) = some (some x) := h; cases e
      | 3, h => have e : some (none : Option Str) = some (some x) := h; cases e
      | 4, h => have e : some (none : Option Str) = some (some x) := h; cases e
      | 5, h => have e : some (none : Option Str) = some (some x) := h; cases e
      | 6, h => have e : some (some ("chances_of" : Str)) = some (some x) := h; cases e; exact ⟨rfl, (by intro c e; cases e), PySem.W.mg_of X G a6, k6, b6⟩
      | 7, h => have e : some (some ("greater_of" : Str)) = some (some x) := h; cases e; exact ⟨rfl, (by intro c e; cases e), PySem.W.mg_of X G a7, k7, b7⟩
      | 8, h => have e : some (some ("greatest_chances" : Str)) = some (some x) := h; cases e; exact ⟨rfl, (by intro c e; cases e), PySem.W.mg_of X G a8, k8, b8⟩
      | 9, h => have e : some (some ("total_of" : Str)) = some (some x) := h; cases e; exact ⟨rfl, (by intro c e; cases e), PySem.W.mg_of X G a9, k9, b9⟩
      | 10, h => have e : some (some ("greatest_sum" : Str)) = some (some x) := h; cases e; exact ⟨rfl, (by intro c e; cases e), PySem.W.mg_of X G a10, k10, b10⟩
      | 11, h => have e : some (some ("least_loss" : Str)) = some (some x) := h; cases e; exact ⟨rfl, (by intro c e; cases e), PySem.W.mg_of X G a11, k11, b11⟩
      | 12, h => have e : some (some ("is_integer" : Str)) = some (some x) := h; cases e; exact ⟨rfl, (by intro c e; cases e), PySem.W.mg_of X G a12, k12, b12⟩
      | 13, h => have e : some (some ("is_number" : Str)) = some (some x) := h; cases e; exact ⟨rfl, (by intro c e; cases e), PySem.W.mg_of X G a13, k13, b13⟩
      | 14, h => have e : some (some ("is_between" : Str)) = some (some x) := h; cases e; exact ⟨rfl, (by intro c e; cases e), PySem.W.mg_of X G a14, k14, b14⟩
      | 15, h => have e : some (some ("is_row" : Str)) = some (some x) := h; cases e; exact ⟨rfl, (by intro c e; cases e), PySem.W.mg_of X G a15, k15, b15⟩
      | 16, h => have e : some (some ("are_states" : Str)) = some (some x) := h; cases e; exact ⟨rfl, (by intro c e; cases e), PySem.W.mg_of X G a16, k16, b16⟩
      | 17, h => have e : some (none : Option Str) = some (some x) := h; cases e
      | 18, h => have e : some (none : Option Str) = some (some x) := h; cases e
      | 19, h => have e : some (none : Option Str) = some (some x) := h; cases e
      | 20, h => have e : some (none : Option Str) = some (some x) := h; cases e
      | 21, h => have e : some (some ("_law_box" : Str)) = some (some x) := h; cases e; exact ⟨rfl, (by intro c e; cases e), PySem.W.mg_of X G a21, k21, b21⟩
      | 22, h => have e : some (some ("_law_draw" : Str)) = some (some x) := h; cases e; exact ⟨rfl, (by intro c e; cases e), PySem.W.mg_of X G a22, k22, b22⟩
      | 23, h => have e : some (some ("_law_gcd" : Str)) = some (some x) := h; cases e; exact ⟨rfl, (by intro c e; cases e), PySem.W.mg_of X G a23, k23, b23⟩
      | 24, h => have e : some (some ("_law_lowest" : Str)) = some (some x) := h; cases e; exact ⟨rfl, (by intro c e; cases e), PySem.W.mg_of X G a24, k24, b24⟩
      | 25, h => have e : some (some ("_law_is_integer" : Str)) = some (some x) := h; cases e; exact ⟨rfl, (by intro c e; cases e), PySem.W.mg_of X G a25, k25, b25⟩
      | 26, h => have e : some (some ("_law_is_share" : Str)) = some (some x) := h; cases e; exact ⟨rfl, (by intro c e; cases e), PySem.W.mg_of X G a26, k26, b26⟩
      | 27, h => have e : some (some ("_law_quadruples" : Str)) = some (some x) := h; cases e; exact ⟨rfl, (by intro c e; cases e), PySem.W.mg_of X G a27, k27, b27⟩
      | 28, h => have e : some (some ("_law_factor" : Str)) = some (some x) := h; cases e; exact ⟨rfl, (by intro c e; cases e), PySem.W.mg_of X G a28, k28, b28⟩
      | 29, h => have e : some (some ("_law_level" : Str)) = some (some x) := h; cases e; exact ⟨rfl, (by intro c e; cases e), PySem.W.mg_of X G a29, k29, b29⟩
      | 30, h => have e : some (some ("_law_common" : Str)) = some (some x) := h; cases e; exact ⟨rfl, (by intro c e; cases e), PySem.W.mg_of X G a30, k30, b30⟩
      | 31, h => have e : some (some ("_law_sum" : Str)) = some (some x) := h; cases e; exact ⟨rfl, (by intro c e; cases e), PySem.W.mg_of X G a31, k31, b31⟩
      | 32, h => have e : some (some ("_law_sum_holds" : Str)) = some (some x) := h; cases e; exact ⟨rfl, (by intro c e; cases e), PySem.W.mg_of X G a32, k32, b32⟩
      | 33, h => have e : some (some ("_law_loss_holds" : Str)) = some (some x) := h; cases e; exact ⟨rfl, (by intro c e; cases e), PySem.W.mg_of X G a33, k33, b33⟩
      | 34, h => have e : some (some ("_law_losses" : Str)) = some (some x) := h; cases e; exact ⟨rfl, (by intro c e; cases e), PySem.W.mg_of X G a34, k34, b34⟩
      | 35, h => have e : some (some ("law" : Str)) = some (some x) := h; cases e; exact ⟨rfl, (by intro c e; cases e), PySem.W.mg_of X G a35, k35, b35⟩
      | n + 36, h => have e : (none : Option (Option Str)) = some (some x) := h; cases e
    case mt =>
      intro c kc m f x h1 h2 h3 h4
      have hc : c = 3 ∨ c = 4 := by simpa [cokB] using h4
      rcases hc with rfl | rfl
      · have e1 : prog.cls[3]? = some kc := h1
        cases e1
        by_cases q0 : 8 = m
        · subst q0
          have e2 : some 1 = some f := h2
          cases e2
          have e3 : some ("__eq__" : Str) = some x := h3
          cases e3
          exact ⟨rfl, (by intro c e; cases e), ⟨a1, i1, k1⟩, b1⟩
        by_cases q1 : 9 = m
        · subst q1
          have e2 : some 2 = some f := h2
          cases e2
          have e3 : some ("__add__" : Str) = some x := h3
          cases e3
          exact ⟨rfl, (by intro c e; cases e), ⟨a2, i2, k2⟩, b2⟩
        by_cases q2 : 10 = m
        · subst q2
          have e2 : some 3 = some f := h2
          cases e2
          have e3 : some ("__sub__" : Str) = some x := h3
          cases e3
          exact ⟨rfl, (by intro c e; cases e), ⟨a3, i3, k3⟩, b3⟩
        by_cases q3 : 11 = m
        · subst q3
          have e2 : some 4 = some f := h2
          cases e2
          have e3 : some ("__mul__" : Str) = some x := h3
          cases e3
          exact ⟨rfl, (by intro c e; cases e), ⟨a4, i4, k4⟩, b4⟩
        by_cases q4 : 4 = m
        · subst q4
          have e2 : some 5 = some f := h2
          cases e2
          have e3 : some ("is_below" : Str) = some x := h3
          cases e3
          exact ⟨rfl, (by intro c e; cases e), ⟨a5, i5, k5⟩, b5⟩
        · exfalso
          simp [lkN, q0, q1, q2, q3, q4] at h2
      · have e1 : prog.cls[4]? = some kc := h1
        cases e1
        by_cases q0 : 2 = m
        · subst q0
          have e2 : some 18 = some f := h2
          cases e2
          have e3 : some ("chance_in" : Str) = some x := h3
          cases e3
          exact ⟨rfl, (by intro c e; cases e), ⟨a18, i18, k18⟩, b18⟩
        by_cases q1 : 3 = m
        · subst q1
          have e2 : some 19 = some f := h2
          cases e2
          have e3 : some ("next_of" : Str) = some x := h3
          cases e3
          exact ⟨rfl, (by intro c e; cases e), ⟨a19, i19, k19⟩, b19⟩
        · exfalso
          simp [lkN, q0, q1] at h2
    case ini =>
      intro c kc f x h1 h2 h3
      match c, h1, h3 with
      | 0, h1, h3 => have e : some (none : Option Str) = some (some x) := h3; cases e
      | 1, h1, h3 => have e : some (none : Option Str) = some (some x) := h3; cases e
      | 2, h1, h3 => have e : some (none : Option Str) = some (some x) := h3; cases e
      | 3, h1, h3 => have e1 : prog.cls[3]? = some kc := h1; cases e1; have e2 : some 0 = some f := h2; cases e2; have e3 : some (some ("Share" : Str)) = some (some x) := h3; cases e3; exact ⟨rfl, by first | exact rfl | (intro c e; cases e), ⟨mk3, a0, i0, kc3⟩, PySem.W.mg_of X G aC3, rfl, b0⟩
      | 4, h1, h3 => have e1 : prog.cls[4]? = some kc := h1; cases e1; have e2 : some 17 = some f := h2; cases e2; have e3 : some (some ("Source" : Str)) = some (some x) := h3; cases e3; exact ⟨rfl, by first | exact rfl | (intro c e; cases e), ⟨mk4, a17, i17, kc4⟩, PySem.W.mg_of X G aC4, rfl, b17⟩
      | n + 5, h1, h3 => have e : (none : Option (Option Str)) = some (some x) := h3; cases e
    case cl =>
      intro c hk
      have hc : c = 3 ∨ c = 4 := by simpa [cokB] using hk
      rcases hc with rfl | rfl
      · exact ⟨pg3, hd3, po3, sa3⟩
      · exact ⟨pg4, hd4, po4, sa4⟩
    case sf =>
      intro c hk
      have hc : c = 3 ∨ c = 4 := by simpa [cokB] using hk
      rcases hc with rfl | rfl
      · exact sf3
      · exact sf4
    case na =>
      intro c f x hk h2 h3
      have hc : c = 3 ∨ c = 4 := by simpa [cokB] using hk
      rcases hc with rfl | rfl
      · match f, h2, h3 with
        | 0, h2, h3 => have e : some ("over" : Str) = some x := h3; cases e; exact n3_over
        | 1, h2, h3 => have e : some ("under" : Str) = some x := h3; cases e; exact n3_under
        | 2, h2, h3 => have e : some false = some true := h2; cases e
        | 3, h2, h3 => have e : some false = some true := h2; cases e
        | 4, h2, h3 => have e : some false = some true := h2; cases e
        | 5, h2, h3 => have e : some ("states" : Str) = some x := h3; cases e; exact n3_states
        | 6, h2, h3 => have e : some ("number" : Str) = some x := h3; cases e; exact n3_number
        | 7, h2, h3 => have e : some ("rows" : Str) = some x := h3; cases e; exact n3_rows
        | 8, h2, h3 => have e : some false = some true := h2; cases e
        | 9, h2, h3 => have e : some false = some true := h2; cases e
        | 10, h2, h3 => have e : some false = some true := h2; cases e
        | 11, h2, h3 => have e : some false = some true := h2; cases e
        | n + 12, h2, h3 => have e : (none : Option Bool) = some true := h2; cases e
      · match f, h2, h3 with
        | 0, h2, h3 => have e : some ("over" : Str) = some x := h3; cases e; exact n4_over
        | 1, h2, h3 => have e : some ("under" : Str) = some x := h3; cases e; exact n4_under
        | 2, h2, h3 => have e : some false = some true := h2; cases e
        | 3, h2, h3 => have e : some false = some true := h2; cases e
        | 4, h2, h3 => have e : some false = some true := h2; cases e
        | 5, h2, h3 => have e : some ("states" : Str) = some x := h3; cases e; exact n4_states
        | 6, h2, h3 => have e : some ("number" : Str) = some x := h3; cases e; exact n4_number
        | 7, h2, h3 => have e : some ("rows" : Str) = some x := h3; cases e; exact n4_rows
        | 8, h2, h3 => have e : some false = some true := h2; cases e
        | 9, h2, h3 => have e : some false = some true := h2; cases e
        | 10, h2, h3 => have e : some false = some true := h2; cases e
        | 11, h2, h3 => have e : some false = some true := h2; cases e
        | n + 12, h2, h3 => have e : (none : Option Bool) = some true := h2; cases e
  refine ⟨PySem.W.fnOf "law" "law" (defArgs s_35) (defBody s_35) (defScope s_35) .none kV35 dc35 pm35 an35 cd35 ct35, fun s v => .of_eq rfl, fun base _ _ => ?_⟩
  have A := all_fn (Pg := l.prog) (w := w) (base := base) (Wn := WF0) St (step Tx Fs St) 24 35 rfl
  rw [spOf_n (by intro c e; cases e)] at A
  exact (A.mono (by decide : 2 * 24 + 2 ≤ 65)).imp fun vs H Q E h => law_sp (G := gm K ca) rfl lawT h
theorem walk {l : PySem.W.OpenLaw} {q : Program} {loose : List Str} {XP : (Str → Option Value) → Heap → Prop} {YP : World → Heap → Prop} {d : DefRec} {K : Params → PySem.W.Frag} (hn : l.most = some 63) (hdf : d.params.defaults = [])
    (hY : ∀ (w : World) (h : Heap), YP w h → (K w.params).In h)
    (F : ∀ (w : World) (mg : Str → Option Value) (fa : Addr) (h : Heap), (K w.params).In h → h.Ns mainGlobals mg → mg d.name = some (.ref fa) →
      ∃ fd : FuncData, (∀ (s : Shared) (u : Value), BindsTo s fd ⟨[u], []⟩ [("script", u)]) ∧ ∀ base : Heap, (K w.params).In base → base.Ns mainGlobals mg → FnOk l.prog w (K w.params) mg base CX0 65 fa fd ["script"] (spLaw (K w.params))) :
    PySem.W.WalkO q loose XP YP l.row.toRowW d [] (fun f vs => PySem.call f vs) :=
  L2.walk_of (n := 63) (k := 65) (x := "script") (CX := fun _ => CX0) (sp := fun w => spLaw (K w.params)) hn (by decide) hdf ⟨rfl, by decide, by decide⟩ hY F (fun _ _ a ns hl _ hS => ⟨a, ns, rfl, hS, hl, fun _ => rfl⟩) fun _ _ _ _ _ z => z
end K47
end
section
/-! Kbx: how simp runs the interpreter: the head first; the law's tape (box) and its draw. -/
set_option autoImplicit false
set_option linter.all false
set_option maxRecDepth 100000
namespace Kb
/-! simp must not look into a continuation before the head is done: a head with a tag that leans on the continuation keeps simp out of it -/
inductive Tg {α : Type} (f : α) : Type where
  | mk
def R.bindH {α β : Type} (x : R α) (f : α → Hl → R β) (_t : Tg f) : R β := x.bind f
def R.toSH {α : Type} (x : R α) (σ : Sl) (f : α → Hl → RS) (_t : Tg f) : RS := x.toS σ f
def RS.thnH (x : RS) (f : Sl → Hl → RS) (_t : Tg f) : RS := x.thn f
theorem R.bind_H {α β : Type} (x : R α) (f : α → Hl → R β) : x.bind f = R.bindH x f Tg.mk := by unfold R.bindH; exact Eq.refl _
theorem R.toS_H {α : Type} (x : R α) (σ : Sl) (f : α → Hl → RS) : x.toS σ f = R.toSH x σ f Tg.mk := by unfold R.toSH; exact Eq.refl _
theorem RS.thn_H (x : RS) (f : Sl → Hl → RS) : x.thn f = RS.thnH x f Tg.mk := by unfold RS.thnH; exact Eq.refl _
theorem R.bindH_ok {α β : Type} (a : α) (h : Hl) (f : α → Hl → R β) (t : Tg f) : R.bindH (R.ok a h) f t = f a h := by unfold R.bindH; exact Eq.refl _
theorem R.toSH_ok {α : Type} (a : α) (h : Hl) (σ : Sl) (f : α → Hl → RS) (t : Tg f) : R.toSH (R.ok a h) σ f t = f a h := by unfold R.toSH; exact Eq.refl _
theorem RS.thnH_nx (σ : Sl) (h : Hl) (f : Sl → Hl → RS) (t : Tg f) : RS.thnH (RS.nx σ h) f t = f σ h := by unfold RS.thnH; exact Eq.refl _
theorem RS.thnH_rt (v : T) (h : Hl) (f : Sl → Hl → RS) (t : Tg f) : RS.thnH (RS.rt v h) f t = RS.rt v h := by unfold RS.thnH; exact Eq.refl _
theorem R.bindH_ite {α β : Type} (c : Prop) [Decidable c] (x y : R α) (f : α → Hl → R β) (t : Tg f) : R.bindH (if c then x else y) f t = if c then R.bindH x f t else R.bindH y f t := by split <;> exact Eq.refl _
theorem R.toSH_ite {α : Type} (c : Prop) [Decidable c] (x y : R α) (σ : Sl) (f : α → Hl → RS) (t : Tg f) : R.toSH (if c then x else y) σ f t = if c then R.toSH x σ f t else R.toSH y σ f t := by split <;> exact Eq.refl _
theorem RS.thnH_ite (c : Prop) [Decidable c] (x y : RS) (f : Sl → Hl → RS) (t : Tg f) : RS.thnH (if c then x else y) f t = if c then RS.thnH x f t else RS.thnH y f t := by split <;> exact Eq.refl _
theorem atI_0 {α : Type} (a : α) (l : List α) : atI (a :: l) 0 = some a := by
  unfold atI ixN
  rw [if_pos (by decide), if_pos (by simp only [List.length_cons]; omega)]; rfl
theorem atI_1 {α : Type} (a b : α) (l : List α) : atI (a :: b :: l) 1 = some b := by
  unfold atI ixN
  rw [if_pos (by decide), if_pos (by simp only [List.length_cons]; omega)]; rfl
theorem atI_2 {α : Type} (a b c : α) (l : List α) : atI (a :: b :: c :: l) 2 = some c := by
  unfold atI ixN
  rw [if_pos (by decide), if_pos (by simp only [List.length_cons]; omega)]; rfl
theorem atI_3 {α : Type} (a b c d : α) (l : List α) : atI (a :: b :: c :: d :: l) 3 = some d := by
  unfold atI ixN
  rw [if_pos (by decide), if_pos (by simp only [List.length_cons]; omega)]; rfl
theorem atI_4 {α : Type} (a b c d e : α) (l : List α) : atI (a :: b :: c :: d :: e :: l) 4 = some e := by
  unfold atI ixN
  rw [if_pos (by decide), if_pos (by simp only [List.length_cons]; omega)]; rfl
theorem atI_nat {α : Type} (l : List α) (k : Nat) : atI l (k : Int) = l[k]? := by
  unfold atI ixN
  rw [if_pos (by omega)]
  by_cases h : k < l.length
  · rw [if_pos (by omega)]; simp
  · rw [if_neg (by omega), List.getElem?_eq_none (by omega)]; rfl
theorem ixN_nat (n k : Nat) (h : k < n) : ixN n (k : Int) = some k := by
  unfold ixN
  rw [if_pos (by omega), if_pos (by omega)]; simp
theorem ix51 : ixN 5 1 = some 1 := by decide
theorem ix52 : ixN 5 2 = some 2 := by decide
theorem ix53 : ixN 5 3 = some 3 := by decide
theorem ix54 : ixN 5 4 = some 4 := by decide
theorem log2_lt (i : Int) (n : Nat) (h1 : -(2 ^ n) < i) (h2 : i < 2 ^ n) (hn : 0 < n) : i.natAbs.log2 < n := by
  by_cases z : i.natAbs = 0
  · rw [z]; simpa using hn
  · have e : ((2 ^ n : Nat) : Int) = (2 : Int) ^ n := by simp
    exact (Nat.log2_lt z).mpr (by omega)
theorem mulOk_of {i j : Int} (h1 : -(2 ^ 200) < i) (h2 : i < 2 ^ 200) (h3 : -(2 ^ 200) < j) (h4 : j < 2 ^ 200) : mulOk i j = true := by
  have a := log2_lt i 200 h1 h2 (by decide)
  have b := log2_lt j 200 h3 h4 (by decide)
  simp only [mulOk, decide_eq_true_eq]; omega
theorem divOk_of {j : Int} (h0 : j ≠ 0) (h3 : -(2 ^ 200) < j) (h4 : j < 2 ^ 200) : divOk j = true := by
  have b := log2_lt j 200 h3 h4 (by decide)
  simp only [divOk, Bool.and_eq_true, decide_eq_true_eq]; exact ⟨h0, by omega⟩

/-! ### the tape -/
structure Bx where
  cells : List Int
  p : Nat
  q : Int
  s : Int
  t : Int
def bxC (st : Bx) : C := .lst [.lst (st.cells.map T.int), .int st.p, .int st.q, .int st.s, .int st.t]
/-- k: how many draws there may have been -/
structure BxOk (st : Bx) (k : Nat) : Prop where
  q0 : 0 ≤ st.q
  s0 : 0 ≤ st.s
  s1 : st.s < 4294967296
  t0 : 0 ≤ st.t
  t1 : st.t ≤ k
def drawB : B := (B.cons (S.ite (E.and (E.cmp .le (E.idx (E.var 0) (E.cst (T.int 2))) (E.cst (T.int 0))) (E.cmp .lt (E.idx (E.var 0) (E.cst (T.int 1))) (E.bf .len (Es.cons (E.idx (E.var 0) (E.cst (T.int 0))) Es.nil)))) (B.cons (S.asg 3 (E.idx (E.idx (E.var 0) (E.cst (T.int 0))) (E.idx (E.var 0) (E.cst (T.int 1))))) (B.cons (S.setI (E.var 0) (E.cst (T.int 1)) (E.bin .add (E.idx (E.var 0) (E.cst (T.int 1))) (E.cst (T.int 1)))) (B.cons (S.ite (E.cmp .ge (E.var 3) (E.bin .pow (E.cst (T.int 10)) (E.cst (T.int 18)))) (B.cons (S.setI (E.var 0) (E.cst (T.int 2)) (E.var 3)) B.nil) (B.cons (S.setI (E.var 0) (E.cst (T.int 3)) (E.bin .mod (E.bf .int (Es.cons (E.bin .add (E.bin .mul (E.idx (E.var 0) (E.cst (T.int 3))) (E.cst (T.int 8191))) (E.var 3)) Es.nil)) (E.cst (T.int 2147483647)))) B.nil)) B.nil))) B.nil) (B.cons (S.ite (E.cmp .gt (E.idx (E.var 0) (E.cst (T.int 2))) (E.cst (T.int 0))) (B.cons (S.asg 4 (E.bin .mod (E.bf .int (Es.cons (E.idx (E.var 0) (E.cst (T.int 2))) Es.nil)) (E.var 1))) (B.cons (S.setI (E.var 0) (E.cst (T.int 2)) (E.bin .fdiv (E.bf .int (Es.cons (E.idx (E.var 0) (E.cst (T.int 2))) Es.nil)) (E.var 1))) (B.cons (S.ret (E.var 4)) B.nil))) B.nil) (B.cons (S.setI (E.var 0) (E.cst (T.int 4)) (E.bin .add (E.idx (E.var 0) (E.cst (T.int 4))) (E.cst (T.int 1)))) (B.cons (S.asg 2 (E.bin .mod (E.bf .int (Es.cons (E.bin .add (E.bin .mul (E.idx (E.var 0) (E.cst (T.int 3))) (E.cst (T.int 48271))) (E.bin .mul (E.idx (E.var 0) (E.cst (T.int 4))) (E.cst (T.int 69621)))) Es.nil)) (E.cst (T.int 2147483647)))) (B.cons (S.asg 2 (E.bin .mod (E.bf .int (Es.cons (E.bin .add (E.bin .mul (E.bin .fdiv (E.var 2) (E.cst (T.int 7))) (E.cst (T.int 16807))) (E.bin .mul (E.idx (E.var 0) (E.cst (T.int 4))) (E.cst (T.int 40692)))) Es.nil)) (E.cst (T.int 2147483629)))) (B.cons (S.setI (E.var 0) (E.cst (T.int 3)) (E.var 2)) (B.cons (S.ret (E.bin .mod (E.bf .int (Es.cons (E.bin .fdiv (E.var 2) (E.cst (T.int 13))) Es.nil)) (E.var 1))) B.nil)))))))
/-- a slot's free, a value's plain: by computation -/
theorem plain_int (i : Int) : plainT (.int i) = true := rfl
theorem fmod_pos {i m : Int} (h : 0 < m) : fmodI i m = i % m := by unfold fmodI; rw [if_pos h]
theorem fdiv_pos {i m : Int} (h : 0 < m) : fdivI i m = i / m := by unfold fdivI; rw [if_pos h]
theorem modOk {m : Int} (h : 0 < m) : decide (m ≠ 0) = true := by simp; omega

def drawB2 : B := match drawB with
  | .cons _ b => b
  | _ => .nil
def drawS1 : S := match drawB with
  | .cons s _ => s
  | _ => .pass
section
variable (P : Prog) (call : Nat → List T → Hl → R T) (W : Nat)
theorem drawB_2 (m : Int) (x3 : Option T) (cells : List Int) (p : Nat) (q s t : Int) (hs : Hl) (h0 : 0 < m) (h1 : m < 2 ^ 200) (hq : 0 ≤ q) (s0 : 0 ≤ s) (s1 : s < 4294967296) (t0 : 0 ≤ t) (t1 : t < 2 ^ 100) :
    exB P call W drawB2 [some (.rf 0), some (.int m), none, x3, none] (bxC ⟨cells, p, q, s, t⟩ :: hs) =
      if 0 < q then .rt (.int (q % m)) (bxC ⟨cells, p, q / m, s, t⟩ :: hs)
      else .rt (.int ((((s * 48271 + (t + 1) * 69621) % 2147483647) / 7 * 16807 + (t + 1) * 40692) % 2147483629 / 13 % m)) (bxC ⟨cells, p, q, (((s * 48271 + (t + 1) * 69621) % 2147483647) / 7 * 16807 + (t + 1) * 40692) % 2147483629, t + 1⟩ :: hs) := by
  have dm : divOk m = true := divOk_of (by omega) (by omega) (by omega)
  have mm : decide (m ≠ 0) = true := modOk h0
  by_cases c : 0 < q
  · rw [if_pos c]
    simp only [drawB2, drawB, exB, exS, evE, evEs, evT, tru, truT, binE, binT, intT, isIns, insOf, cmpE, cmpT, icmp, oR, idxT, idxSq, bfT, intF, seqOf, putI, bxC, plainT, isBor, isExc, ↓R.bind_H, R.bindH_ok, ↓R.toS_H, R.toSH_ok, ↓RS.thn_H, RS.thnH_nx, RS.thnH_rt, R.bindH_ite, R.toSH_ite, RS.thnH_ite, List.length_cons, List.length_nil, List.getElem?_cons_zero, List.getElem?_cons_succ, List.set_cons_zero, List.set_cons_succ, atI_0, atI_1, atI_2, atI_3, atI_4, ix51, ix52, ix53, ix54, Option.map_some, Option.isSome_none, if_true, if_false, Bool.false_eq_true, Bool.and_false, Bool.false_and, Bool.not_false, Bool.and_true, Bool.true_and, Nat.reduceAdd, Nat.reduceSub, freeS, dm, mm, c, decide_true, fmod_pos h0, fdiv_pos h0]
  · rw [if_neg c]
    have hx1 : mulOk s 48271 = true := mulOk_of (by omega) (by omega) (by decide) (by decide)
    have hx2 : mulOk (t + 1) 69621 = true := mulOk_of (by omega) (by omega) (by decide) (by decide)
    have hx3 : mulOk (t + 1) 40692 = true := mulOk_of (by omega) (by omega) (by decide) (by decide)
    have hx4 : mulOk ((s * 48271 + (t + 1) * 69621) % 2147483647 / 7) 16807 = true := mulOk_of (by omega) (by omega) (by decide) (by decide)
    have d1 : decide ((2147483647 : Int) ≠ 0) = true := by decide
    have d2 : decide ((2147483629 : Int) ≠ 0) = true := by decide
    have d3 : divOk 7 = true := by decide
    have d4 : divOk 13 = true := by decide
    have f1 : ∀ i, fmodI i 2147483647 = i % 2147483647 := fun i => fmod_pos (by decide)
    have f2 : ∀ i, fmodI i 2147483629 = i % 2147483629 := fun i => fmod_pos (by decide)
    have f3 : ∀ i, fdivI i 7 = i / 7 := fun i => fdiv_pos (by decide)
    have f4 : ∀ i, fdivI i 13 = i / 13 := fun i => fdiv_pos (by decide)
    simp only [drawB2, drawB, exB, exS, evE, evEs, evT, tru, truT, binE, binT, addT, mulT, intT, isIns, insOf, cmpE, cmpT, icmp, oR, idxT, idxSq, bfT, intF, seqOf, putI, bxC, plainT, isBor, isExc, ↓R.bind_H, R.bindH_ok, ↓R.toS_H, R.toSH_ok, ↓RS.thn_H, RS.thnH_nx, RS.thnH_rt, R.bindH_ite, R.toSH_ite, RS.thnH_ite, List.length_cons, List.length_nil, List.getElem?_cons_zero, List.getElem?_cons_succ, List.set_cons_zero, List.set_cons_succ, atI_0, atI_1, atI_2, atI_3, atI_4, ix51, ix52, ix53, ix54, Option.map_some, Option.isSome_none, if_true, if_false, Bool.false_eq_true, Bool.and_false, Bool.false_and, Bool.not_false, Bool.and_true, Bool.true_and, Nat.reduceAdd, Nat.reduceSub, freeS, dm, mm, c, decide_false, fmod_pos h0, hx1, hx2, hx3, hx4, d1, d2, d3, d4, f1, f2, f3, f4]
theorem drawS_1 (m : Int) (st : Bx) (hs : Hl) (k : Nat) (ok : BxOk st k) :
    ∃ x3 st', exS P call W drawS1 [some (.rf 0), some (.int m), none, none, none] (bxC st :: hs) = .nx [some (.rf 0), some (.int m), none, x3, none] (bxC st' :: hs) ∧ BxOk st' k := by
  obtain ⟨cells, p, q, s, t⟩ := st
  have c18 : powOk 10 18 = true := by decide
  have d1 : decide ((2147483647 : Int) ≠ 0) = true := by decide
  have f1 : ∀ i, fmodI i 2147483647 = i % 2147483647 := fun i => fmod_pos (by decide)
  obtain ⟨q0, s0, s1, t0, t1⟩ := ok
  simp only at q0 s0 s1 t0 t1
  have hx1 : mulOk s 8191 = true := mulOk_of (by omega) (by omega) (by decide) (by decide)
  by_cases c : q ≤ 0
  · by_cases c2 : p < cells.length
    · have e1 : atI (List.map T.int cells) (p : Int) = some (.int cells[p]) := by
        rw [atI_nat, List.getElem?_map, List.getElem?_eq_getElem c2]; rfl
      have l1 : ((p : Int) < ((List.map T.int cells).length : Int)) = True := by rw [List.length_map]; simp; exact c2
      by_cases c3 : (10 : Int) ^ (18 : Int).toNat ≤ cells[p]
      · refine ⟨some (.int cells[p]), ⟨cells, p + 1, cells[p], s, t⟩, ?_, ⟨?_, s0, s1, t0, t1⟩⟩
        · simp only [drawS1, drawB, exB, exS, evE, evEs, evT, tru, truT, binE, binT, addT, mulT, intT, isIns, insOf, cmpE, cmpT, icmp, oR, idxT, idxSq, bfT, intF, lenF, lenT, seqOf, putI, bxC, plainT, isBor, isExc, ↓R.bind_H, R.bindH_ok, ↓R.toS_H, R.toSH_ok, ↓RS.thn_H, RS.thnH_nx, RS.thnH_rt, R.bindH_ite, R.toSH_ite, RS.thnH_ite, List.length_cons, List.length_nil, List.getElem?_cons_zero, List.getElem?_cons_succ, List.set_cons_zero, List.set_cons_succ, atI_0, atI_1, atI_2, atI_3, atI_4, ix51, ix52, ix53, ix54, Option.map_some, Option.isSome_none, if_true, if_false, Bool.false_eq_true, Bool.and_false, Bool.false_and, Bool.not_false, Bool.and_true, Bool.true_and, Nat.reduceAdd, Nat.reduceSub, freeS, c, decide_true, c18, d1, f1, hx1, e1, l1, c3]
          rfl
        · show 0 ≤ cells[p]
          have : (0 : Int) ≤ 10 ^ (18 : Int).toNat := by decide
          omega
      · refine ⟨some (.int cells[p]), ⟨cells, p + 1, q, (s * 8191 + cells[p]) % 2147483647, t⟩, ?_, ⟨q0, ?_, ?_, t0, t1⟩⟩
        · simp only [drawS1, drawB, exB, exS, evE, evEs, evT, tru, truT, binE, binT, addT, mulT, intT, isIns, insOf, cmpE, cmpT, icmp, oR, idxT, idxSq, bfT, intF, lenF, lenT, seqOf, putI, bxC, plainT, isBor, isExc, ↓R.bind_H, R.bindH_ok, ↓R.toS_H, R.toSH_ok, ↓RS.thn_H, RS.thnH_nx, RS.thnH_rt, R.bindH_ite, R.toSH_ite, RS.thnH_ite, List.length_cons, List.length_nil, List.getElem?_cons_zero, List.getElem?_cons_succ, List.set_cons_zero, List.set_cons_succ, atI_0, atI_1, atI_2, atI_3, atI_4, ix51, ix52, ix53, ix54, Option.map_some, Option.isSome_none, if_true, if_false, Bool.false_eq_true, Bool.and_false, Bool.false_and, Bool.not_false, Bool.and_true, Bool.true_and, Nat.reduceAdd, Nat.reduceSub, freeS, c, decide_true, decide_false, c18, d1, f1, hx1, e1, l1, c3]
          rfl
        · show 0 ≤ (s * 8191 + cells[p]) % 2147483647; omega
        · show (s * 8191 + cells[p]) % 2147483647 < 4294967296; omega
    · have l1 : ((p : Int) < ((List.map T.int cells).length : Int)) = False := by rw [List.length_map]; simp; omega
      refine ⟨none, ⟨cells, p, q, s, t⟩, ?_, ⟨q0, s0, s1, t0, t1⟩⟩
      simp only [drawS1, drawB, exB, exS, evE, evEs, evT, tru, truT, binE, binT, addT, mulT, intT, isIns, insOf, cmpE, cmpT, icmp, oR, idxT, idxSq, bfT, intF, lenF, lenT, seqOf, putI, bxC, plainT, isBor, isExc, ↓R.bind_H, R.bindH_ok, ↓R.toS_H, R.toSH_ok, ↓RS.thn_H, RS.thnH_nx, RS.thnH_rt, R.bindH_ite, R.toSH_ite, RS.thnH_ite, List.length_cons, List.length_nil, List.getElem?_cons_zero, List.getElem?_cons_succ, List.set_cons_zero, List.set_cons_succ, atI_0, atI_1, atI_2, atI_3, atI_4, Option.map_some, Option.isSome_none, if_true, if_false, Bool.false_eq_true, Bool.and_false, Bool.false_and, Bool.not_false, Bool.and_true, Bool.true_and, Nat.reduceAdd, Nat.reduceSub, c, decide_true, decide_false, l1]
  · refine ⟨none, ⟨cells, p, q, s, t⟩, ?_, ⟨q0, s0, s1, t0, t1⟩⟩
    simp only [drawS1, drawB, exB, exS, evE, evEs, evT, tru, truT, binE, binT, addT, mulT, intT, isIns, insOf, cmpE, cmpT, icmp, oR, idxT, idxSq, bfT, intF, lenF, lenT, seqOf, putI, bxC, plainT, isBor, isExc, ↓R.bind_H, R.bindH_ok, ↓R.toS_H, R.toSH_ok, ↓RS.thn_H, RS.thnH_nx, RS.thnH_rt, R.bindH_ite, R.toSH_ite, RS.thnH_ite, List.length_cons, List.length_nil, List.getElem?_cons_zero, List.getElem?_cons_succ, List.set_cons_zero, List.set_cons_succ, atI_0, atI_1, atI_2, atI_3, atI_4, Option.map_some, Option.isSome_none, if_true, if_false, Bool.false_eq_true, Bool.and_false, Bool.false_and, Bool.not_false, Bool.and_true, Bool.true_and, Nat.reduceAdd, Nat.reduceSub, c, decide_true, decide_false]
theorem draw_run (d f : Nat) (hf : P.defs[f]? = some ⟨2, 5, drawB⟩) (st : Bx) (hs : Hl) (k : Nat) (ok : BxOk st k) (hk : k < 1000000) (m : Int) (h0 : 0 < m) (h1 : m < 2 ^ 200) :
    ∃ r st', run P W (d + 1) f [.rf 0, .int m] (bxC st :: hs) = .ok (.int r) (bxC st' :: hs) ∧ 0 ≤ r ∧ r < m ∧ BxOk st' (k + 1) := by
  obtain ⟨x3, st1, e1, ok1⟩ := drawS_1 P (run P W d) W m st hs k ok
  obtain ⟨cells, p, q, s, t⟩ := st1
  obtain ⟨q0, s0, s1, t0, t1⟩ := ok1
  simp only at q0 s0 s1 t0 t1
  have e2 := drawB_2 P (run P W d) W m x3 cells p q s t hs h0 h1 q0 s0 s1 t0 (by omega)
  have eb : exB P (run P W d) W drawB (startT 2 5 [.rf 0, .int m]) (bxC st :: hs) = exB P (run P W d) W drawB2 [some (.rf 0), some (.int m), none, x3, none] (bxC ⟨cells, p, q, s, t⟩ :: hs) := by
    show (exS P (run P W d) W drawS1 [some (.rf 0), some (.int m), none, none, none] (bxC st :: hs)).thn (fun σ h => exB P (run P W d) W drawB2 σ h) = _
    rw [e1]; rfl
  by_cases c : 0 < q
  · refine ⟨q % m, ⟨cells, p, q / m, s, t⟩, ?_, Int.emod_nonneg _ (by omega), Int.emod_lt_of_pos _ h0, ⟨Int.ediv_nonneg q0 (by omega), s0, s1, t0, by simp only; omega⟩⟩
    rw [if_pos c] at e2
    simp only [run, hf]
    rw [eb, e2]; rfl
  · refine ⟨(((s * 48271 + (t + 1) * 69621) % 2147483647) / 7 * 16807 + (t + 1) * 40692) % 2147483629 / 13 % m, ⟨cells, p, q, (((s * 48271 + (t + 1) * 69621) % 2147483647) / 7 * 16807 + (t + 1) * 40692) % 2147483629, t + 1⟩, ?_, Int.emod_nonneg _ (by omega), Int.emod_lt_of_pos _ h0, ⟨q0, by simp only; omega, by simp only; omega, by simp only; omega, by simp only; omega⟩⟩
    rw [if_neg c] at e2
    simp only [run, hf]
    rw [eb, e2]; rfl
end
theorem eqT_int (h : Hl) (a b : Int) : eqT h (.int a) (.int b) = some (a == b) := rfl
theorem eqT_bl (h : Hl) (a b : Bool) : eqT h (.bl a) (.bl b) = some (a == b) := rfl
theorem mapO_ints (h : Hl) (n : Nat) : ∀ xs : List Int, mapO (dat h n) (xs.map T.int) = some (xs.map D.int)
  | [] => rfl
  | x :: xs => by
    have e : dat h n (.int x) = some (.int x) := by cases n <;> rfl
    simp only [List.map_cons, mapO, e, mapO_ints h n xs]
theorem eqDs_ints : ∀ xs ys : List Int, eqDs (xs.map D.int) (ys.map D.int) = decide (xs = ys)
  | [], [] => rfl
  | [], _ :: _ => by simp [eqDs]
  | _ :: _, [] => by simp [eqDs]
  | x :: xs, y :: ys => by
    simp only [List.map_cons, eqDs, eqDs_ints xs ys, eqD, List.cons.injEq]
    by_cases h : x = y <;> simp [h]
theorem eqT_ints (h : Hl) (xs ys : List Int) : eqT h (.lst (xs.map T.int)) (.lst (ys.map T.int)) = some (decide (xs = ys)) := by
  unfold eqT
  have e : ∀ zs : List Int, dat h 60 (.lst (zs.map T.int)) = some (.lst (zs.map D.int)) := fun zs => by
    show (mapO (dat h 59) (zs.map T.int)).map D.lst = _
    rw [mapO_ints]; rfl
  rw [e, e]
  show some (eqD (.lst _) (.lst _)) = _
  rw [eqD, eqDs_ints]
theorem allInts_ints : ∀ xs : List Int, allInts (xs.map T.int) = some xs
  | [] => rfl
  | x :: xs => by simp only [List.map_cons, allInts, allInts_ints xs, Option.map_some]
/-- a loop by an invariant -/
theorem forG_run {f : Sl → Hl → RS} {i : Nat} {I : Nat → Sl → Hl → Prop} : ∀ (xs : List T) (n : Nat), (∀ (j : Nat) (x : T) (σ : Sl) (h : Hl), xs[j]? = some x → I (n + j) σ h → freeS σ i = true ∧ ∃ σ' h', (f (σ.set i (some x)) h = .nx σ' h' ∨ f (σ.set i (some x)) h = .ct σ' h') ∧ I (n + j + 1) σ' h') →
    ∀ (σ : Sl) (h : Hl), I n σ h → ∃ σ' h', forG f [i] xs σ h = .nx σ' h' ∧ I (n + xs.length) σ' h' := by
  intro xs
  induction xs with
  | nil => intro n _ σ h h0; exact ⟨σ, h, by rw [forG], h0⟩
  | cons x xs ih =>
    intro n step σ h h0
    obtain ⟨fr, σ1, h1, e1, i1⟩ := step 0 x σ h rfl h0
    obtain ⟨σ2, h2, e2, i2⟩ := ih (n + 1) (fun j y σ h hy hi => by
      have := step (j + 1) y σ h (by simpa using hy) (by rw [show n + (j + 1) = n + 1 + j by omega]; exact hi)
      rw [show n + (j + 1) + 1 = n + 1 + j + 1 by omega] at this
      exact this) σ1 h1 i1
    refine ⟨σ2, h2, ?_, by rw [List.length_cons, show n + (xs.length + 1) = n + 1 + xs.length by omega]; exact i2⟩
    have fr2 : freeTg σ [i] = true := by simp [freeTg, fr]
    rw [forG, if_pos fr2]
    show (match f (σ.set i (some x)) h with
      | .nx σ h => forG f [i] xs σ h
      | .ct σ h => forG f [i] xs σ h
      | .bk σ h => .nx σ h
      | r => r) = _
    rcases e1 with e1 | e1 <;> rw [e1] <;> exact e2
theorem rngT_get {lo hi : Int} {j : Nat} {x : T} (h : (rngT lo hi)[j]? = some x) : x = .int (lo + j) ∧ j < (hi - lo).toNat := by
  unfold rngT at h
  rw [List.getElem?_map] at h
  by_cases c : j < (hi - lo).toNat
  · rw [List.getElem?_range c] at h; cases h; exact ⟨rfl, c⟩
  · rw [List.getElem?_eq_none (by rw [List.length_range]; omega)] at h; cases h
theorem rngT_len (lo hi : Int) : (rngT lo hi).length = (hi - lo).toNat := by simp [rngT]
/-- a slot that is empty or an int -/
def oi (o : Option Int) : Option T := o.map T.int
theorem free_oi (o : Option Int) : (match (some (oi o) : Option (Option T)) with
  | some (some (.bI _ _)) => false
  | some _ => true
  | none => false) = true := by cases o <;> rfl
/-- a loop's body, closed to simp -/
def bodyF (P : Prog) (call : Nat → List T → Hl → R T) (W : Nat) (b : B) (σ : Sl) (h : Hl) : RS := exB P call W b σ h
def bodyT (P : Prog) (call : Nat → List T → Hl → R T) (e : E) (σ : Sl) (h : Hl) : R Bool := evT P call e σ h
def bodyL (P : Prog) (call : Nat → List T → Hl → R T) (c : Eo) (e : E) (σ : Sl) (h : Hl) : R (Option T) := (evC P call c σ h).bind fun b h => if b then (evE P call e σ h).bind fun y h => .ok (some y) h else .ok none h
theorem exS_for (P : Prog) (call : Nat → List T → Hl → R T) (W : Nat) (tg : List Nat) (it : It) (b : B) (σ : Sl) (h : Hl) : exS P call W (.forS tg it b) σ h = (evI P call it σ h).toS σ fun xs h => forG (bodyF P call W b) tg xs σ h := rfl
theorem exS_whl (P : Prog) (call : Nat → List T → Hl → R T) (W : Nat) (c : E) (b : B) (σ : Sl) (h : Hl) : exS P call W (.whl c b) σ h = whlG (bodyT P call c) (bodyF P call W b) W σ h := rfl
theorem evA_lc (P : Prog) (call : Nat → List T → Hl → R T) (it : It) (tg own : List Nat) (c : Eo) (e : E) (σ : Sl) (h : Hl) : evA P call (.lc it tg own c e) σ h = (evI P call it σ h).bind fun xs h => if xs.length ≤ maxLen then (lcG (bodyL P call c e) tg (wipeT σ own) xs h).bind fun ys h => .ok (.lst ys) h else .stuck := rfl
/-- a def's end -/
def endR (P : Prog) (vs : List T) (r : RS) : R T := match r with
  | .nx σ h => fin σ h vs
  | .rt t h => match vs with
    | .bI _ _ :: _ => .stuck
    | _ => .ok t h
  | .err c fs σ h => if P.exc then .err c fs h else .stuck
  | _ => .stuck
theorem run_eq {P : Prog} {W d f : Nat} {k : Def} (hf : P.defs[f]? = some k) {vs : List T} (hl : vs.length = k.np) (h : Hl) : run P W (d + 1) f vs h = endR P vs (exB P (run P W d) W k.body (startT k.np k.ns vs) h) := by
  simp only [run, hf, if_pos hl]; rfl
theorem forG_till {f : Sl → Hl → RS} {i : Nat} {I : Nat → Sl → Hl → Prop} {t : T} {h2 : Hl} : ∀ (xs : List T) (n F : Nat), F < xs.length →
    (∀ (j : Nat) (x : T) (σ : Sl) (h : Hl), j < F → xs[j]? = some x → I (n + j) σ h → freeS σ i = true ∧ ∃ σ' h', f (σ.set i (some x)) h = .nx σ' h' ∧ I (n + j + 1) σ' h') →
    (∀ (x : T) (σ : Sl) (h : Hl), xs[F]? = some x → I (n + F) σ h → freeS σ i = true ∧ f (σ.set i (some x)) h = .rt t h2) → ∀ (σ : Sl) (h : Hl), I n σ h → forG f [i] xs σ h = .rt t h2 := by
  intro xs
  induction xs with
  | nil => intro n F hF; simp at hF
  | cons x xs ih =>
    intro n F hF step last σ h h0
    have body : ∀ r, f (σ.set i (some x)) h = r → freeS σ i = true → forG f [i] (x :: xs) σ h = (match r with
      | .nx σ h => forG f [i] xs σ h
      | .ct σ h => forG f [i] xs σ h
      | .bk σ h => .nx σ h
      | r => r) := fun r e fr => by
      have fr2 : freeTg σ [i] = true := by simp [freeTg, fr]
      rw [forG, if_pos fr2, ← e]; rfl
    cases F with
    | zero =>
      obtain ⟨fr, e⟩ := last x σ h rfl h0
      rw [body _ e fr]
    | succ F =>
      obtain ⟨fr, σ1, h1, e1, i1⟩ := step 0 x σ h (by omega) rfl h0
      rw [body _ e1 fr]
      exact ih (n + 1) F (by simpa using hF) (fun j y σ h hj hy hi => by
        have := step (j + 1) y σ h (by omega) (by simpa using hy) (by rw [show n + (j + 1) = n + 1 + j by omega]; exact hi)
        rw [show n + (j + 1) + 1 = n + 1 + j + 1 by omega] at this
        exact this) (fun y σ h hy hi => last y σ h (by simpa using hy) (by rw [show n + (F + 1) = n + 1 + F by omega]; exact hi)) σ1 h1 i1
theorem whl_count {c : Sl → Hl → R Bool} {f : Sl → Hl → RS} (σ : Nat → Sl) (h : Hl) (F : Nat) (hc : ∀ j, j < F → c (σ j) h = .ok true h) (hf : ∀ j, j < F → f (σ j) h = .nx (σ (j + 1)) h) (hF : c (σ F) h = .ok false h) :
    ∀ (k j fuel : Nat), j + k = F → k < fuel → whlG c f fuel (σ j) h = .nx (σ F) h := by
  intro k
  induction k with
  | zero =>
    intro j fuel e hk
    obtain rfl : j = F := by omega
    cases fuel with
    | zero => omega
    | succ n => rw [whlG, hF]; rfl
  | succ k ih =>
    intro j fuel e hk
    cases fuel with
    | zero => omega
    | succ n =>
      rw [whlG, hc j (by omega)]
      show (match f (σ j) h with
        | .nx σ h => whlG c f n σ h
        | .ct σ h => whlG c f n σ h
        | .bk σ h => .nx σ h
        | r => r) = _
      rw [hf j (by omega)]
      exact ih (j + 1) n (by omega) (by omega)
/-! ### the law's gcd -/
def gcdB : B := (B.cons (S.whl (E.cmp .gt (E.var 1) (E.cst (T.int 0))) (B.cons (S.asg 2 (E.bin .mod (E.bf .int (Es.cons (E.var 0) Es.nil)) (E.var 1))) (B.cons (S.asg 0 (E.var 1)) (B.cons (S.asg 1 (E.var 2)) B.nil)))) (B.cons (S.ret (E.var 0)) B.nil))
section
variable (P : Prog) (call : Nat → List T → Hl → R T) (W : Nat)
theorem gcd_step (a b : Int) (o : Option Int) (h : Hl) (hb : 0 < b) : bodyF P call W (B.cons (S.asg 2 (E.bin .mod (E.bf .int (Es.cons (E.var 0) Es.nil)) (E.var 1))) (B.cons (S.asg 0 (E.var 1)) (B.cons (S.asg 1 (E.var 2)) B.nil))) [some (.int a), some (.int b), oi o] h = .nx [some (.int b), some (.int (a % b)), oi (some (a % b))] h := by
  have m1 : decide (b ≠ 0) = true := modOk hb
  have f1 := fmod_pos (i := a) hb
  cases o <;> simp only [bodyF, oi, exB, exS, evE, evEs, binE, binT, intT, isIns, insOf, bfT, intF, plainT, isBor, isExc, ↓R.bind_H, R.bindH_ok, ↓R.toS_H, R.toSH_ok, ↓RS.thn_H, RS.thnH_nx, List.getElem?_cons_zero, List.getElem?_cons_succ, List.set_cons_zero, List.set_cons_succ, Option.map_some, Option.map_none, Option.isSome_none, if_true, if_false, Bool.false_eq_true, Bool.not_false, Bool.and_true, freeS, m1, f1]
theorem gcd_cond (a b : Int) (o : Option Int) (h : Hl) : bodyT P call (E.cmp .gt (E.var 1) (E.cst (T.int 0))) [some (.int a), some (.int b), oi o] h = .ok (decide (0 < b)) h := by
  simp only [bodyT, evT, evE, cmpE, isIns, insOf, cmpT, icmp, oR, tru, truT, ↓R.bind_H, R.bindH_ok, List.getElem?_cons_zero, List.getElem?_cons_succ, Option.isSome_none, Bool.false_and, if_false, Bool.false_eq_true]
theorem gcd_loop (h : Hl) : ∀ (j fuel : Nat) (a b : Int) (o : Option Int), 0 ≤ a → 0 ≤ b → b < 2 ^ j → 2 * j < fuel →
    ∃ o', whlG (bodyT P call (E.cmp .gt (E.var 1) (E.cst (T.int 0)))) (bodyF P call W (B.cons (S.asg 2 (E.bin .mod (E.bf .int (Es.cons (E.var 0) Es.nil)) (E.var 1))) (B.cons (S.asg 0 (E.var 1)) (B.cons (S.asg 1 (E.var 2)) B.nil)))) fuel [some (.int a), some (.int b), oi o] h = .nx [some (.int ((Nat.gcd a.natAbs b.natAbs : Nat) : Int)), some (.int 0), oi o'] h := by
  have stop : ∀ (fuel : Nat) (a : Int) (o : Option Int), 0 ≤ a → 0 < fuel → whlG (bodyT P call (E.cmp .gt (E.var 1) (E.cst (T.int 0)))) (bodyF P call W (B.cons (S.asg 2 (E.bin .mod (E.bf .int (Es.cons (E.var 0) Es.nil)) (E.var 1))) (B.cons (S.asg 0 (E.var 1)) (B.cons (S.asg 1 (E.var 2)) B.nil)))) fuel [some (.int a), some (.int 0), oi o] h = .nx [some (.int ((Nat.gcd a.natAbs (0 : Int).natAbs : Nat) : Int)), some (.int 0), oi o] h := fun fuel a o ha hf => by
    cases fuel with
    | zero => omega
    | succ n =>
      rw [whlG, gcd_cond]
      have : ((Nat.gcd a.natAbs (0 : Int).natAbs : Nat) : Int) = a := by
        show ((Nat.gcd a.natAbs 0 : Nat) : Int) = a
        rw [Nat.gcd_zero_right]; omega
      rw [this]; rfl
  have one : ∀ (n : Nat) (a b : Int) (o : Option Int), 0 < b → whlG (bodyT P call (E.cmp .gt (E.var 1) (E.cst (T.int 0)))) (bodyF P call W (B.cons (S.asg 2 (E.bin .mod (E.bf .int (Es.cons (E.var 0) Es.nil)) (E.var 1))) (B.cons (S.asg 0 (E.var 1)) (B.cons (S.asg 1 (E.var 2)) B.nil)))) (n + 1) [some (.int a), some (.int b), oi o] h =
      whlG (bodyT P call (E.cmp .gt (E.var 1) (E.cst (T.int 0)))) (bodyF P call W (B.cons (S.asg 2 (E.bin .mod (E.bf .int (Es.cons (E.var 0) Es.nil)) (E.var 1))) (B.cons (S.asg 0 (E.var 1)) (B.cons (S.asg 1 (E.var 2)) B.nil)))) n [some (.int b), some (.int (a % b)), oi (some (a % b))] h := fun n a b o hb => by
    rw [whlG, gcd_cond, show decide (0 < b) = true from by simpa using hb]
    show (match bodyF P call W _ [some (.int a), some (.int b), oi o] h with
      | .nx σ h => whlG _ _ n σ h
      | .ct σ h => whlG _ _ n σ h
      | .bk σ h => .nx σ h
      | r => r) = _
    rw [gcd_step P call W a b o h hb]
  have red : ∀ (a b : Int), 0 ≤ a → 0 < b → (Nat.gcd a.natAbs b.natAbs : Nat) = Nat.gcd b.natAbs (a % b).natAbs := fun a b ha hb => by
    have e : (a % b).natAbs = a.natAbs % b.natAbs := by
      obtain ⟨x, rfl⟩ := Int.eq_ofNat_of_zero_le ha
      obtain ⟨y, rfl⟩ := Int.eq_ofNat_of_zero_le (Int.le_of_lt hb)
      rfl
    rw [e, Nat.gcd_comm a.natAbs, Nat.gcd_rec b.natAbs a.natAbs, Nat.gcd_comm]
  intro j
  induction j with
  | zero =>
    intro fuel a b o ha hb hj hf
    obtain rfl : b = 0 := by have : (2 : Int) ^ 0 = 1 := rfl; omega
    exact ⟨o, stop fuel a o ha (by omega)⟩
  | succ j ih =>
    intro fuel a b o ha hb hj hf
    by_cases z : b = 0
    · subst z; exact ⟨o, stop fuel a o ha (by omega)⟩
    · have hb2 : 0 < b := by omega
      obtain ⟨n, rfl⟩ : ∃ n, fuel = n + 1 + 1 := ⟨fuel - 2, by omega⟩
      rw [one (n + 1) a b o hb2, red a b ha hb2]
      have r0 : 0 ≤ a % b := Int.emod_nonneg _ (by omega)
      have r1 : a % b < b := Int.emod_lt_of_pos _ hb2
      by_cases z2 : a % b = 0
      · rw [z2]; exact ⟨_, stop (n + 1) b _ hb (by omega)⟩
      · have r2 : 0 < a % b := by omega
        rw [one n b (a % b) _ r2, red b (a % b) hb r2]
        have s0 : 0 ≤ b % (a % b) := Int.emod_nonneg _ (by omega)
        have s1 : b % (a % b) < a % b := Int.emod_lt_of_pos _ r2
        have s2 : 2 * (b % (a % b)) < b := by
          have e := Int.emod_add_mul_ediv b (a % b)
          have q : 1 ≤ b / (a % b) := (Int.le_ediv_iff_mul_le r2).mpr (by omega)
          have : a % b ≤ (a % b) * (b / (a % b)) := by
            have := Int.mul_le_mul_of_nonneg_left q (show 0 ≤ a % b by omega)
            rw [Int.mul_one] at this; exact this
          omega
        rw [Int.pow_succ] at hj
        exact ih n (a % b) (b % (a % b)) _ r0 s0 (by omega) (by omega)
theorem gcd_runJ (j d f : Nat) (hf : P.defs[f]? = some ⟨2, 3, gcdB⟩) (a b : Int) (h : Hl) (ha : 0 ≤ a) (hb : 0 ≤ b) (hb2 : b < 2 ^ j) (hW : 2 * j < W) : run P W (d + 1) f [.int a, .int b] h = .ok (.int ((Nat.gcd a.natAbs b.natAbs : Nat) : Int)) h := by
  obtain ⟨o', e⟩ := gcd_loop P (run P W d) W h j W a b none ha hb hb2 hW
  rw [run_eq hf rfl]
  show endR P _ ((exS P (run P W d) W (S.whl _ _) [some (.int a), some (.int b), none] h).thn fun σ h => exB P (run P W d) W (B.cons (S.ret (E.var 0)) B.nil) σ h) = _
  rw [exS_whl]
  have e : whlG (bodyT P (run P W d) (E.cmp .gt (E.var 1) (E.cst (T.int 0)))) (bodyF P (run P W d) W (B.cons (S.asg 2 (E.bin .mod (E.bf .int (Es.cons (E.var 0) Es.nil)) (E.var 1))) (B.cons (S.asg 0 (E.var 1)) (B.cons (S.asg 1 (E.var 2)) B.nil)))) W [some (.int a), some (.int b), none] h = _ := e
  rw [e]; rfl
theorem gcd_run (d f : Nat) (hf : P.defs[f]? = some ⟨2, 3, gcdB⟩) (a b : Int) (h : Hl) (ha : 0 ≤ a) (hb : 0 ≤ b) (hb2 : b < 2 ^ 400) (hW : 1000 < W) : run P W (d + 1) f [.int a, .int b] h = .ok (.int ((Nat.gcd a.natAbs b.natAbs : Nat) : Int)) h := gcd_runJ P W 400 d f hf a b h ha hb hb2 (by omega)
end
theorem lcG_map {f : Sl → Hl → R (Option T)} {i : Nat} {σ : Sl} {h : Hl} (g : Nat → T) (hp : ∀ j, plainT (g j) = true) : ∀ (xs : List T) (n : Nat), (∀ (j : Nat) (x : T), xs[j]? = some x → f (σ.set i (some x)) h = .ok (some (g (n + j))) h) →
    lcG f [i] σ xs h = .ok ((List.range xs.length).map fun j => g (n + j)) h := by
  intro xs
  induction xs with
  | nil => intro n _; rw [lcG]; rfl
  | cons x xs ih =>
    intro n hf
    have e0 := hf 0 x rfl
    have e1 := ih (n + 1) (fun j y hy => by
      have := hf (j + 1) y (by simpa using hy)
      rw [show n + (j + 1) = n + 1 + j by omega] at this; exact this)
    rw [lcG]
    show ((f (σ.set i (some x)) h).noErr.bind _) = _
    rw [e0]
    show (if plainT (g (n + 0)) = true then (lcG f [i] σ xs h).bind _ else R.stuck) = _
    rw [if_pos (hp _), e1]
    show R.ok (g (n + 0) :: _) h = _
    rw [List.length_cons, List.range_succ_eq_map, List.map_cons, List.map_map]
    congr 3
    funext j
    show g (n + 1 + j) = g (n + (j + 1))
    rw [show n + 1 + j = n + (j + 1) by omega]
end Kb
end
section
/-! Kp: plain words for plain proofs: loops, comprehensions, shares as rationals. -/
set_option autoImplicit false
set_option linter.all false
set_option maxRecDepth 100000
namespace Kb
/-! ### what is plain -/
theorem pl_non : plainT (T.non) = true := by unfold plainT; exact Eq.refl _
theorem pl_bl (b : Bool) : plainT (T.bl b) = true := by unfold plainT; exact Eq.refl _
theorem pl_int (i : Int) : plainT (T.int i) = true := by unfold plainT; exact Eq.refl _
theorem pl_str (s : List Nat) : plainT (T.str s) = true := by unfold plainT; exact Eq.refl _
theorem pl_lst (xs : List T) : plainT (T.lst xs) = true := by unfold plainT; exact Eq.refl _
theorem pl_tup (xs : List T) : plainT (T.tup xs) = true := by unfold plainT; exact Eq.refl _
theorem pl_ins (c : Nat) (fs : List (Nat × T)) : plainT (T.ins c fs) = true := by unfold plainT; exact Eq.refl _
theorem pl_dct (kvs : List (T × T)) : plainT (T.dct kvs) = true := by unfold plainT; exact Eq.refl _
theorem pl_rf (n : Nat) : plainT (T.rf n) = true := by unfold plainT; exact Eq.refl _
theorem pl_kl (xs : List Int) : plainT (T.kl xs) = true := by unfold plainT; exact Eq.refl _
theorem pl_exc (c : Nat) (fs : List (Nat × T)) : plainT (T.exc c fs) = false := by unfold plainT; exact Eq.refl _
theorem pl_bL (xs : List T) : plainT (T.bL xs) = false := by unfold plainT; exact Eq.refl _
theorem pl_bD (kvs : List (T × T)) : plainT (T.bD kvs) = false := by unfold plainT; exact Eq.refl _
theorem pl_bI (c : Nat) (fs : List (Nat × T)) : plainT (T.bI c fs) = false := by unfold plainT; exact Eq.refl _
theorem rngOk_of {i : Int} (h0 : -1000000 ≤ i) (h : i ≤ 1000000) : rngOk i = true := by simp only [rngOk, decide_eq_true_eq]; omega
theorem lt_of' {n : Nat} (h : n ≤ 1000000) : decide (n < maxLen) = true := decide_eq_true (by unfold maxLen; omega)
theorem le_of' {n : Nat} (h : n ≤ 1000000) : (n ≤ maxLen) = True := eq_true (by unfold maxLen; omega)
theorem len_of {n : Nat} (h : n ≤ 1000000) : n ≤ maxLen := by simp only [maxLen]; omega
theorem shlOk_of {i n : Int} (h1 : -(2 ^ 200) < i) (h2 : i < 2 ^ 200) (h3 : 0 ≤ n) (h4 : n ≤ 1000000) : shlOk i n = true := by
  have b := log2_lt i 200 h1 h2 (by decide)
  simp only [shlOk, Bool.and_eq_true, decide_eq_true_eq]; exact ⟨⟨h3, by omega⟩, by omega⟩
/-! ### walks and kinds by form -/
theorem walkOf_lst (xs : List T) : walkOf (.lst xs) = some xs := by unfold walkOf; exact Eq.refl _
theorem walkOf_tup (xs : List T) : walkOf (.tup xs) = some xs := by unfold walkOf; exact Eq.refl _
theorem walkOf_kl (xs : List Int) : walkOf (.kl xs) = some (xs.map T.int) := by unfold walkOf; exact Eq.refl _
theorem walkOf_str (s : List Nat) (h : decide (s.length ≤ maxLen) = true) : walkOf (.str s) = some (s.map fun c => T.str [c]) := by
  show (if s.length ≤ maxLen then some (s.map fun c => T.str [c]) else none) = _
  rw [if_pos (of_decide_eq_true h)]
theorem kd_non (k : Kd) (h : Hl) : kdOf k .non h = some false := by unfold kdOf; exact Eq.refl _
theorem kd_bl (k : Kd) (b : Bool) (h : Hl) : kdOf k (.bl b) h = some (decide (k = .int ∨ k = .bool)) := by unfold kdOf; exact Eq.refl _
theorem kd_int (k : Kd) (i : Int) (h : Hl) : kdOf k (.int i) h = some (decide (k = .int)) := by unfold kdOf; exact Eq.refl _
theorem kd_str (k : Kd) (s : List Nat) (h : Hl) : kdOf k (.str s) h = some (decide (k = .str)) := by unfold kdOf; exact Eq.refl _
theorem kd_tup (k : Kd) (xs : List T) (h : Hl) : kdOf k (.tup xs) h = some (decide (k = .tuple)) := by unfold kdOf; exact Eq.refl _
theorem kd_lst (k : Kd) (xs : List T) (h : Hl) : kdOf k (.lst xs) h = some (decide (k = .list)) := by unfold kdOf; exact Eq.refl _
theorem kd_bL (k : Kd) (xs : List T) (h : Hl) : kdOf k (.bL xs) h = some (decide (k = .list)) := by unfold kdOf; exact Eq.refl _
theorem kd_kl (k : Kd) (xs : List Int) (h : Hl) : kdOf k (.kl xs) h = some (decide (k = .list)) := by unfold kdOf; exact Eq.refl _
theorem kd_ins (k : Kd) (c : Nat) (fs : List (Nat × T)) (h : Hl) : kdOf k (.ins c fs) h = some (decide (k = .cls c)) := by unfold kdOf; exact Eq.refl _
theorem kk_ii : decide (Kd.int = Kd.int) = true := by decide
theorem kk_ib : decide (Kd.int = Kd.bool) = false := by decide
theorem kk_bi : decide (Kd.bool = Kd.int) = false := by decide
theorem kk_bb : decide (Kd.bool = Kd.bool) = true := by decide
theorem kk_ss : decide (Kd.str = Kd.str) = true := by decide
theorem kk_tt : decide (Kd.tuple = Kd.tuple) = true := by decide
theorem kk_ll : decide (Kd.list = Kd.list) = true := by decide
theorem kk_tl : decide (Kd.tuple = Kd.list) = false := by decide
theorem kk_lt : decide (Kd.list = Kd.tuple) = false := by decide
theorem kk_is : decide (Kd.int = Kd.str) = false := by decide
theorem kk_si : decide (Kd.str = Kd.int) = false := by decide
theorem kk_it : decide (Kd.int = Kd.tuple) = false := by decide
theorem kk_il : decide (Kd.int = Kd.list) = false := by decide
theorem kk_ti : decide (Kd.tuple = Kd.int) = false := by decide
theorem kk_li : decide (Kd.list = Kd.int) = false := by decide
theorem kk_st : decide (Kd.str = Kd.tuple) = false := by decide
theorem kk_sl : decide (Kd.str = Kd.list) = false := by decide
theorem kk_ts : decide (Kd.tuple = Kd.str) = false := by decide
theorem kk_ls : decide (Kd.list = Kd.str) = false := by decide
/-! ### which values are instances -/
section
variable (P : Prog) (call : Nat → List T → Hl → R T)
theorem insOf_non  (h : Hl) : insOf T.non h = none := by unfold insOf; exact Eq.refl _
theorem binE_non (o : BOp)  (y : T) (h : Hl) : binE P call o T.non y h = binT o T.non y h := by unfold binE isIns; rw [insOf_non]; exact Eq.refl _
theorem cmE_non (o : COp)  (y : T) (h : Hl) : cmpE P call o T.non y h = cmpT o T.non y h := by unfold cmpE isIns; rw [insOf_non]; exact Eq.refl _
theorem insOf_bl (b : Bool) (h : Hl) : insOf (T.bl b) h = none := by unfold insOf; exact Eq.refl _
theorem binE_bl (o : BOp) (b : Bool) (y : T) (h : Hl) : binE P call o (T.bl b) y h = binT o (T.bl b) y h := by unfold binE isIns; rw [insOf_bl]; exact Eq.refl _
theorem cmE_bl (o : COp) (b : Bool) (y : T) (h : Hl) : cmpE P call o (T.bl b) y h = cmpT o (T.bl b) y h := by unfold cmpE isIns; rw [insOf_bl]; exact Eq.refl _
theorem insOf_int (i : Int) (h : Hl) : insOf (T.int i) h = none := by unfold insOf; exact Eq.refl _
theorem binE_int (o : BOp) (i : Int) (y : T) (h : Hl) : binE P call o (T.int i) y h = binT o (T.int i) y h := by unfold binE isIns; rw [insOf_int]; exact Eq.refl _
theorem cmE_int (o : COp) (i : Int) (y : T) (h : Hl) : cmpE P call o (T.int i) y h = cmpT o (T.int i) y h := by unfold cmpE isIns; rw [insOf_int]; exact Eq.refl _
theorem insOf_str (s : List Nat) (h : Hl) : insOf (T.str s) h = none := by unfold insOf; exact Eq.refl _
theorem binE_str (o : BOp) (s : List Nat) (y : T) (h : Hl) : binE P call o (T.str s) y h = binT o (T.str s) y h := by unfold binE isIns; rw [insOf_str]; exact Eq.refl _
theorem cmE_str (o : COp) (s : List Nat) (y : T) (h : Hl) : cmpE P call o (T.str s) y h = cmpT o (T.str s) y h := by unfold cmpE isIns; rw [insOf_str]; exact Eq.refl _
theorem insOf_lst (xs : List T) (h : Hl) : insOf (T.lst xs) h = none := by unfold insOf; exact Eq.refl _
theorem binE_lst (o : BOp) (xs : List T) (y : T) (h : Hl) : binE P call o (T.lst xs) y h = binT o (T.lst xs) y h := by unfold binE isIns; rw [insOf_lst]; exact Eq.refl _
theorem cmE_lst (o : COp) (xs : List T) (y : T) (h : Hl) : cmpE P call o (T.lst xs) y h = cmpT o (T.lst xs) y h := by unfold cmpE isIns; rw [insOf_lst]; exact Eq.refl _
theorem insOf_tup (xs : List T) (h : Hl) : insOf (T.tup xs) h = none := by unfold insOf; exact Eq.refl _
theorem binE_tup (o : BOp) (xs : List T) (y : T) (h : Hl) : binE P call o (T.tup xs) y h = binT o (T.tup xs) y h := by unfold binE isIns; rw [insOf_tup]; exact Eq.refl _
theorem cmE_tup (o : COp) (xs : List T) (y : T) (h : Hl) : cmpE P call o (T.tup xs) y h = cmpT o (T.tup xs) y h := by unfold cmpE isIns; rw [insOf_tup]; exact Eq.refl _
theorem insOf_dct (kvs : List (T × T)) (h : Hl) : insOf (T.dct kvs) h = none := by unfold insOf; exact Eq.refl _
theorem binE_dct (o : BOp) (kvs : List (T × T)) (y : T) (h : Hl) : binE P call o (T.dct kvs) y h = binT o (T.dct kvs) y h := by unfold binE isIns; rw [insOf_dct]; exact Eq.refl _
theorem cmE_dct (o : COp) (kvs : List (T × T)) (y : T) (h : Hl) : cmpE P call o (T.dct kvs) y h = cmpT o (T.dct kvs) y h := by unfold cmpE isIns; rw [insOf_dct]; exact Eq.refl _
theorem insOf_kl (xs : List Int) (h : Hl) : insOf (T.kl xs) h = none := by unfold insOf; exact Eq.refl _
theorem binE_kl (o : BOp) (xs : List Int) (y : T) (h : Hl) : binE P call o (T.kl xs) y h = binT o (T.kl xs) y h := by unfold binE isIns; rw [insOf_kl]; exact Eq.refl _
theorem cmE_kl (o : COp) (xs : List Int) (y : T) (h : Hl) : cmpE P call o (T.kl xs) y h = cmpT o (T.kl xs) y h := by unfold cmpE isIns; rw [insOf_kl]; exact Eq.refl _
theorem insOf_bL (xs : List T) (h : Hl) : insOf (T.bL xs) h = none := by unfold insOf; exact Eq.refl _
theorem binE_bL (o : BOp) (xs : List T) (y : T) (h : Hl) : binE P call o (T.bL xs) y h = binT o (T.bL xs) y h := by unfold binE isIns; rw [insOf_bL]; exact Eq.refl _
theorem cmE_bL (o : COp) (xs : List T) (y : T) (h : Hl) : cmpE P call o (T.bL xs) y h = cmpT o (T.bL xs) y h := by unfold cmpE isIns; rw [insOf_bL]; exact Eq.refl _
theorem insOf_bD (kvs : List (T × T)) (h : Hl) : insOf (T.bD kvs) h = none := by unfold insOf; exact Eq.refl _
theorem binE_bD (o : BOp) (kvs : List (T × T)) (y : T) (h : Hl) : binE P call o (T.bD kvs) y h = binT o (T.bD kvs) y h := by unfold binE isIns; rw [insOf_bD]; exact Eq.refl _
theorem cmE_bD (o : COp) (kvs : List (T × T)) (y : T) (h : Hl) : cmpE P call o (T.bD kvs) y h = cmpT o (T.bD kvs) y h := by unfold cmpE isIns; rw [insOf_bD]; exact Eq.refl _
theorem insOf_ins (c : Nat) (fs : List (Nat × T)) (h : Hl) : insOf (T.ins c fs) h = some (c, fs) := by unfold insOf; exact Eq.refl _
theorem insOf_bI (c : Nat) (fs : List (Nat × T)) (h : Hl) : insOf (T.bI c fs) h = some (c, fs) := by unfold insOf; exact Eq.refl _
theorem insOf_rf (n : Nat) (h : Hl) : insOf (T.rf n) h = (match h[n]? with
  | some (.ins c fs) => some (c, fs)
  | _ => none) := by unfold insOf; exact Eq.refl _
theorem binE_rf (o : BOp) (n : Nat) (y : T) (h : Hl) (q : insOf (T.rf n) h = none) : binE P call o (T.rf n) y h = binT o (T.rf n) y h := by unfold binE isIns; rw [q]; exact Eq.refl _
theorem cmE_rf (o : COp) (n : Nat) (y : T) (h : Hl) (q : insOf (T.rf n) h = none) : cmpE P call o (T.rf n) y h = cmpT o (T.rf n) y h := by unfold cmpE isIns; rw [q]; exact Eq.refl _
theorem cmE_is (o : COp) (x y : T) (h : Hl) (q : decide (o = .eq) = false) : cmpE P call o x y h = cmpT o x y h := by unfold cmpE; rw [q]; simp
theorem fldT_ins (c : Nat) (fs : List (Nat × T)) (f : Nat) (h : Hl) : fldT (T.ins c fs) f h = (match lkF f fs with
  | some t => .ok t h
  | none => .stuck) := by unfold fldT; exact Eq.refl _
theorem fldT_bI (c : Nat) (fs : List (Nat × T)) (f : Nat) (h : Hl) : fldT (T.bI c fs) f h = (match lkF f fs with
  | some t => .ok t h
  | none => .stuck) := by unfold fldT; exact Eq.refl _
theorem fldT_rf (n : Nat) (c : Nat) (fs : List (Nat × T)) (f : Nat) (h : Hl) (q : insOf (T.rf n) h = some (c, fs)) : fldT (T.rf n) f h = (match lkF f fs with
  | some t => .ok t h
  | none => .stuck) := by unfold fldT; simp only [q] <;> cases lkF f fs <;> rfl
end
theorem mx_0 : (0 ≤ maxLen) = True := by simp
theorem mx_1 : (1 ≤ maxLen) = True := by simp [maxLen]
theorem mx_2 : (2 ≤ maxLen) = True := by simp [maxLen]
theorem mx_3 : (3 ≤ maxLen) = True := by simp [maxLen]
theorem mx_4 : (4 ≤ maxLen) = True := by simp [maxLen]
theorem mx_5 : (5 ≤ maxLen) = True := by simp [maxLen]
theorem mx_01 : (0 + 1 ≤ maxLen) = True := by simp [maxLen]
theorem mx_02 : (0 + 1 + 1 ≤ maxLen) = True := by simp [maxLen]
theorem mx_03 : (0 + 1 + 1 + 1 ≤ maxLen) = True := by simp [maxLen]
theorem mx_04 : (0 + 1 + 1 + 1 + 1 ≤ maxLen) = True := by simp [maxLen]
theorem mx_05 : (0 + 1 + 1 + 1 + 1 + 1 ≤ maxLen) = True := by simp [maxLen]
/-! ### loops -/
theorem BxOk.mono {st : Bx} {k k' : Nat} (o : BxOk st k) (h : k ≤ k') : BxOk st k' := ⟨o.q0, o.s0, o.s1, o.t0, by have := o.t1; omega⟩
/-- a loop's body: on to the next turn (or continue) -/
def Goes (x : RS) (N : Sl → Hl → Prop) : Prop := ∃ σ h, (x = .nx σ h ∨ x = .ct σ h) ∧ N σ h
theorem Goes.nx {σ : Sl} {h : Hl} {N : Sl → Hl → Prop} (n : N σ h) : Goes (.nx σ h) N := ⟨σ, h, .inl rfl, n⟩
theorem Goes.ct {σ : Sl} {h : Hl} {N : Sl → Hl → Prop} (n : N σ h) : Goes (.ct σ h) N := ⟨σ, h, .inr rfl, n⟩
theorem Goes.ite {c : Prop} [Decidable c] {x y : RS} {N : Sl → Hl → Prop} (a : c → Goes x N) (b : ¬ c → Goes y N) : Goes (if c then x else y) N := by
  by_cases q : c
  · rw [if_pos q]; exact a q
  · rw [if_neg q]; exact b q
theorem forG_step {f : Sl → Hl → RS} {tg : List Nat} {x : T} {xs : List T} {σ σ1 : Sl} {h : Hl} (fr : freeTg σ tg = true) (st : setT tg x σ = some σ1) :
    forG f tg (x :: xs) σ h = (match f σ1 h with
      | .nx σ h => forG f tg xs σ h
      | .ct σ h => forG f tg xs σ h
      | .bk σ h => .nx σ h
      | r => r) := by
  rw [forG, if_pos fr, st] <;> rfl
/-- every turn goes on -/
theorem for_all {f : Sl → Hl → RS} {tg : List Nat} (I : Nat → Sl → Hl → Prop) : ∀ (xs : List T) (n : Nat) (σ : Sl) (h : Hl), I n σ h →
    (∀ (j : Nat) (x : T) (σ : Sl) (h : Hl), xs[j]? = some x → I (n + j) σ h → freeTg σ tg = true ∧ ∃ σ1, setT tg x σ = some σ1 ∧ Goes (f σ1 h) (I (n + j + 1))) →
    ∃ σ' h', forG f tg xs σ h = .nx σ' h' ∧ I (n + xs.length) σ' h' := by
  intro xs
  induction xs with
  | nil => intro n σ h h0 _; exact ⟨σ, h, by rw [forG], h0⟩
  | cons x xs ih =>
    intro n σ h h0 step
    obtain ⟨fr, σ1, st, σ2, h2, e, i2⟩ := step 0 x σ h rfl h0
    obtain ⟨σ3, h3, e3, i3⟩ := ih (n + 1) σ2 h2 i2 fun j y σ h hy hi => by
      have := step (j + 1) y σ h (by simpa using hy) (by rw [show n + (j + 1) = n + 1 + j by omega]; exact hi)
      rw [show n + (j + 1) + 1 = n + 1 + j + 1 by omega] at this
      exact this
    refine ⟨σ3, h3, ?_, by rw [List.length_cons, show n + (xs.length + 1) = n + 1 + xs.length by omega]; exact i3⟩
    rw [forG_step fr st]
    rcases e with e | e <;> rw [e] <;> exact e3
/-- .. over items of one kind, one slot -/
theorem for_list {f : Sl → Hl → RS} {i : Nat} {α : Type} (enc : α → T) (I : Nat → Sl → Hl → Prop) (as : List α) (σ : Sl) (h : Hl) (h0 : I 0 σ h)
    (step : ∀ (j : Nat) (a : α) (σ : Sl) (h : Hl), as[j]? = some a → I j σ h → freeS σ i = true ∧ Goes (f (σ.set i (some (enc a))) h) (I (j + 1))) :
    ∃ σ' h', forG f [i] (as.map enc) σ h = .nx σ' h' ∧ I as.length σ' h' := by
  obtain ⟨σ', h', e, q⟩ := for_all (f := f) (tg := [i]) I (as.map enc) 0 σ h h0 fun j x σ h hx hi => by
    rw [List.getElem?_map] at hx
    cases ha : as[j]? with
    | none => rw [ha] at hx; cases hx
    | some a =>
      rw [ha] at hx; cases hx
      rw [Nat.zero_add] at hi ⊢
      obtain ⟨fr, g⟩ := step j a σ h ha hi
      exact ⟨by simp [freeTg, fr], _, rfl, g⟩
  rw [List.length_map, Nat.zero_add] at q
  exact ⟨σ', h', e, q⟩
theorem for_rng {f : Sl → Hl → RS} {i : Nat} (I : Nat → Sl → Hl → Prop) (lo hi : Int) (σ : Sl) (h : Hl) (h0 : I 0 σ h)
    (step : ∀ (j : Nat) (σ : Sl) (h : Hl), j < (hi - lo).toNat → I j σ h → freeS σ i = true ∧ Goes (f (σ.set i (some (.int (lo + j)))) h) (I (j + 1))) :
    ∃ σ' h', forG f [i] (rngT lo hi) σ h = .nx σ' h' ∧ I (hi - lo).toNat σ' h' := by
  unfold rngT
  obtain ⟨σ', h', e, q⟩ := for_list (f := f) (i := i) (fun k : Nat => T.int (lo + (k : Int))) I (List.range (hi - lo).toNat) σ h h0 fun j a σ h ha hi2 => by
    have : a = j ∧ j < (hi - lo).toNat := by
      have hl := (List.getElem?_eq_some_iff.mp ha)
      obtain ⟨q1, q2⟩ := hl
      rw [List.length_range] at q1
      rw [List.getElem_range] at q2
      exact ⟨q2.symm, q1⟩
    obtain ⟨rfl, hl⟩ := this
    exact step a σ h hl hi2
  rw [List.length_range] at q
  exact ⟨σ', h', e, q⟩
/-! ### block by block -/
def B.nth : B → Nat → S
  | .nil, _ => .pass
  | .cons s _, 0 => s
  | .cons _ b, n + 1 => B.nth b n
def B.drop : B → Nat → B
  | b, 0 => b
  | .nil, _ + 1 => .nil
  | .cons _ b, n + 1 => B.drop b n
def B.len : B → Nat
  | .nil => 0
  | .cons _ b => B.len b + 1
theorem B.drop_cons : ∀ (b : B) (i : Nat), i < b.len → b.drop i = .cons (b.nth i) (b.drop (i + 1))
  | .nil, _, h => by simp [B.len] at h
  | .cons s b, 0, _ => by cases b <;> rfl
  | .cons s b, i + 1, h => by
    have := B.drop_cons b i (by simp [B.len] at h; omega)
    show B.drop b i = .cons (B.nth b i) (B.drop (.cons s b) (i + 1 + 1))
    rw [this]; rfl
theorem exB_go {P : Prog} {call : Nat → List T → Hl → R T} {W : Nat} {b : B} {i : Nat} {σ σ' : Sl} {h h' : Hl} (hi : i < b.len) (q : exS P call W (b.nth i) σ h = .nx σ' h') : exB P call W (b.drop i) σ h = exB P call W (b.drop (i + 1)) σ' h' := by
  rw [B.drop_cons b i hi, exB, q]; rfl
theorem exB_rt {P : Prog} {call : Nat → List T → Hl → R T} {W : Nat} {b : B} {i : Nat} {σ : Sl} {h h' : Hl} {t : T} (hi : i < b.len) (q : exS P call W (b.nth i) σ h = .rt t h') : exB P call W (b.drop i) σ h = .rt t h' := by
  rw [B.drop_cons b i hi, exB, q]; rfl
theorem Goes.go {P : Prog} {call : Nat → List T → Hl → R T} {W : Nat} {b : B} {i : Nat} {σ σ' : Sl} {h h' : Hl} {N : Sl → Hl → Prop} (hi : i < b.len) (q : exS P call W (b.nth i) σ h = .nx σ' h') (k : Goes (exB P call W (b.drop (i + 1)) σ' h') N) : Goes (exB P call W (b.drop i) σ h) N := by
  rw [exB_go hi q]; exact k
theorem Goes.go0 {P : Prog} {call : Nat → List T → Hl → R T} {W : Nat} {b : B} {σ : Sl} {h : Hl} {N : Sl → Hl → Prop} (k : Goes (exB P call W (b.drop 0) σ h) N) : Goes (bodyF P call W b σ h) N := by
  cases b <;> exact k
/-- a def's body ends with a value -/
def Ends (P : Prog) (vs : List T) (x : RS) (Q : T → Hl → Prop) : Prop := ∃ v h, endR P vs x = .ok v h ∧ Q v h
theorem Ends.go {P : Prog} {call : Nat → List T → Hl → R T} {W : Nat} {b : B} {i : Nat} {σ σ' : Sl} {h h' : Hl} {vs : List T} {Q : T → Hl → Prop} (hi : i < b.len) (q : exS P call W (b.nth i) σ h = .nx σ' h') (k : Ends P vs (exB P call W (b.drop (i + 1)) σ' h') Q) : Ends P vs (exB P call W (b.drop i) σ h) Q := by
  rw [exB_go hi q]; exact k
/-- what is asked of a call -/
def Wp (x : R T) (Q : T → Hl → Prop) : Prop := ∃ v h, x = .ok v h ∧ Q v h
theorem Wp.run {P : Prog} {W d f : Nat} {np ns : Nat} {b : B} (hf : P.defs[f]? = some ⟨np, ns, b⟩) {vs : List T} {h : Hl} {Q : T → Hl → Prop} (hl : vs.length = np) (k : Ends P vs (exB P (run P W d) W (b.drop 0) (startT np ns vs) h) Q) : Wp (run P W (d + 1) f vs h) Q := by
  obtain ⟨v, h', e, q⟩ := k
  refine ⟨v, h', ?_, q⟩
  rw [run_eq hf hl]
  cases b <;> exact e
/-! ### a def's end -/
def isBI : T → Bool
  | .bI _ _ => true | _ => false
def iniV : List T → Bool
  | [] => false
  | x :: _ => isBI x
theorem isBI_int (i : Int) : isBI (.int i) = false := by unfold isBI; exact Eq.refl _
theorem isBI_str (i : List Nat) : isBI (.str i) = false := by unfold isBI; exact Eq.refl _
theorem isBI_lst (i : List T) : isBI (.lst i) = false := by unfold isBI; exact Eq.refl _
theorem isBI_tup (i : List T) : isBI (.tup i) = false := by unfold isBI; exact Eq.refl _
theorem isBI_ins (c : Nat) (i : List (Nat × T)) : isBI (.ins c i) = false := by unfold isBI; exact Eq.refl _
theorem isBI_rf (n : Nat) : isBI (.rf n) = false := by unfold isBI; exact Eq.refl _
theorem isBI_bl (n : Bool) : isBI (.bl n) = false := by unfold isBI; exact Eq.refl _
theorem isBI_kl (n : List Int) : isBI (.kl n) = false := by unfold isBI; exact Eq.refl _
theorem isBI_non : isBI .non = false := by unfold isBI; exact Eq.refl _
theorem isBI_dct (i : List (T × T)) : isBI (.dct i) = false := by unfold isBI; exact Eq.refl _
theorem iniV_nil : iniV [] = false := by unfold iniV; exact Eq.refl _
theorem iniV_cons (x : T) (l : List T) : iniV (x :: l) = isBI x := by unfold iniV; exact Eq.refl _
theorem endR_rt {P : Prog} {vs : List T} {t : T} {h : Hl} (q : iniV vs = false) : endR P vs (.rt t h) = .ok t h := by
  cases vs with
  | nil => rfl
  | cons x l => cases x <;> first | rfl | cases q
theorem endR_nx {P : Prog} {vs : List T} {σ : Sl} {h : Hl} (q : iniV vs = false) : endR P vs (.nx σ h) = .ok .non h := by
  cases vs with
  | nil => rfl
  | cons x l => cases x <;> first | rfl | cases q
theorem Ends.rt {P : Prog} {call : Nat → List T → Hl → R T} {W : Nat} {b : B} {i : Nat} {σ : Sl} {h h' : Hl} {vs : List T} {t : T} {Q : T → Hl → Prop} (hi : i < b.len) (q : exS P call W (b.nth i) σ h = .rt t h') (iv : iniV vs = false) (k : Q t h') : Ends P vs (exB P call W (b.drop i) σ h) Q := by
  rw [exB_rt hi q]; exact ⟨t, h', endR_rt iv, k⟩
/-- a slot that may be overwritten -/
def freeO : Option (Option T) → Bool
  | some (some t) => !isBI t
  | some none => true
  | none => false
theorem freeS_eq (σ : Sl) (i : Nat) : freeS σ i = freeO σ[i]? := by
  unfold freeS freeO
  cases σ[i]? with
  | none => rfl
  | some o => cases o with
    | none => rfl
    | some t => cases t <;> rfl
theorem freeO_none : freeO (some none) = true := by unfold freeO; exact Eq.refl _
theorem freeO_some (t : T) : freeO (some (some t)) = !isBI t := by unfold freeO; exact Eq.refl _
theorem endR_ini {P : Prog} {c c' : Nat} {fs fs' : List (Nat × T)} {l : List T} {σ : Sl} {h : Hl} : endR P (.bI c fs :: l) (.nx (some (.bI c' fs') :: σ) h) = .ok (.bI c' fs') h := rfl
theorem endR_ite {P : Prog} {vs : List T} (c : Prop) [Decidable c] (x y : RS) : endR P vs (if c then x else y) = if c then endR P vs x else endR P vs y := by split <;> rfl
/-! ### comprehensions -/
theorem lcG_cons {f : Sl → Hl → R (Option T)} {tg : List Nat} {x : T} {xs : List T} {σ σ1 : Sl} {h h' : Hl} {y : T} (st : setT tg x σ = some σ1) (e : f σ1 h = .ok (some y) h') (p : plainT y = true) :
    lcG f tg σ (x :: xs) h = (lcG f tg σ xs h').bind fun ys h => .ok (y :: ys) h := by
  rw [lcG, st]
  show ((f σ1 h).noErr.bind _) = _
  rw [e]
  show (if plainT y = true then _ else _) = _
  rw [if_pos p]
theorem lcG_skip {f : Sl → Hl → R (Option T)} {tg : List Nat} {x : T} {xs : List T} {σ σ1 : Sl} {h h' : Hl} (st : setT tg x σ = some σ1) (e : f σ1 h = .ok none h') :
    lcG f tg σ (x :: xs) h = lcG f tg σ xs h' := by
  rw [lcG, st]
  show ((f σ1 h).noErr.bind _) = _
  rw [e]; rfl
/-- pure items -/
theorem lc_pure {f : Sl → Hl → R (Option T)} {tg : List Nat} {σ : Sl} {h : Hl} {α : Type} (enc : α → T) (g : α → T) : ∀ (as : List α),
    (∀ a ∈ as, plainT (g a) = true ∧ ∃ σ1, setT tg (enc a) σ = some σ1 ∧ f σ1 h = .ok (some (g a)) h) → lcG f tg σ (as.map enc) h = .ok (as.map g) h := by
  intro as
  induction as with
  | nil => intro _; rw [List.map_nil, lcG]; rfl
  | cons a as ih =>
    intro q
    obtain ⟨p, σ1, st, e⟩ := q a List.mem_cons_self
    rw [List.map_cons, lcG_cons st e p, ih fun b hb => q b (List.mem_cons_of_mem _ hb)]; rfl
theorem lc_rng {f : Sl → Hl → R (Option T)} {i : Nat} {σ : Sl} {h : Hl} (g : Nat → T) (lo hi : Int)
    (q : ∀ j : Nat, j < (hi - lo).toNat → plainT (g j) = true ∧ f (σ.set i (some (.int (lo + j)))) h = .ok (some (g j)) h) : lcG f [i] σ (rngT lo hi) h = .ok ((List.range (hi - lo).toNat).map g) h := by
  unfold rngT
  refine lc_pure _ g _ fun a ha => ?_
  obtain ⟨p, e⟩ := q a (List.mem_range.mp ha)
  exact ⟨p, _, rfl, e⟩
/-- pure items, some left out -/
theorem lc_filter {f : Sl → Hl → R (Option T)} {tg : List Nat} {σ : Sl} {h : Hl} {α : Type} (enc : α → T) (g : α → T) (c : α → Bool) : ∀ (as : List α),
    (∀ a ∈ as, ∃ σ1, setT tg (enc a) σ = some σ1 ∧ if c a then plainT (g a) = true ∧ f σ1 h = .ok (some (g a)) h else f σ1 h = .ok none h) → lcG f tg σ (as.map enc) h = .ok ((as.filter c).map g) h := by
  intro as
  induction as with
  | nil => intro _; rw [List.map_nil, lcG]; rfl
  | cons a as ih =>
    intro q
    obtain ⟨σ1, st, e⟩ := q a List.mem_cons_self
    have ih := ih fun b hb => q b (List.mem_cons_of_mem _ hb)
    cases hc : c a with
    | true =>
      rw [hc, if_pos rfl] at e
      rw [List.map_cons, lcG_cons st e.2 e.1, ih, List.filter_cons_of_pos hc]; rfl
    | false =>
      rw [hc, if_neg (by decide)] at e
      rw [List.map_cons, lcG_skip st e, ih, List.filter_cons_of_neg (by simp [hc])]
/-- items that change the cells -/
theorem lc_st {f : Sl → Hl → R (Option T)} {tg : List Nat} {σ : Sl} {β : Type} (enc : β → T) (I : Nat → Hl → Prop) (P : Nat → β → Prop) : ∀ (xs : List T) (n : Nat) (h : Hl), I n h →
    (∀ (j : Nat) (x : T) (h : Hl), xs[j]? = some x → I (n + j) h → ∃ σ1 b h', setT tg x σ = some σ1 ∧ f σ1 h = .ok (some (enc b)) h' ∧ plainT (enc b) = true ∧ P (n + j) b ∧ I (n + j + 1) h') →
    ∃ (bs : List β) (h' : Hl), lcG f tg σ xs h = .ok (bs.map enc) h' ∧ bs.length = xs.length ∧ (∀ (j : Nat) (b : β), bs[j]? = some b → P (n + j) b) ∧ I (n + xs.length) h' := by
  intro xs
  induction xs with
  | nil => intro n h h0 _; exact ⟨[], h, by rw [lcG]; rfl, rfl, fun j b e => by simp at e, h0⟩
  | cons x xs ih =>
    intro n h h0 step
    obtain ⟨σ1, b, h1, st, e, p, pb, i1⟩ := step 0 x h rfl h0
    obtain ⟨bs, h2, e2, l2, p2, i2⟩ := ih (n + 1) h1 i1 fun j y h hy hi => by
      have := step (j + 1) y h (by simpa using hy) (by rw [show n + (j + 1) = n + 1 + j by omega]; exact hi)
      rw [show n + (j + 1) + 1 = n + 1 + j + 1 by omega, show n + (j + 1) = n + 1 + j by omega] at this
      exact this
    refine ⟨b :: bs, h2, by rw [lcG_cons st e p, e2]; rfl, by rw [List.length_cons, List.length_cons, l2], fun j c hc => ?_, by rw [List.length_cons, show n + (xs.length + 1) = n + 1 + xs.length by omega]; exact i2⟩
    cases j with
    | zero => cases hc; exact pb
    | succ j =>
      have := p2 j c (by simpa using hc)
      rw [show n + (j + 1) = n + 1 + j by omega]; exact this
/-! ### while -/
theorem whl_run {c : Sl → Hl → R Bool} {f : Sl → Hl → RS} (I : Nat → Sl → Hl → Prop) (Q : Sl → Hl → Prop) (step : ∀ n σ h, I n σ h → (∃ h', c σ h = .ok false h' ∧ Q σ h') ∨ ∃ h' m, c σ h = .ok true h' ∧ m < n ∧ Goes (f σ h') (I m)) :
    ∀ (n fuel : Nat) (σ : Sl) (h : Hl), I n σ h → n < fuel → ∃ σ' h', whlG c f fuel σ h = .nx σ' h' ∧ Q σ' h' := by
  intro n
  induction n using Nat.strongRecOn with
  | ind n ih =>
    intro fuel σ h hi hf
    cases fuel with
    | zero => omega
    | succ fuel =>
      rcases step n σ h hi with ⟨h', e, q⟩ | ⟨h', m, e, hm, σ2, h2, e2, i2⟩
      · exact ⟨σ, h', by rw [whlG, e]; rfl, q⟩
      · obtain ⟨σ3, h3, e3, q3⟩ := ih m hm fuel σ2 h2 i2 (by omega)
        refine ⟨σ3, h3, ?_, q3⟩
        rw [whlG, e]
        show (match f σ h' with
          | .nx σ h => whlG c f fuel σ h
          | .ct σ h => whlG c f fuel σ h
          | .bk σ h => .nx σ h
          | r => r) = _
        rcases e2 with e2 | e2 <;> rw [e2] <;> exact e3
/-! ### shares as rationals -/
def gg (a b : Int) : Int := ((Nat.gcd a.natAbs b.natAbs : Nat) : Int)
/-- what divides, with its sign -/
def gs (a b : Int) : Int := if b < 0 then -(gg a b) else gg a b
theorem gg_dvd (a b : Int) : gg a b ∣ a ∧ gg a b ∣ b := by
  unfold gg
  exact ⟨Int.ofNat_dvd_left.mpr (Nat.gcd_dvd_left _ _), Int.ofNat_dvd_left.mpr (Nat.gcd_dvd_right _ _)⟩
theorem gg_pos (a b : Int) (hb : b ≠ 0) : 0 < gg a b := by
  have h1 : 0 < b.natAbs := by omega
  have h3 : 0 < Nat.gcd a.natAbs b.natAbs := Nat.gcd_pos_of_pos_right _ h1
  unfold gg
  omega
theorem gg_le (a b : Int) (hb : b ≠ 0) : gg a b ≤ b.natAbs := by
  have h1 : 0 < b.natAbs := by omega
  have h2 : Nat.gcd a.natAbs b.natAbs ≤ b.natAbs := Nat.gcd_le_right _ h1
  unfold gg
  omega
theorem fdivI_gs (a b x : Int) (hb : b ≠ 0) (hx : gg a b ∣ x) : fdivI x (gs a b) = (if b < 0 then -x else x) / gg a b := by
  have g0 := gg_pos a b hb
  have e : gs a b = if b < 0 then -(gg a b) else gg a b := rfl
  rw [e]
  clear e
  generalize gg a b = g at *
  obtain ⟨k, rfl⟩ := hx
  unfold fdivI
  by_cases c : b < 0
  · rw [if_pos c, if_pos c, if_neg (by omega), ← Int.mul_neg, Int.mul_ediv_cancel_left _ (by omega), Int.fdiv_eq_ediv_of_dvd (Int.neg_dvd.mpr (Int.dvd_mul_right _ _)), Int.ediv_neg, Int.mul_ediv_cancel_left _ (by omega)]
  · rw [if_neg c, if_neg c, if_pos g0]
theorem share_num (a b : Int) (hb : b ≠ 0) : fdivI a (gs a b) = ((a : Rat) / (b : Rat)).num ∧ fdivI b (gs a b) = ((((a : Rat) / (b : Rat)).den : Nat) : Int) := by
  rw [fdivI_gs a b a hb (gg_dvd a b).1, fdivI_gs a b b hb (gg_dvd a b).2, ← Rat.divInt_eq_div, Rat.num_divInt, Rat.den_divInt, if_neg hb]
  have e : gg a b = ((b.gcd a : Nat) : Int) := by unfold gg Int.gcd; rw [Nat.gcd_comm]
  rw [e]
  have e2 : b.sign * a = if b < 0 then -a else a := by
    by_cases c : b < 0
    · rw [if_pos c, Int.sign_eq_neg_one_of_neg c]; omega
    · rw [if_neg c, Int.sign_eq_one_of_pos (by omega)]; omega
  have e3 : (if b < 0 then -b else b) = (b.natAbs : Int) := by split <;> omega
  rw [e2, e3]
  exact ⟨rfl, rfl⟩
end Kb
end
section
/-! Kw: what must hold of a run's head (Wq), with the rest kept out of simp's sight. -/
set_option autoImplicit false
set_option linter.all false
set_option maxRecDepth 100000
namespace Kb
def Wq {β : Type} (x : β) (Q : β → Prop) (_t : Tg Q) : Prop := Q x
def bindQ {α β : Type} (f : α → Hl → R β) (Q : R β → Prop) : R α → Prop
  | .ok a h => Wq (f a h) Q Tg.mk
  | .err c fs h => Q (.err c fs h)
  | .stuck => Q .stuck
def toSQ {α : Type} (σ : Sl) (f : α → Hl → RS) (Q : RS → Prop) : R α → Prop
  | .ok a h => Wq (f a h) Q Tg.mk
  | .err c fs h => Q (.err c fs σ h)
  | .stuck => Q .stuck
def thnQ (f : Sl → Hl → RS) (Q : RS → Prop) : RS → Prop
  | .nx σ h => Wq (f σ h) Q Tg.mk
  | r => Q r
def endQ (P : Prog) (vs : List T) (Q : R T → Prop) (r : RS) : Prop := Q (endR P vs r)
def noQ {α : Type} (Q : R α → Prop) (r : R α) : Prop := Q r.noErr
/-- an answer without error -/
def okQ {α : Type} (Q : α → Hl → Prop) : R α → Prop
  | .ok v h => Q v h
  | _ => False
/-- a loop's turn -/
def goQ (N : Sl → Hl → Prop) (Q : RS → Prop) : RS → Prop
  | .nx σ h => N σ h
  | .ct σ h => N σ h
  | .bk σ h => Q (.nx σ h)
  | .rt v h => Q (.rt v h)
  | .err c fs σ h => Q (.err c fs σ h)
  | .stuck => False
/-- a comprehension's item -/
def itemQ (N : List T → Hl → Prop) (acc : List T) : R (Option T) → Prop
  | .ok (some y) h => plainT y = true ∧ N (acc ++ [y]) h
  | .ok none h => N acc h
  | _ => False
def tryNQ (Q : RS → Prop) : RS → Prop
  | .err _ _ _ _ => Q .stuck
  | r => Q r
def whlQ (f : Sl → Hl → RS) (N : Sl → Hl → Prop) (σ : Sl) (Q : RS → Prop) : R Bool → Prop
  | .ok true h => Wq (f σ h) (goQ N Q) Tg.mk
  | .ok false h => Q (.nx σ h)
  | _ => False
def IfQ {β : Type} (c : Prop) [Decidable c] (x y : β) (Q : β → Prop) (_t : Tg (x, y, Q)) : Prop := Q (if c then x else y)
def IfH {β : Type} (c : Prop) [Decidable c] (x y : β) (_t : Tg (x, y)) : β := if c then x else y
section
variable {α β : Type}
theorem ite_HR (c : Prop) [Decidable c] (x y : R α) : (if c then x else y) = IfH c x y Tg.mk := by unfold IfH; exact Eq.refl _
theorem ite_HS (c : Prop) [Decidable c] (x y : RS) : (if c then x else y) = IfH c x y Tg.mk := by unfold IfH; exact Eq.refl _
theorem IfH_true {i : Decidable True} (x y : β) (t : Tg (x, y)) : @IfH β True i x y t = x := by unfold IfH; rw [if_pos trivial]
theorem IfH_false {i : Decidable False} (x y : β) (t : Tg (x, y)) : @IfH β False i x y t = y := by unfold IfH; rw [if_neg id]
theorem Wq_IfH (c : Prop) [Decidable c] (x y : β) (u : Tg (x, y)) (Q : β → Prop) (t : Tg Q) : Wq (IfH c x y u) Q t = IfQ c x y Q Tg.mk := by unfold Wq IfH IfQ; exact Eq.refl _
theorem Wq_bindH (x : R α) (f : α → Hl → R β) (u : Tg f) (Q : R β → Prop) (t : Tg Q) : Wq (R.bindH x f u) Q t = Wq x (bindQ f Q) Tg.mk := by cases x <;> rfl
theorem Wq_toSH (x : R α) (σ : Sl) (f : α → Hl → RS) (u : Tg f) (Q : RS → Prop) (t : Tg Q) : Wq (R.toSH x σ f u) Q t = Wq x (toSQ σ f Q) Tg.mk := by cases x <;> rfl
theorem Wq_thnH (x : RS) (f : Sl → Hl → RS) (u : Tg f) (Q : RS → Prop) (t : Tg Q) : Wq (RS.thnH x f u) Q t = Wq x (thnQ f Q) Tg.mk := by cases x <;> rfl
theorem Wq_bind (x : R α) (f : α → Hl → R β) (Q : R β → Prop) (t : Tg Q) : Wq (x.bind f) Q t = Wq x (bindQ f Q) Tg.mk := by cases x <;> rfl
theorem Wq_toS (x : R α) (σ : Sl) (f : α → Hl → RS) (Q : RS → Prop) (t : Tg Q) : Wq (x.toS σ f) Q t = Wq x (toSQ σ f Q) Tg.mk := by cases x <;> rfl
theorem Wq_thn (x : RS) (f : Sl → Hl → RS) (Q : RS → Prop) (t : Tg Q) : Wq (x.thn f) Q t = Wq x (thnQ f Q) Tg.mk := by cases x <;> rfl
theorem Wq_end (P : Prog) (vs : List T) (x : RS) (Q : R T → Prop) (t : Tg Q) : Wq (endR P vs x) Q t = Wq x (endQ P vs Q) Tg.mk := by unfold Wq endQ; exact Eq.refl _
theorem Wq_noErr (x : R α) (Q : R α → Prop) (t : Tg Q) : Wq x.noErr Q t = Wq x (noQ Q) Tg.mk := by unfold Wq noQ; exact Eq.refl _
theorem Wq_ite (c : Prop) [Decidable c] (x y : β) (Q : β → Prop) (t : Tg Q) : Wq (if c then x else y) Q t = IfQ c x y Q Tg.mk := by unfold Wq IfQ; exact Eq.refl _
theorem IfQ_true {i : Decidable True} (x y : β) (Q : β → Prop) (t : Tg (x, y, Q)) : @IfQ β True i x y Q t = Wq x Q Tg.mk := by unfold Wq IfQ; rw [if_pos trivial]
theorem IfQ_false {i : Decidable False} (x y : β) (Q : β → Prop) (t : Tg (x, y, Q)) : @IfQ β False i x y Q t = Wq y Q Tg.mk := by unfold Wq IfQ; rw [if_neg id]
theorem Wq_ok (a : α) (h : Hl) (Q : R α → Prop) (t : Tg Q) : Wq (R.ok a h) Q t = Q (R.ok a h) := by unfold Wq; exact Eq.refl _
theorem Wq_err (c : Nat) (fs : List (Nat × T)) (h : Hl) (Q : R α → Prop) (t : Tg Q) : Wq (R.err c fs h) Q t = Q (R.err c fs h) := by unfold Wq; exact Eq.refl _
theorem Wq_nx (σ : Sl) (h : Hl) (Q : RS → Prop) (t : Tg Q) : Wq (RS.nx σ h) Q t = Q (RS.nx σ h) := by unfold Wq; exact Eq.refl _
theorem Wq_rt (v : T) (h : Hl) (Q : RS → Prop) (t : Tg Q) : Wq (RS.rt v h) Q t = Q (RS.rt v h) := by unfold Wq; exact Eq.refl _
theorem Wq_ct (σ : Sl) (h : Hl) (Q : RS → Prop) (t : Tg Q) : Wq (RS.ct σ h) Q t = Q (RS.ct σ h) := by unfold Wq; exact Eq.refl _
theorem Wq_bk (σ : Sl) (h : Hl) (Q : RS → Prop) (t : Tg Q) : Wq (RS.bk σ h) Q t = Q (RS.bk σ h) := by unfold Wq; exact Eq.refl _
theorem Wq_er (c : Nat) (fs : List (Nat × T)) (σ : Sl) (h : Hl) (Q : RS → Prop) (t : Tg Q) : Wq (RS.err c fs σ h) Q t = Q (RS.err c fs σ h) := by unfold Wq; exact Eq.refl _
theorem bindQ_ok (f : α → Hl → R β) (Q : R β → Prop) (a : α) (h : Hl) : bindQ f Q (.ok a h) = Wq (f a h) Q Tg.mk := by unfold bindQ; exact Eq.refl _
theorem bindQ_err (f : α → Hl → R β) (Q : R β → Prop) (c : Nat) (fs : List (Nat × T)) (h : Hl) : bindQ f Q (.err c fs h) = Q (.err c fs h) := by unfold bindQ; exact Eq.refl _
theorem toSQ_ok (σ : Sl) (f : α → Hl → RS) (Q : RS → Prop) (a : α) (h : Hl) : toSQ σ f Q (.ok a h) = Wq (f a h) Q Tg.mk := by unfold toSQ; exact Eq.refl _
theorem toSQ_err (σ : Sl) (f : α → Hl → RS) (Q : RS → Prop) (c : Nat) (fs : List (Nat × T)) (h : Hl) : toSQ σ f Q (.err c fs h) = Q (.err c fs σ h) := by unfold toSQ; exact Eq.refl _
theorem thnQ_nx (f : Sl → Hl → RS) (Q : RS → Prop) (σ : Sl) (h : Hl) : thnQ f Q (.nx σ h) = Wq (f σ h) Q Tg.mk := by unfold thnQ; exact Eq.refl _
theorem thnQ_rt (f : Sl → Hl → RS) (Q : RS → Prop) (v : T) (h : Hl) : thnQ f Q (.rt v h) = Q (.rt v h) := by unfold thnQ; exact Eq.refl _
theorem thnQ_ct (f : Sl → Hl → RS) (Q : RS → Prop) (σ : Sl) (h : Hl) : thnQ f Q (.ct σ h) = Q (.ct σ h) := by unfold thnQ; exact Eq.refl _
theorem thnQ_bk (f : Sl → Hl → RS) (Q : RS → Prop) (σ : Sl) (h : Hl) : thnQ f Q (.bk σ h) = Q (.bk σ h) := by unfold thnQ; exact Eq.refl _
theorem thnQ_err (f : Sl → Hl → RS) (Q : RS → Prop) (c : Nat) (fs : List (Nat × T)) (σ : Sl) (h : Hl) : thnQ f Q (.err c fs σ h) = Q (.err c fs σ h) := by unfold thnQ; exact Eq.refl _
theorem endQ_rt {P : Prog} {vs : List T} (Q : R T → Prop) (v : T) (h : Hl) (q : iniV vs = false) : endQ P vs Q (.rt v h) = Q (.ok v h) := by unfold endQ; rw [endR_rt q]
theorem endQ_nx {P : Prog} {vs : List T} (Q : R T → Prop) (σ : Sl) (h : Hl) (q : iniV vs = false) : endQ P vs Q (.nx σ h) = Q (.ok .non h) := by unfold endQ; rw [endR_nx q]
theorem endQ_ini {P : Prog} {c c' : Nat} {fs fs' : List (Nat × T)} {l : List T} {σ : Sl} {h : Hl} (Q : R T → Prop) : endQ P (.bI c fs :: l) Q (.nx (some (.bI c' fs') :: σ) h) = Q (.ok (.bI c' fs') h) := by unfold endQ; rw [endR_ini]
theorem noQ_ok (Q : R α → Prop) (a : α) (h : Hl) : noQ Q (.ok a h) = Q (.ok a h) := by unfold noQ; rw [R.noErr_ok]
theorem okQ_ok (Q : α → Hl → Prop) (a : α) (h : Hl) : okQ Q (.ok a h) = Q a h := by unfold okQ; exact Eq.refl _
theorem goQ_nx (N : Sl → Hl → Prop) (Q : RS → Prop) (σ : Sl) (h : Hl) : goQ N Q (.nx σ h) = N σ h := by unfold goQ; exact Eq.refl _
theorem goQ_ct (N : Sl → Hl → Prop) (Q : RS → Prop) (σ : Sl) (h : Hl) : goQ N Q (.ct σ h) = N σ h := by unfold goQ; exact Eq.refl _
theorem goQ_bk (N : Sl → Hl → Prop) (Q : RS → Prop) (σ : Sl) (h : Hl) : goQ N Q (.bk σ h) = Q (.nx σ h) := by unfold goQ; exact Eq.refl _
theorem goQ_rt (N : Sl → Hl → Prop) (Q : RS → Prop) (v : T) (h : Hl) : goQ N Q (.rt v h) = Q (.rt v h) := by unfold goQ; exact Eq.refl _
theorem itemQ_some (N : List T → Hl → Prop) (acc : List T) (y : T) (h : Hl) : itemQ N acc (.ok (some y) h) = (plainT y = true ∧ N (acc ++ [y]) h) := by unfold itemQ; exact Eq.refl _
theorem itemQ_none (N : List T → Hl → Prop) (acc : List T) (h : Hl) : itemQ N acc (.ok none h) = N acc h := by unfold itemQ; exact Eq.refl _
theorem tryNQ_rt (Q : RS → Prop) (v : T) (h : Hl) : tryNQ Q (.rt v h) = Q (.rt v h) := by unfold tryNQ; exact Eq.refl _
theorem tryNQ_nx (Q : RS → Prop) (σ : Sl) (h : Hl) : tryNQ Q (.nx σ h) = Q (.nx σ h) := by unfold tryNQ; exact Eq.refl _
theorem whlQ_true (f : Sl → Hl → RS) (N : Sl → Hl → Prop) (σ : Sl) (Q : RS → Prop) (h : Hl) : whlQ f N σ Q (.ok true h) = Wq (f σ h) (goQ N Q) Tg.mk := by unfold whlQ; exact Eq.refl _
theorem whlQ_false (f : Sl → Hl → RS) (N : Sl → Hl → Prop) (σ : Sl) (Q : RS → Prop) (h : Hl) : whlQ f N σ Q (.ok false h) = Q (.nx σ h) := by unfold whlQ; exact Eq.refl _
theorem Wq_tryN (P : Prog) (call : Nat → List T → Hl → R T) (W : Nat) (b : B) (σ : Sl) (h : Hl) (Q : RS → Prop) (t : Tg Q) : Wq (exS P call W (.tryN b) σ h) Q t = Wq (exB P call W b σ h) (tryNQ Q) Tg.mk := by
  show Q _ = tryNQ Q _
  rw [exS]
  cases exB P call W b σ h <;> rfl
theorem allBls_map {α : Type} (g : α → Bool) : ∀ l : List α, allBls (l.map fun a => T.bl (g a)) = some (l.map g)
  | [] => rfl
  | x :: xs => by simp only [List.map_cons, allBls, allBls_map g xs, Option.map_some]
theorem all_map {α : Type} (g : α → Bool) (l : List α) (h : Hl) : allF [.lst (l.map fun a => T.bl (g a))] h = .ok (.bl (l.all g)) h := by
  show (match (some (l.map fun a => T.bl (g a))).bind allBls with
    | some ns => R.ok (T.bl (ns.all id)) h
    | none => .stuck) = _
  rw [Option.bind_some, allBls_map]
  show R.ok (T.bl ((l.map g).all id)) h = _
  rw [List.all_map]; rfl
theorem any_map {α : Type} (g : α → Bool) (l : List α) (h : Hl) : anyF [.lst (l.map fun a => T.bl (g a))] h = .ok (.bl (l.any g)) h := by
  show (match (some (l.map fun a => T.bl (g a))).bind allBls with
    | some ns => R.ok (T.bl (ns.any id)) h
    | none => .stuck) = _
  rw [Option.bind_some, allBls_map]
  show R.ok (T.bl ((l.map g).any id)) h = _
  rw [List.any_map]; rfl
theorem all_trues {α : Type} (l : List α) (h : Hl) : allF [.lst (l.map fun _ => T.bl true)] h = .ok (.bl true) h := by
  rw [all_map (fun _ => true)]
  have : (l.all fun _ => true) = true := by simp
  rw [this]
/-- a slot that may be overwritten -/
def nb (o : Option T) : Prop := freeO (some o) = true
theorem nb_none : nb none := rfl
theorem nb_i (i : Int) : nb (some (.int i)) := rfl
theorem nb_of {t : T} (h : isBI t = false) : nb (some t) := by unfold nb; rw [freeO_some, h]; rfl
theorem take_S {α : Type} {xs : List α} {j : Nat} {x : α} (h : xs[j]? = some x) : xs.take (j + 1) = xs.take j ++ [x] := by
  rw [List.take_succ, h]; rfl
/-! ### rules -/
theorem IfQ.split {c : Prop} [Decidable c] {x y : β} {Q : β → Prop} {t : Tg (x, y, Q)} (p : c → Wq x Q Tg.mk) (n : ¬ c → Wq y Q Tg.mk) : IfQ c x y Q t := by
  unfold IfQ
  by_cases h : c
  · rw [if_pos h]; exact p h
  · rw [if_neg h]; exact n h
theorem IfQ.yes {c : Prop} [Decidable c] {x y : β} {Q : β → Prop} {t : Tg (x, y, Q)} (h : c) (p : Wq x Q Tg.mk) : IfQ c x y Q t := by
  unfold IfQ; rw [if_pos h]; exact p
theorem IfQ.no {c : Prop} [Decidable c] {x y : β} {Q : β → Prop} {t : Tg (x, y, Q)} (h : ¬ c) (p : Wq y Q Tg.mk) : IfQ c x y Q t := by
  unfold IfQ; rw [if_neg h]; exact p
theorem Wq.fact {x y : β} {Q : β → Prop} {t : Tg Q} (e : x = y) (k : Wq y Q Tg.mk) : Wq x Q t := by subst e; exact k
theorem Wq.spec {x : R α} {Q : R α → Prop} {t : Tg Q} {Q0 : α → Hl → Prop} (s : ∃ v h, x = .ok v h ∧ Q0 v h) (k : ∀ v h, Q0 v h → Q (.ok v h)) : Wq x Q t := by
  obtain ⟨v, h, rfl, q⟩ := s
  exact k v h q
theorem Wq.out {x : R α} {Q : α → Hl → Prop} (k : Wq x (okQ Q) Tg.mk) : ∃ v h, x = .ok v h ∧ Q v h := by
  cases x with
  | ok v h => exact ⟨v, h, rfl, k⟩
  | err c fs h => exact k.elim
  | stuck => exact k.elim
theorem Wq.run {P : Prog} {W d f np ns : Nat} {b : B} (hf : P.defs[f]? = some ⟨np, ns, b⟩) {vs : List T} {h : Hl} {Q : T → Hl → Prop} (hl : vs.length = np) (k : Wq (exB P (run P W d) W b (startT np ns vs) h) (endQ P vs (okQ Q)) Tg.mk) : ∃ v h', run P W (d + 1) f vs h = .ok v h' ∧ Q v h' := by
  refine Wq.out ?_
  unfold Wq
  rw [run_eq hf hl]
  exact k
theorem Wq_for_nil (f : Sl → Hl → RS) (tg : List Nat) (σ : Sl) (h : Hl) (Q : RS → Prop) (t : Tg Q) : Wq (forG f tg [] σ h) Q t = Q (.nx σ h) := by unfold Wq; rw [forG]
theorem goQ_def {N : Sl → Hl → Prop} {Q : RS → Prop} (r : RS) (q : goQ N Q r) : goQ N Q r := q
theorem Wq_for_cons {f : Sl → Hl → RS} {i : Nat} {x : T} {xs : List T} {σ : Sl} {h : Hl} {Q : RS → Prop} {t : Tg Q} (fr : freeO σ[i]? = true)
    (k : Wq (f (σ.set i (some x)) h) (goQ (fun σ h => Wq (forG f [i] xs σ h) Q Tg.mk) Q) Tg.mk) : Wq (forG f [i] (x :: xs) σ h) Q t := by
  have k : goQ (fun σ h => Wq (forG f [i] xs σ h) Q Tg.mk) Q (f (σ.set i (some x)) h) := k
  unfold Wq
  rw [forG_step (tg := [i]) (σ1 := σ.set i (some x)) (by simp [freeTg, freeS_eq, fr]) rfl]
  cases e : f (σ.set i (some x)) h with
  | nx σ2 h2 => rw [e] at k; exact k
  | ct σ2 h2 => rw [e] at k; exact k
  | bk σ2 h2 => rw [e] at k; exact k
  | rt v h2 => rw [e] at k; exact k
  | err c fs σ2 h2 => rw [e] at k; exact k
  | stuck => rw [e] at k; exact k.elim
theorem Wq.forI {f : Sl → Hl → RS} {tg : List Nat} {xs : List T} {σ : Sl} {h : Hl} {Q : RS → Prop} {t : Tg Q} (I : Nat → Sl → Hl → Prop) (h0 : I 0 σ h)
    (step : ∀ j x σ h, xs[j]? = some x → I j σ h → freeTg σ tg = true ∧ ∃ σ1, setT tg x σ = some σ1 ∧ Wq (f σ1 h) (goQ (I (j + 1)) Q) Tg.mk)
    (fin : ∀ σ h, I xs.length σ h → Q (.nx σ h)) : Wq (forG f tg xs σ h) Q t := by
  show Q _
  suffices H : ∀ (xs : List T) (n : Nat) (σ : Sl) (h : Hl), I n σ h → (∀ j x σ h, xs[j]? = some x → I (n + j) σ h → freeTg σ tg = true ∧ ∃ σ1, setT tg x σ = some σ1 ∧ Wq (f σ1 h) (goQ (I (n + j + 1)) Q) Tg.mk) → (∀ σ h, I (n + xs.length) σ h → Q (.nx σ h)) → Q (forG f tg xs σ h) from
    H xs 0 σ h h0 (fun j x σ h hx hi => by rw [Nat.zero_add] at hi ⊢; exact step j x σ h hx hi) (fun σ h hi => by rw [Nat.zero_add] at hi; exact fin σ h hi)
  intro xs
  induction xs with
  | nil => intro n σ h hi _ fin; rw [forG]; exact fin σ h hi
  | cons x xs ih =>
    intro n σ h hi step fin
    obtain ⟨fr, σ1, st, w⟩ := step 0 x σ h rfl hi
    rw [forG_step fr st]
    have ih := fun σ h hi => ih (n + 1) σ h hi (fun j y σ h hy hi => by
      have := step (j + 1) y σ h (by simpa using hy) (by rw [show n + (j + 1) = n + 1 + j by omega]; exact hi)
      rw [show n + (j + 1) + 1 = n + 1 + j + 1 by omega] at this
      exact this) (fun σ h hi => fin σ h (by rw [List.length_cons, show n + (xs.length + 1) = n + 1 + xs.length by omega]; exact hi))
    have w : goQ (I (n + 0 + 1)) Q (f σ1 h) := w
    cases e : f σ1 h with
    | nx σ2 h2 => rw [e] at w; exact ih σ2 h2 w
    | ct σ2 h2 => rw [e] at w; exact ih σ2 h2 w
    | bk σ2 h2 => rw [e] at w; exact w
    | rt v h2 => rw [e] at w; exact w
    | err c fs σ2 h2 => rw [e] at w; exact w
    | stuck => rw [e] at w; exact w.elim
/-- items of one kind, one slot -/
theorem Wq.for1 {f : Sl → Hl → RS} {i : Nat} {α : Type} {enc : α → T} {as : List α} {σ : Sl} {h : Hl} {Q : RS → Prop} {t : Tg Q} (I : Nat → Sl → Hl → Prop) (h0 : I 0 σ h)
    (step : ∀ j a σ h, as[j]? = some a → I j σ h → freeO σ[i]? = true ∧ Wq (f (σ.set i (some (enc a))) h) (goQ (I (j + 1)) Q) Tg.mk)
    (fin : ∀ σ h, I as.length σ h → Q (.nx σ h)) : Wq (forG f [i] (as.map enc) σ h) Q t := by
  refine Wq.forI I h0 (fun j x σ h hx hi => ?_) (fun σ h hi => fin σ h (by rw [List.length_map] at hi; exact hi))
  rw [List.getElem?_map] at hx
  cases ha : as[j]? with
  | none => rw [ha] at hx; cases hx
  | some a =>
    rw [ha] at hx; cases hx
    obtain ⟨fr, w⟩ := step j a σ h ha hi
    exact ⟨by simp [freeTg, freeS_eq, fr], _, rfl, w⟩
theorem Wq.forR {f : Sl → Hl → RS} {i : Nat} {lo hi : Int} {σ : Sl} {h : Hl} {Q : RS → Prop} {t : Tg Q} (I : Nat → Sl → Hl → Prop) (h0 : I 0 σ h)
    (step : ∀ (j : Nat) σ h, j < (hi - lo).toNat → I j σ h → freeO σ[i]? = true ∧ Wq (f (σ.set i (some (.int (lo + (j : Int))))) h) (goQ (I (j + 1)) Q) Tg.mk)
    (fin : ∀ σ h, I (hi - lo).toNat σ h → Q (.nx σ h)) : Wq (forG f [i] (rngT lo hi) σ h) Q t := by
  refine Wq.forI I h0 (fun j x σ h hx hi => ?_) (fun σ h hi => fin σ h (by rw [rngT_len] at hi; exact hi))
  obtain ⟨rfl, hj⟩ := rngT_get hx
  obtain ⟨fr, w⟩ := step j σ h hj hi
  exact ⟨by simp [freeTg, freeS_eq, fr], _, rfl, w⟩
theorem Wq.whl {c : Sl → Hl → R Bool} {f : Sl → Hl → RS} {fuel : Nat} {σ : Sl} {h : Hl} {Q : RS → Prop} {t : Tg Q} (I : Nat → Sl → Hl → Prop) (n : Nat) (h0 : I n σ h) (hn : n < fuel)
    (step : ∀ n σ h, I n σ h → Wq (c σ h) (whlQ f (fun σ h => ∃ m, m < n ∧ I m σ h) σ Q) Tg.mk) : Wq (whlG c f fuel σ h) Q t := by
  show Q _
  suffices H : ∀ (n fuel : Nat) (σ : Sl) (h : Hl), I n σ h → n < fuel → Q (whlG c f fuel σ h) from H n fuel σ h h0 hn
  intro n
  induction n using Nat.strongRecOn with
  | ind n ih =>
    intro fuel σ h hi hf
    cases fuel with
    | zero => omega
    | succ fuel =>
      have w := step n σ h hi
      have w : whlQ f (fun σ h => ∃ m, m < n ∧ I m σ h) σ Q (c σ h) := w
      rw [whlG]
      cases e : c σ h with
      | ok b h' =>
        rw [e] at w
        cases b with
        | false => exact w
        | true =>
          have w : goQ _ Q (f σ h') := w
          show Q (match f σ h' with
            | .nx σ h => whlG c f fuel σ h
            | .ct σ h => whlG c f fuel σ h
            | .bk σ h => .nx σ h
            | r => r)
          cases e2 : f σ h' with
          | nx σ2 h2 => rw [e2] at w; obtain ⟨m, hm, q⟩ := w; exact ih m hm fuel σ2 h2 q (by omega)
          | ct σ2 h2 => rw [e2] at w; obtain ⟨m, hm, q⟩ := w; exact ih m hm fuel σ2 h2 q (by omega)
          | bk σ2 h2 => rw [e2] at w; exact w
          | rt v h2 => rw [e2] at w; exact w
          | err c fs σ2 h2 => rw [e2] at w; exact w
          | stuck => rw [e2] at w; exact w.elim
      | err c' fs h' => rw [e] at w; exact w.elim
      | stuck => rw [e] at w; exact w.elim
theorem Wq.lc {f : Sl → Hl → R (Option T)} {tg : List Nat} {σ : Sl} {xs : List T} {h : Hl} {Q : R (List T) → Prop} {t : Tg Q} (I : Nat → List T → Hl → Prop) (h0 : I 0 [] h)
    (step : ∀ j x acc h, xs[j]? = some x → I j acc h → ∃ σ1, setT tg x σ = some σ1 ∧ Wq (f σ1 h) (itemQ (I (j + 1)) acc) Tg.mk)
    (fin : ∀ ys h, I xs.length ys h → Q (.ok ys h)) : Wq (lcG f tg σ xs h) Q t := by
  show Q _
  suffices H : ∀ (xs : List T) (n : Nat) (acc : List T) (h : Hl), I n acc h → (∀ j x acc h, xs[j]? = some x → I (n + j) acc h → ∃ σ1, setT tg x σ = some σ1 ∧ Wq (f σ1 h) (itemQ (I (n + j + 1)) acc) Tg.mk) → ∃ ys h', lcG f tg σ xs h = .ok ys h' ∧ I (n + xs.length) (acc ++ ys) h' by
    obtain ⟨ys, h', e, q⟩ := H xs 0 [] h h0 (fun j x acc h hx hi => by rw [Nat.zero_add] at hi ⊢; exact step j x acc h hx hi)
    rw [Nat.zero_add, List.nil_append] at q
    rw [e]; exact fin ys h' q
  intro xs
  induction xs with
  | nil => intro n acc h hi _; exact ⟨[], h, by rw [lcG], by rw [List.append_nil]; exact hi⟩
  | cons x xs ih =>
    intro n acc h hi step
    obtain ⟨σ1, st, w⟩ := step 0 x acc h rfl hi
    have w : itemQ (I (n + 0 + 1)) acc (f σ1 h) := w
    have ih := fun acc h hi => ih (n + 1) acc h hi (fun j y acc h hy hi => by
      have := step (j + 1) y acc h (by simpa using hy) (by rw [show n + (j + 1) = n + 1 + j by omega]; exact hi)
      rw [show n + (j + 1) + 1 = n + 1 + j + 1 by omega] at this
      exact this)
    cases e : f σ1 h with
    | ok o h2 =>
      rw [e] at w
      cases o with
      | some y =>
        obtain ⟨p, q⟩ := w
        obtain ⟨ys, h3, e3, q3⟩ := ih _ h2 q
        refine ⟨y :: ys, h3, by rw [lcG_cons st e p, e3]; rfl, ?_⟩
        rw [List.length_cons, show n + (xs.length + 1) = n + 1 + xs.length by omega]
        rw [List.append_assoc] at q3; exact q3
      | none =>
        obtain ⟨ys, h3, e3, q3⟩ := ih _ h2 w
        refine ⟨ys, h3, by rw [lcG_skip st e, e3], ?_⟩
        rw [List.length_cons, show n + (xs.length + 1) = n + 1 + xs.length by omega]
        exact q3
    | err c fs h2 => rw [e] at w; exact w.elim
    | stuck => rw [e] at w; exact w.elim
/-- items that change the cells, by their own kind -/
def itemS {β : Type} (enc : β → T) (P : β → Prop) (N : Hl → Prop) : R (Option T) → Prop := fun r => ∃ b h', r = .ok (some (enc b)) h' ∧ plainT (enc b) = true ∧ P b ∧ N h'
theorem itemS_ok {β : Type} (enc : β → T) (P : β → Prop) (N : Hl → Prop) (v : T) (h : Hl) : itemS enc P N (.ok (some v) h) = ∃ b, v = enc b ∧ plainT (enc b) = true ∧ P b ∧ N h := by
  refine propext ⟨fun ⟨b, h', e, q⟩ => ?_, fun ⟨b, e, q⟩ => ⟨b, h, by rw [e], q⟩⟩
  cases e; exact ⟨b, rfl, q⟩
theorem Wq.lcS {β : Type} {f : Sl → Hl → R (Option T)} {tg : List Nat} {σ : Sl} {xs : List T} {h : Hl} {Q : R (List T) → Prop} {t : Tg Q} (enc : β → T) (I : Nat → Hl → Prop) (P : β → Prop) (h0 : I 0 h)
    (step : ∀ j x h, xs[j]? = some x → I j h → ∃ σ1, setT tg x σ = some σ1 ∧ Wq (f σ1 h) (itemS enc P (I (j + 1))) Tg.mk)
    (fin : ∀ (bs : List β) (h' : Hl), bs.length = xs.length → (∀ b ∈ bs, P b) → I xs.length h' → Q (.ok (bs.map enc) h')) : Wq (lcG f tg σ xs h) Q t := by
  obtain ⟨bs, h', e, l, p, i⟩ := lc_st (f := f) (tg := tg) (σ := σ) enc I (fun _ b => P b) xs 0 h h0 fun j x h hx hi => by
    rw [Nat.zero_add] at hi ⊢
    obtain ⟨σ1, st, b, h', e, p, pb, i⟩ := step j x h hx hi
    exact ⟨σ1, b, h', st, e, p, pb, i⟩
  rw [Nat.zero_add] at i
  refine Wq.fact e (fin bs h' l (fun b hb => ?_) i)
  obtain ⟨j, hj, q⟩ := List.mem_iff_getElem.mp hb
  exact p j b (by rw [List.getElem?_eq_getElem hj, q])
end
end Kb
end
section
set_option maxRecDepth 100000
set_option maxHeartbeats 4000000
set_option linter.all false
open Kb
local macro_rules
  | `(tactic| simp only [zzO, $as,*]) => `(tactic| simp only [exB, ↓exS_for, ↓exS_whl, ↓evA_lc, exS, evE, evEs, evT, evO, evA, evI, evC, tru, truT, binT, addT, mulT, intT, isIns, insOf_non, binE_non, cmE_non, insOf_bl, binE_bl, cmE_bl, insOf_int, binE_int, cmE_int, insOf_str, binE_str, cmE_str, insOf_lst, binE_lst, cmE_lst, insOf_tup, binE_tup, cmE_tup, insOf_dct, binE_dct, cmE_dct, insOf_kl, binE_kl, cmE_kl, insOf_bL, binE_bL, cmE_bL, insOf_bD, binE_bD, cmE_bD, insOf_ins, insOf_bI, insOf_rf, binE_rf, cmE_rf, fldT_ins, fldT_bI, fldT_rf, mx_0, mx_1, mx_2, mx_3, mx_4, mx_5, mx_01, mx_02, mx_03, mx_04, mx_05, cmpT, icmp, oR, idxT, idxSq, slT, bfT, intF, lenF, lenT, absF, gcdF, min2F, max2F, tupF, sumF, seqOf, lstOf, lstOf', walkOf_lst, walkOf_tup, walkOf_kl, walkOf_str, putI, stF, lkF, putF, lkN, kdAny, kd_non, kd_bl, kd_int, kd_str, kd_tup, kd_lst, kd_bL, kd_kl, kd_ins, kk_ii, kk_ib, kk_bi, kk_bb, kk_ss, kk_tt, kk_ll, kk_tl, kk_lt, kk_is, kk_si, kk_it, kk_il, kk_ti, kk_li, kk_st, kk_sl, kk_ts, kk_ls, onL, mbT, pl_non, pl_bl, pl_int, pl_str, pl_lst, pl_tup, pl_ins, pl_dct, pl_rf, pl_kl, pl_exc, pl_bL, pl_bD, pl_bI, arrT, isExc, isT, isNon, isBlv, ↓R.bind_H, R.bindH_ok, ↓R.toS_H, R.toSH_ok, R.noErr_ok, ↓RS.thn_H, RS.thnH_nx, RS.thnH_rt, R.bindH_ite, R.toSH_ite, RS.thnH_ite, startT, setT, wipeT, freeTg, eqT_int, eqT_bl, List.all_cons, List.all_nil, List.map_cons, List.map_nil, List.zip_cons_cons, List.zip_nil_left, List.zip_nil_right, List.foldl_cons, List.foldl_nil, List.cons_append, List.nil_append, List.replicate, List.length_cons, List.length_nil, List.getElem?_cons_zero, List.getElem?_cons_succ, List.set_cons_zero, List.set_cons_succ, List.isEmpty_cons, List.isEmpty_nil, atI_0, atI_1, atI_2, atI_3, atI_4, ix51, ix52, ix53, ix54, Option.map_some, Option.map_none, Option.isSome_none, Option.isSome_some, Option.isNone_none, Option.isNone_some, eq_self, Option.bind_some, if_true, if_false, Bool.false_eq_true, Bool.and_false, Bool.false_and, Bool.not_false, Bool.not_true, Bool.and_true, Bool.true_and, Bool.or_false, Bool.or_true, Bool.false_or, Bool.true_or, Nat.reduceAdd, Nat.reduceSub, Nat.reduceEqDiff, freeS_eq, freeO_none, freeO_some, decide_true, decide_false, reduceCtorEq, endR_rt, endR_nx, endR_ini, endR_ite, iniV_nil, iniV_cons, isBI_int, isBI_str, isBI_lst, isBI_tup, isBI_ins, isBI_rf, isBI_bl, isBI_kl, isBI_non, isBI_dct, Nat.reduceLT, Nat.one_ne_zero, Nat.zero_ne_one, $as,*])
  | `(tactic| simp only [zzR, $as,*]) => `(tactic| simp -dsimp only [↓Wq_for_nil, Wq_for_nil, ↓Wq_tryN, ↓Wq_end, ↓IfQ_true, ↓IfQ_false, ↓Wq_ok, ↓Wq_err, ↓Wq_nx, ↓Wq_rt, ↓Wq_ct, ↓Wq_bk, ↓Wq_er, Wq_tryN, Wq_end, Wq_noErr, IfQ_true, IfQ_false, Wq_ok, Wq_err, Wq_nx, Wq_rt, Wq_ct, Wq_bk, Wq_er, ↓bindQ_ok, ↓bindQ_err, ↓toSQ_ok, ↓toSQ_err, ↓thnQ_nx, ↓thnQ_rt, ↓thnQ_ct, ↓thnQ_bk, ↓thnQ_err, ↓endQ_rt, ↓endQ_nx, ↓endQ_ini, ↓noQ_ok, ↓okQ_ok, ↓goQ_nx, ↓goQ_ct, ↓goQ_bk, ↓goQ_rt, ↓itemQ_some, ↓itemQ_none, ↓itemS_ok, ↓tryNQ_rt, ↓tryNQ_nx, ↓whlQ_true, ↓whlQ_false, ↓ite_HR, ↓ite_HS, ↓IfH_true, ↓IfH_false, IfH_true, IfH_false, Wq_IfH, Wq_bindH, Wq_toSH, Wq_thnH, exB, ↓exS_for, ↓exS_whl, ↓evA_lc, exS, evE, evEs, evT, evO, evA, evI, evC, tru, truT, binT, addT, mulT, intT, isIns, insOf_non, binE_non, cmE_non, insOf_bl, binE_bl, cmE_bl, insOf_int, binE_int, cmE_int, insOf_str, binE_str, cmE_str, insOf_lst, binE_lst, cmE_lst, insOf_tup, binE_tup, cmE_tup, insOf_dct, binE_dct, cmE_dct, insOf_kl, binE_kl, cmE_kl, insOf_bL, binE_bL, cmE_bL, insOf_bD, binE_bD, cmE_bD, insOf_ins, insOf_bI, insOf_rf, binE_rf, cmE_rf, fldT_ins, fldT_bI, fldT_rf, mx_0, mx_1, mx_2, mx_3, mx_4, mx_5, mx_01, mx_02, mx_03, mx_04, mx_05, cmpT, icmp, oR, idxT, idxSq, slT, bfT, intF, lenF, lenT, absF, gcdF, min2F, max2F, tupF, sumF, seqOf, lstOf, lstOf', walkOf_lst, walkOf_tup, walkOf_kl, walkOf_str, putI, stF, lkF, putF, lkN, kdAny, kd_non, kd_bl, kd_int, kd_str, kd_tup, kd_lst, kd_bL, kd_kl, kd_ins, kk_ii, kk_ib, kk_bi, kk_bb, kk_ss, kk_tt, kk_ll, kk_tl, kk_lt, kk_is, kk_si, kk_it, kk_il, kk_ti, kk_li, kk_st, kk_sl, kk_ts, kk_ls, onL, mbT, pl_non, pl_bl, pl_int, pl_str, pl_lst, pl_tup, pl_ins, pl_dct, pl_rf, pl_kl, pl_exc, pl_bL, pl_bD, pl_bI, arrT, isExc, isT, isNon, isBlv, ↓R.bind_H, R.bindH_ok, ↓R.toS_H, R.toSH_ok, ↓RS.thn_H, RS.thnH_nx, RS.thnH_rt, startT, setT, wipeT, freeTg, eqT_int, eqT_bl, List.all_cons, List.all_nil, List.map_cons, List.map_nil, List.zip_cons_cons, List.zip_nil_left, List.zip_nil_right, List.foldl_cons, List.foldl_nil, List.cons_append, List.nil_append, List.replicate, List.length_cons, List.length_nil, List.getElem?_cons_zero, List.getElem?_cons_succ, List.set_cons_zero, List.set_cons_succ, List.isEmpty_cons, List.isEmpty_nil, atI_0, atI_1, atI_2, atI_3, atI_4, ix51, ix52, ix53, ix54, Option.map_some, Option.map_none, Option.isSome_none, Option.isSome_some, Option.isNone_none, Option.isNone_some, eq_self, Option.bind_some, if_true, if_false, Bool.false_eq_true, Bool.and_false, Bool.false_and, Bool.not_false, Bool.not_true, Bool.and_true, Bool.true_and, Bool.or_false, Bool.or_true, Bool.false_or, Bool.true_or, Nat.reduceAdd, Nat.reduceSub, Nat.reduceEqDiff, freeS_eq, freeO_none, freeO_some, decide_true, decide_false, reduceCtorEq, endR_rt, endR_nx, endR_ini, iniV_nil, iniV_cons, isBI_int, isBI_str, isBI_lst, isBI_tup, isBI_ins, isBI_rf, isBI_bl, isBI_kl, isBI_non, isBI_dct, Nat.reduceLT, Nat.one_ne_zero, Nat.zero_ne_one, $as,*])
  | `(tactic| simp only [zzG, $as,*]) => `(tactic| (simp -dsimp only [↓Wq_for_nil, Wq_for_nil, ↓Wq_tryN, ↓Wq_end, ↓IfQ_true, ↓IfQ_false, ↓Wq_ok, ↓Wq_err, ↓Wq_nx, ↓Wq_rt, ↓Wq_ct, ↓Wq_bk, ↓Wq_er, Wq_tryN, Wq_end, Wq_noErr, IfQ_true, IfQ_false, Wq_ok, Wq_err, Wq_nx, Wq_rt, Wq_ct, Wq_bk, Wq_er, ↓bindQ_ok, ↓bindQ_err, ↓toSQ_ok, ↓toSQ_err, ↓thnQ_nx, ↓thnQ_rt, ↓thnQ_ct, ↓thnQ_bk, ↓thnQ_err, ↓endQ_rt, ↓endQ_nx, ↓endQ_ini, ↓noQ_ok, ↓okQ_ok, ↓goQ_nx, ↓goQ_ct, ↓goQ_bk, ↓goQ_rt, ↓itemQ_some, ↓itemQ_none, ↓itemS_ok, ↓tryNQ_rt, ↓tryNQ_nx, ↓whlQ_true, ↓whlQ_false, ↓ite_HR, ↓ite_HS, ↓IfH_true, ↓IfH_false, IfH_true, IfH_false, Wq_IfH, Wq_bindH, Wq_toSH, Wq_thnH, exB, ↓exS_for, ↓exS_whl, ↓evA_lc, exS, evE, evEs, evT, evO, evA, evI, evC, tru, truT, binT, addT, mulT, intT, isIns, insOf_non, binE_non, cmE_non, insOf_bl, binE_bl, cmE_bl, insOf_int, binE_int, cmE_int, insOf_str, binE_str, cmE_str, insOf_lst, binE_lst, cmE_lst, insOf_tup, binE_tup, cmE_tup, insOf_dct, binE_dct, cmE_dct, insOf_kl, binE_kl, cmE_kl, insOf_bL, binE_bL, cmE_bL, insOf_bD, binE_bD, cmE_bD, insOf_ins, insOf_bI, insOf_rf, binE_rf, cmE_rf, fldT_ins, fldT_bI, fldT_rf, mx_0, mx_1, mx_2, mx_3, mx_4, mx_5, mx_01, mx_02, mx_03, mx_04, mx_05, cmpT, icmp, oR, idxT, idxSq, slT, bfT, intF, lenF, lenT, absF, gcdF, min2F, max2F, tupF, sumF, seqOf, lstOf, lstOf', walkOf_lst, walkOf_tup, walkOf_kl, walkOf_str, putI, stF, lkF, putF, lkN, kdAny, kd_non, kd_bl, kd_int, kd_str, kd_tup, kd_lst, kd_bL, kd_kl, kd_ins, kk_ii, kk_ib, kk_bi, kk_bb, kk_ss, kk_tt, kk_ll, kk_tl, kk_lt, kk_is, kk_si, kk_it, kk_il, kk_ti, kk_li, kk_st, kk_sl, kk_ts, kk_ls, onL, mbT, pl_non, pl_bl, pl_int, pl_str, pl_lst, pl_tup, pl_ins, pl_dct, pl_rf, pl_kl, pl_exc, pl_bL, pl_bD, pl_bI, arrT, isExc, isT, isNon, isBlv, ↓R.bind_H, R.bindH_ok, ↓R.toS_H, R.toSH_ok, ↓RS.thn_H, RS.thnH_nx, RS.thnH_rt, startT, setT, wipeT, freeTg, eqT_int, eqT_bl, List.all_cons, List.all_nil, List.map_cons, List.map_nil, List.zip_cons_cons, List.zip_nil_left, List.zip_nil_right, List.foldl_cons, List.foldl_nil, List.cons_append, List.nil_append, List.replicate, List.length_cons, List.length_nil, List.getElem?_cons_zero, List.getElem?_cons_succ, List.set_cons_zero, List.set_cons_succ, List.isEmpty_cons, List.isEmpty_nil, atI_0, atI_1, atI_2, atI_3, atI_4, ix51, ix52, ix53, ix54, Option.map_some, Option.map_none, Option.isSome_none, Option.isSome_some, Option.isNone_none, Option.isNone_some, eq_self, Option.bind_some, if_true, if_false, Bool.false_eq_true, Bool.and_false, Bool.false_and, Bool.not_false, Bool.not_true, Bool.and_true, Bool.true_and, Bool.or_false, Bool.or_true, Bool.false_or, Bool.true_or, Nat.reduceAdd, Nat.reduceSub, Nat.reduceEqDiff, freeS_eq, freeO_none, freeO_some, decide_true, decide_false, reduceCtorEq, endR_rt, endR_nx, endR_ini, iniV_nil, iniV_cons, isBI_int, isBI_str, isBI_lst, isBI_tup, isBI_ins, isBI_rf, isBI_bl, isBI_kl, isBI_non, isBI_dct, Nat.reduceLT, Nat.one_ne_zero, Nat.zero_ne_one, $as,*]; repeat (first | refine IfQ.yes (mulOk_of (by omega) (by omega) (by omega) (by omega)) ?_ | refine IfQ.yes (divOk_of (by omega) (by omega) (by omega)) ?_ | refine IfQ.yes (by decide) ?_ | refine IfQ.no (by decide) ?_ | refine IfQ.yes (rngOk_of (by (try simp only [List.length_map, List.length_append, List.length_cons, List.length_nil, List.length_range]); omega) (by (try simp only [List.length_map, List.length_append, List.length_cons, List.length_nil, List.length_range]); omega)) ?_ | refine IfQ.yes (len_of (by simp only [List.length_map, List.length_append, List.length_cons, List.length_nil, List.length_replicate, rngT_len]; omega)) ?_ | refine IfQ.yes (shlOk_of (by omega) (by omega) (by omega) (by omega)) ?_ | simp -dsimp only [↓Wq_for_nil, Wq_for_nil, ↓Wq_tryN, ↓Wq_end, ↓IfQ_true, ↓IfQ_false, ↓Wq_ok, ↓Wq_err, ↓Wq_nx, ↓Wq_rt, ↓Wq_ct, ↓Wq_bk, ↓Wq_er, Wq_tryN, Wq_end, Wq_noErr, IfQ_true, IfQ_false, Wq_ok, Wq_err, Wq_nx, Wq_rt, Wq_ct, Wq_bk, Wq_er, ↓bindQ_ok, ↓bindQ_err, ↓toSQ_ok, ↓toSQ_err, ↓thnQ_nx, ↓thnQ_rt, ↓thnQ_ct, ↓thnQ_bk, ↓thnQ_err, ↓endQ_rt, ↓endQ_nx, ↓endQ_ini, ↓noQ_ok, ↓okQ_ok, ↓goQ_nx, ↓goQ_ct, ↓goQ_bk, ↓goQ_rt, ↓itemQ_some, ↓itemQ_none, ↓itemS_ok, ↓tryNQ_rt, ↓tryNQ_nx, ↓whlQ_true, ↓whlQ_false, ↓ite_HR, ↓ite_HS, ↓IfH_true, ↓IfH_false, IfH_true, IfH_false, Wq_IfH, Wq_bindH, Wq_toSH, Wq_thnH, exB, ↓exS_for, ↓exS_whl, ↓evA_lc, exS, evE, evEs, evT, evO, evA, evI, evC, tru, truT, binT, addT, mulT, intT, isIns, insOf_non, binE_non, cmE_non, insOf_bl, binE_bl, cmE_bl, insOf_int, binE_int, cmE_int, insOf_str, binE_str, cmE_str, insOf_lst, binE_lst, cmE_lst, insOf_tup, binE_tup, cmE_tup, insOf_dct, binE_dct, cmE_dct, insOf_kl, binE_kl, cmE_kl, insOf_bL, binE_bL, cmE_bL, insOf_bD, binE_bD, cmE_bD, insOf_ins, insOf_bI, insOf_rf, binE_rf, cmE_rf, fldT_ins, fldT_bI, fldT_rf, mx_0, mx_1, mx_2, mx_3, mx_4, mx_5, mx_01, mx_02, mx_03, mx_04, mx_05, cmpT, icmp, oR, idxT, idxSq, slT, bfT, intF, lenF, lenT, absF, gcdF, min2F, max2F, tupF, sumF, seqOf, lstOf, lstOf', walkOf_lst, walkOf_tup, walkOf_kl, walkOf_str, putI, stF, lkF, putF, lkN, kdAny, kd_non, kd_bl, kd_int, kd_str, kd_tup, kd_lst, kd_bL, kd_kl, kd_ins, kk_ii, kk_ib, kk_bi, kk_bb, kk_ss, kk_tt, kk_ll, kk_tl, kk_lt, kk_is, kk_si, kk_it, kk_il, kk_ti, kk_li, kk_st, kk_sl, kk_ts, kk_ls, onL, mbT, pl_non, pl_bl, pl_int, pl_str, pl_lst, pl_tup, pl_ins, pl_dct, pl_rf, pl_kl, pl_exc, pl_bL, pl_bD, pl_bI, arrT, isExc, isT, isNon, isBlv, ↓R.bind_H, R.bindH_ok, ↓R.toS_H, R.toSH_ok, ↓RS.thn_H, RS.thnH_nx, RS.thnH_rt, startT, setT, wipeT, freeTg, eqT_int, eqT_bl, List.all_cons, List.all_nil, List.map_cons, List.map_nil, List.zip_cons_cons, List.zip_nil_left, List.zip_nil_right, List.foldl_cons, List.foldl_nil, List.cons_append, List.nil_append, List.replicate, List.length_cons, List.length_nil, List.getElem?_cons_zero, List.getElem?_cons_succ, List.set_cons_zero, List.set_cons_succ, List.isEmpty_cons, List.isEmpty_nil, atI_0, atI_1, atI_2, atI_3, atI_4, ix51, ix52, ix53, ix54, Option.map_some, Option.map_none, Option.isSome_none, Option.isSome_some, Option.isNone_none, Option.isNone_some, eq_self, Option.bind_some, if_true, if_false, Bool.false_eq_true, Bool.and_false, Bool.false_and, Bool.not_false, Bool.not_true, Bool.and_true, Bool.true_and, Bool.or_false, Bool.or_true, Bool.false_or, Bool.true_or, Nat.reduceAdd, Nat.reduceSub, Nat.reduceEqDiff, freeS_eq, freeO_none, freeO_some, decide_true, decide_false, reduceCtorEq, endR_rt, endR_nx, endR_ini, iniV_nil, iniV_cons, isBI_int, isBI_str, isBI_lst, isBI_tup, isBI_ins, isBI_rf, isBI_bl, isBI_kl, isBI_non, isBI_dct, Nat.reduceLT, Nat.one_ne_zero, Nat.zero_ne_one, $as,*])))
  | `(tactic| simp only [zzG]) => `(tactic| (simp -dsimp only [↓Wq_for_nil, Wq_for_nil, ↓Wq_tryN, ↓Wq_end, ↓IfQ_true, ↓IfQ_false, ↓Wq_ok, ↓Wq_err, ↓Wq_nx, ↓Wq_rt, ↓Wq_ct, ↓Wq_bk, ↓Wq_er, Wq_tryN, Wq_end, Wq_noErr, IfQ_true, IfQ_false, Wq_ok, Wq_err, Wq_nx, Wq_rt, Wq_ct, Wq_bk, Wq_er, ↓bindQ_ok, ↓bindQ_err, ↓toSQ_ok, ↓toSQ_err, ↓thnQ_nx, ↓thnQ_rt, ↓thnQ_ct, ↓thnQ_bk, ↓thnQ_err, ↓endQ_rt, ↓endQ_nx, ↓endQ_ini, ↓noQ_ok, ↓okQ_ok, ↓goQ_nx, ↓goQ_ct, ↓goQ_bk, ↓goQ_rt, ↓itemQ_some, ↓itemQ_none, ↓itemS_ok, ↓tryNQ_rt, ↓tryNQ_nx, ↓whlQ_true, ↓whlQ_false, ↓ite_HR, ↓ite_HS, ↓IfH_true, ↓IfH_false, IfH_true, IfH_false, Wq_IfH, Wq_bindH, Wq_toSH, Wq_thnH, exB, ↓exS_for, ↓exS_whl, ↓evA_lc, exS, evE, evEs, evT, evO, evA, evI, evC, tru, truT, binT, addT, mulT, intT, isIns, insOf_non, binE_non, cmE_non, insOf_bl, binE_bl, cmE_bl, insOf_int, binE_int, cmE_int, insOf_str, binE_str, cmE_str, insOf_lst, binE_lst, cmE_lst, insOf_tup, binE_tup, cmE_tup, insOf_dct, binE_dct, cmE_dct, insOf_kl, binE_kl, cmE_kl, insOf_bL, binE_bL, cmE_bL, insOf_bD, binE_bD, cmE_bD, insOf_ins, insOf_bI, insOf_rf, binE_rf, cmE_rf, fldT_ins, fldT_bI, fldT_rf, mx_0, mx_1, mx_2, mx_3, mx_4, mx_5, mx_01, mx_02, mx_03, mx_04, mx_05, cmpT, icmp, oR, idxT, idxSq, slT, bfT, intF, lenF, lenT, absF, gcdF, min2F, max2F, tupF, sumF, seqOf, lstOf, lstOf', walkOf_lst, walkOf_tup, walkOf_kl, walkOf_str, putI, stF, lkF, putF, lkN, kdAny, kd_non, kd_bl, kd_int, kd_str, kd_tup, kd_lst, kd_bL, kd_kl, kd_ins, kk_ii, kk_ib, kk_bi, kk_bb, kk_ss, kk_tt, kk_ll, kk_tl, kk_lt, kk_is, kk_si, kk_it, kk_il, kk_ti, kk_li, kk_st, kk_sl, kk_ts, kk_ls, onL, mbT, pl_non, pl_bl, pl_int, pl_str, pl_lst, pl_tup, pl_ins, pl_dct, pl_rf, pl_kl, pl_exc, pl_bL, pl_bD, pl_bI, arrT, isExc, isT, isNon, isBlv, ↓R.bind_H, R.bindH_ok, ↓R.toS_H, R.toSH_ok, ↓RS.thn_H, RS.thnH_nx, RS.thnH_rt, startT, setT, wipeT, freeTg, eqT_int, eqT_bl, List.all_cons, List.all_nil, List.map_cons, List.map_nil, List.zip_cons_cons, List.zip_nil_left, List.zip_nil_right, List.foldl_cons, List.foldl_nil, List.cons_append, List.nil_append, List.replicate, List.length_cons, List.length_nil, List.getElem?_cons_zero, List.getElem?_cons_succ, List.set_cons_zero, List.set_cons_succ, List.isEmpty_cons, List.isEmpty_nil, atI_0, atI_1, atI_2, atI_3, atI_4, ix51, ix52, ix53, ix54, Option.map_some, Option.map_none, Option.isSome_none, Option.isSome_some, Option.isNone_none, Option.isNone_some, eq_self, Option.bind_some, if_true, if_false, Bool.false_eq_true, Bool.and_false, Bool.false_and, Bool.not_false, Bool.not_true, Bool.and_true, Bool.true_and, Bool.or_false, Bool.or_true, Bool.false_or, Bool.true_or, Nat.reduceAdd, Nat.reduceSub, Nat.reduceEqDiff, freeS_eq, freeO_none, freeO_some, decide_true, decide_false, reduceCtorEq, endR_rt, endR_nx, endR_ini, iniV_nil, iniV_cons, isBI_int, isBI_str, isBI_lst, isBI_tup, isBI_ins, isBI_rf, isBI_bl, isBI_kl, isBI_non, isBI_dct, Nat.reduceLT, Nat.one_ne_zero, Nat.zero_ne_one]; repeat (first | refine IfQ.yes (mulOk_of (by omega) (by omega) (by omega) (by omega)) ?_ | refine IfQ.yes (divOk_of (by omega) (by omega) (by omega)) ?_ | refine IfQ.yes (by decide) ?_ | refine IfQ.no (by decide) ?_ | refine IfQ.yes (rngOk_of (by (try simp only [List.length_map, List.length_append, List.length_cons, List.length_nil, List.length_range]); omega) (by (try simp only [List.length_map, List.length_append, List.length_cons, List.length_nil, List.length_range]); omega)) ?_ | refine IfQ.yes (len_of (by simp only [List.length_map, List.length_append, List.length_cons, List.length_nil, List.length_replicate, rngT_len]; omega)) ?_ | refine IfQ.yes (shlOk_of (by omega) (by omega) (by omega) (by omega)) ?_ | simp -dsimp only [↓Wq_for_nil, Wq_for_nil, ↓Wq_tryN, ↓Wq_end, ↓IfQ_true, ↓IfQ_false, ↓Wq_ok, ↓Wq_err, ↓Wq_nx, ↓Wq_rt, ↓Wq_ct, ↓Wq_bk, ↓Wq_er, Wq_tryN, Wq_end, Wq_noErr, IfQ_true, IfQ_false, Wq_ok, Wq_err, Wq_nx, Wq_rt, Wq_ct, Wq_bk, Wq_er, ↓bindQ_ok, ↓bindQ_err, ↓toSQ_ok, ↓toSQ_err, ↓thnQ_nx, ↓thnQ_rt, ↓thnQ_ct, ↓thnQ_bk, ↓thnQ_err, ↓endQ_rt, ↓endQ_nx, ↓endQ_ini, ↓noQ_ok, ↓okQ_ok, ↓goQ_nx, ↓goQ_ct, ↓goQ_bk, ↓goQ_rt, ↓itemQ_some, ↓itemQ_none, ↓itemS_ok, ↓tryNQ_rt, ↓tryNQ_nx, ↓whlQ_true, ↓whlQ_false, ↓ite_HR, ↓ite_HS, ↓IfH_true, ↓IfH_false, IfH_true, IfH_false, Wq_IfH, Wq_bindH, Wq_toSH, Wq_thnH, exB, ↓exS_for, ↓exS_whl, ↓evA_lc, exS, evE, evEs, evT, evO, evA, evI, evC, tru, truT, binT, addT, mulT, intT, isIns, insOf_non, binE_non, cmE_non, insOf_bl, binE_bl, cmE_bl, insOf_int, binE_int, cmE_int, insOf_str, binE_str, cmE_str, insOf_lst, binE_lst, cmE_lst, insOf_tup, binE_tup, cmE_tup, insOf_dct, binE_dct, cmE_dct, insOf_kl, binE_kl, cmE_kl, insOf_bL, binE_bL, cmE_bL, insOf_bD, binE_bD, cmE_bD, insOf_ins, insOf_bI, insOf_rf, binE_rf, cmE_rf, fldT_ins, fldT_bI, fldT_rf, mx_0, mx_1, mx_2, mx_3, mx_4, mx_5, mx_01, mx_02, mx_03, mx_04, mx_05, cmpT, icmp, oR, idxT, idxSq, slT, bfT, intF, lenF, lenT, absF, gcdF, min2F, max2F, tupF, sumF, seqOf, lstOf, lstOf', walkOf_lst, walkOf_tup, walkOf_kl, walkOf_str, putI, stF, lkF, putF, lkN, kdAny, kd_non, kd_bl, kd_int, kd_str, kd_tup, kd_lst, kd_bL, kd_kl, kd_ins, kk_ii, kk_ib, kk_bi, kk_bb, kk_ss, kk_tt, kk_ll, kk_tl, kk_lt, kk_is, kk_si, kk_it, kk_il, kk_ti, kk_li, kk_st, kk_sl, kk_ts, kk_ls, onL, mbT, pl_non, pl_bl, pl_int, pl_str, pl_lst, pl_tup, pl_ins, pl_dct, pl_rf, pl_kl, pl_exc, pl_bL, pl_bD, pl_bI, arrT, isExc, isT, isNon, isBlv, ↓R.bind_H, R.bindH_ok, ↓R.toS_H, R.toSH_ok, ↓RS.thn_H, RS.thnH_nx, RS.thnH_rt, startT, setT, wipeT, freeTg, eqT_int, eqT_bl, List.all_cons, List.all_nil, List.map_cons, List.map_nil, List.zip_cons_cons, List.zip_nil_left, List.zip_nil_right, List.foldl_cons, List.foldl_nil, List.cons_append, List.nil_append, List.replicate, List.length_cons, List.length_nil, List.getElem?_cons_zero, List.getElem?_cons_succ, List.set_cons_zero, List.set_cons_succ, List.isEmpty_cons, List.isEmpty_nil, atI_0, atI_1, atI_2, atI_3, atI_4, ix51, ix52, ix53, ix54, Option.map_some, Option.map_none, Option.isSome_none, Option.isSome_some, Option.isNone_none, Option.isNone_some, eq_self, Option.bind_some, if_true, if_false, Bool.false_eq_true, Bool.and_false, Bool.false_and, Bool.not_false, Bool.not_true, Bool.and_true, Bool.true_and, Bool.or_false, Bool.or_true, Bool.false_or, Bool.true_or, Nat.reduceAdd, Nat.reduceSub, Nat.reduceEqDiff, freeS_eq, freeO_none, freeO_some, decide_true, decide_false, reduceCtorEq, endR_rt, endR_nx, endR_ini, iniV_nil, iniV_cons, isBI_int, isBI_str, isBI_lst, isBI_tup, isBI_ins, isBI_rf, isBI_bl, isBI_kl, isBI_non, isBI_dct, Nat.reduceLT, Nat.one_ne_zero, Nat.zero_ne_one])))
  | `(tactic| simp only [zzR]) => `(tactic| simp -dsimp only [↓Wq_for_nil, Wq_for_nil, ↓Wq_tryN, ↓Wq_end, ↓IfQ_true, ↓IfQ_false, ↓Wq_ok, ↓Wq_err, ↓Wq_nx, ↓Wq_rt, ↓Wq_ct, ↓Wq_bk, ↓Wq_er, Wq_tryN, Wq_end, Wq_noErr, IfQ_true, IfQ_false, Wq_ok, Wq_err, Wq_nx, Wq_rt, Wq_ct, Wq_bk, Wq_er, ↓bindQ_ok, ↓bindQ_err, ↓toSQ_ok, ↓toSQ_err, ↓thnQ_nx, ↓thnQ_rt, ↓thnQ_ct, ↓thnQ_bk, ↓thnQ_err, ↓endQ_rt, ↓endQ_nx, ↓endQ_ini, ↓noQ_ok, ↓okQ_ok, ↓goQ_nx, ↓goQ_ct, ↓goQ_bk, ↓goQ_rt, ↓itemQ_some, ↓itemQ_none, ↓itemS_ok, ↓tryNQ_rt, ↓tryNQ_nx, ↓whlQ_true, ↓whlQ_false, ↓ite_HR, ↓ite_HS, ↓IfH_true, ↓IfH_false, IfH_true, IfH_false, Wq_IfH, Wq_bindH, Wq_toSH, Wq_thnH, exB, ↓exS_for, ↓exS_whl, ↓evA_lc, exS, evE, evEs, evT, evO, evA, evI, evC, tru, truT, binT, addT, mulT, intT, isIns, insOf_non, binE_non, cmE_non, insOf_bl, binE_bl, cmE_bl, insOf_int, binE_int, cmE_int, insOf_str, binE_str, cmE_str, insOf_lst, binE_lst, cmE_lst, insOf_tup, binE_tup, cmE_tup, insOf_dct, binE_dct, cmE_dct, insOf_kl, binE_kl, cmE_kl, insOf_bL, binE_bL, cmE_bL, insOf_bD, binE_bD, cmE_bD, insOf_ins, insOf_bI, insOf_rf, binE_rf, cmE_rf, fldT_ins, fldT_bI, fldT_rf, mx_0, mx_1, mx_2, mx_3, mx_4, mx_5, mx_01, mx_02, mx_03, mx_04, mx_05, cmpT, icmp, oR, idxT, idxSq, slT, bfT, intF, lenF, lenT, absF, gcdF, min2F, max2F, tupF, sumF, seqOf, lstOf, lstOf', walkOf_lst, walkOf_tup, walkOf_kl, walkOf_str, putI, stF, lkF, putF, lkN, kdAny, kd_non, kd_bl, kd_int, kd_str, kd_tup, kd_lst, kd_bL, kd_kl, kd_ins, kk_ii, kk_ib, kk_bi, kk_bb, kk_ss, kk_tt, kk_ll, kk_tl, kk_lt, kk_is, kk_si, kk_it, kk_il, kk_ti, kk_li, kk_st, kk_sl, kk_ts, kk_ls, onL, mbT, pl_non, pl_bl, pl_int, pl_str, pl_lst, pl_tup, pl_ins, pl_dct, pl_rf, pl_kl, pl_exc, pl_bL, pl_bD, pl_bI, arrT, isExc, isT, isNon, isBlv, ↓R.bind_H, R.bindH_ok, ↓R.toS_H, R.toSH_ok, ↓RS.thn_H, RS.thnH_nx, RS.thnH_rt, startT, setT, wipeT, freeTg, eqT_int, eqT_bl, List.all_cons, List.all_nil, List.map_cons, List.map_nil, List.zip_cons_cons, List.zip_nil_left, List.zip_nil_right, List.foldl_cons, List.foldl_nil, List.cons_append, List.nil_append, List.replicate, List.length_cons, List.length_nil, List.getElem?_cons_zero, List.getElem?_cons_succ, List.set_cons_zero, List.set_cons_succ, List.isEmpty_cons, List.isEmpty_nil, atI_0, atI_1, atI_2, atI_3, atI_4, ix51, ix52, ix53, ix54, Option.map_some, Option.map_none, Option.isSome_none, Option.isSome_some, Option.isNone_none, Option.isNone_some, eq_self, Option.bind_some, if_true, if_false, Bool.false_eq_true, Bool.and_false, Bool.false_and, Bool.not_false, Bool.not_true, Bool.and_true, Bool.true_and, Bool.or_false, Bool.or_true, Bool.false_or, Bool.true_or, Nat.reduceAdd, Nat.reduceSub, Nat.reduceEqDiff, freeS_eq, freeO_none, freeO_some, decide_true, decide_false, reduceCtorEq, endR_rt, endR_nx, endR_ini, iniV_nil, iniV_cons, isBI_int, isBI_str, isBI_lst, isBI_tup, isBI_ins, isBI_rf, isBI_bl, isBI_kl, isBI_non, isBI_dct, Nat.reduceLT, Nat.one_ne_zero, Nat.zero_ne_one])

namespace K47
/-! ### shares (share.lx) -/
def shF (q : Rat) : List (Nat × T) := [(0, .int q.num), (1, .int ((q.den : Nat) : Int))]
def sh (q : Rat) : T := .ins 3 (shF q)
theorem insOf_sh (q : Rat) (h : Hl) : insOf (sh q) h = some (3, shF q) := rfl
theorem plainT_sh (q : Rat) : plainT (sh q) = true := rfl
theorem isBor_sh (q : Rat) : isBor (sh q) = false := rfl
theorem isExc_sh (q : Rat) : isExc (sh q) = false := rfl
theorem isBI_sh (q : Rat) : isBI (sh q) = false := by unfold sh isBI; exact Eq.refl _
theorem over_sh (q : Rat) (h : Hl) : fldT (sh q) 0 h = .ok (.int q.num) h := rfl
theorem under_sh (q : Rat) (h : Hl) : fldT (sh q) 1 h = .ok (.int ((q.den : Nat) : Int)) h := rfl
theorem kd_sh (q : Rat) (h : Hl) (c : Nat) : kdOf (.cls c) (sh q) h = some (decide (c = 3)) := by
  show some (decide (Kd.cls c = Kd.cls 3)) = _
  simp
theorem lk_shF (q : Rat) (m : Nat) (hm : ¬ m = 0) (hm2 : ¬ m = 1) : lkF m (shF q) = none := by
  show (if 0 = m then _ else if 1 = m then _ else _) = _
  rw [if_neg (fun e => hm e.symm), if_neg (fun e => hm2 e.symm)]; rfl
theorem sh_fold (q : Rat) : T.ins 3 (shF q) = sh q := rfl
theorem sh_cls : prog.cls[3]? = some ⟨1, (some 0), [(8, 1), (9, 2), (10, 3), (11, 4), (4, 5)], [], []⟩ := rfl
/-- sizes that no operation passes by -/
def Big : Nat := 2 ^ 4000
def Sz (q : Rat) : Prop := q.num.natAbs < Big ∧ q.den < Big
theorem mulOk_n {i j : Int} (h1 : i.natAbs < Big) (h2 : j.natAbs < Big) : mulOk i j = true := by
  have f : ∀ i : Int, i.natAbs < Big → i.natAbs.log2 < 4000 := fun i h => by
    by_cases z : i.natAbs = 0
    · rw [z]; decide
    · exact (Nat.log2_lt z).mpr h
  have := f i h1; have := f j h2
  simp only [mulOk, decide_eq_true_eq]; omega
theorem divOk_n {j : Int} (h0 : j ≠ 0) (h1 : j.natAbs < 2 ^ 8999) : divOk j = true := by
  have : j.natAbs.log2 < 8999 := (Nat.log2_lt (by omega)).mpr h1
  simp only [divOk, Bool.and_eq_true, decide_eq_true_eq]; exact ⟨h0, by omega⟩
theorem ini_run (W d : Nat) (a b : Int) (h : Hl) (hb : b ≠ 0) (hb2 : b.natAbs < 2 ^ 8999) : run prog W (d + 1) 0 [.bI 3 [], .int a, .int b] h = .ok (.bI 3 (shF ((a : Rat) / (b : Rat)))) h := by
  obtain ⟨n1, n2⟩ := share_num a b hb
  have g0 := gg_pos a b hb
  have g1 := gg_le a b hb
  have d1 : divOk (gs a b) = true := by
    have : gs a b = if b < 0 then -(gg a b) else gg a b := rfl
    refine divOk_n ?_ ?_
    · rw [this]; split <;> omega
    · have : (gs a b).natAbs = (gg a b).natAbs := by rw [this]; split <;> omega
      rw [this]; omega
  have n0 : (b == 0) = false := by simpa using hb
  have eg : ((Nat.gcd a.natAbs b.natAbs : Nat) : Int) = gg a b := rfl
  have es : gs a b = if b < 0 then -(gg a b) else gg a b := rfl
  rw [run_eq (rfl : prog.defs[0]? = some ⟨3, 4, b_Shareu__initu_⟩) rfl]
  unfold shF
  by_cases c : b < 0
  · rw [if_pos c] at es
    rw [es] at n1 n2 d1
    have c1 : decide (b < 0) = true := by simpa using c
    simp only [zzO, b_Shareu__initu_, n0, c1, eg, d1, n1, n2]
  · rw [if_neg c] at es
    rw [es] at n1 n2 d1
    have c1 : decide (b < 0) = false := by simpa using c
    simp only [zzO, b_Shareu__initu_, n0, c1, eg, d1, n1, n2]
theorem rat_eq (q : Rat) : ((q.num : Int) : Rat) / ((q.den : Nat) : Rat) = q := by
  rw [← Rat.intCast_natCast, ← Rat.divInt_eq_div]; exact Rat.num_divInt_den q
theorem den_ne (q : Rat) : ((q.den : Nat) : Rat) ≠ 0 := fun z => q.den_nz (by exact_mod_cast z)
theorem rat_add (p q : Rat) : (((p.num * q.den + q.num * p.den : Int)) : Rat) / ((p.den * q.den : Int) : Rat) = p + q := by
  have h1 := den_ne p; have h2 := den_ne q
  conv => rhs; rw [← rat_eq p, ← rat_eq q]
  rw [Rat.intCast_add, Rat.intCast_mul, Rat.intCast_mul, Rat.intCast_mul, Rat.intCast_natCast, Rat.intCast_natCast]
  grind
theorem rat_sub (p q : Rat) : (((p.num * q.den - q.num * p.den : Int)) : Rat) / ((p.den * q.den : Int) : Rat) = p - q := by
  have h1 := den_ne p; have h2 := den_ne q
  conv => rhs; rw [← rat_eq p, ← rat_eq q]
  rw [Rat.intCast_sub, Rat.intCast_mul, Rat.intCast_mul, Rat.intCast_mul, Rat.intCast_natCast, Rat.intCast_natCast]
  grind
theorem rat_mul (p q : Rat) : (((p.num * q.num : Int)) : Rat) / ((p.den * q.den : Int) : Rat) = p * q := by
  have h1 := den_ne p; have h2 := den_ne q
  conv => rhs; rw [← rat_eq p, ← rat_eq q]
  rw [Rat.intCast_mul, Rat.intCast_mul, Rat.intCast_natCast, Rat.intCast_natCast]
  grind
theorem den_mul (p q : Rat) (hp : Sz p) (hq : Sz q) : ((p.den : Int) * q.den) ≠ 0 ∧ ((p.den : Int) * q.den).natAbs < 2 ^ 8999 := by
  have h1 := p.den_nz; have h2 := q.den_nz
  refine ⟨Int.mul_ne_zero (by omega) (by omega), ?_⟩
  rw [Int.natAbs_mul, Int.natAbs_natCast, Int.natAbs_natCast]
  refine Nat.lt_of_le_of_lt (Nat.mul_le_mul (Nat.le_of_lt hp.2) (Nat.le_of_lt hq.2)) ?_
  show 2 ^ 4000 * 2 ^ 4000 < 2 ^ 8999
  rw [← Nat.pow_add]; exact Nat.pow_lt_pow_right (by decide) (by decide)
theorem newT_sh (W d : Nat) (a b : Int) (h : Hl) (hb : b ≠ 0) (hb2 : b.natAbs < 2 ^ 8999) : newT prog (run prog W (d + 1)) 3 [.int a, .int b] h = .ok (sh ((a : Rat) / (b : Rat))) h := by
  have i := ini_run W d a b h hb hb2
  unfold newT
  simp only [zzO, sh_cls, i, sh_fold]
theorem add_run (W d : Nat) (p q : Rat) (h : Hl) (hp : Sz p) (hq : Sz q) : run prog W (d + 2) 2 [sh p, sh q] h = .ok (sh (p + q)) h := by
  obtain ⟨d1, d2⟩ := den_mul p q hp hq
  have i := newT_sh W d (p.num * q.den + q.num * p.den) _ h d1 d2
  rw [rat_add] at i
  have m1 : mulOk p.num q.den = true := mulOk_n hp.1 (by have := hq.2; omega)
  have m2 : mulOk q.num p.den = true := mulOk_n hq.1 (by have := hp.2; omega)
  have m3 : mulOk p.den q.den = true := mulOk_n (by have := hp.2; omega) (by have := hq.2; omega)
  rw [run_eq (rfl : prog.defs[2]? = some ⟨2, 2, b_Shareu__addu_⟩) rfl]
  simp only [zzO, b_Shareu__addu_, isBI_sh, insOf_sh, plainT_sh, isBor_sh, isExc_sh, over_sh, under_sh, kd_sh, sh_fold, sh_cls, m1, m2, m3, i]
theorem bin_add (W d : Nat) (p q : Rat) (h : Hl) (hp : Sz p) (hq : Sz q) : binE prog (run prog W (d + 2)) .add (sh p) (sh q) h = .ok (sh (p + q)) h := by
  show run prog W (d + 2) 2 [sh p, sh q] h = _
  exact add_run W d p q h hp hq
theorem lt_big {n x : Nat} (hn : n ≤ 4000) (h : x < 2 ^ n) : x < Big := Nat.lt_of_lt_of_le h (Nat.pow_le_pow_right (by decide) hn)
theorem num_le (a b : Int) (hb : b ≠ 0) : ((a : Rat) / (b : Rat)).num.natAbs ≤ a.natAbs ∧ ((a : Rat) / (b : Rat)).den ≤ b.natAbs := by
  obtain ⟨n1, n2⟩ := share_num a b hb
  rw [fdivI_gs a b a hb (gg_dvd a b).1] at n1
  rw [fdivI_gs a b b hb (gg_dvd a b).2] at n2
  have g0 := gg_pos a b hb
  have f : ∀ x : Int, (x / gg a b).natAbs ≤ x.natAbs := fun x => Int.natAbs_ediv_le_natAbs _ _
  constructor
  · rw [← n1]; refine Nat.le_trans (f _) ?_; split <;> omega
  · have := f (if b < 0 then -b else b)
    rw [n2] at this
    split at this <;> omega
theorem Sz_div (a b : Int) (hb : b ≠ 0) (h1 : a.natAbs < Big) (h2 : b.natAbs < Big) : Sz ((a : Rat) / (b : Rat)) := by
  obtain ⟨n1, n2⟩ := num_le a b hb
  exact ⟨by omega, by omega⟩
theorem rat_ext (p q : Rat) (h1 : p.num = q.num) (h2 : ((p.den : Nat) : Int) = ((q.den : Nat) : Int)) : p = q := Rat.ext h1 (by omega)
theorem rat_eqb (p q : Rat) : ((p.num == q.num) && (((p.den : Nat) : Int) == ((q.den : Nat) : Int))) = decide (p = q) := by
  rw [Bool.eq_iff_iff, Bool.and_eq_true, beq_iff_eq, beq_iff_eq, decide_eq_true_eq]
  exact ⟨fun h => rat_ext p q h.1 h.2, fun h => by rw [h]; exact ⟨rfl, rfl⟩⟩
theorem eq_run (W d : Nat) (p q : Rat) (h : Hl) : run prog W (d + 1) 1 [sh p, sh q] h = .ok (.bl (decide (p = q))) h := by
  rw [run_eq (rfl : prog.defs[1]? = some ⟨2, 2, b_Shareu__equ_⟩) rfl, ← rat_eqb p q]
  have k : decide (3 = 3) = true := by decide
  generalize hy : (((p.den : Nat) : Int) == ((q.den : Nat) : Int)) = y
  generalize hx : (p.num == q.num) = x
  cases x <;> simp only [zzO, b_Shareu__equ_, isBI_sh, insOf_sh, plainT_sh, isBor_sh, isExc_sh, over_sh, under_sh, kd_sh, sh_fold, sh_cls, hx, hy, k]
/-! ### shares: times, less, below (share2.lx) -/
theorem mul_run (W d : Nat) (p q : Rat) (h : Hl) (hp : Sz p) (hq : Sz q) : run prog W (d + 2) 4 [sh p, sh q] h = .ok (sh (p * q)) h := by
  obtain ⟨d1, d2⟩ := den_mul p q hp hq
  have i := newT_sh W d (p.num * q.num) _ h d1 d2
  rw [rat_mul] at i
  have m1 : mulOk p.num q.num = true := mulOk_n hp.1 hq.1
  have m3 : mulOk p.den q.den = true := mulOk_n (by have := hp.2; omega) (by have := hq.2; omega)
  rw [run_eq (rfl : prog.defs[4]? = some ⟨2, 2, b_Shareu__mulu_⟩) rfl]
  simp only [zzO, b_Shareu__mulu_, isBI_sh, insOf_sh, plainT_sh, isBor_sh, isExc_sh, over_sh, under_sh, kd_sh, sh_fold, sh_cls, m1, m3, i]
theorem bin_mul (W d : Nat) (p q : Rat) (h : Hl) (hp : Sz p) (hq : Sz q) : binE prog (run prog W (d + 2)) .mul (sh p) (sh q) h = .ok (sh (p * q)) h := by
  show run prog W (d + 2) 4 [sh p, sh q] h = _
  exact mul_run W d p q h hp hq
theorem sub_run (W d : Nat) (p q : Rat) (h : Hl) (hp : Sz p) (hq : Sz q) : run prog W (d + 2) 3 [sh p, sh q] h = .ok (sh (p - q)) h := by
  obtain ⟨d1, d2⟩ := den_mul p q hp hq
  have i := newT_sh W d (p.num * q.den - q.num * p.den) _ h d1 d2
  rw [rat_sub] at i
  have m1 : mulOk p.num q.den = true := mulOk_n hp.1 (by have := hq.2; omega)
  have m2 : mulOk q.num p.den = true := mulOk_n hq.1 (by have := hp.2; omega)
  have m3 : mulOk p.den q.den = true := mulOk_n (by have := hp.2; omega) (by have := hq.2; omega)
  rw [run_eq (rfl : prog.defs[3]? = some ⟨2, 2, b_Shareu__subu_⟩) rfl]
  simp only [zzO, b_Shareu__subu_, isBI_sh, insOf_sh, plainT_sh, isBor_sh, isExc_sh, over_sh, under_sh, kd_sh, sh_fold, sh_cls, m1, m2, m3, i]
theorem bin_sub (W d : Nat) (p q : Rat) (h : Hl) (hp : Sz p) (hq : Sz q) : binE prog (run prog W (d + 2)) .sub (sh p) (sh q) h = .ok (sh (p - q)) h := by
  show run prog W (d + 2) 3 [sh p, sh q] h = _
  exact sub_run W d p q h hp hq
theorem below_run (W d : Nat) (p q : Rat) (h : Hl) (hp : Sz p) (hq : Sz q) : run prog W (d + 1) 5 [sh p, sh q] h = .ok (.bl (decide (p < q))) h := by
  have m1 : mulOk p.num q.den = true := mulOk_n hp.1 (by have := hq.2; omega)
  have m2 : mulOk q.num p.den = true := mulOk_n hq.1 (by have := hp.2; omega)
  have e : decide (p < q) = decide (p.num * q.den < q.num * p.den) := by
    rw [Bool.eq_iff_iff, decide_eq_true_eq, decide_eq_true_eq]; exact Rat.lt_iff p q
  rw [run_eq (rfl : prog.defs[5]? = some ⟨2, 2, b_Share_is_below⟩) rfl, e]
  simp only [zzO, b_Share_is_below, isBI_sh, insOf_sh, plainT_sh, isBor_sh, isExc_sh, over_sh, under_sh, kd_sh, sh_fold, sh_cls, m1, m2]
theorem lk_below (q : Rat) : lkF 4 (shF q) = none := lk_shF q _ (by decide) (by decide)
/-! ### the law's box (box.lx) -/
theorem box_run (W d : Nat) (ns : List Int) (hn : ns.length ≤ 63) : run prog W (d + 1) 21 [.kl ns] [] = .ok (.rf 0) [bxC ⟨ns, 0, 0, 1, 0⟩] := by
  have lc : lcG (bodyL prog (run prog W d) Eo.none b__law_box_C1) [1] [some (.kl ns), none] (ns.map T.int) [] = .ok (ns.map T.int) [] := by
    refine lc_pure T.int T.int ns fun a _ => ⟨rfl, _, rfl, rfl⟩
  have mx : ((ns.map T.int).length ≤ maxLen) = True := by rw [List.length_map]; simp only [maxLen, eq_iff_iff, iff_true]; omega
  have z5 : decide ((0 + 1 + 1 + 1 + 1 + 1 : Nat) ≤ maxLen) = true := by decide
  rw [run_eq (rfl : prog.defs[21]? = some ⟨1, 2, b__law_box⟩) rfl]
  simp only [zzO, b__law_box, mx, lc, z5]
  rfl
theorem box_ok (ns : List Int) : BxOk ⟨ns, 0, 0, 1, 0⟩ 0 := ⟨by show (0 : Int) ≤ 0; decide, by show (0 : Int) ≤ 1; decide, by show (1 : Int) < 4294967296; decide, by show (0 : Int) ≤ 0; decide, by show (0 : Int) ≤ ((0 : Nat) : Int); decide⟩
theorem draw_q {W d : Nat} {st : Bx} {hs : Hl} {k : Nat} {Q : R T → Prop} {t : Tg Q} {m : Int} (ok : BxOk st k) (hk : k < 1000000) (h0 : 0 < m) (h1 : m < 2 ^ 200) (K : ∀ r st', 0 ≤ r → r < m → BxOk st' (k + 1) → Q (.ok (.int r) (bxC st' :: hs))) : Wq (run prog W (d + 1) 22 [.rf 0, .int m] (bxC st :: hs)) Q t := by
  obtain ⟨r, st', e, r0, r1, o⟩ := draw_run prog W d 22 rfl st hs k ok hk m h0 h1
  exact Wq.fact e (K r st' r0 r1 o)
theorem draw_qn {W d : Nat} {st : Bx} {hs : Hl} {k : Nat} {Q : R T → Prop} {t : Tg Q} {m : Int} (ok : BxOk st k) (hk : k < 1000000) (h0 : 0 < m) (h1 : m < 2 ^ 200) (K : ∀ (r : Nat) st', (r : Int) < m → BxOk st' (k + 1) → Q (.ok (.int (r : Int)) (bxC st' :: hs))) : Wq (run prog W (d + 1) 22 [.rf 0, .int m] (bxC st :: hs)) Q t := by
  refine draw_q ok hk h0 h1 fun r st' r0 r1 o => ?_
  obtain ⟨r, rfl⟩ := Int.eq_ofNat_of_zero_le r0
  exact K r st' r1 o
end K47
end
section
set_option maxRecDepth 100000
set_option maxHeartbeats 4000000
set_option linter.all false
open Kb
local macro_rules
  | `(tactic| simp only [zzO, $as,*]) => `(tactic| simp only [exB, ↓exS_for, ↓exS_whl, ↓evA_lc, exS, evE, evEs, evT, evO, evA, evI, evC, tru, truT, binT, addT, mulT, intT, isIns, insOf_non, binE_non, cmE_non, insOf_bl, binE_bl, cmE_bl, insOf_int, binE_int, cmE_int, insOf_str, binE_str, cmE_str, insOf_lst, binE_lst, cmE_lst, insOf_tup, binE_tup, cmE_tup, insOf_dct, binE_dct, cmE_dct, insOf_kl, binE_kl, cmE_kl, insOf_bL, binE_bL, cmE_bL, insOf_bD, binE_bD, cmE_bD, insOf_ins, insOf_bI, insOf_rf, binE_rf, cmE_rf, fldT_ins, fldT_bI, fldT_rf, mx_0, mx_1, mx_2, mx_3, mx_4, mx_5, mx_01, mx_02, mx_03, mx_04, mx_05, cmpT, icmp, oR, idxT, idxSq, slT, bfT, intF, lenF, lenT, absF, gcdF, min2F, max2F, tupF, sumF, seqOf, lstOf, lstOf', walkOf_lst, walkOf_tup, walkOf_kl, walkOf_str, putI, stF, lkF, putF, lkN, kdAny, kd_non, kd_bl, kd_int, kd_str, kd_tup, kd_lst, kd_bL, kd_kl, kd_ins, kk_ii, kk_ib, kk_bi, kk_bb, kk_ss, kk_tt, kk_ll, kk_tl, kk_lt, kk_is, kk_si, kk_it, kk_il, kk_ti, kk_li, kk_st, kk_sl, kk_ts, kk_ls, onL, mbT, pl_non, pl_bl, pl_int, pl_str, pl_lst, pl_tup, pl_ins, pl_dct, pl_rf, pl_kl, pl_exc, pl_bL, pl_bD, pl_bI, arrT, isExc, isT, isNon, isBlv, ↓R.bind_H, R.bindH_ok, ↓R.toS_H, R.toSH_ok, R.noErr_ok, ↓RS.thn_H, RS.thnH_nx, RS.thnH_rt, R.bindH_ite, R.toSH_ite, RS.thnH_ite, startT, setT, wipeT, freeTg, eqT_int, eqT_bl, List.all_cons, List.all_nil, List.map_cons, List.map_nil, List.zip_cons_cons, List.zip_nil_left, List.zip_nil_right, List.foldl_cons, List.foldl_nil, List.cons_append, List.nil_append, List.replicate, List.length_cons, List.length_nil, List.getElem?_cons_zero, List.getElem?_cons_succ, List.set_cons_zero, List.set_cons_succ, List.isEmpty_cons, List.isEmpty_nil, atI_0, atI_1, atI_2, atI_3, atI_4, ix51, ix52, ix53, ix54, Option.map_some, Option.map_none, Option.isSome_none, Option.isSome_some, Option.isNone_none, Option.isNone_some, eq_self, Option.bind_some, if_true, if_false, Bool.false_eq_true, Bool.and_false, Bool.false_and, Bool.not_false, Bool.not_true, Bool.and_true, Bool.true_and, Bool.or_false, Bool.or_true, Bool.false_or, Bool.true_or, Nat.reduceAdd, Nat.reduceSub, Nat.reduceEqDiff, freeS_eq, freeO_none, freeO_some, decide_true, decide_false, reduceCtorEq, endR_rt, endR_nx, endR_ini, endR_ite, iniV_nil, iniV_cons, isBI_int, isBI_str, isBI_lst, isBI_tup, isBI_ins, isBI_rf, isBI_bl, isBI_kl, isBI_non, isBI_dct, Nat.reduceLT, Nat.one_ne_zero, Nat.zero_ne_one, $as,*])
  | `(tactic| simp only [zzR, $as,*]) => `(tactic| simp -dsimp only [↓Wq_for_nil, Wq_for_nil, ↓Wq_tryN, ↓Wq_end, ↓IfQ_true, ↓IfQ_false, ↓Wq_ok, ↓Wq_err, ↓Wq_nx, ↓Wq_rt, ↓Wq_ct, ↓Wq_bk, ↓Wq_er, Wq_tryN, Wq_end, Wq_noErr, IfQ_true, IfQ_false, Wq_ok, Wq_err, Wq_nx, Wq_rt, Wq_ct, Wq_bk, Wq_er, ↓bindQ_ok, ↓bindQ_err, ↓toSQ_ok, ↓toSQ_err, ↓thnQ_nx, ↓thnQ_rt, ↓thnQ_ct, ↓thnQ_bk, ↓thnQ_err, ↓endQ_rt, ↓endQ_nx, ↓endQ_ini, ↓noQ_ok, ↓okQ_ok, ↓goQ_nx, ↓goQ_ct, ↓goQ_bk, ↓goQ_rt, ↓itemQ_some, ↓itemQ_none, ↓itemS_ok, ↓tryNQ_rt, ↓tryNQ_nx, ↓whlQ_true, ↓whlQ_false, ↓ite_HR, ↓ite_HS, ↓IfH_true, ↓IfH_false, IfH_true, IfH_false, Wq_IfH, Wq_bindH, Wq_toSH, Wq_thnH, exB, ↓exS_for, ↓exS_whl, ↓evA_lc, exS, evE, evEs, evT, evO, evA, evI, evC, tru, truT, binT, addT, mulT, intT, isIns, insOf_non, binE_non, cmE_non, insOf_bl, binE_bl, cmE_bl, insOf_int, binE_int, cmE_int, insOf_str, binE_str, cmE_str, insOf_lst, binE_lst, cmE_lst, insOf_tup, binE_tup, cmE_tup, insOf_dct, binE_dct, cmE_dct, insOf_kl, binE_kl, cmE_kl, insOf_bL, binE_bL, cmE_bL, insOf_bD, binE_bD, cmE_bD, insOf_ins, insOf_bI, insOf_rf, binE_rf, cmE_rf, fldT_ins, fldT_bI, fldT_rf, mx_0, mx_1, mx_2, mx_3, mx_4, mx_5, mx_01, mx_02, mx_03, mx_04, mx_05, cmpT, icmp, oR, idxT, idxSq, slT, bfT, intF, lenF, lenT, absF, gcdF, min2F, max2F, tupF, sumF, seqOf, lstOf, lstOf', walkOf_lst, walkOf_tup, walkOf_kl, walkOf_str, putI, stF, lkF, putF, lkN, kdAny, kd_non, kd_bl, kd_int, kd_str, kd_tup, kd_lst, kd_bL, kd_kl, kd_ins, kk_ii, kk_ib, kk_bi, kk_bb, kk_ss, kk_tt, kk_ll, kk_tl, kk_lt, kk_is, kk_si, kk_it, kk_il, kk_ti, kk_li, kk_st, kk_sl, kk_ts, kk_ls, onL, mbT, pl_non, pl_bl, pl_int, pl_str, pl_lst, pl_tup, pl_ins, pl_dct, pl_rf, pl_kl, pl_exc, pl_bL, pl_bD, pl_bI, arrT, isExc, isT, isNon, isBlv, ↓R.bind_H, R.bindH_ok, ↓R.toS_H, R.toSH_ok, ↓RS.thn_H, RS.thnH_nx, RS.thnH_rt, startT, setT, wipeT, freeTg, eqT_int, eqT_bl, List.all_cons, List.all_nil, List.map_cons, List.map_nil, List.zip_cons_cons, List.zip_nil_left, List.zip_nil_right, List.foldl_cons, List.foldl_nil, List.cons_append, List.nil_append, List.replicate, List.length_cons, List.length_nil, List.getElem?_cons_zero, List.getElem?_cons_succ, List.set_cons_zero, List.set_cons_succ, List.isEmpty_cons, List.isEmpty_nil, atI_0, atI_1, atI_2, atI_3, atI_4, ix51, ix52, ix53, ix54, Option.map_some, Option.map_none, Option.isSome_none, Option.isSome_some, Option.isNone_none, Option.isNone_some, eq_self, Option.bind_some, if_true, if_false, Bool.false_eq_true, Bool.and_false, Bool.false_and, Bool.not_false, Bool.not_true, Bool.and_true, Bool.true_and, Bool.or_false, Bool.or_true, Bool.false_or, Bool.true_or, Nat.reduceAdd, Nat.reduceSub, Nat.reduceEqDiff, freeS_eq, freeO_none, freeO_some, decide_true, decide_false, reduceCtorEq, endR_rt, endR_nx, endR_ini, iniV_nil, iniV_cons, isBI_int, isBI_str, isBI_lst, isBI_tup, isBI_ins, isBI_rf, isBI_bl, isBI_kl, isBI_non, isBI_dct, Nat.reduceLT, Nat.one_ne_zero, Nat.zero_ne_one, $as,*])
  | `(tactic| simp only [zzG, $as,*]) => `(tactic| (simp -dsimp only [↓Wq_for_nil, Wq_for_nil, ↓Wq_tryN, ↓Wq_end, ↓IfQ_true, ↓IfQ_false, ↓Wq_ok, ↓Wq_err, ↓Wq_nx, ↓Wq_rt, ↓Wq_ct, ↓Wq_bk, ↓Wq_er, Wq_tryN, Wq_end, Wq_noErr, IfQ_true, IfQ_false, Wq_ok, Wq_err, Wq_nx, Wq_rt, Wq_ct, Wq_bk, Wq_er, ↓bindQ_ok, ↓bindQ_err, ↓toSQ_ok, ↓toSQ_err, ↓thnQ_nx, ↓thnQ_rt, ↓thnQ_ct, ↓thnQ_bk, ↓thnQ_err, ↓endQ_rt, ↓endQ_nx, ↓endQ_ini, ↓noQ_ok, ↓okQ_ok, ↓goQ_nx, ↓goQ_ct, ↓goQ_bk, ↓goQ_rt, ↓itemQ_some, ↓itemQ_none, ↓itemS_ok, ↓tryNQ_rt, ↓tryNQ_nx, ↓whlQ_true, ↓whlQ_false, ↓ite_HR, ↓ite_HS, ↓IfH_true, ↓IfH_false, IfH_true, IfH_false, Wq_IfH, Wq_bindH, Wq_toSH, Wq_thnH, exB, ↓exS_for, ↓exS_whl, ↓evA_lc, exS, evE, evEs, evT, evO, evA, evI, evC, tru, truT, binT, addT, mulT, intT, isIns, insOf_non, binE_non, cmE_non, insOf_bl, binE_bl, cmE_bl, insOf_int, binE_int, cmE_int, insOf_str, binE_str, cmE_str, insOf_lst, binE_lst, cmE_lst, insOf_tup, binE_tup, cmE_tup, insOf_dct, binE_dct, cmE_dct, insOf_kl, binE_kl, cmE_kl, insOf_bL, binE_bL, cmE_bL, insOf_bD, binE_bD, cmE_bD, insOf_ins, insOf_bI, insOf_rf, binE_rf, cmE_rf, fldT_ins, fldT_bI, fldT_rf, mx_0, mx_1, mx_2, mx_3, mx_4, mx_5, mx_01, mx_02, mx_03, mx_04, mx_05, cmpT, icmp, oR, idxT, idxSq, slT, bfT, intF, lenF, lenT, absF, gcdF, min2F, max2F, tupF, sumF, seqOf, lstOf, lstOf', walkOf_lst, walkOf_tup, walkOf_kl, walkOf_str, putI, stF, lkF, putF, lkN, kdAny, kd_non, kd_bl, kd_int, kd_str, kd_tup, kd_lst, kd_bL, kd_kl, kd_ins, kk_ii, kk_ib, kk_bi, kk_bb, kk_ss, kk_tt, kk_ll, kk_tl, kk_lt, kk_is, kk_si, kk_it, kk_il, kk_ti, kk_li, kk_st, kk_sl, kk_ts, kk_ls, onL, mbT, pl_non, pl_bl, pl_int, pl_str, pl_lst, pl_tup, pl_ins, pl_dct, pl_rf, pl_kl, pl_exc, pl_bL, pl_bD, pl_bI, arrT, isExc, isT, isNon, isBlv, ↓R.bind_H, R.bindH_ok, ↓R.toS_H, R.toSH_ok, ↓RS.thn_H, RS.thnH_nx, RS.thnH_rt, startT, setT, wipeT, freeTg, eqT_int, eqT_bl, List.all_cons, List.all_nil, List.map_cons, List.map_nil, List.zip_cons_cons, List.zip_nil_left, List.zip_nil_right, List.foldl_cons, List.foldl_nil, List.cons_append, List.nil_append, List.replicate, List.length_cons, List.length_nil, List.getElem?_cons_zero, List.getElem?_cons_succ, List.set_cons_zero, List.set_cons_succ, List.isEmpty_cons, List.isEmpty_nil, atI_0, atI_1, atI_2, atI_3, atI_4, ix51, ix52, ix53, ix54, Option.map_some, Option.map_none, Option.isSome_none, Option.isSome_some, Option.isNone_none, Option.isNone_some, eq_self, Option.bind_some, if_true, if_false, Bool.false_eq_true, Bool.and_false, Bool.false_and, Bool.not_false, Bool.not_true, Bool.and_true, Bool.true_and, Bool.or_false, Bool.or_true, Bool.false_or, Bool.true_or, Nat.reduceAdd, Nat.reduceSub, Nat.reduceEqDiff, freeS_eq, freeO_none, freeO_some, decide_true, decide_false, reduceCtorEq, endR_rt, endR_nx, endR_ini, iniV_nil, iniV_cons, isBI_int, isBI_str, isBI_lst, isBI_tup, isBI_ins, isBI_rf, isBI_bl, isBI_kl, isBI_non, isBI_dct, Nat.reduceLT, Nat.one_ne_zero, Nat.zero_ne_one, $as,*]; repeat (first | refine IfQ.yes (mulOk_of (by omega) (by omega) (by omega) (by omega)) ?_ | refine IfQ.yes (divOk_of (by omega) (by omega) (by omega)) ?_ | refine IfQ.yes (by decide) ?_ | refine IfQ.no (by decide) ?_ | refine IfQ.yes (rngOk_of (by (try simp only [List.length_map, List.length_append, List.length_cons, List.length_nil, List.length_range]); omega) (by (try simp only [List.length_map, List.length_append, List.length_cons, List.length_nil, List.length_range]); omega)) ?_ | refine IfQ.yes (len_of (by simp only [List.length_map, List.length_append, List.length_cons, List.length_nil, List.length_replicate, rngT_len]; omega)) ?_ | refine IfQ.yes (shlOk_of (by omega) (by omega) (by omega) (by omega)) ?_ | simp -dsimp only [↓Wq_for_nil, Wq_for_nil, ↓Wq_tryN, ↓Wq_end, ↓IfQ_true, ↓IfQ_false, ↓Wq_ok, ↓Wq_err, ↓Wq_nx, ↓Wq_rt, ↓Wq_ct, ↓Wq_bk, ↓Wq_er, Wq_tryN, Wq_end, Wq_noErr, IfQ_true, IfQ_false, Wq_ok, Wq_err, Wq_nx, Wq_rt, Wq_ct, Wq_bk, Wq_er, ↓bindQ_ok, ↓bindQ_err, ↓toSQ_ok, ↓toSQ_err, ↓thnQ_nx, ↓thnQ_rt, ↓thnQ_ct, ↓thnQ_bk, ↓thnQ_err, ↓endQ_rt, ↓endQ_nx, ↓endQ_ini, ↓noQ_ok, ↓okQ_ok, ↓goQ_nx, ↓goQ_ct, ↓goQ_bk, ↓goQ_rt, ↓itemQ_some, ↓itemQ_none, ↓itemS_ok, ↓tryNQ_rt, ↓tryNQ_nx, ↓whlQ_true, ↓whlQ_false, ↓ite_HR, ↓ite_HS, ↓IfH_true, ↓IfH_false, IfH_true, IfH_false, Wq_IfH, Wq_bindH, Wq_toSH, Wq_thnH, exB, ↓exS_for, ↓exS_whl, ↓evA_lc, exS, evE, evEs, evT, evO, evA, evI, evC, tru, truT, binT, addT, mulT, intT, isIns, insOf_non, binE_non, cmE_non, insOf_bl, binE_bl, cmE_bl, insOf_int, binE_int, cmE_int, insOf_str, binE_str, cmE_str, insOf_lst, binE_lst, cmE_lst, insOf_tup, binE_tup, cmE_tup, insOf_dct, binE_dct, cmE_dct, insOf_kl, binE_kl, cmE_kl, insOf_bL, binE_bL, cmE_bL, insOf_bD, binE_bD, cmE_bD, insOf_ins, insOf_bI, insOf_rf, binE_rf, cmE_rf, fldT_ins, fldT_bI, fldT_rf, mx_0, mx_1, mx_2, mx_3, mx_4, mx_5, mx_01, mx_02, mx_03, mx_04, mx_05, cmpT, icmp, oR, idxT, idxSq, slT, bfT, intF, lenF, lenT, absF, gcdF, min2F, max2F, tupF, sumF, seqOf, lstOf, lstOf', walkOf_lst, walkOf_tup, walkOf_kl, walkOf_str, putI, stF, lkF, putF, lkN, kdAny, kd_non, kd_bl, kd_int, kd_str, kd_tup, kd_lst, kd_bL, kd_kl, kd_ins, kk_ii, kk_ib, kk_bi, kk_bb, kk_ss, kk_tt, kk_ll, kk_tl, kk_lt, kk_is, kk_si, kk_it, kk_il, kk_ti, kk_li, kk_st, kk_sl, kk_ts, kk_ls, onL, mbT, pl_non, pl_bl, pl_int, pl_str, pl_lst, pl_tup, pl_ins, pl_dct, pl_rf, pl_kl, pl_exc, pl_bL, pl_bD, pl_bI, arrT, isExc, isT, isNon, isBlv, ↓R.bind_H, R.bindH_ok, ↓R.toS_H, R.toSH_ok, ↓RS.thn_H, RS.thnH_nx, RS.thnH_rt, startT, setT, wipeT, freeTg, eqT_int, eqT_bl, List.all_cons, List.all_nil, List.map_cons, List.map_nil, List.zip_cons_cons, List.zip_nil_left, List.zip_nil_right, List.foldl_cons, List.foldl_nil, List.cons_append, List.nil_append, List.replicate, List.length_cons, List.length_nil, List.getElem?_cons_zero, List.getElem?_cons_succ, List.set_cons_zero, List.set_cons_succ, List.isEmpty_cons, List.isEmpty_nil, atI_0, atI_1, atI_2, atI_3, atI_4, ix51, ix52, ix53, ix54, Option.map_some, Option.map_none, Option.isSome_none, Option.isSome_some, Option.isNone_none, Option.isNone_some, eq_self, Option.bind_some, if_true, if_false, Bool.false_eq_true, Bool.and_false, Bool.false_and, Bool.not_false, Bool.not_true, Bool.and_true, Bool.true_and, Bool.or_false, Bool.or_true, Bool.false_or, Bool.true_or, Nat.reduceAdd, Nat.reduceSub, Nat.reduceEqDiff, freeS_eq, freeO_none, freeO_some, decide_true, decide_false, reduceCtorEq, endR_rt, endR_nx, endR_ini, iniV_nil, iniV_cons, isBI_int, isBI_str, isBI_lst, isBI_tup, isBI_ins, isBI_rf, isBI_bl, isBI_kl, isBI_non, isBI_dct, Nat.reduceLT, Nat.one_ne_zero, Nat.zero_ne_one, $as,*])))
  | `(tactic| simp only [zzG]) => `(tactic| (simp -dsimp only [↓Wq_for_nil, Wq_for_nil, ↓Wq_tryN, ↓Wq_end, ↓IfQ_true, ↓IfQ_false, ↓Wq_ok, ↓Wq_err, ↓Wq_nx, ↓Wq_rt, ↓Wq_ct, ↓Wq_bk, ↓Wq_er, Wq_tryN, Wq_end, Wq_noErr, IfQ_true, IfQ_false, Wq_ok, Wq_err, Wq_nx, Wq_rt, Wq_ct, Wq_bk, Wq_er, ↓bindQ_ok, ↓bindQ_err, ↓toSQ_ok, ↓toSQ_err, ↓thnQ_nx, ↓thnQ_rt, ↓thnQ_ct, ↓thnQ_bk, ↓thnQ_err, ↓endQ_rt, ↓endQ_nx, ↓endQ_ini, ↓noQ_ok, ↓okQ_ok, ↓goQ_nx, ↓goQ_ct, ↓goQ_bk, ↓goQ_rt, ↓itemQ_some, ↓itemQ_none, ↓itemS_ok, ↓tryNQ_rt, ↓tryNQ_nx, ↓whlQ_true, ↓whlQ_false, ↓ite_HR, ↓ite_HS, ↓IfH_true, ↓IfH_false, IfH_true, IfH_false, Wq_IfH, Wq_bindH, Wq_toSH, Wq_thnH, exB, ↓exS_for, ↓exS_whl, ↓evA_lc, exS, evE, evEs, evT, evO, evA, evI, evC, tru, truT, binT, addT, mulT, intT, isIns, insOf_non, binE_non, cmE_non, insOf_bl, binE_bl, cmE_bl, insOf_int, binE_int, cmE_int, insOf_str, binE_str, cmE_str, insOf_lst, binE_lst, cmE_lst, insOf_tup, binE_tup, cmE_tup, insOf_dct, binE_dct, cmE_dct, insOf_kl, binE_kl, cmE_kl, insOf_bL, binE_bL, cmE_bL, insOf_bD, binE_bD, cmE_bD, insOf_ins, insOf_bI, insOf_rf, binE_rf, cmE_rf, fldT_ins, fldT_bI, fldT_rf, mx_0, mx_1, mx_2, mx_3, mx_4, mx_5, mx_01, mx_02, mx_03, mx_04, mx_05, cmpT, icmp, oR, idxT, idxSq, slT, bfT, intF, lenF, lenT, absF, gcdF, min2F, max2F, tupF, sumF, seqOf, lstOf, lstOf', walkOf_lst, walkOf_tup, walkOf_kl, walkOf_str, putI, stF, lkF, putF, lkN, kdAny, kd_non, kd_bl, kd_int, kd_str, kd_tup, kd_lst, kd_bL, kd_kl, kd_ins, kk_ii, kk_ib, kk_bi, kk_bb, kk_ss, kk_tt, kk_ll, kk_tl, kk_lt, kk_is, kk_si, kk_it, kk_il, kk_ti, kk_li, kk_st, kk_sl, kk_ts, kk_ls, onL, mbT, pl_non, pl_bl, pl_int, pl_str, pl_lst, pl_tup, pl_ins, pl_dct, pl_rf, pl_kl, pl_exc, pl_bL, pl_bD, pl_bI, arrT, isExc, isT, isNon, isBlv, ↓R.bind_H, R.bindH_ok, ↓R.toS_H, R.toSH_ok, ↓RS.thn_H, RS.thnH_nx, RS.thnH_rt, startT, setT, wipeT, freeTg, eqT_int, eqT_bl, List.all_cons, List.all_nil, List.map_cons, List.map_nil, List.zip_cons_cons, List.zip_nil_left, List.zip_nil_right, List.foldl_cons, List.foldl_nil, List.cons_append, List.nil_append, List.replicate, List.length_cons, List.length_nil, List.getElem?_cons_zero, List.getElem?_cons_succ, List.set_cons_zero, List.set_cons_succ, List.isEmpty_cons, List.isEmpty_nil, atI_0, atI_1, atI_2, atI_3, atI_4, ix51, ix52, ix53, ix54, Option.map_some, Option.map_none, Option.isSome_none, Option.isSome_some, Option.isNone_none, Option.isNone_some, eq_self, Option.bind_some, if_true, if_false, Bool.false_eq_true, Bool.and_false, Bool.false_and, Bool.not_false, Bool.not_true, Bool.and_true, Bool.true_and, Bool.or_false, Bool.or_true, Bool.false_or, Bool.true_or, Nat.reduceAdd, Nat.reduceSub, Nat.reduceEqDiff, freeS_eq, freeO_none, freeO_some, decide_true, decide_false, reduceCtorEq, endR_rt, endR_nx, endR_ini, iniV_nil, iniV_cons, isBI_int, isBI_str, isBI_lst, isBI_tup, isBI_ins, isBI_rf, isBI_bl, isBI_kl, isBI_non, isBI_dct, Nat.reduceLT, Nat.one_ne_zero, Nat.zero_ne_one]; repeat (first | refine IfQ.yes (mulOk_of (by omega) (by omega) (by omega) (by omega)) ?_ | refine IfQ.yes (divOk_of (by omega) (by omega) (by omega)) ?_ | refine IfQ.yes (by decide) ?_ | refine IfQ.no (by decide) ?_ | refine IfQ.yes (rngOk_of (by (try simp only [List.length_map, List.length_append, List.length_cons, List.length_nil, List.length_range]); omega) (by (try simp only [List.length_map, List.length_append, List.length_cons, List.length_nil, List.length_range]); omega)) ?_ | refine IfQ.yes (len_of (by simp only [List.length_map, List.length_append, List.length_cons, List.length_nil, List.length_replicate, rngT_len]; omega)) ?_ | refine IfQ.yes (shlOk_of (by omega) (by omega) (by omega) (by omega)) ?_ | simp -dsimp only [↓Wq_for_nil, Wq_for_nil, ↓Wq_tryN, ↓Wq_end, ↓IfQ_true, ↓IfQ_false, ↓Wq_ok, ↓Wq_err, ↓Wq_nx, ↓Wq_rt, ↓Wq_ct, ↓Wq_bk, ↓Wq_er, Wq_tryN, Wq_end, Wq_noErr, IfQ_true, IfQ_false, Wq_ok, Wq_err, Wq_nx, Wq_rt, Wq_ct, Wq_bk, Wq_er, ↓bindQ_ok, ↓bindQ_err, ↓toSQ_ok, ↓toSQ_err, ↓thnQ_nx, ↓thnQ_rt, ↓thnQ_ct, ↓thnQ_bk, ↓thnQ_err, ↓endQ_rt, ↓endQ_nx, ↓endQ_ini, ↓noQ_ok, ↓okQ_ok, ↓goQ_nx, ↓goQ_ct, ↓goQ_bk, ↓goQ_rt, ↓itemQ_some, ↓itemQ_none, ↓itemS_ok, ↓tryNQ_rt, ↓tryNQ_nx, ↓whlQ_true, ↓whlQ_false, ↓ite_HR, ↓ite_HS, ↓IfH_true, ↓IfH_false, IfH_true, IfH_false, Wq_IfH, Wq_bindH, Wq_toSH, Wq_thnH, exB, ↓exS_for, ↓exS_whl, ↓evA_lc, exS, evE, evEs, evT, evO, evA, evI, evC, tru, truT, binT, addT, mulT, intT, isIns, insOf_non, binE_non, cmE_non, insOf_bl, binE_bl, cmE_bl, insOf_int, binE_int, cmE_int, insOf_str, binE_str, cmE_str, insOf_lst, binE_lst, cmE_lst, insOf_tup, binE_tup, cmE_tup, insOf_dct, binE_dct, cmE_dct, insOf_kl, binE_kl, cmE_kl, insOf_bL, binE_bL, cmE_bL, insOf_bD, binE_bD, cmE_bD, insOf_ins, insOf_bI, insOf_rf, binE_rf, cmE_rf, fldT_ins, fldT_bI, fldT_rf, mx_0, mx_1, mx_2, mx_3, mx_4, mx_5, mx_01, mx_02, mx_03, mx_04, mx_05, cmpT, icmp, oR, idxT, idxSq, slT, bfT, intF, lenF, lenT, absF, gcdF, min2F, max2F, tupF, sumF, seqOf, lstOf, lstOf', walkOf_lst, walkOf_tup, walkOf_kl, walkOf_str, putI, stF, lkF, putF, lkN, kdAny, kd_non, kd_bl, kd_int, kd_str, kd_tup, kd_lst, kd_bL, kd_kl, kd_ins, kk_ii, kk_ib, kk_bi, kk_bb, kk_ss, kk_tt, kk_ll, kk_tl, kk_lt, kk_is, kk_si, kk_it, kk_il, kk_ti, kk_li, kk_st, kk_sl, kk_ts, kk_ls, onL, mbT, pl_non, pl_bl, pl_int, pl_str, pl_lst, pl_tup, pl_ins, pl_dct, pl_rf, pl_kl, pl_exc, pl_bL, pl_bD, pl_bI, arrT, isExc, isT, isNon, isBlv, ↓R.bind_H, R.bindH_ok, ↓R.toS_H, R.toSH_ok, ↓RS.thn_H, RS.thnH_nx, RS.thnH_rt, startT, setT, wipeT, freeTg, eqT_int, eqT_bl, List.all_cons, List.all_nil, List.map_cons, List.map_nil, List.zip_cons_cons, List.zip_nil_left, List.zip_nil_right, List.foldl_cons, List.foldl_nil, List.cons_append, List.nil_append, List.replicate, List.length_cons, List.length_nil, List.getElem?_cons_zero, List.getElem?_cons_succ, List.set_cons_zero, List.set_cons_succ, List.isEmpty_cons, List.isEmpty_nil, atI_0, atI_1, atI_2, atI_3, atI_4, ix51, ix52, ix53, ix54, Option.map_some, Option.map_none, Option.isSome_none, Option.isSome_some, Option.isNone_none, Option.isNone_some, eq_self, Option.bind_some, if_true, if_false, Bool.false_eq_true, Bool.and_false, Bool.false_and, Bool.not_false, Bool.not_true, Bool.and_true, Bool.true_and, Bool.or_false, Bool.or_true, Bool.false_or, Bool.true_or, Nat.reduceAdd, Nat.reduceSub, Nat.reduceEqDiff, freeS_eq, freeO_none, freeO_some, decide_true, decide_false, reduceCtorEq, endR_rt, endR_nx, endR_ini, iniV_nil, iniV_cons, isBI_int, isBI_str, isBI_lst, isBI_tup, isBI_ins, isBI_rf, isBI_bl, isBI_kl, isBI_non, isBI_dct, Nat.reduceLT, Nat.one_ne_zero, Nat.zero_ne_one])))
  | `(tactic| simp only [zzR]) => `(tactic| simp -dsimp only [↓Wq_for_nil, Wq_for_nil, ↓Wq_tryN, ↓Wq_end, ↓IfQ_true, ↓IfQ_false, ↓Wq_ok, ↓Wq_err, ↓Wq_nx, ↓Wq_rt, ↓Wq_ct, ↓Wq_bk, ↓Wq_er, Wq_tryN, Wq_end, Wq_noErr, IfQ_true, IfQ_false, Wq_ok, Wq_err, Wq_nx, Wq_rt, Wq_ct, Wq_bk, Wq_er, ↓bindQ_ok, ↓bindQ_err, ↓toSQ_ok, ↓toSQ_err, ↓thnQ_nx, ↓thnQ_rt, ↓thnQ_ct, ↓thnQ_bk, ↓thnQ_err, ↓endQ_rt, ↓endQ_nx, ↓endQ_ini, ↓noQ_ok, ↓okQ_ok, ↓goQ_nx, ↓goQ_ct, ↓goQ_bk, ↓goQ_rt, ↓itemQ_some, ↓itemQ_none, ↓itemS_ok, ↓tryNQ_rt, ↓tryNQ_nx, ↓whlQ_true, ↓whlQ_false, ↓ite_HR, ↓ite_HS, ↓IfH_true, ↓IfH_false, IfH_true, IfH_false, Wq_IfH, Wq_bindH, Wq_toSH, Wq_thnH, exB, ↓exS_for, ↓exS_whl, ↓evA_lc, exS, evE, evEs, evT, evO, evA, evI, evC, tru, truT, binT, addT, mulT, intT, isIns, insOf_non, binE_non, cmE_non, insOf_bl, binE_bl, cmE_bl, insOf_int, binE_int, cmE_int, insOf_str, binE_str, cmE_str, insOf_lst, binE_lst, cmE_lst, insOf_tup, binE_tup, cmE_tup, insOf_dct, binE_dct, cmE_dct, insOf_kl, binE_kl, cmE_kl, insOf_bL, binE_bL, cmE_bL, insOf_bD, binE_bD, cmE_bD, insOf_ins, insOf_bI, insOf_rf, binE_rf, cmE_rf, fldT_ins, fldT_bI, fldT_rf, mx_0, mx_1, mx_2, mx_3, mx_4, mx_5, mx_01, mx_02, mx_03, mx_04, mx_05, cmpT, icmp, oR, idxT, idxSq, slT, bfT, intF, lenF, lenT, absF, gcdF, min2F, max2F, tupF, sumF, seqOf, lstOf, lstOf', walkOf_lst, walkOf_tup, walkOf_kl, walkOf_str, putI, stF, lkF, putF, lkN, kdAny, kd_non, kd_bl, kd_int, kd_str, kd_tup, kd_lst, kd_bL, kd_kl, kd_ins, kk_ii, kk_ib, kk_bi, kk_bb, kk_ss, kk_tt, kk_ll, kk_tl, kk_lt, kk_is, kk_si, kk_it, kk_il, kk_ti, kk_li, kk_st, kk_sl, kk_ts, kk_ls, onL, mbT, pl_non, pl_bl, pl_int, pl_str, pl_lst, pl_tup, pl_ins, pl_dct, pl_rf, pl_kl, pl_exc, pl_bL, pl_bD, pl_bI, arrT, isExc, isT, isNon, isBlv, ↓R.bind_H, R.bindH_ok, ↓R.toS_H, R.toSH_ok, ↓RS.thn_H, RS.thnH_nx, RS.thnH_rt, startT, setT, wipeT, freeTg, eqT_int, eqT_bl, List.all_cons, List.all_nil, List.map_cons, List.map_nil, List.zip_cons_cons, List.zip_nil_left, List.zip_nil_right, List.foldl_cons, List.foldl_nil, List.cons_append, List.nil_append, List.replicate, List.length_cons, List.length_nil, List.getElem?_cons_zero, List.getElem?_cons_succ, List.set_cons_zero, List.set_cons_succ, List.isEmpty_cons, List.isEmpty_nil, atI_0, atI_1, atI_2, atI_3, atI_4, ix51, ix52, ix53, ix54, Option.map_some, Option.map_none, Option.isSome_none, Option.isSome_some, Option.isNone_none, Option.isNone_some, eq_self, Option.bind_some, if_true, if_false, Bool.false_eq_true, Bool.and_false, Bool.false_and, Bool.not_false, Bool.not_true, Bool.and_true, Bool.true_and, Bool.or_false, Bool.or_true, Bool.false_or, Bool.true_or, Nat.reduceAdd, Nat.reduceSub, Nat.reduceEqDiff, freeS_eq, freeO_none, freeO_some, decide_true, decide_false, reduceCtorEq, endR_rt, endR_nx, endR_ini, iniV_nil, iniV_cons, isBI_int, isBI_str, isBI_lst, isBI_tup, isBI_ins, isBI_rf, isBI_bl, isBI_kl, isBI_non, isBI_dct, Nat.reduceLT, Nat.one_ne_zero, Nat.zero_ne_one])

namespace K47
/-! ### sources (source.lx) -/
abbrev Rw := Nat × Nat × Nat × Nat
def tupR (r : Rw) : T := .tup [.int (r.1 : Int), .int (r.2.1 : Int), .int (r.2.2.1 : Int), .int (r.2.2.2 : Int)]
structure RwOk (n : Nat) (r : Rw) : Prop where
  p : 0 < r.1 + r.2.2.1
  a : r.1 ≤ 1000
  b : r.2.2.1 ≤ 1000
  s : r.2.1 < n
  t : r.2.2.2 < n
structure SrcOk (rs : List Rw) : Prop where
  ne : 1 ≤ rs.length
  le : rs.length ≤ 4
  ok : ∀ r ∈ rs, RwOk rs.length r
def srF (rs : List Rw) : List (Nat × T) := [(5, .tup (rs.map tupR))]
def src (rs : List Rw) : T := .ins 4 (srF rs)
theorem insOf_src (rs : List Rw) (h : Hl) : insOf (src rs) h = some (4, srF rs) := rfl
theorem plainT_src (rs : List Rw) : plainT (src rs) = true := rfl
theorem isBI_src (rs : List Rw) : isBI (src rs) = false := by unfold src isBI; exact Eq.refl _
theorem states_src (rs : List Rw) (h : Hl) : fldT (src rs) 5 h = .ok (.tup (rs.map tupR)) h := rfl
theorem src_cls : prog.cls[4]? = some ⟨1, (some 17), [(2, 18), (3, 19)], [], []⟩ := rfl
theorem src_fold (rs : List Rw) : T.ins 4 (srF rs) = src rs := rfl
theorem plain_tupR (r : Rw) : plainT (tupR r) = true := rfl
theorem isint2_run (W d : Nat) (i : Int) (h : Hl) : run prog W (d + 1) 12 [.int i] h = .ok (.bl true) h := by
  have k1 : decide (Kd.int = Kd.int) = true := by decide
  have k2 : decide (Kd.int = Kd.bool) = false := by decide
  rw [run_eq (rfl : prog.defs[12]? = some ⟨1, 1, b_is_integer⟩) rfl]
  simp only [zzO, b_is_integer, k1, k2]
theorem isnum_run (W d : Nat) (n : Nat) (h : Hl) : run prog W (d + 2) 13 [.int (n : Int)] h = .ok (.bl true) h := by
  have i := isint2_run W d (n : Int) h
  have k : decide ((0 : Int) ≤ (n : Int)) = true := by simp
  rw [run_eq (rfl : prog.defs[13]? = some ⟨1, 1, b_is_number⟩) rfl]
  simp only [zzO, b_is_number, i, k]
theorem isbet_run (W d : Nat) (i a b : Int) (h : Hl) (h1 : a ≤ i) (h2 : i ≤ b) : run prog W (d + 2) 14 [.int i, .int a, .int b] h = .ok (.bl true) h := by
  have e := isint2_run W d i h
  have k1 : decide (a ≤ i) = true := by simpa using h1
  have k2 : decide (i ≤ b) = true := by simpa using h2
  rw [run_eq (rfl : prog.defs[14]? = some ⟨3, 3, b_is_between⟩) rfl]
  simp only [zzO, b_is_between, e, k1, k2]
theorem isrow_tup (W d : Nat) (xs : List T) (h : Hl) : run prog W (d + 1) 15 [.tup xs] h = .ok (.bl true) h := by
  have k1 : decide (Kd.tuple = Kd.tuple) = true := by decide
  rw [run_eq (rfl : prog.defs[15]? = some ⟨1, 1, b_is_row⟩) rfl]
  simp only [zzO, b_is_row, k1]
theorem isrow_lst (W d : Nat) (xs : List T) (h : Hl) : run prog W (d + 1) 15 [.lst xs] h = .ok (.bl true) h := by
  have k1 : decide (Kd.list = Kd.list) = true := by decide
  have k2 : decide (Kd.list = Kd.tuple) = false := by decide
  rw [run_eq (rfl : prog.defs[15]? = some ⟨1, 1, b_is_row⟩) rfl]
  simp only [zzO, b_is_row, k1, k2]
theorem states_run (W d : Nat) (rs : List Rw) (h : Hl) (ok : SrcOk rs) : Wp (run prog W (d + 3) 16 [.lst (rs.map tupR)] h) (fun v h' => v = .bl true ∧ h' = h) := by
  have e1 := fun xs => isrow_lst W (d + 1) xs h
  have e2 := fun xs => isrow_tup W (d + 1) xs h
  have l0 : (((rs.map tupR).length : Int) == 0) = false := by rw [beq_eq_false_iff_ne]; have := ok.ne; rw [List.length_map]; omega
  refine Wq.run (rfl : prog.defs[16]? = some ⟨1, 2, b_are_states⟩) rfl ?_
  simp only [zzG, b_are_states, e1, l0]
  refine Wq.for1 (as := rs) (fun _ σ h' => h' = h ∧ ∃ o, nb o ∧ σ = [some (.lst (rs.map tupR)), o]) ⟨rfl, none, nb_none, rfl⟩ ?_ ?_
  · rintro j r σ h' hr ⟨rfl, o, n, rfl⟩
    refine ⟨n, ?_⟩
    have kr := ok.ok r (List.mem_of_getElem? hr)
    have n1 := isnum_run W d r.1 h'
    have n2 := isnum_run W d r.2.2.1 h'
    have b1 := isbet_run W d (r.2.1 : Int) 0 (((rs.map tupR).length : Int) - 1) h' (by omega) (by rw [List.length_map]; have := kr.s; omega)
    have b2 := isbet_run W d (r.2.2.2 : Int) 0 (((rs.map tupR).length : Int) - 1) h' (by omega) (by rw [List.length_map]; have := kr.t; omega)
    have l4 : (((0 + 1 + 1 + 1 + 1 : Nat) : Int) == 4) = true := by decide
    have hp := kr.p
    generalize ha : ((r.1 : Int) == 0) = ca
    generalize hb : ((r.2.2.1 : Int) == 0) = cb
    have hab : ca = true → cb = true → False := by rintro rfl rfl; simp at ha hb; omega
    cases ca <;> cases cb <;> first | exact (hab rfl rfl).elim | skip
    all_goals
      simp only [zzR, bodyF, b_are_states_L1, e2, tupR, n1, n2, b1, b2, l4, ha, hb]
      exact ⟨by trivial, some (tupR r), nb_of rfl, rfl⟩
  · rintro σ h' ⟨rfl, o, n, rfl⟩
    simp only [zzG]
    exact ⟨by trivial, by trivial⟩
theorem tupL (l : List Rw) : (l.map tupR).map (fun t => t) = l.map tupR := by simp
theorem srcini_run (W d : Nat) (rs : List Rw) (h : Hl) (ok : SrcOk rs) : run prog W (d + 4) 17 [.bI 4 [], .lst (rs.map tupR)] h = .ok (.bI 4 (srF rs)) h := by
  obtain ⟨_, _, e, rfl, rfl⟩ := states_run W d rs h ok
  have c := fun σ h => lc_pure (f := bodyL prog (run prog W (d + 3)) Eo.none b_Sourceu__initu__C1) (tg := [2]) (σ := [some (.bI 4 []), some (.lst (rs.map tupR)), σ]) (h := h) tupR tupR rs fun a _ => ⟨rfl, _, rfl, rfl⟩
  have l := ok.le
  have m : ((rs.map tupR).length ≤ maxLen) = True := by rw [List.length_map]; simp only [maxLen, eq_iff_iff, iff_true]; omega
  rw [run_eq (rfl : prog.defs[17]? = some ⟨2, 3, b_Sourceu__initu_⟩) rfl]
  simp only [zzO, b_Sourceu__initu_, e, c, m]
  rfl
theorem newT_src (W d : Nat) (rs : List Rw) (h : Hl) (ok : SrcOk rs) : newT prog (run prog W (d + 4)) 4 [.lst (rs.map tupR)] h = .ok (src rs) h := by
  have i := srcini_run W d rs h ok
  unfold newT
  simp only [zzO, src_cls, i, src_fold]
def at' (rs : List Rw) (s : Nat) : Rw := rs.getD s (0, 0, 0, 0)
theorem at_ok {rs : List Rw} {s : Nat} (ok : SrcOk rs) (h : s < rs.length) : RwOk rs.length (at' rs s) := by
  unfold at'
  rw [List.getD_eq_getElem?_getD, List.getElem?_eq_getElem h]
  exact ok.ok _ (List.getElem_mem h)
theorem at_get {rs : List Rw} {s : Nat} (h : s < rs.length) : atI (rs.map tupR) (s : Int) = some (tupR (at' rs s)) := by
  unfold at'
  rw [atI_nat, List.getElem?_map, List.getD_eq_getElem?_getD, List.getElem?_eq_getElem h]; rfl
def wgt (r : Rw) (b : Bool) : Nat := if b then r.2.2.1 else r.1
def nxt (r : Rw) (b : Bool) : Nat := if b then r.2.2.2 else r.2.1
def sm (r : Rw) : Nat := r.1 + r.2.2.1
def bI' (b : Bool) : Int := if b then 1 else 0
theorem big_n {n : Nat} (h : n ≤ 2 ^ 30) : (n : Int).natAbs < Big := by
  have e : (2 : Nat) ^ 31 ≤ Big := Nat.pow_le_pow_right (by decide) (by decide)
  omega
theorem big_d {n : Nat} (h : n ≤ 2 ^ 30) : (n : Int).natAbs < 2 ^ 8999 := by
  have e : (2 : Nat) ^ 31 ≤ 2 ^ 8999 := Nat.pow_le_pow_right (by decide) (by decide)
  omega
theorem chin_run (W d : Nat) (rs : List Rw) (s : Nat) (b : Bool) (h : Hl) (ok : SrcOk rs) (hs : s < rs.length) : run prog W (d + 2) 18 [src rs, .int (s : Int), .int (bI' b)] h = .ok (sh (((wgt (at' rs s) b : Nat) : Int) / ((sm (at' rs s) : Nat) : Int) : Rat)) h := by
  have g := at_get (rs := rs) hs
  have k := at_ok ok hs
  have kp := k.p; have ka := k.a; have kb := k.b
  have i := newT_sh W d ((wgt (at' rs s) b : Nat) : Int) ((sm (at' rs s) : Nat) : Int) h (by unfold sm; omega) (big_d (by unfold sm; omega))
  have sme : ((sm (at' rs s) : Nat) : Int) = ((at' rs s).1 : Int) + ((at' rs s).2.2.1 : Int) := by unfold sm; omega
  rw [sme] at i
  have ru := run_eq (W := W) (d := d + 1) (rfl : prog.defs[18]? = some ⟨3, 4, b_Source_chance_in⟩) (vs := [src rs, .int (s : Int), .int (bI' b)]) rfl h
  rw [ru, sme]
  have m0 : mulOk 2 0 = true := by decide
  have m1 : mulOk 2 1 = true := by decide
  have t0 : (2 : Int) * 0 = 0 := by decide
  have t1 : (2 : Int) * 1 = 2 := by decide
  cases b <;> simp only [bI', if_true, if_false, Bool.false_eq_true, wgt] at i ⊢ <;> simp only [zzO, b_Source_chance_in, isBI_src, insOf_src, plainT_src, states_src, src_fold, src_cls, isBI_sh, insOf_sh, plainT_sh, isBor_sh, isExc_sh, over_sh, under_sh, kd_sh, sh_fold, sh_cls, g, tupR, m0, m1, t0, t1, i]
theorem nxof_run (W d : Nat) (rs : List Rw) (s : Nat) (b : Bool) (h : Hl) (ok : SrcOk rs) (hs : s < rs.length) : run prog W (d + 1) 19 [src rs, .int (s : Int), .int (bI' b)] h = .ok (.int ((nxt (at' rs s) b : Nat) : Int)) h := by
  have g := at_get (rs := rs) hs
  have m0 : mulOk 2 0 = true := by decide
  have m1 : mulOk 2 1 = true := by decide
  have t0 : (2 : Int) * 0 + 1 = 1 := by decide
  have t1 : (2 : Int) * 1 + 1 = 3 := by decide
  rw [run_eq (rfl : prog.defs[19]? = some ⟨3, 3, b_Source_next_of⟩) rfl]
  cases b <;> simp only [zzO, bI', if_true, if_false, Bool.false_eq_true, nxt, b_Source_next_of, isBI_src, insOf_src, plainT_src, states_src, src_fold, src_cls, g, tupR, m0, m1, t0, t1]
end K47
end
section
set_option maxRecDepth 100000
set_option maxHeartbeats 4000000
set_option linter.all false
open Kb
local macro_rules
  | `(tactic| simp only [zzO, $as,*]) => `(tactic| simp only [exB, ↓exS_for, ↓exS_whl, ↓evA_lc, exS, evE, evEs, evT, evO, evA, evI, evC, tru, truT, binT, addT, mulT, intT, isIns, insOf_non, binE_non, cmE_non, insOf_bl, binE_bl, cmE_bl, insOf_int, binE_int, cmE_int, insOf_str, binE_str, cmE_str, insOf_lst, binE_lst, cmE_lst, insOf_tup, binE_tup, cmE_tup, insOf_dct, binE_dct, cmE_dct, insOf_kl, binE_kl, cmE_kl, insOf_bL, binE_bL, cmE_bL, insOf_bD, binE_bD, cmE_bD, insOf_ins, insOf_bI, insOf_rf, binE_rf, cmE_rf, fldT_ins, fldT_bI, fldT_rf, mx_0, mx_1, mx_2, mx_3, mx_4, mx_5, mx_01, mx_02, mx_03, mx_04, mx_05, cmpT, icmp, oR, idxT, idxSq, slT, bfT, intF, lenF, lenT, absF, gcdF, min2F, max2F, tupF, sumF, seqOf, lstOf, lstOf', walkOf_lst, walkOf_tup, walkOf_kl, walkOf_str, putI, stF, lkF, putF, lkN, kdAny, kd_non, kd_bl, kd_int, kd_str, kd_tup, kd_lst, kd_bL, kd_kl, kd_ins, kk_ii, kk_ib, kk_bi, kk_bb, kk_ss, kk_tt, kk_ll, kk_tl, kk_lt, kk_is, kk_si, kk_it, kk_il, kk_ti, kk_li, kk_st, kk_sl, kk_ts, kk_ls, onL, mbT, pl_non, pl_bl, pl_int, pl_str, pl_lst, pl_tup, pl_ins, pl_dct, pl_rf, pl_kl, pl_exc, pl_bL, pl_bD, pl_bI, arrT, isExc, isT, isNon, isBlv, ↓R.bind_H, R.bindH_ok, ↓R.toS_H, R.toSH_ok, R.noErr_ok, ↓RS.thn_H, RS.thnH_nx, RS.thnH_rt, R.bindH_ite, R.toSH_ite, RS.thnH_ite, startT, setT, wipeT, freeTg, eqT_int, eqT_bl, List.all_cons, List.all_nil, List.map_cons, List.map_nil, List.zip_cons_cons, List.zip_nil_left, List.zip_nil_right, List.foldl_cons, List.foldl_nil, List.cons_append, List.nil_append, List.replicate, List.length_cons, List.length_nil, List.getElem?_cons_zero, List.getElem?_cons_succ, List.set_cons_zero, List.set_cons_succ, List.isEmpty_cons, List.isEmpty_nil, atI_0, atI_1, atI_2, atI_3, atI_4, ix51, ix52, ix53, ix54, Option.map_some, Option.map_none, Option.isSome_none, Option.isSome_some, Option.isNone_none, Option.isNone_some, eq_self, Option.bind_some, if_true, if_false, Bool.false_eq_true, Bool.and_false, Bool.false_and, Bool.not_false, Bool.not_true, Bool.and_true, Bool.true_and, Bool.or_false, Bool.or_true, Bool.false_or, Bool.true_or, Nat.reduceAdd, Nat.reduceSub, Nat.reduceEqDiff, freeS_eq, freeO_none, freeO_some, decide_true, decide_false, reduceCtorEq, endR_rt, endR_nx, endR_ini, endR_ite, iniV_nil, iniV_cons, isBI_int, isBI_str, isBI_lst, isBI_tup, isBI_ins, isBI_rf, isBI_bl, isBI_kl, isBI_non, isBI_dct, Nat.reduceLT, Nat.one_ne_zero, Nat.zero_ne_one, $as,*])
  | `(tactic| simp only [zzR, $as,*]) => `(tactic| simp -dsimp only [↓Wq_for_nil, Wq_for_nil, ↓Wq_tryN, ↓Wq_end, ↓IfQ_true, ↓IfQ_false, ↓Wq_ok, ↓Wq_err, ↓Wq_nx, ↓Wq_rt, ↓Wq_ct, ↓Wq_bk, ↓Wq_er, Wq_tryN, Wq_end, Wq_noErr, IfQ_true, IfQ_false, Wq_ok, Wq_err, Wq_nx, Wq_rt, Wq_ct, Wq_bk, Wq_er, ↓bindQ_ok, ↓bindQ_err, ↓toSQ_ok, ↓toSQ_err, ↓thnQ_nx, ↓thnQ_rt, ↓thnQ_ct, ↓thnQ_bk, ↓thnQ_err, ↓endQ_rt, ↓endQ_nx, ↓endQ_ini, ↓noQ_ok, ↓okQ_ok, ↓goQ_nx, ↓goQ_ct, ↓goQ_bk, ↓goQ_rt, ↓itemQ_some, ↓itemQ_none, ↓itemS_ok, ↓tryNQ_rt, ↓tryNQ_nx, ↓whlQ_true, ↓whlQ_false, ↓ite_HR, ↓ite_HS, ↓IfH_true, ↓IfH_false, IfH_true, IfH_false, Wq_IfH, Wq_bindH, Wq_toSH, Wq_thnH, exB, ↓exS_for, ↓exS_whl, ↓evA_lc, exS, evE, evEs, evT, evO, evA, evI, evC, tru, truT, binT, addT, mulT, intT, isIns, insOf_non, binE_non, cmE_non, insOf_bl, binE_bl, cmE_bl, insOf_int, binE_int, cmE_int, insOf_str, binE_str, cmE_str, insOf_lst, binE_lst, cmE_lst, insOf_tup, binE_tup, cmE_tup, insOf_dct, binE_dct, cmE_dct, insOf_kl, binE_kl, cmE_kl, insOf_bL, binE_bL, cmE_bL, insOf_bD, binE_bD, cmE_bD, insOf_ins, insOf_bI, insOf_rf, binE_rf, cmE_rf, fldT_ins, fldT_bI, fldT_rf, mx_0, mx_1, mx_2, mx_3, mx_4, mx_5, mx_01, mx_02, mx_03, mx_04, mx_05, cmpT, icmp, oR, idxT, idxSq, slT, bfT, intF, lenF, lenT, absF, gcdF, min2F, max2F, tupF, sumF, seqOf, lstOf, lstOf', walkOf_lst, walkOf_tup, walkOf_kl, walkOf_str, putI, stF, lkF, putF, lkN, kdAny, kd_non, kd_bl, kd_int, kd_str, kd_tup, kd_lst, kd_bL, kd_kl, kd_ins, kk_ii, kk_ib, kk_bi, kk_bb, kk_ss, kk_tt, kk_ll, kk_tl, kk_lt, kk_is, kk_si, kk_it, kk_il, kk_ti, kk_li, kk_st, kk_sl, kk_ts, kk_ls, onL, mbT, pl_non, pl_bl, pl_int, pl_str, pl_lst, pl_tup, pl_ins, pl_dct, pl_rf, pl_kl, pl_exc, pl_bL, pl_bD, pl_bI, arrT, isExc, isT, isNon, isBlv, ↓R.bind_H, R.bindH_ok, ↓R.toS_H, R.toSH_ok, ↓RS.thn_H, RS.thnH_nx, RS.thnH_rt, startT, setT, wipeT, freeTg, eqT_int, eqT_bl, List.all_cons, List.all_nil, List.map_cons, List.map_nil, List.zip_cons_cons, List.zip_nil_left, List.zip_nil_right, List.foldl_cons, List.foldl_nil, List.cons_append, List.nil_append, List.replicate, List.length_cons, List.length_nil, List.getElem?_cons_zero, List.getElem?_cons_succ, List.set_cons_zero, List.set_cons_succ, List.isEmpty_cons, List.isEmpty_nil, atI_0, atI_1, atI_2, atI_3, atI_4, ix51, ix52, ix53, ix54, Option.map_some, Option.map_none, Option.isSome_none, Option.isSome_some, Option.isNone_none, Option.isNone_some, eq_self, Option.bind_some, if_true, if_false, Bool.false_eq_true, Bool.and_false, Bool.false_and, Bool.not_false, Bool.not_true, Bool.and_true, Bool.true_and, Bool.or_false, Bool.or_true, Bool.false_or, Bool.true_or, Nat.reduceAdd, Nat.reduceSub, Nat.reduceEqDiff, freeS_eq, freeO_none, freeO_some, decide_true, decide_false, reduceCtorEq, endR_rt, endR_nx, endR_ini, iniV_nil, iniV_cons, isBI_int, isBI_str, isBI_lst, isBI_tup, isBI_ins, isBI_rf, isBI_bl, isBI_kl, isBI_non, isBI_dct, Nat.reduceLT, Nat.one_ne_zero, Nat.zero_ne_one, $as,*])
  | `(tactic| simp only [zzG, $as,*]) => `(tactic| (simp -dsimp only [↓Wq_for_nil, Wq_for_nil, ↓Wq_tryN, ↓Wq_end, ↓IfQ_true, ↓IfQ_false, ↓Wq_ok, ↓Wq_err, ↓Wq_nx, ↓Wq_rt, ↓Wq_ct, ↓Wq_bk, ↓Wq_er, Wq_tryN, Wq_end, Wq_noErr, IfQ_true, IfQ_false, Wq_ok, Wq_err, Wq_nx, Wq_rt, Wq_ct, Wq_bk, Wq_er, ↓bindQ_ok, ↓bindQ_err, ↓toSQ_ok, ↓toSQ_err, ↓thnQ_nx, ↓thnQ_rt, ↓thnQ_ct, ↓thnQ_bk, ↓thnQ_err, ↓endQ_rt, ↓endQ_nx, ↓endQ_ini, ↓noQ_ok, ↓okQ_ok, ↓goQ_nx, ↓goQ_ct, ↓goQ_bk, ↓goQ_rt, ↓itemQ_some, ↓itemQ_none, ↓itemS_ok, ↓tryNQ_rt, ↓tryNQ_nx, ↓whlQ_true, ↓whlQ_false, ↓ite_HR, ↓ite_HS, ↓IfH_true, ↓IfH_false, IfH_true, IfH_false, Wq_IfH, Wq_bindH, Wq_toSH, Wq_thnH, exB, ↓exS_for, ↓exS_whl, ↓evA_lc, exS, evE, evEs, evT, evO, evA, evI, evC, tru, truT, binT, addT, mulT, intT, isIns, insOf_non, binE_non, cmE_non, insOf_bl, binE_bl, cmE_bl, insOf_int, binE_int, cmE_int, insOf_str, binE_str, cmE_str, insOf_lst, binE_lst, cmE_lst, insOf_tup, binE_tup, cmE_tup, insOf_dct, binE_dct, cmE_dct, insOf_kl, binE_kl, cmE_kl, insOf_bL, binE_bL, cmE_bL, insOf_bD, binE_bD, cmE_bD, insOf_ins, insOf_bI, insOf_rf, binE_rf, cmE_rf, fldT_ins, fldT_bI, fldT_rf, mx_0, mx_1, mx_2, mx_3, mx_4, mx_5, mx_01, mx_02, mx_03, mx_04, mx_05, cmpT, icmp, oR, idxT, idxSq, slT, bfT, intF, lenF, lenT, absF, gcdF, min2F, max2F, tupF, sumF, seqOf, lstOf, lstOf', walkOf_lst, walkOf_tup, walkOf_kl, walkOf_str, putI, stF, lkF, putF, lkN, kdAny, kd_non, kd_bl, kd_int, kd_str, kd_tup, kd_lst, kd_bL, kd_kl, kd_ins, kk_ii, kk_ib, kk_bi, kk_bb, kk_ss, kk_tt, kk_ll, kk_tl, kk_lt, kk_is, kk_si, kk_it, kk_il, kk_ti, kk_li, kk_st, kk_sl, kk_ts, kk_ls, onL, mbT, pl_non, pl_bl, pl_int, pl_str, pl_lst, pl_tup, pl_ins, pl_dct, pl_rf, pl_kl, pl_exc, pl_bL, pl_bD, pl_bI, arrT, isExc, isT, isNon, isBlv, ↓R.bind_H, R.bindH_ok, ↓R.toS_H, R.toSH_ok, ↓RS.thn_H, RS.thnH_nx, RS.thnH_rt, startT, setT, wipeT, freeTg, eqT_int, eqT_bl, List.all_cons, List.all_nil, List.map_cons, List.map_nil, List.zip_cons_cons, List.zip_nil_left, List.zip_nil_right, List.foldl_cons, List.foldl_nil, List.cons_append, List.nil_append, List.replicate, List.length_cons, List.length_nil, List.getElem?_cons_zero, List.getElem?_cons_succ, List.set_cons_zero, List.set_cons_succ, List.isEmpty_cons, List.isEmpty_nil, atI_0, atI_1, atI_2, atI_3, atI_4, ix51, ix52, ix53, ix54, Option.map_some, Option.map_none, Option.isSome_none, Option.isSome_some, Option.isNone_none, Option.isNone_some, eq_self, Option.bind_some, if_true, if_false, Bool.false_eq_true, Bool.and_false, Bool.false_and, Bool.not_false, Bool.not_true, Bool.and_true, Bool.true_and, Bool.or_false, Bool.or_true, Bool.false_or, Bool.true_or, Nat.reduceAdd, Nat.reduceSub, Nat.reduceEqDiff, freeS_eq, freeO_none, freeO_some, decide_true, decide_false, reduceCtorEq, endR_rt, endR_nx, endR_ini, iniV_nil, iniV_cons, isBI_int, isBI_str, isBI_lst, isBI_tup, isBI_ins, isBI_rf, isBI_bl, isBI_kl, isBI_non, isBI_dct, Nat.reduceLT, Nat.one_ne_zero, Nat.zero_ne_one, $as,*]; repeat (first | refine IfQ.yes (mulOk_of (by omega) (by omega) (by omega) (by omega)) ?_ | refine IfQ.yes (divOk_of (by omega) (by omega) (by omega)) ?_ | refine IfQ.yes (by decide) ?_ | refine IfQ.no (by decide) ?_ | refine IfQ.yes (rngOk_of (by (try simp only [List.length_map, List.length_append, List.length_cons, List.length_nil, List.length_range]); omega) (by (try simp only [List.length_map, List.length_append, List.length_cons, List.length_nil, List.length_range]); omega)) ?_ | refine IfQ.yes (len_of (by simp only [List.length_map, List.length_append, List.length_cons, List.length_nil, List.length_replicate, rngT_len]; omega)) ?_ | refine IfQ.yes (shlOk_of (by omega) (by omega) (by omega) (by omega)) ?_ | simp -dsimp only [↓Wq_for_nil, Wq_for_nil, ↓Wq_tryN, ↓Wq_end, ↓IfQ_true, ↓IfQ_false, ↓Wq_ok, ↓Wq_err, ↓Wq_nx, ↓Wq_rt, ↓Wq_ct, ↓Wq_bk, ↓Wq_er, Wq_tryN, Wq_end, Wq_noErr, IfQ_true, IfQ_false, Wq_ok, Wq_err, Wq_nx, Wq_rt, Wq_ct, Wq_bk, Wq_er, ↓bindQ_ok, ↓bindQ_err, ↓toSQ_ok, ↓toSQ_err, ↓thnQ_nx, ↓thnQ_rt, ↓thnQ_ct, ↓thnQ_bk, ↓thnQ_err, ↓endQ_rt, ↓endQ_nx, ↓endQ_ini, ↓noQ_ok, ↓okQ_ok, ↓goQ_nx, ↓goQ_ct, ↓goQ_bk, ↓goQ_rt, ↓itemQ_some, ↓itemQ_none, ↓itemS_ok, ↓tryNQ_rt, ↓tryNQ_nx, ↓whlQ_true, ↓whlQ_false, ↓ite_HR, ↓ite_HS, ↓IfH_true, ↓IfH_false, IfH_true, IfH_false, Wq_IfH, Wq_bindH, Wq_toSH, Wq_thnH, exB, ↓exS_for, ↓exS_whl, ↓evA_lc, exS, evE, evEs, evT, evO, evA, evI, evC, tru, truT, binT, addT, mulT, intT, isIns, insOf_non, binE_non, cmE_non, insOf_bl, binE_bl, cmE_bl, insOf_int, binE_int, cmE_int, insOf_str, binE_str, cmE_str, insOf_lst, binE_lst, cmE_lst, insOf_tup, binE_tup, cmE_tup, insOf_dct, binE_dct, cmE_dct, insOf_kl, binE_kl, cmE_kl, insOf_bL, binE_bL, cmE_bL, insOf_bD, binE_bD, cmE_bD, insOf_ins, insOf_bI, insOf_rf, binE_rf, cmE_rf, fldT_ins, fldT_bI, fldT_rf, mx_0, mx_1, mx_2, mx_3, mx_4, mx_5, mx_01, mx_02, mx_03, mx_04, mx_05, cmpT, icmp, oR, idxT, idxSq, slT, bfT, intF, lenF, lenT, absF, gcdF, min2F, max2F, tupF, sumF, seqOf, lstOf, lstOf', walkOf_lst, walkOf_tup, walkOf_kl, walkOf_str, putI, stF, lkF, putF, lkN, kdAny, kd_non, kd_bl, kd_int, kd_str, kd_tup, kd_lst, kd_bL, kd_kl, kd_ins, kk_ii, kk_ib, kk_bi, kk_bb, kk_ss, kk_tt, kk_ll, kk_tl, kk_lt, kk_is, kk_si, kk_it, kk_il, kk_ti, kk_li, kk_st, kk_sl, kk_ts, kk_ls, onL, mbT, pl_non, pl_bl, pl_int, pl_str, pl_lst, pl_tup, pl_ins, pl_dct, pl_rf, pl_kl, pl_exc, pl_bL, pl_bD, pl_bI, arrT, isExc, isT, isNon, isBlv, ↓R.bind_H, R.bindH_ok, ↓R.toS_H, R.toSH_ok, ↓RS.thn_H, RS.thnH_nx, RS.thnH_rt, startT, setT, wipeT, freeTg, eqT_int, eqT_bl, List.all_cons, List.all_nil, List.map_cons, List.map_nil, List.zip_cons_cons, List.zip_nil_left, List.zip_nil_right, List.foldl_cons, List.foldl_nil, List.cons_append, List.nil_append, List.replicate, List.length_cons, List.length_nil, List.getElem?_cons_zero, List.getElem?_cons_succ, List.set_cons_zero, List.set_cons_succ, List.isEmpty_cons, List.isEmpty_nil, atI_0, atI_1, atI_2, atI_3, atI_4, ix51, ix52, ix53, ix54, Option.map_some, Option.map_none, Option.isSome_none, Option.isSome_some, Option.isNone_none, Option.isNone_some, eq_self, Option.bind_some, if_true, if_false, Bool.false_eq_true, Bool.and_false, Bool.false_and, Bool.not_false, Bool.not_true, Bool.and_true, Bool.true_and, Bool.or_false, Bool.or_true, Bool.false_or, Bool.true_or, Nat.reduceAdd, Nat.reduceSub, Nat.reduceEqDiff, freeS_eq, freeO_none, freeO_some, decide_true, decide_false, reduceCtorEq, endR_rt, endR_nx, endR_ini, iniV_nil, iniV_cons, isBI_int, isBI_str, isBI_lst, isBI_tup, isBI_ins, isBI_rf, isBI_bl, isBI_kl, isBI_non, isBI_dct, Nat.reduceLT, Nat.one_ne_zero, Nat.zero_ne_one, $as,*])))
  | `(tactic| simp only [zzG]) => `(tactic| (simp -dsimp only [↓Wq_for_nil, Wq_for_nil, ↓Wq_tryN, ↓Wq_end, ↓IfQ_true, ↓IfQ_false, ↓Wq_ok, ↓Wq_err, ↓Wq_nx, ↓Wq_rt, ↓Wq_ct, ↓Wq_bk, ↓Wq_er, Wq_tryN, Wq_end, Wq_noErr, IfQ_true, IfQ_false, Wq_ok, Wq_err, Wq_nx, Wq_rt, Wq_ct, Wq_bk, Wq_er, ↓bindQ_ok, ↓bindQ_err, ↓toSQ_ok, ↓toSQ_err, ↓thnQ_nx, ↓thnQ_rt, ↓thnQ_ct, ↓thnQ_bk, ↓thnQ_err, ↓endQ_rt, ↓endQ_nx, ↓endQ_ini, ↓noQ_ok, ↓okQ_ok, ↓goQ_nx, ↓goQ_ct, ↓goQ_bk, ↓goQ_rt, ↓itemQ_some, ↓itemQ_none, ↓itemS_ok, ↓tryNQ_rt, ↓tryNQ_nx, ↓whlQ_true, ↓whlQ_false, ↓ite_HR, ↓ite_HS, ↓IfH_true, ↓IfH_false, IfH_true, IfH_false, Wq_IfH, Wq_bindH, Wq_toSH, Wq_thnH, exB, ↓exS_for, ↓exS_whl, ↓evA_lc, exS, evE, evEs, evT, evO, evA, evI, evC, tru, truT, binT, addT, mulT, intT, isIns, insOf_non, binE_non, cmE_non, insOf_bl, binE_bl, cmE_bl, insOf_int, binE_int, cmE_int, insOf_str, binE_str, cmE_str, insOf_lst, binE_lst, cmE_lst, insOf_tup, binE_tup, cmE_tup, insOf_dct, binE_dct, cmE_dct, insOf_kl, binE_kl, cmE_kl, insOf_bL, binE_bL, cmE_bL, insOf_bD, binE_bD, cmE_bD, insOf_ins, insOf_bI, insOf_rf, binE_rf, cmE_rf, fldT_ins, fldT_bI, fldT_rf, mx_0, mx_1, mx_2, mx_3, mx_4, mx_5, mx_01, mx_02, mx_03, mx_04, mx_05, cmpT, icmp, oR, idxT, idxSq, slT, bfT, intF, lenF, lenT, absF, gcdF, min2F, max2F, tupF, sumF, seqOf, lstOf, lstOf', walkOf_lst, walkOf_tup, walkOf_kl, walkOf_str, putI, stF, lkF, putF, lkN, kdAny, kd_non, kd_bl, kd_int, kd_str, kd_tup, kd_lst, kd_bL, kd_kl, kd_ins, kk_ii, kk_ib, kk_bi, kk_bb, kk_ss, kk_tt, kk_ll, kk_tl, kk_lt, kk_is, kk_si, kk_it, kk_il, kk_ti, kk_li, kk_st, kk_sl, kk_ts, kk_ls, onL, mbT, pl_non, pl_bl, pl_int, pl_str, pl_lst, pl_tup, pl_ins, pl_dct, pl_rf, pl_kl, pl_exc, pl_bL, pl_bD, pl_bI, arrT, isExc, isT, isNon, isBlv, ↓R.bind_H, R.bindH_ok, ↓R.toS_H, R.toSH_ok, ↓RS.thn_H, RS.thnH_nx, RS.thnH_rt, startT, setT, wipeT, freeTg, eqT_int, eqT_bl, List.all_cons, List.all_nil, List.map_cons, List.map_nil, List.zip_cons_cons, List.zip_nil_left, List.zip_nil_right, List.foldl_cons, List.foldl_nil, List.cons_append, List.nil_append, List.replicate, List.length_cons, List.length_nil, List.getElem?_cons_zero, List.getElem?_cons_succ, List.set_cons_zero, List.set_cons_succ, List.isEmpty_cons, List.isEmpty_nil, atI_0, atI_1, atI_2, atI_3, atI_4, ix51, ix52, ix53, ix54, Option.map_some, Option.map_none, Option.isSome_none, Option.isSome_some, Option.isNone_none, Option.isNone_some, eq_self, Option.bind_some, if_true, if_false, Bool.false_eq_true, Bool.and_false, Bool.false_and, Bool.not_false, Bool.not_true, Bool.and_true, Bool.true_and, Bool.or_false, Bool.or_true, Bool.false_or, Bool.true_or, Nat.reduceAdd, Nat.reduceSub, Nat.reduceEqDiff, freeS_eq, freeO_none, freeO_some, decide_true, decide_false, reduceCtorEq, endR_rt, endR_nx, endR_ini, iniV_nil, iniV_cons, isBI_int, isBI_str, isBI_lst, isBI_tup, isBI_ins, isBI_rf, isBI_bl, isBI_kl, isBI_non, isBI_dct, Nat.reduceLT, Nat.one_ne_zero, Nat.zero_ne_one]; repeat (first | refine IfQ.yes (mulOk_of (by omega) (by omega) (by omega) (by omega)) ?_ | refine IfQ.yes (divOk_of (by omega) (by omega) (by omega)) ?_ | refine IfQ.yes (by decide) ?_ | refine IfQ.no (by decide) ?_ | refine IfQ.yes (rngOk_of (by (try simp only [List.length_map, List.length_append, List.length_cons, List.length_nil, List.length_range]); omega) (by (try simp only [List.length_map, List.length_append, List.length_cons, List.length_nil, List.length_range]); omega)) ?_ | refine IfQ.yes (len_of (by simp only [List.length_map, List.length_append, List.length_cons, List.length_nil, List.length_replicate, rngT_len]; omega)) ?_ | refine IfQ.yes (shlOk_of (by omega) (by omega) (by omega) (by omega)) ?_ | simp -dsimp only [↓Wq_for_nil, Wq_for_nil, ↓Wq_tryN, ↓Wq_end, ↓IfQ_true, ↓IfQ_false, ↓Wq_ok, ↓Wq_err, ↓Wq_nx, ↓Wq_rt, ↓Wq_ct, ↓Wq_bk, ↓Wq_er, Wq_tryN, Wq_end, Wq_noErr, IfQ_true, IfQ_false, Wq_ok, Wq_err, Wq_nx, Wq_rt, Wq_ct, Wq_bk, Wq_er, ↓bindQ_ok, ↓bindQ_err, ↓toSQ_ok, ↓toSQ_err, ↓thnQ_nx, ↓thnQ_rt, ↓thnQ_ct, ↓thnQ_bk, ↓thnQ_err, ↓endQ_rt, ↓endQ_nx, ↓endQ_ini, ↓noQ_ok, ↓okQ_ok, ↓goQ_nx, ↓goQ_ct, ↓goQ_bk, ↓goQ_rt, ↓itemQ_some, ↓itemQ_none, ↓itemS_ok, ↓tryNQ_rt, ↓tryNQ_nx, ↓whlQ_true, ↓whlQ_false, ↓ite_HR, ↓ite_HS, ↓IfH_true, ↓IfH_false, IfH_true, IfH_false, Wq_IfH, Wq_bindH, Wq_toSH, Wq_thnH, exB, ↓exS_for, ↓exS_whl, ↓evA_lc, exS, evE, evEs, evT, evO, evA, evI, evC, tru, truT, binT, addT, mulT, intT, isIns, insOf_non, binE_non, cmE_non, insOf_bl, binE_bl, cmE_bl, insOf_int, binE_int, cmE_int, insOf_str, binE_str, cmE_str, insOf_lst, binE_lst, cmE_lst, insOf_tup, binE_tup, cmE_tup, insOf_dct, binE_dct, cmE_dct, insOf_kl, binE_kl, cmE_kl, insOf_bL, binE_bL, cmE_bL, insOf_bD, binE_bD, cmE_bD, insOf_ins, insOf_bI, insOf_rf, binE_rf, cmE_rf, fldT_ins, fldT_bI, fldT_rf, mx_0, mx_1, mx_2, mx_3, mx_4, mx_5, mx_01, mx_02, mx_03, mx_04, mx_05, cmpT, icmp, oR, idxT, idxSq, slT, bfT, intF, lenF, lenT, absF, gcdF, min2F, max2F, tupF, sumF, seqOf, lstOf, lstOf', walkOf_lst, walkOf_tup, walkOf_kl, walkOf_str, putI, stF, lkF, putF, lkN, kdAny, kd_non, kd_bl, kd_int, kd_str, kd_tup, kd_lst, kd_bL, kd_kl, kd_ins, kk_ii, kk_ib, kk_bi, kk_bb, kk_ss, kk_tt, kk_ll, kk_tl, kk_lt, kk_is, kk_si, kk_it, kk_il, kk_ti, kk_li, kk_st, kk_sl, kk_ts, kk_ls, onL, mbT, pl_non, pl_bl, pl_int, pl_str, pl_lst, pl_tup, pl_ins, pl_dct, pl_rf, pl_kl, pl_exc, pl_bL, pl_bD, pl_bI, arrT, isExc, isT, isNon, isBlv, ↓R.bind_H, R.bindH_ok, ↓R.toS_H, R.toSH_ok, ↓RS.thn_H, RS.thnH_nx, RS.thnH_rt, startT, setT, wipeT, freeTg, eqT_int, eqT_bl, List.all_cons, List.all_nil, List.map_cons, List.map_nil, List.zip_cons_cons, List.zip_nil_left, List.zip_nil_right, List.foldl_cons, List.foldl_nil, List.cons_append, List.nil_append, List.replicate, List.length_cons, List.length_nil, List.getElem?_cons_zero, List.getElem?_cons_succ, List.set_cons_zero, List.set_cons_succ, List.isEmpty_cons, List.isEmpty_nil, atI_0, atI_1, atI_2, atI_3, atI_4, ix51, ix52, ix53, ix54, Option.map_some, Option.map_none, Option.isSome_none, Option.isSome_some, Option.isNone_none, Option.isNone_some, eq_self, Option.bind_some, if_true, if_false, Bool.false_eq_true, Bool.and_false, Bool.false_and, Bool.not_false, Bool.not_true, Bool.and_true, Bool.true_and, Bool.or_false, Bool.or_true, Bool.false_or, Bool.true_or, Nat.reduceAdd, Nat.reduceSub, Nat.reduceEqDiff, freeS_eq, freeO_none, freeO_some, decide_true, decide_false, reduceCtorEq, endR_rt, endR_nx, endR_ini, iniV_nil, iniV_cons, isBI_int, isBI_str, isBI_lst, isBI_tup, isBI_ins, isBI_rf, isBI_bl, isBI_kl, isBI_non, isBI_dct, Nat.reduceLT, Nat.one_ne_zero, Nat.zero_ne_one])))
  | `(tactic| simp only [zzR]) => `(tactic| simp -dsimp only [↓Wq_for_nil, Wq_for_nil, ↓Wq_tryN, ↓Wq_end, ↓IfQ_true, ↓IfQ_false, ↓Wq_ok, ↓Wq_err, ↓Wq_nx, ↓Wq_rt, ↓Wq_ct, ↓Wq_bk, ↓Wq_er, Wq_tryN, Wq_end, Wq_noErr, IfQ_true, IfQ_false, Wq_ok, Wq_err, Wq_nx, Wq_rt, Wq_ct, Wq_bk, Wq_er, ↓bindQ_ok, ↓bindQ_err, ↓toSQ_ok, ↓toSQ_err, ↓thnQ_nx, ↓thnQ_rt, ↓thnQ_ct, ↓thnQ_bk, ↓thnQ_err, ↓endQ_rt, ↓endQ_nx, ↓endQ_ini, ↓noQ_ok, ↓okQ_ok, ↓goQ_nx, ↓goQ_ct, ↓goQ_bk, ↓goQ_rt, ↓itemQ_some, ↓itemQ_none, ↓itemS_ok, ↓tryNQ_rt, ↓tryNQ_nx, ↓whlQ_true, ↓whlQ_false, ↓ite_HR, ↓ite_HS, ↓IfH_true, ↓IfH_false, IfH_true, IfH_false, Wq_IfH, Wq_bindH, Wq_toSH, Wq_thnH, exB, ↓exS_for, ↓exS_whl, ↓evA_lc, exS, evE, evEs, evT, evO, evA, evI, evC, tru, truT, binT, addT, mulT, intT, isIns, insOf_non, binE_non, cmE_non, insOf_bl, binE_bl, cmE_bl, insOf_int, binE_int, cmE_int, insOf_str, binE_str, cmE_str, insOf_lst, binE_lst, cmE_lst, insOf_tup, binE_tup, cmE_tup, insOf_dct, binE_dct, cmE_dct, insOf_kl, binE_kl, cmE_kl, insOf_bL, binE_bL, cmE_bL, insOf_bD, binE_bD, cmE_bD, insOf_ins, insOf_bI, insOf_rf, binE_rf, cmE_rf, fldT_ins, fldT_bI, fldT_rf, mx_0, mx_1, mx_2, mx_3, mx_4, mx_5, mx_01, mx_02, mx_03, mx_04, mx_05, cmpT, icmp, oR, idxT, idxSq, slT, bfT, intF, lenF, lenT, absF, gcdF, min2F, max2F, tupF, sumF, seqOf, lstOf, lstOf', walkOf_lst, walkOf_tup, walkOf_kl, walkOf_str, putI, stF, lkF, putF, lkN, kdAny, kd_non, kd_bl, kd_int, kd_str, kd_tup, kd_lst, kd_bL, kd_kl, kd_ins, kk_ii, kk_ib, kk_bi, kk_bb, kk_ss, kk_tt, kk_ll, kk_tl, kk_lt, kk_is, kk_si, kk_it, kk_il, kk_ti, kk_li, kk_st, kk_sl, kk_ts, kk_ls, onL, mbT, pl_non, pl_bl, pl_int, pl_str, pl_lst, pl_tup, pl_ins, pl_dct, pl_rf, pl_kl, pl_exc, pl_bL, pl_bD, pl_bI, arrT, isExc, isT, isNon, isBlv, ↓R.bind_H, R.bindH_ok, ↓R.toS_H, R.toSH_ok, ↓RS.thn_H, RS.thnH_nx, RS.thnH_rt, startT, setT, wipeT, freeTg, eqT_int, eqT_bl, List.all_cons, List.all_nil, List.map_cons, List.map_nil, List.zip_cons_cons, List.zip_nil_left, List.zip_nil_right, List.foldl_cons, List.foldl_nil, List.cons_append, List.nil_append, List.replicate, List.length_cons, List.length_nil, List.getElem?_cons_zero, List.getElem?_cons_succ, List.set_cons_zero, List.set_cons_succ, List.isEmpty_cons, List.isEmpty_nil, atI_0, atI_1, atI_2, atI_3, atI_4, ix51, ix52, ix53, ix54, Option.map_some, Option.map_none, Option.isSome_none, Option.isSome_some, Option.isNone_none, Option.isNone_some, eq_self, Option.bind_some, if_true, if_false, Bool.false_eq_true, Bool.and_false, Bool.false_and, Bool.not_false, Bool.not_true, Bool.and_true, Bool.true_and, Bool.or_false, Bool.or_true, Bool.false_or, Bool.true_or, Nat.reduceAdd, Nat.reduceSub, Nat.reduceEqDiff, freeS_eq, freeO_none, freeO_some, decide_true, decide_false, reduceCtorEq, endR_rt, endR_nx, endR_ini, iniV_nil, iniV_cons, isBI_int, isBI_str, isBI_lst, isBI_tup, isBI_ins, isBI_rf, isBI_bl, isBI_kl, isBI_non, isBI_dct, Nat.reduceLT, Nat.one_ne_zero, Nat.zero_ne_one])

namespace K47
/-! ### chances of words (chance.lx): over, under, state -/
abbrev Lv := Nat × Nat × Nat
def stepL (rs : List Rw) (b : Bool) (x : Lv) : Lv := (x.1 * wgt (at' rs x.2.2) b, x.2.1 * sm (at' rs x.2.2), nxt (at' rs x.2.2) b)
def bothL (rs : List Rw) (x : Lv) : List Lv := [stepL rs false x, stepL rs true x]
def levL (rs : List Rw) : Nat → List Lv
  | 0 => [(1, 1, 0)]
  | n + 1 => (levL rs n).flatMap (bothL rs)
structure LvOk (rs : List Rw) (n : Nat) (x : Lv) : Prop where
  s : x.2.2 < rs.length
  p : 0 < x.2.1
  u : x.2.1 ≤ 2000 ^ n
  o : x.1 ≤ x.2.1
theorem wgt_le (r : Rw) (b : Bool) : wgt r b ≤ sm r := by unfold wgt sm; cases b <;> simp <;> omega
theorem stepL_ok {rs : List Rw} {n : Nat} {x : Lv} (ok : SrcOk rs) (h : LvOk rs n x) (b : Bool) : LvOk rs (n + 1) (stepL rs b x) := by
  have k := at_ok ok h.s
  have kp := k.p; have ka := k.a; have kb := k.b
  refine ⟨?_, ?_, ?_, ?_⟩
  · show nxt _ b < _
    unfold nxt; cases b
    · exact k.s
    · exact k.t
  · exact Nat.mul_pos h.p (by unfold sm; omega)
  · rw [Nat.pow_succ]; exact Nat.mul_le_mul h.u (by unfold sm; omega)
  · exact Nat.mul_le_mul h.o (wgt_le _ b)
theorem lev_ok {rs : List Rw} (ok : SrcOk rs) : ∀ n, ∀ x ∈ levL rs n, LvOk rs n x := by
  intro n
  induction n with
  | zero =>
    intro x hx
    have : x = (1, 1, 0) := by simpa [levL] using hx
    subst this
    exact ⟨ok.ne, by decide, by decide, by decide⟩
  | succ n ih =>
    intro x hx
    obtain ⟨y, hy, hx⟩ := List.mem_flatMap.mp hx
    have : x = stepL rs false y ∨ x = stepL rs true y := by simpa [bothL] using hx
    rcases this with rfl | rfl <;> exact stepL_ok ok (ih y hy) _
theorem lev_len (rs : List Rw) : ∀ n, (levL rs n).length = 2 ^ n := by
  intro n
  induction n with
  | zero => rfl
  | succ n ih =>
    have : ∀ l : List Lv, (l.flatMap (bothL rs)).length = 2 * l.length := by
      intro l
      induction l with
      | nil => rfl
      | cons a l ih => rw [List.flatMap_cons, List.length_append, ih, List.length_cons]; show 2 + _ = _; omega
    show ((levL rs n).flatMap (bothL rs)).length = _
    rw [this, ih, Nat.pow_succ]; omega
def qL (x : Lv) : Rat := ((x.1 : Int) : Rat) / ((x.2.1 : Int) : Rat)
theorem qL_Sz {rs : List Rw} {n : Nat} {x : Lv} (h : LvOk rs n x) (hn : n ≤ 100) : Sz (qL x) := by
  have hp := h.p; have hu := h.u; have ho := h.o
  have e : (2000 : Nat) ^ n < Big := by
    refine Nat.lt_of_le_of_lt (Nat.pow_le_pow_right (by decide) hn) ?_
    refine Nat.lt_of_le_of_lt (Nat.pow_le_pow_left (show 2000 ≤ 2 ^ 11 by decide) 100) ?_
    rw [← Nat.pow_mul]; exact Nat.pow_lt_pow_right (by decide) (by decide)
  exact Sz_div _ _ (by omega) (by omega) (by omega)
theorem qL_step {rs : List Rw} {n : Nat} {x : Lv} (ok : SrcOk rs) (h : LvOk rs n x) (b : Bool) : qL x * (((wgt (at' rs x.2.2) b : Nat) : Int) / ((sm (at' rs x.2.2) : Nat) : Int) : Rat) = qL (stepL rs b x) := by
  have k := at_ok ok h.s
  have kp := k.p; have hp := h.p
  have n1 : (((x.2.1 : Nat) : Int) : Rat) ≠ 0 := fun z => by have : ((x.2.1 : Nat) : Int) = 0 := by exact_mod_cast z
                                                             omega
  have n2 : (((sm (at' rs x.2.2) : Nat) : Int) : Rat) ≠ 0 := fun z => by have : ((sm (at' rs x.2.2) : Nat) : Int) = 0 := by exact_mod_cast z
                                                                         unfold sm at this; omega
  unfold qL stepL
  rw [Int.natCast_mul, Int.natCast_mul, Rat.intCast_mul, Rat.intCast_mul]
  grind
theorem small_Sz (rs : List Rw) (s : Nat) (b : Bool) (ok : SrcOk rs) (hs : s < rs.length) : Sz (((wgt (at' rs s) b : Nat) : Int) / ((sm (at' rs s) : Nat) : Int) : Rat) := by
  have k := at_ok ok hs
  have kp := k.p; have ka := k.a; have kb := k.b
  have w := wgt_le (at' rs s) b
  have hs : sm (at' rs s) ≤ 2000 := by unfold sm; omega
  exact Sz_div _ _ (by unfold sm; omega) (big_n (by omega)) (big_n (by omega))
def tL (x : Lv) : T := .tup [.int (x.2.2 : Int), sh (qL x)]
def sL (x : Lv) : T := sh (qL x)
theorem one_sh : (((1 : Int) : Rat) / ((1 : Int) : Rat)) = 1 := by grind
theorem lk_chin (rs : List Rw) : lkF 2 (srF rs) = none := rfl
theorem lk_nxof (rs : List Rw) : lkF 3 (srF rs) = none := rfl
theorem bit_run (W d : Nat) (rs : List Rw) (n : Nat) (hn : n ≤ 100) (ok : SrcOk rs) (x : Lv) (hx : LvOk rs n x) (b : Bool) (nI : T) (fnd : T) (jI : T) (acc : List T) (h : Hl) (ha : acc.length ≤ 1000000) (Q : RS → Prop)
    (k : Q (.nx [some (src rs), some nI, some fnd, some jI, some (.bL (acc ++ [tL (stepL rs b x)])), some (.int (x.2.2 : Int)), some (sh (qL x)), some (.int (bI' b))] h)) :
    Wq (bodyF prog (run prog W (d + 2)) W b_chances_of_L3 [some (src rs), some nI, some fnd, some jI, some (.bL acc), some (.int (x.2.2 : Int)), some (sh (qL x)), some (.int (bI' b))] h) Q Tg.mk := by
  have e1 := nxof_run W (d + 1) rs x.2.2 b h ok hx.s
  have e2 := chin_run W d rs x.2.2 b h ok hx.s
  have e3 := bin_mul W d (qL x) _ h (qL_Sz hx hn) (small_Sz rs x.2.2 b ok hx.s)
  rw [qL_step ok hx b] at e3
  have l := lt_of' ha
  simp only [zzR, bodyF, b_chances_of_L3, isBI_src, insOf_src, plainT_src, states_src, src_fold, src_cls, isBI_sh, insOf_sh, plainT_sh, isBor_sh, isExc_sh, over_sh, under_sh, kd_sh, sh_fold, sh_cls, lk_chin, lk_nxof, e1, e2, e3, l]
  exact k
theorem chances_run (W d : Nat) (rs : List Rw) (n : Nat) (hn : n ≤ 8) (h : Hl) (ok : SrcOk rs) : Wp (run prog W (d + 3) 6 [src rs, .int (n : Int)] h) (fun v h' => v = .lst ((levL rs n).map sL) ∧ h' = h) := by
  have e0 := newT_sh W (d + 1) 1 1 h (by decide) (Nat.one_lt_pow (by decide) (by decide))
  rw [one_sh] at e0
  have q1 : qL (1, 1, 0) = 1 := one_sh
  refine Wq.run (rfl : prog.defs[6]? = some ⟨2, 8, b_chances_of⟩) rfl ?_
  simp only [zzG, b_chances_of, isBI_src, insOf_src, plainT_src, states_src, src_fold, src_cls, isBI_sh, insOf_sh, plainT_sh, isBor_sh, isExc_sh, over_sh, under_sh, kd_sh, sh_fold, sh_cls, e0]
  refine Wq.forR (fun j σ h' => h' = h ∧ ∃ o3 o4 o5 o6 o7, nb o3 ∧ nb o4 ∧ nb o5 ∧ nb o6 ∧ nb o7 ∧ σ = [some (src rs), some (.int (n : Int)), some (.lst ((levL rs j).map tL)), o3, o4, o5, o6, o7]) ⟨rfl, none, none, none, none, none, nb_none, nb_none, nb_none, nb_none, nb_none, by rw [show levL rs 0 = [(1, 1, 0)] from rfl, List.map_cons, List.map_nil, tL, q1]; rfl⟩ ?_ ?_
  · rintro j σ h' hj ⟨rfl, o3, o4, o5, o6, o7, n3, n4, n5, n6, n7, rfl⟩
    refine ⟨n3, ?_⟩
    have lo := lev_ok ok j
    have ll := lev_len rs j
    have lj : 2 ^ j ≤ 2 ^ 8 := Nat.pow_le_pow_right (by decide) (by omega)
    unfold nb at *
    simp only [zzR, bodyF, b_chances_of_L1, isBI_src, insOf_src, plainT_src, states_src, src_fold, src_cls, n4]
    refine Wq.forI (fun m σ h'' => h'' = h' ∧ ∃ o5 o6 o7, nb o5 ∧ nb o6 ∧ nb o7 ∧ σ = [some (src rs), some (.int (n : Int)), some (.lst ((levL rs j).map tL)), some (.int (0 + (j : Int))), some (.bL ((((levL rs j).take m).flatMap (bothL rs)).map tL)), o5, o6, o7]) ⟨rfl, o5, o6, o7, n5, n6, n7, rfl⟩ ?_ ?_
    · rintro m x σ h'' hx ⟨rfl, p5, p6, p7, n5, n6, n7, rfl⟩
      rw [List.getElem?_map] at hx
      cases hy : (levL rs j)[m]? with
      | none => rw [hy] at hx; cases hx
      | some y =>
        rw [hy] at hx; cases hx
        have oy := lo y (List.mem_of_getElem? hy)
        unfold nb at *
        refine ⟨by simp only [freeTg, freeS_eq, List.getElem?_cons_succ, List.getElem?_cons_zero, n5, n6, List.all_cons, List.all_nil, Bool.and_true], _, rfl, ?_⟩
        show Wq (bodyF _ _ _ _ [some (src rs), some (.int (n : Int)), some (.lst ((levL rs j).map tL)), some (.int (0 + (j : Int))), some (.bL ((((levL rs j).take m).flatMap (bothL rs)).map tL)), some (.int (y.2.2 : Int)), some (sh (qL y)), p7] h'') _ _
        have lt : ((((levL rs j).take m).flatMap (bothL rs)).map tL).length ≤ 10000 := by
          have : ∀ l : List Lv, (l.flatMap (bothL rs)).length = 2 * l.length := by
            intro l
            induction l with
            | nil => rfl
            | cons a l ih => rw [List.flatMap_cons, List.length_append, ih, List.length_cons]; show 2 + _ = _; omega
          rw [List.length_map, this, List.length_take]; omega
        generalize hA : ((((levL rs j).take m).flatMap (bothL rs)).map tL) = A at lt ⊢
        simp only [zzR, bodyF, b_chances_of_L2]
        refine Wq_for_cons n7 ?_
        refine bit_run W d rs j (by omega) ok y oy false _ _ _ A h'' (by omega) _ ?_
        simp only [zzR]
        refine Wq_for_cons rfl ?_
        refine bit_run W d rs j (by omega) ok y oy true _ _ _ _ h'' (by rw [List.length_append, List.length_cons, List.length_nil]; omega) _ ?_
        simp only [zzR]
        refine ⟨by trivial, some (.int (y.2.2 : Int)), some (sh (qL y)), some (.int (bI' true)), nb_i _, nb_of (isBI_sh _), nb_i _, ?_⟩
        rw [take_S hy, List.flatMap_append, List.map_append, hA]
        simp [bothL]
    · rintro σ h'' ⟨rfl, p5, p6, p7, n5, n6, n7, rfl⟩
      rw [List.length_map, List.take_length]
      simp only [zzR]
      exact ⟨by trivial, _, some (.lst ((levL rs (j + 1)).map tL)), p5, p6, p7, nb_i _, nb_of rfl, n5, n6, n7, rfl⟩
  · rintro σ h' ⟨rfl, o3, o4, o5, o6, o7, n3, n4, n5, n6, n7, rfl⟩
    have jn : ((n : Int) - 0).toNat = n := by omega
    rw [jn]
    have ll := lev_len rs n
    have lj : 2 ^ n ≤ 2 ^ 8 := Nat.pow_le_pow_right (by decide) (by omega)
    have c := lc_pure (f := bodyL prog (run prog W (d + 2)) Eo.none b_chances_of_C1) (tg := [3, 6]) (σ := [some (src rs), some (.int (n : Int)), some (.lst ((levL rs n).map tL)), none, o4, o5, none, o7]) (h := h') tL sL (levL rs n) fun a _ => ⟨plainT_sh _, _, rfl, rfl⟩
    have m : (((levL rs n).map tL).length ≤ maxLen) = True := by rw [List.length_map, ll]; simp only [maxLen, eq_iff_iff, iff_true]; omega
    simp only [zzR, isBI_src, insOf_src, plainT_src, states_src, src_fold, src_cls, m, c]
    exact ⟨by trivial, by trivial⟩
end K47
end
section
set_option maxRecDepth 100000
set_option maxHeartbeats 4000000
set_option linter.all false
open Kb
local macro_rules
  | `(tactic| simp only [zzO, $as,*]) => `(tactic| simp only [exB, ↓exS_for, ↓exS_whl, ↓evA_lc, exS, evE, evEs, evT, evO, evA, evI, evC, tru, truT, binT, addT, mulT, intT, isIns, insOf_non, binE_non, cmE_non, insOf_bl, binE_bl, cmE_bl, insOf_int, binE_int, cmE_int, insOf_str, binE_str, cmE_str, insOf_lst, binE_lst, cmE_lst, insOf_tup, binE_tup, cmE_tup, insOf_dct, binE_dct, cmE_dct, insOf_kl, binE_kl, cmE_kl, insOf_bL, binE_bL, cmE_bL, insOf_bD, binE_bD, cmE_bD, insOf_ins, insOf_bI, insOf_rf, binE_rf, cmE_rf, fldT_ins, fldT_bI, fldT_rf, mx_0, mx_1, mx_2, mx_3, mx_4, mx_5, mx_01, mx_02, mx_03, mx_04, mx_05, cmpT, icmp, oR, idxT, idxSq, slT, bfT, intF, lenF, lenT, absF, gcdF, min2F, max2F, tupF, sumF, seqOf, lstOf, lstOf', walkOf_lst, walkOf_tup, walkOf_kl, walkOf_str, putI, stF, lkF, putF, lkN, kdAny, kd_non, kd_bl, kd_int, kd_str, kd_tup, kd_lst, kd_bL, kd_kl, kd_ins, kk_ii, kk_ib, kk_bi, kk_bb, kk_ss, kk_tt, kk_ll, kk_tl, kk_lt, kk_is, kk_si, kk_it, kk_il, kk_ti, kk_li, kk_st, kk_sl, kk_ts, kk_ls, onL, mbT, pl_non, pl_bl, pl_int, pl_str, pl_lst, pl_tup, pl_ins, pl_dct, pl_rf, pl_kl, pl_exc, pl_bL, pl_bD, pl_bI, arrT, isExc, isT, isNon, isBlv, ↓R.bind_H, R.bindH_ok, ↓R.toS_H, R.toSH_ok, R.noErr_ok, ↓RS.thn_H, RS.thnH_nx, RS.thnH_rt, R.bindH_ite, R.toSH_ite, RS.thnH_ite, startT, setT, wipeT, freeTg, eqT_int, eqT_bl, List.all_cons, List.all_nil, List.map_cons, List.map_nil, List.zip_cons_cons, List.zip_nil_left, List.zip_nil_right, List.foldl_cons, List.foldl_nil, List.cons_append, List.nil_append, List.replicate, List.length_cons, List.length_nil, List.getElem?_cons_zero, List.getElem?_cons_succ, List.set_cons_zero, List.set_cons_succ, List.isEmpty_cons, List.isEmpty_nil, atI_0, atI_1, atI_2, atI_3, atI_4, ix51, ix52, ix53, ix54, Option.map_some, Option.map_none, Option.isSome_none, Option.isSome_some, Option.isNone_none, Option.isNone_some, eq_self, Option.bind_some, if_true, if_false, Bool.false_eq_true, Bool.and_false, Bool.false_and, Bool.not_false, Bool.not_true, Bool.and_true, Bool.true_and, Bool.or_false, Bool.or_true, Bool.false_or, Bool.true_or, Nat.reduceAdd, Nat.reduceSub, Nat.reduceEqDiff, freeS_eq, freeO_none, freeO_some, decide_true, decide_false, reduceCtorEq, endR_rt, endR_nx, endR_ini, endR_ite, iniV_nil, iniV_cons, isBI_int, isBI_str, isBI_lst, isBI_tup, isBI_ins, isBI_rf, isBI_bl, isBI_kl, isBI_non, isBI_dct, Nat.reduceLT, Nat.one_ne_zero, Nat.zero_ne_one, $as,*])
  | `(tactic| simp only [zzR, $as,*]) => `(tactic| simp -dsimp only [↓Wq_for_nil, Wq_for_nil, ↓Wq_tryN, ↓Wq_end, ↓IfQ_true, ↓IfQ_false, ↓Wq_ok, ↓Wq_err, ↓Wq_nx, ↓Wq_rt, ↓Wq_ct, ↓Wq_bk, ↓Wq_er, Wq_tryN, Wq_end, Wq_noErr, IfQ_true, IfQ_false, Wq_ok, Wq_err, Wq_nx, Wq_rt, Wq_ct, Wq_bk, Wq_er, ↓bindQ_ok, ↓bindQ_err, ↓toSQ_ok, ↓toSQ_err, ↓thnQ_nx, ↓thnQ_rt, ↓thnQ_ct, ↓thnQ_bk, ↓thnQ_err, ↓endQ_rt, ↓endQ_nx, ↓endQ_ini, ↓noQ_ok, ↓okQ_ok, ↓goQ_nx, ↓goQ_ct, ↓goQ_bk, ↓goQ_rt, ↓itemQ_some, ↓itemQ_none, ↓itemS_ok, ↓tryNQ_rt, ↓tryNQ_nx, ↓whlQ_true, ↓whlQ_false, ↓ite_HR, ↓ite_HS, ↓IfH_true, ↓IfH_false, IfH_true, IfH_false, Wq_IfH, Wq_bindH, Wq_toSH, Wq_thnH, exB, ↓exS_for, ↓exS_whl, ↓evA_lc, exS, evE, evEs, evT, evO, evA, evI, evC, tru, truT, binT, addT, mulT, intT, isIns, insOf_non, binE_non, cmE_non, insOf_bl, binE_bl, cmE_bl, insOf_int, binE_int, cmE_int, insOf_str, binE_str, cmE_str, insOf_lst, binE_lst, cmE_lst, insOf_tup, binE_tup, cmE_tup, insOf_dct, binE_dct, cmE_dct, insOf_kl, binE_kl, cmE_kl, insOf_bL, binE_bL, cmE_bL, insOf_bD, binE_bD, cmE_bD, insOf_ins, insOf_bI, insOf_rf, binE_rf, cmE_rf, fldT_ins, fldT_bI, fldT_rf, mx_0, mx_1, mx_2, mx_3, mx_4, mx_5, mx_01, mx_02, mx_03, mx_04, mx_05, cmpT, icmp, oR, idxT, idxSq, slT, bfT, intF, lenF, lenT, absF, gcdF, min2F, max2F, tupF, sumF, seqOf, lstOf, lstOf', walkOf_lst, walkOf_tup, walkOf_kl, walkOf_str, putI, stF, lkF, putF, lkN, kdAny, kd_non, kd_bl, kd_int, kd_str, kd_tup, kd_lst, kd_bL, kd_kl, kd_ins, kk_ii, kk_ib, kk_bi, kk_bb, kk_ss, kk_tt, kk_ll, kk_tl, kk_lt, kk_is, kk_si, kk_it, kk_il, kk_ti, kk_li, kk_st, kk_sl, kk_ts, kk_ls, onL, mbT, pl_non, pl_bl, pl_int, pl_str, pl_lst, pl_tup, pl_ins, pl_dct, pl_rf, pl_kl, pl_exc, pl_bL, pl_bD, pl_bI, arrT, isExc, isT, isNon, isBlv, ↓R.bind_H, R.bindH_ok, ↓R.toS_H, R.toSH_ok, ↓RS.thn_H, RS.thnH_nx, RS.thnH_rt, startT, setT, wipeT, freeTg, eqT_int, eqT_bl, List.all_cons, List.all_nil, List.map_cons, List.map_nil, List.zip_cons_cons, List.zip_nil_left, List.zip_nil_right, List.foldl_cons, List.foldl_nil, List.cons_append, List.nil_append, List.replicate, List.length_cons, List.length_nil, List.getElem?_cons_zero, List.getElem?_cons_succ, List.set_cons_zero, List.set_cons_succ, List.isEmpty_cons, List.isEmpty_nil, atI_0, atI_1, atI_2, atI_3, atI_4, ix51, ix52, ix53, ix54, Option.map_some, Option.map_none, Option.isSome_none, Option.isSome_some, Option.isNone_none, Option.isNone_some, eq_self, Option.bind_some, if_true, if_false, Bool.false_eq_true, Bool.and_false, Bool.false_and, Bool.not_false, Bool.not_true, Bool.and_true, Bool.true_and, Bool.or_false, Bool.or_true, Bool.false_or, Bool.true_or, Nat.reduceAdd, Nat.reduceSub, Nat.reduceEqDiff, freeS_eq, freeO_none, freeO_some, decide_true, decide_false, reduceCtorEq, endR_rt, endR_nx, endR_ini, iniV_nil, iniV_cons, isBI_int, isBI_str, isBI_lst, isBI_tup, isBI_ins, isBI_rf, isBI_bl, isBI_kl, isBI_non, isBI_dct, Nat.reduceLT, Nat.one_ne_zero, Nat.zero_ne_one, $as,*])
  | `(tactic| simp only [zzG, $as,*]) => `(tactic| (simp -dsimp only [↓Wq_for_nil, Wq_for_nil, ↓Wq_tryN, ↓Wq_end, ↓IfQ_true, ↓IfQ_false, ↓Wq_ok, ↓Wq_err, ↓Wq_nx, ↓Wq_rt, ↓Wq_ct, ↓Wq_bk, ↓Wq_er, Wq_tryN, Wq_end, Wq_noErr, IfQ_true, IfQ_false, Wq_ok, Wq_err, Wq_nx, Wq_rt, Wq_ct, Wq_bk, Wq_er, ↓bindQ_ok, ↓bindQ_err, ↓toSQ_ok, ↓toSQ_err, ↓thnQ_nx, ↓thnQ_rt, ↓thnQ_ct, ↓thnQ_bk, ↓thnQ_err, ↓endQ_rt, ↓endQ_nx, ↓endQ_ini, ↓noQ_ok, ↓okQ_ok, ↓goQ_nx, ↓goQ_ct, ↓goQ_bk, ↓goQ_rt, ↓itemQ_some, ↓itemQ_none, ↓itemS_ok, ↓tryNQ_rt, ↓tryNQ_nx, ↓whlQ_true, ↓whlQ_false, ↓ite_HR, ↓ite_HS, ↓IfH_true, ↓IfH_false, IfH_true, IfH_false, Wq_IfH, Wq_bindH, Wq_toSH, Wq_thnH, exB, ↓exS_for, ↓exS_whl, ↓evA_lc, exS, evE, evEs, evT, evO, evA, evI, evC, tru, truT, binT, addT, mulT, intT, isIns, insOf_non, binE_non, cmE_non, insOf_bl, binE_bl, cmE_bl, insOf_int, binE_int, cmE_int, insOf_str, binE_str, cmE_str, insOf_lst, binE_lst, cmE_lst, insOf_tup, binE_tup, cmE_tup, insOf_dct, binE_dct, cmE_dct, insOf_kl, binE_kl, cmE_kl, insOf_bL, binE_bL, cmE_bL, insOf_bD, binE_bD, cmE_bD, insOf_ins, insOf_bI, insOf_rf, binE_rf, cmE_rf, fldT_ins, fldT_bI, fldT_rf, mx_0, mx_1, mx_2, mx_3, mx_4, mx_5, mx_01, mx_02, mx_03, mx_04, mx_05, cmpT, icmp, oR, idxT, idxSq, slT, bfT, intF, lenF, lenT, absF, gcdF, min2F, max2F, tupF, sumF, seqOf, lstOf, lstOf', walkOf_lst, walkOf_tup, walkOf_kl, walkOf_str, putI, stF, lkF, putF, lkN, kdAny, kd_non, kd_bl, kd_int, kd_str, kd_tup, kd_lst, kd_bL, kd_kl, kd_ins, kk_ii, kk_ib, kk_bi, kk_bb, kk_ss, kk_tt, kk_ll, kk_tl, kk_lt, kk_is, kk_si, kk_it, kk_il, kk_ti, kk_li, kk_st, kk_sl, kk_ts, kk_ls, onL, mbT, pl_non, pl_bl, pl_int, pl_str, pl_lst, pl_tup, pl_ins, pl_dct, pl_rf, pl_kl, pl_exc, pl_bL, pl_bD, pl_bI, arrT, isExc, isT, isNon, isBlv, ↓R.bind_H, R.bindH_ok, ↓R.toS_H, R.toSH_ok, ↓RS.thn_H, RS.thnH_nx, RS.thnH_rt, startT, setT, wipeT, freeTg, eqT_int, eqT_bl, List.all_cons, List.all_nil, List.map_cons, List.map_nil, List.zip_cons_cons, List.zip_nil_left, List.zip_nil_right, List.foldl_cons, List.foldl_nil, List.cons_append, List.nil_append, List.replicate, List.length_cons, List.length_nil, List.getElem?_cons_zero, List.getElem?_cons_succ, List.set_cons_zero, List.set_cons_succ, List.isEmpty_cons, List.isEmpty_nil, atI_0, atI_1, atI_2, atI_3, atI_4, ix51, ix52, ix53, ix54, Option.map_some, Option.map_none, Option.isSome_none, Option.isSome_some, Option.isNone_none, Option.isNone_some, eq_self, Option.bind_some, if_true, if_false, Bool.false_eq_true, Bool.and_false, Bool.false_and, Bool.not_false, Bool.not_true, Bool.and_true, Bool.true_and, Bool.or_false, Bool.or_true, Bool.false_or, Bool.true_or, Nat.reduceAdd, Nat.reduceSub, Nat.reduceEqDiff, freeS_eq, freeO_none, freeO_some, decide_true, decide_false, reduceCtorEq, endR_rt, endR_nx, endR_ini, iniV_nil, iniV_cons, isBI_int, isBI_str, isBI_lst, isBI_tup, isBI_ins, isBI_rf, isBI_bl, isBI_kl, isBI_non, isBI_dct, Nat.reduceLT, Nat.one_ne_zero, Nat.zero_ne_one, $as,*]; repeat (first | refine IfQ.yes (mulOk_of (by omega) (by omega) (by omega) (by omega)) ?_ | refine IfQ.yes (divOk_of (by omega) (by omega) (by omega)) ?_ | refine IfQ.yes (by decide) ?_ | refine IfQ.no (by decide) ?_ | refine IfQ.yes (rngOk_of (by (try simp only [List.length_map, List.length_append, List.length_cons, List.length_nil, List.length_range]); omega) (by (try simp only [List.length_map, List.length_append, List.length_cons, List.length_nil, List.length_range]); omega)) ?_ | refine IfQ.yes (len_of (by simp only [List.length_map, List.length_append, List.length_cons, List.length_nil, List.length_replicate, rngT_len]; omega)) ?_ | refine IfQ.yes (shlOk_of (by omega) (by omega) (by omega) (by omega)) ?_ | simp -dsimp only [↓Wq_for_nil, Wq_for_nil, ↓Wq_tryN, ↓Wq_end, ↓IfQ_true, ↓IfQ_false, ↓Wq_ok, ↓Wq_err, ↓Wq_nx, ↓Wq_rt, ↓Wq_ct, ↓Wq_bk, ↓Wq_er, Wq_tryN, Wq_end, Wq_noErr, IfQ_true, IfQ_false, Wq_ok, Wq_err, Wq_nx, Wq_rt, Wq_ct, Wq_bk, Wq_er, ↓bindQ_ok, ↓bindQ_err, ↓toSQ_ok, ↓toSQ_err, ↓thnQ_nx, ↓thnQ_rt, ↓thnQ_ct, ↓thnQ_bk, ↓thnQ_err, ↓endQ_rt, ↓endQ_nx, ↓endQ_ini, ↓noQ_ok, ↓okQ_ok, ↓goQ_nx, ↓goQ_ct, ↓goQ_bk, ↓goQ_rt, ↓itemQ_some, ↓itemQ_none, ↓itemS_ok, ↓tryNQ_rt, ↓tryNQ_nx, ↓whlQ_true, ↓whlQ_false, ↓ite_HR, ↓ite_HS, ↓IfH_true, ↓IfH_false, IfH_true, IfH_false, Wq_IfH, Wq_bindH, Wq_toSH, Wq_thnH, exB, ↓exS_for, ↓exS_whl, ↓evA_lc, exS, evE, evEs, evT, evO, evA, evI, evC, tru, truT, binT, addT, mulT, intT, isIns, insOf_non, binE_non, cmE_non, insOf_bl, binE_bl, cmE_bl, insOf_int, binE_int, cmE_int, insOf_str, binE_str, cmE_str, insOf_lst, binE_lst, cmE_lst, insOf_tup, binE_tup, cmE_tup, insOf_dct, binE_dct, cmE_dct, insOf_kl, binE_kl, cmE_kl, insOf_bL, binE_bL, cmE_bL, insOf_bD, binE_bD, cmE_bD, insOf_ins, insOf_bI, insOf_rf, binE_rf, cmE_rf, fldT_ins, fldT_bI, fldT_rf, mx_0, mx_1, mx_2, mx_3, mx_4, mx_5, mx_01, mx_02, mx_03, mx_04, mx_05, cmpT, icmp, oR, idxT, idxSq, slT, bfT, intF, lenF, lenT, absF, gcdF, min2F, max2F, tupF, sumF, seqOf, lstOf, lstOf', walkOf_lst, walkOf_tup, walkOf_kl, walkOf_str, putI, stF, lkF, putF, lkN, kdAny, kd_non, kd_bl, kd_int, kd_str, kd_tup, kd_lst, kd_bL, kd_kl, kd_ins, kk_ii, kk_ib, kk_bi, kk_bb, kk_ss, kk_tt, kk_ll, kk_tl, kk_lt, kk_is, kk_si, kk_it, kk_il, kk_ti, kk_li, kk_st, kk_sl, kk_ts, kk_ls, onL, mbT, pl_non, pl_bl, pl_int, pl_str, pl_lst, pl_tup, pl_ins, pl_dct, pl_rf, pl_kl, pl_exc, pl_bL, pl_bD, pl_bI, arrT, isExc, isT, isNon, isBlv, ↓R.bind_H, R.bindH_ok, ↓R.toS_H, R.toSH_ok, ↓RS.thn_H, RS.thnH_nx, RS.thnH_rt, startT, setT, wipeT, freeTg, eqT_int, eqT_bl, List.all_cons, List.all_nil, List.map_cons, List.map_nil, List.zip_cons_cons, List.zip_nil_left, List.zip_nil_right, List.foldl_cons, List.foldl_nil, List.cons_append, List.nil_append, List.replicate, List.length_cons, List.length_nil, List.getElem?_cons_zero, List.getElem?_cons_succ, List.set_cons_zero, List.set_cons_succ, List.isEmpty_cons, List.isEmpty_nil, atI_0, atI_1, atI_2, atI_3, atI_4, ix51, ix52, ix53, ix54, Option.map_some, Option.map_none, Option.isSome_none, Option.isSome_some, Option.isNone_none, Option.isNone_some, eq_self, Option.bind_some, if_true, if_false, Bool.false_eq_true, Bool.and_false, Bool.false_and, Bool.not_false, Bool.not_true, Bool.and_true, Bool.true_and, Bool.or_false, Bool.or_true, Bool.false_or, Bool.true_or, Nat.reduceAdd, Nat.reduceSub, Nat.reduceEqDiff, freeS_eq, freeO_none, freeO_some, decide_true, decide_false, reduceCtorEq, endR_rt, endR_nx, endR_ini, iniV_nil, iniV_cons, isBI_int, isBI_str, isBI_lst, isBI_tup, isBI_ins, isBI_rf, isBI_bl, isBI_kl, isBI_non, isBI_dct, Nat.reduceLT, Nat.one_ne_zero, Nat.zero_ne_one, $as,*])))
  | `(tactic| simp only [zzG]) => `(tactic| (simp -dsimp only [↓Wq_for_nil, Wq_for_nil, ↓Wq_tryN, ↓Wq_end, ↓IfQ_true, ↓IfQ_false, ↓Wq_ok, ↓Wq_err, ↓Wq_nx, ↓Wq_rt, ↓Wq_ct, ↓Wq_bk, ↓Wq_er, Wq_tryN, Wq_end, Wq_noErr, IfQ_true, IfQ_false, Wq_ok, Wq_err, Wq_nx, Wq_rt, Wq_ct, Wq_bk, Wq_er, ↓bindQ_ok, ↓bindQ_err, ↓toSQ_ok, ↓toSQ_err, ↓thnQ_nx, ↓thnQ_rt, ↓thnQ_ct, ↓thnQ_bk, ↓thnQ_err, ↓endQ_rt, ↓endQ_nx, ↓endQ_ini, ↓noQ_ok, ↓okQ_ok, ↓goQ_nx, ↓goQ_ct, ↓goQ_bk, ↓goQ_rt, ↓itemQ_some, ↓itemQ_none, ↓itemS_ok, ↓tryNQ_rt, ↓tryNQ_nx, ↓whlQ_true, ↓whlQ_false, ↓ite_HR, ↓ite_HS, ↓IfH_true, ↓IfH_false, IfH_true, IfH_false, Wq_IfH, Wq_bindH, Wq_toSH, Wq_thnH, exB, ↓exS_for, ↓exS_whl, ↓evA_lc, exS, evE, evEs, evT, evO, evA, evI, evC, tru, truT, binT, addT, mulT, intT, isIns, insOf_non, binE_non, cmE_non, insOf_bl, binE_bl, cmE_bl, insOf_int, binE_int, cmE_int, insOf_str, binE_str, cmE_str, insOf_lst, binE_lst, cmE_lst, insOf_tup, binE_tup, cmE_tup, insOf_dct, binE_dct, cmE_dct, insOf_kl, binE_kl, cmE_kl, insOf_bL, binE_bL, cmE_bL, insOf_bD, binE_bD, cmE_bD, insOf_ins, insOf_bI, insOf_rf, binE_rf, cmE_rf, fldT_ins, fldT_bI, fldT_rf, mx_0, mx_1, mx_2, mx_3, mx_4, mx_5, mx_01, mx_02, mx_03, mx_04, mx_05, cmpT, icmp, oR, idxT, idxSq, slT, bfT, intF, lenF, lenT, absF, gcdF, min2F, max2F, tupF, sumF, seqOf, lstOf, lstOf', walkOf_lst, walkOf_tup, walkOf_kl, walkOf_str, putI, stF, lkF, putF, lkN, kdAny, kd_non, kd_bl, kd_int, kd_str, kd_tup, kd_lst, kd_bL, kd_kl, kd_ins, kk_ii, kk_ib, kk_bi, kk_bb, kk_ss, kk_tt, kk_ll, kk_tl, kk_lt, kk_is, kk_si, kk_it, kk_il, kk_ti, kk_li, kk_st, kk_sl, kk_ts, kk_ls, onL, mbT, pl_non, pl_bl, pl_int, pl_str, pl_lst, pl_tup, pl_ins, pl_dct, pl_rf, pl_kl, pl_exc, pl_bL, pl_bD, pl_bI, arrT, isExc, isT, isNon, isBlv, ↓R.bind_H, R.bindH_ok, ↓R.toS_H, R.toSH_ok, ↓RS.thn_H, RS.thnH_nx, RS.thnH_rt, startT, setT, wipeT, freeTg, eqT_int, eqT_bl, List.all_cons, List.all_nil, List.map_cons, List.map_nil, List.zip_cons_cons, List.zip_nil_left, List.zip_nil_right, List.foldl_cons, List.foldl_nil, List.cons_append, List.nil_append, List.replicate, List.length_cons, List.length_nil, List.getElem?_cons_zero, List.getElem?_cons_succ, List.set_cons_zero, List.set_cons_succ, List.isEmpty_cons, List.isEmpty_nil, atI_0, atI_1, atI_2, atI_3, atI_4, ix51, ix52, ix53, ix54, Option.map_some, Option.map_none, Option.isSome_none, Option.isSome_some, Option.isNone_none, Option.isNone_some, eq_self, Option.bind_some, if_true, if_false, Bool.false_eq_true, Bool.and_false, Bool.false_and, Bool.not_false, Bool.not_true, Bool.and_true, Bool.true_and, Bool.or_false, Bool.or_true, Bool.false_or, Bool.true_or, Nat.reduceAdd, Nat.reduceSub, Nat.reduceEqDiff, freeS_eq, freeO_none, freeO_some, decide_true, decide_false, reduceCtorEq, endR_rt, endR_nx, endR_ini, iniV_nil, iniV_cons, isBI_int, isBI_str, isBI_lst, isBI_tup, isBI_ins, isBI_rf, isBI_bl, isBI_kl, isBI_non, isBI_dct, Nat.reduceLT, Nat.one_ne_zero, Nat.zero_ne_one]; repeat (first | refine IfQ.yes (mulOk_of (by omega) (by omega) (by omega) (by omega)) ?_ | refine IfQ.yes (divOk_of (by omega) (by omega) (by omega)) ?_ | refine IfQ.yes (by decide) ?_ | refine IfQ.no (by decide) ?_ | refine IfQ.yes (rngOk_of (by (try simp only [List.length_map, List.length_append, List.length_cons, List.length_nil, List.length_range]); omega) (by (try simp only [List.length_map, List.length_append, List.length_cons, List.length_nil, List.length_range]); omega)) ?_ | refine IfQ.yes (len_of (by simp only [List.length_map, List.length_append, List.length_cons, List.length_nil, List.length_replicate, rngT_len]; omega)) ?_ | refine IfQ.yes (shlOk_of (by omega) (by omega) (by omega) (by omega)) ?_ | simp -dsimp only [↓Wq_for_nil, Wq_for_nil, ↓Wq_tryN, ↓Wq_end, ↓IfQ_true, ↓IfQ_false, ↓Wq_ok, ↓Wq_err, ↓Wq_nx, ↓Wq_rt, ↓Wq_ct, ↓Wq_bk, ↓Wq_er, Wq_tryN, Wq_end, Wq_noErr, IfQ_true, IfQ_false, Wq_ok, Wq_err, Wq_nx, Wq_rt, Wq_ct, Wq_bk, Wq_er, ↓bindQ_ok, ↓bindQ_err, ↓toSQ_ok, ↓toSQ_err, ↓thnQ_nx, ↓thnQ_rt, ↓thnQ_ct, ↓thnQ_bk, ↓thnQ_err, ↓endQ_rt, ↓endQ_nx, ↓endQ_ini, ↓noQ_ok, ↓okQ_ok, ↓goQ_nx, ↓goQ_ct, ↓goQ_bk, ↓goQ_rt, ↓itemQ_some, ↓itemQ_none, ↓itemS_ok, ↓tryNQ_rt, ↓tryNQ_nx, ↓whlQ_true, ↓whlQ_false, ↓ite_HR, ↓ite_HS, ↓IfH_true, ↓IfH_false, IfH_true, IfH_false, Wq_IfH, Wq_bindH, Wq_toSH, Wq_thnH, exB, ↓exS_for, ↓exS_whl, ↓evA_lc, exS, evE, evEs, evT, evO, evA, evI, evC, tru, truT, binT, addT, mulT, intT, isIns, insOf_non, binE_non, cmE_non, insOf_bl, binE_bl, cmE_bl, insOf_int, binE_int, cmE_int, insOf_str, binE_str, cmE_str, insOf_lst, binE_lst, cmE_lst, insOf_tup, binE_tup, cmE_tup, insOf_dct, binE_dct, cmE_dct, insOf_kl, binE_kl, cmE_kl, insOf_bL, binE_bL, cmE_bL, insOf_bD, binE_bD, cmE_bD, insOf_ins, insOf_bI, insOf_rf, binE_rf, cmE_rf, fldT_ins, fldT_bI, fldT_rf, mx_0, mx_1, mx_2, mx_3, mx_4, mx_5, mx_01, mx_02, mx_03, mx_04, mx_05, cmpT, icmp, oR, idxT, idxSq, slT, bfT, intF, lenF, lenT, absF, gcdF, min2F, max2F, tupF, sumF, seqOf, lstOf, lstOf', walkOf_lst, walkOf_tup, walkOf_kl, walkOf_str, putI, stF, lkF, putF, lkN, kdAny, kd_non, kd_bl, kd_int, kd_str, kd_tup, kd_lst, kd_bL, kd_kl, kd_ins, kk_ii, kk_ib, kk_bi, kk_bb, kk_ss, kk_tt, kk_ll, kk_tl, kk_lt, kk_is, kk_si, kk_it, kk_il, kk_ti, kk_li, kk_st, kk_sl, kk_ts, kk_ls, onL, mbT, pl_non, pl_bl, pl_int, pl_str, pl_lst, pl_tup, pl_ins, pl_dct, pl_rf, pl_kl, pl_exc, pl_bL, pl_bD, pl_bI, arrT, isExc, isT, isNon, isBlv, ↓R.bind_H, R.bindH_ok, ↓R.toS_H, R.toSH_ok, ↓RS.thn_H, RS.thnH_nx, RS.thnH_rt, startT, setT, wipeT, freeTg, eqT_int, eqT_bl, List.all_cons, List.all_nil, List.map_cons, List.map_nil, List.zip_cons_cons, List.zip_nil_left, List.zip_nil_right, List.foldl_cons, List.foldl_nil, List.cons_append, List.nil_append, List.replicate, List.length_cons, List.length_nil, List.getElem?_cons_zero, List.getElem?_cons_succ, List.set_cons_zero, List.set_cons_succ, List.isEmpty_cons, List.isEmpty_nil, atI_0, atI_1, atI_2, atI_3, atI_4, ix51, ix52, ix53, ix54, Option.map_some, Option.map_none, Option.isSome_none, Option.isSome_some, Option.isNone_none, Option.isNone_some, eq_self, Option.bind_some, if_true, if_false, Bool.false_eq_true, Bool.and_false, Bool.false_and, Bool.not_false, Bool.not_true, Bool.and_true, Bool.true_and, Bool.or_false, Bool.or_true, Bool.false_or, Bool.true_or, Nat.reduceAdd, Nat.reduceSub, Nat.reduceEqDiff, freeS_eq, freeO_none, freeO_some, decide_true, decide_false, reduceCtorEq, endR_rt, endR_nx, endR_ini, iniV_nil, iniV_cons, isBI_int, isBI_str, isBI_lst, isBI_tup, isBI_ins, isBI_rf, isBI_bl, isBI_kl, isBI_non, isBI_dct, Nat.reduceLT, Nat.one_ne_zero, Nat.zero_ne_one])))
  | `(tactic| simp only [zzR]) => `(tactic| simp -dsimp only [↓Wq_for_nil, Wq_for_nil, ↓Wq_tryN, ↓Wq_end, ↓IfQ_true, ↓IfQ_false, ↓Wq_ok, ↓Wq_err, ↓Wq_nx, ↓Wq_rt, ↓Wq_ct, ↓Wq_bk, ↓Wq_er, Wq_tryN, Wq_end, Wq_noErr, IfQ_true, IfQ_false, Wq_ok, Wq_err, Wq_nx, Wq_rt, Wq_ct, Wq_bk, Wq_er, ↓bindQ_ok, ↓bindQ_err, ↓toSQ_ok, ↓toSQ_err, ↓thnQ_nx, ↓thnQ_rt, ↓thnQ_ct, ↓thnQ_bk, ↓thnQ_err, ↓endQ_rt, ↓endQ_nx, ↓endQ_ini, ↓noQ_ok, ↓okQ_ok, ↓goQ_nx, ↓goQ_ct, ↓goQ_bk, ↓goQ_rt, ↓itemQ_some, ↓itemQ_none, ↓itemS_ok, ↓tryNQ_rt, ↓tryNQ_nx, ↓whlQ_true, ↓whlQ_false, ↓ite_HR, ↓ite_HS, ↓IfH_true, ↓IfH_false, IfH_true, IfH_false, Wq_IfH, Wq_bindH, Wq_toSH, Wq_thnH, exB, ↓exS_for, ↓exS_whl, ↓evA_lc, exS, evE, evEs, evT, evO, evA, evI, evC, tru, truT, binT, addT, mulT, intT, isIns, insOf_non, binE_non, cmE_non, insOf_bl, binE_bl, cmE_bl, insOf_int, binE_int, cmE_int, insOf_str, binE_str, cmE_str, insOf_lst, binE_lst, cmE_lst, insOf_tup, binE_tup, cmE_tup, insOf_dct, binE_dct, cmE_dct, insOf_kl, binE_kl, cmE_kl, insOf_bL, binE_bL, cmE_bL, insOf_bD, binE_bD, cmE_bD, insOf_ins, insOf_bI, insOf_rf, binE_rf, cmE_rf, fldT_ins, fldT_bI, fldT_rf, mx_0, mx_1, mx_2, mx_3, mx_4, mx_5, mx_01, mx_02, mx_03, mx_04, mx_05, cmpT, icmp, oR, idxT, idxSq, slT, bfT, intF, lenF, lenT, absF, gcdF, min2F, max2F, tupF, sumF, seqOf, lstOf, lstOf', walkOf_lst, walkOf_tup, walkOf_kl, walkOf_str, putI, stF, lkF, putF, lkN, kdAny, kd_non, kd_bl, kd_int, kd_str, kd_tup, kd_lst, kd_bL, kd_kl, kd_ins, kk_ii, kk_ib, kk_bi, kk_bb, kk_ss, kk_tt, kk_ll, kk_tl, kk_lt, kk_is, kk_si, kk_it, kk_il, kk_ti, kk_li, kk_st, kk_sl, kk_ts, kk_ls, onL, mbT, pl_non, pl_bl, pl_int, pl_str, pl_lst, pl_tup, pl_ins, pl_dct, pl_rf, pl_kl, pl_exc, pl_bL, pl_bD, pl_bI, arrT, isExc, isT, isNon, isBlv, ↓R.bind_H, R.bindH_ok, ↓R.toS_H, R.toSH_ok, ↓RS.thn_H, RS.thnH_nx, RS.thnH_rt, startT, setT, wipeT, freeTg, eqT_int, eqT_bl, List.all_cons, List.all_nil, List.map_cons, List.map_nil, List.zip_cons_cons, List.zip_nil_left, List.zip_nil_right, List.foldl_cons, List.foldl_nil, List.cons_append, List.nil_append, List.replicate, List.length_cons, List.length_nil, List.getElem?_cons_zero, List.getElem?_cons_succ, List.set_cons_zero, List.set_cons_succ, List.isEmpty_cons, List.isEmpty_nil, atI_0, atI_1, atI_2, atI_3, atI_4, ix51, ix52, ix53, ix54, Option.map_some, Option.map_none, Option.isSome_none, Option.isSome_some, Option.isNone_none, Option.isNone_some, eq_self, Option.bind_some, if_true, if_false, Bool.false_eq_true, Bool.and_false, Bool.false_and, Bool.not_false, Bool.not_true, Bool.and_true, Bool.true_and, Bool.or_false, Bool.or_true, Bool.false_or, Bool.true_or, Nat.reduceAdd, Nat.reduceSub, Nat.reduceEqDiff, freeS_eq, freeO_none, freeO_some, decide_true, decide_false, reduceCtorEq, endR_rt, endR_nx, endR_ini, iniV_nil, iniV_cons, isBI_int, isBI_str, isBI_lst, isBI_tup, isBI_ins, isBI_rf, isBI_bl, isBI_kl, isBI_non, isBI_dct, Nat.reduceLT, Nat.one_ne_zero, Nat.zero_ne_one])

namespace K47
/-! ### greatest chances, totals (loss.lx) -/
def mxR (p q : Rat) : Rat := if p < q then q else p
theorem greater_run (W d : Nat) (p q : Rat) (h : Hl) (hp : Sz p) (hq : Sz q) : run prog W (d + 2) 7 [sh p, sh q] h = .ok (sh (mxR p q)) h := by
  have e := below_run W d p q h hp hq
  have lb := lk_below p
  rw [run_eq (rfl : prog.defs[7]? = some ⟨2, 2, b_greater_of⟩) rfl]
  unfold mxR
  by_cases c : p < q
  · have k : decide (p < q) = true := by simpa using c
    rw [k] at e
    rw [if_pos c]
    simp only [zzO, b_greater_of, isBI_sh, insOf_sh, plainT_sh, isBor_sh, isExc_sh, over_sh, under_sh, kd_sh, sh_fold, sh_cls, e, lb]
  · have k : decide (p < q) = false := by simpa using c
    rw [k] at e
    rw [if_neg c]
    simp only [zzO, b_greater_of, isBI_sh, insOf_sh, plainT_sh, isBor_sh, isExc_sh, over_sh, under_sh, kd_sh, sh_fold, sh_cls, e, lb]
/-- a pair's share of one word over the whole: over * f.num * (C / (under * f.den)) -/
structure FOk (f : Rat) : Prop where
  n : 0 ≤ f.num
  l : f.num ≤ f.den
  d : f.den ≤ 2 ^ 201
def lv (rs : List Rw) (n i : Nat) : Lv := (levL rs n).getD i (0, 0, 0)
theorem lev_rng (rs : List Rw) (n : Nat) {α : Type} (g : Lv → α) : (levL rs n).map g = (List.range (2 ^ n)).map fun i => g (lv rs n i) := by
  apply List.ext_getElem?
  intro i
  rw [List.getElem?_map, List.getElem?_map]
  by_cases h : i < 2 ^ n
  · have h2 : i < (levL rs n).length := by rw [lev_len]; exact h
    unfold lv
    rw [List.getElem?_range h, List.getElem?_eq_getElem h2]
    show some _ = some (g ((levL rs n).getD i (0, 0, 0)))
    rw [List.getD_eq_getElem?_getD, List.getElem?_eq_getElem h2]; rfl
  · rw [List.getElem?_eq_none (by rw [lev_len]; omega), List.getElem?_eq_none (by rw [List.length_range]; omega)]; rfl
theorem lv_ok {rs : List Rw} (ok : SrcOk rs) {n i : Nat} (h : i < 2 ^ n) : LvOk rs n (lv rs n i) := by
  have h2 : i < (levL rs n).length := by rw [lev_len]; exact h
  unfold lv
  rw [List.getD_eq_getElem?_getD, List.getElem?_eq_getElem h2]
  exact lev_ok ok n _ (List.getElem_mem h2)
def NN (C : Nat) (f : Rat) (x : Lv) : Int := (x.1 : Int) * f.num * ((C / (x.2.1 * f.den) : Nat) : Int)
def frC (C : Nat) (N : Int) : Rat := (N : Rat) / (((C : Nat) : Int) : Rat)
abbrev Pr := List Rw × Rat
/-- C holds all -/
structure COk (C n : Nat) (ps : List Pr) : Prop where
  p : 0 < C
  b : C ≤ 2 ^ 3000
  n8 : n ≤ 8
  d : ∀ p ∈ ps, ∀ i, i < 2 ^ n → (lv p.1 n i).2.1 * p.2.den ∣ C
  ok : ∀ p ∈ ps, SrcOk p.1 ∧ FOk p.2
theorem frC_Sz {C : Nat} {N : Int} (h0 : 0 < C) (h1 : C ≤ 2 ^ 3000) (h2 : 0 ≤ N) (h3 : N ≤ 256 * (C : Int)) : Sz (frC C N) := by
  have e : (2 : Nat) ^ 3010 ≤ Big := Nat.pow_le_pow_right (by decide) (by decide)
  have e2 : (2 : Nat) ^ 3010 = 2 ^ 3000 * 2 ^ 10 := by rw [← Nat.pow_add]
  have e3 : (0 : Nat) < 2 ^ 3000 := Nat.pow_pos (by decide)
  generalize (2 : Nat) ^ 3000 = K at *
  exact Sz_div _ _ (by omega) (by omega) (by omega)
theorem mxR_frC {C : Nat} (h0 : 0 < C) (a b : Int) : mxR (frC C a) (frC C b) = frC C (if b > a then b else a) := by
  have k : frC C a < frC C b ↔ a < b := by
    unfold frC
    have c0 : (0 : Rat) < (((C : Nat) : Int) : Rat) := by exact_mod_cast (show (0 : Int) < ((C : Nat) : Int) by omega)
    have ne : (((C : Nat) : Int) : Rat) ≠ 0 := fun z => by rw [z] at c0; exact absurd c0 (by decide)
    rw [Rat.div_lt_iff c0]
    have e : ((b : Int) : Rat) / (((C : Nat) : Int) : Rat) * (((C : Nat) : Int) : Rat) = (b : Rat) := by grind
    rw [e]
    exact Rat.intCast_lt_intCast
  unfold mxR
  by_cases c : a < b
  · rw [if_pos (k.mpr c), if_pos c]
  · rw [if_neg (fun q => c (k.mp q)), if_neg c]
theorem NN_le {C : Nat} {f : Rat} {rs : List Rw} {n : Nat} {x : Lv} (fo : FOk f) (h : LvOk rs n x) : 0 ≤ NN C f x ∧ NN C f x ≤ C := by
  have fn := fo.n; have fl := fo.l; have ho := h.o
  unfold NN
  have kk : (0 : Int) ≤ ((C / (x.2.1 * f.den) : Nat) : Int) := Int.natCast_nonneg _
  refine ⟨Int.mul_nonneg (Int.mul_nonneg (by omega) fn) kk, ?_⟩
  have e1 : (x.1 : Int) * f.num ≤ (x.2.1 : Int) * f.den := Int.mul_le_mul (by omega) fl fn (by omega)
  refine Int.le_trans (Int.mul_le_mul_of_nonneg_right e1 kk) ?_
  have : x.2.1 * f.den * (C / (x.2.1 * f.den)) ≤ C := Nat.mul_div_le _ _
  exact_mod_cast this
theorem fq_frC {C : Nat} {f : Rat} {rs : List Rw} {n : Nat} {x : Lv} (hC : 0 < C) (h : LvOk rs n x) (hd : x.2.1 * f.den ∣ C) : f * qL x = frC C (NN C f x) := by
  obtain ⟨k, rfl⟩ := hd
  have hp := h.p
  have hf := f.den_pos
  have hm : 0 < x.2.1 * f.den := Nat.mul_pos hp hf
  have n1 : (((x.2.1 : Nat) : Int) : Rat) ≠ 0 := fun z => by have : ((x.2.1 : Nat) : Int) = 0 := by exact_mod_cast z
                                                             omega
  have n2 : (((f.den : Nat) : Int) : Rat) ≠ 0 := fun z => by have : ((f.den : Nat) : Int) = 0 := by exact_mod_cast z
                                                             omega
  have n3 : (((k : Nat) : Int) : Rat) ≠ 0 := fun z => by
    have : ((k : Nat) : Int) = 0 := by exact_mod_cast z
    have : k = 0 := by omega
    subst this
    omega
  have ef : f = ((f.num : Int) : Rat) / (((f.den : Nat) : Int) : Rat) := by rw [Rat.intCast_natCast]; exact (rat_eq f).symm
  unfold frC NN qL
  rw [Nat.mul_div_cancel_left _ hm]
  rw [Int.natCast_mul, Int.natCast_mul, Rat.intCast_mul, Rat.intCast_mul, Rat.intCast_mul, Rat.intCast_mul]
  conv => lhs; rw [ef]
  grind
def bst (C n : Nat) (ps : List Pr) (i : Nat) : Int := ps.foldl (fun b p => let v := NN C p.2 (lv p.1 n i); if v > b then v else b) 0
theorem bst_app (C n : Nat) (ps : List Pr) (p : Pr) (i : Nat) : bst C n (ps ++ [p]) i = (let v := NN C p.2 (lv p.1 n i); if v > bst C n ps i then v else bst C n ps i) := by
  unfold bst; rw [List.foldl_append]; rfl
theorem bst_le {C n : Nat} {ps : List Pr} (ok : COk C n ps) {i : Nat} (hi : i < 2 ^ n) : 0 ≤ bst C n ps i ∧ bst C n ps i ≤ C := by
  suffices H : ∀ (l : List Pr) (b : Int), (∀ p ∈ l, p ∈ ps) → 0 ≤ b → b ≤ C → 0 ≤ l.foldl (fun b p => let v := NN C p.2 (lv p.1 n i); if v > b then v else b) b ∧ l.foldl (fun b p => let v := NN C p.2 (lv p.1 n i); if v > b then v else b) b ≤ C from H ps 0 (fun _ h => h) (by decide) (by omega)
  intro l
  induction l with
  | nil => intro b _ h0 h1; exact ⟨h0, h1⟩
  | cons p l ih =>
    intro b hp h0 h1
    have k := NN_le (C := C) (ok.ok p (hp p List.mem_cons_self)).2 (lv_ok (ok.ok p (hp p List.mem_cons_self)).1 hi)
    rw [List.foldl_cons]
    refine ih _ (fun q hq => hp q (List.mem_cons_of_mem _ hq)) ?_ ?_
    · dsimp only; split <;> omega
    · dsimp only; split <;> omega
def gT (C n : Nat) (ps : List Pr) : T := .lst ((List.range (2 ^ n)).map fun i => sh (frC C (bst C n ps i)))
theorem zipR {α β : Type} (l : List α) (f g : α → β) : (l.map f).zip (l.map g) = l.map fun i => (f i, g i) := by
  induction l with
  | nil => rfl
  | cons a l ih => rw [List.map_cons, List.map_cons, List.zip_cons_cons, ih, List.map_cons]
theorem FOk.Sz {f : Rat} (h : FOk f) : Sz f := by
  have e : (2 : Nat) ^ 202 ≤ Big := Nat.pow_le_pow_right (by decide) (by decide)
  have h0 := h.n; have h1 := h.l; have h2 := h.d
  exact ⟨by omega, by omega⟩
def prT (p : Pr) : T := .tup [src p.1, sh p.2]
theorem greatest_run (W d : Nat) (vs vf : T) (ps : List Pr) (n C : Nat) (h : Hl) (co : COk C n ps) (ne : ps ≠ []) (wv : walkOf vs = some (ps.map fun p => src p.1)) (wf : walkOf vf = some (ps.map fun p => sh p.2)) (ib : isBI vs = false) :
    Wp (run prog W (d + 4) 8 [vs, vf, .int (n : Int)] h) (fun v h' => v = gT C n ps ∧ h' = h) := by
  have zz : ((ps.map fun p => src p.1).zip (ps.map fun p => sh p.2)).map (fun p => T.tup [p.1, p.2]) = ps.map prT := by
    rw [zipR, List.map_map]; rfl
  have n8 := co.n8
  have c2 : 2 ^ n ≤ 2 ^ 8 := Nat.pow_le_pow_right (by decide) (by omega)
  refine Wq.run (rfl : prog.defs[8]? = some ⟨3, 10, b_greatest_chances⟩) rfl ?_
  simp only [zzG, b_greatest_chances, wv, wf, ib, zz]
  refine Wq.forI (fun (j : Nat) σ h' => h' = h ∧ ∃ o4 o5 o6 o7 o8 o9, nb o4 ∧ nb o5 ∧ σ = [some vs, some vf, some (.int (n : Int)), some (if j = 0 then .non else gT C n (ps.take j)), o4, o5, o6, o7, o8, o9] ∧ nb o6) ?_ ?_ ?_
  · exact ⟨rfl, none, none, none, none, none, none, nb_none, nb_none, rfl, nb_none⟩
  · rintro j x σ h' hx ⟨rfl, o4, o5, o6, o7, o8, o9, n4, n5, rfl, n6⟩
    rw [List.getElem?_map] at hx
    cases hp : ps[j]? with
    | none => rw [hp] at hx; cases hx
    | some p =>
      rw [hp] at hx; cases hx
      obtain ⟨so, fo⟩ := co.ok p (List.mem_of_getElem? hp)
      have hpm := List.mem_of_getElem? hp
      obtain ⟨_, _, ec, rfl, rfl⟩ := chances_run W d p.1 n n8 h' so
      refine ⟨by unfold nb at *; simp only [freeTg, freeS_eq, List.getElem?_cons_succ, List.getElem?_cons_zero, n4, n5, List.all_cons, List.all_nil, Bool.and_true], _, rfl, ?_⟩
      show Wq (bodyF _ _ _ _ [some vs, some vf, some (.int (n : Int)), some (if j = 0 then .non else gT C n (ps.take j)), some (src p.1), some (sh p.2), o6, o7, o8, o9] _) _ _
      have le : (levL p.1 n).map sL = (List.range (2 ^ n)).map fun i => sL (lv p.1 n i) := lev_rng p.1 n sL
      have c1 := fun h σ => lc_pure (f := bodyL prog (run prog W (d + 3)) Eo.none b_greatest_chances_C1) (tg := [7]) (σ := [some vs, some vf, some (.int (n : Int)), some σ, some (src p.1), some (sh p.2), o6, none, o8, o9]) (h := h) (fun i => sL (lv p.1 n i)) (fun i => sh (frC C (NN C p.2 (lv p.1 n i)))) (List.range (2 ^ n)) fun i hi => ⟨plainT_sh _, [some vs, some vf, some (.int (n : Int)), some σ, some (src p.1), some (sh p.2), o6, some (sL (lv p.1 n i)), o8, o9], rfl, by
        have hi := List.mem_range.mp hi
        have lo := lv_ok so hi
        have e := bin_mul W (d + 1) p.2 (qL (lv p.1 n i)) h fo.Sz (qL_Sz lo (by omega))
        rw [fq_frC co.p lo (co.d p hpm i hi)] at e
        simp only [zzO, b_greatest_chances_C1, bodyL, isBI_sh, insOf_sh, plainT_sh, isBor_sh, isExc_sh, over_sh, under_sh, kd_sh, sh_fold, sh_cls, sL, e]⟩
      have mx1 : ((List.range (2 ^ n)).map (fun i => sL (lv p.1 n i))).length ≤ maxLen := by rw [List.length_map, List.length_range]; unfold maxLen; omega
      have mx1 := eq_true mx1
      have nn := fun i (hi : i < 2 ^ n) => NN_le (C := C) fo (lv_ok so hi)
      unfold nb at *
      by_cases j0 : j = 0
      · subst j0
        have e0 : ps.take (0 + 1) = [p] := by rw [take_S hp]; rfl
        have eg : ((List.range (2 ^ n)).map fun i => sh (frC C (NN C p.2 (lv p.1 n i)))) = (List.range (2 ^ n)).map fun i => sh (frC C (bst C n [p] i)) := by
          refine List.map_congr_left fun i hi => ?_
          have := nn i (List.mem_range.mp hi)
          show _ = sh (frC C (if NN C p.2 (lv p.1 n i) > 0 then _ else _))
          congr 2; split <;> omega
        rw [if_pos rfl]
        simp only [zzG, b_greatest_chances_L1, bodyF, isBI_src, insOf_src, plainT_src, states_src, src_fold, src_cls, isBI_sh, insOf_sh, plainT_sh, isBor_sh, isExc_sh, over_sh, under_sh, kd_sh, sh_fold, sh_cls, ec, le, n6, mx1, c1]
        refine ⟨by trivial, some (src p.1), some (sh p.2), some (.lst ((List.range (2 ^ n)).map fun i => sh (frC C (NN C p.2 (lv p.1 n i))))), o7, o8, o9, nb_of (isBI_src _), nb_of (isBI_sh _), ?_, nb_of (isBI_lst _)⟩
        rw [show List.take 1 ps = [p] from e0, eg]; rfl
      · have ep : ps.take (j + 1) = ps.take j ++ [p] := take_S hp
        have cot : COk C n (ps.take j) := ⟨co.p, co.b, co.n8, fun q hq => co.d q (List.mem_of_mem_take hq), fun q hq => co.ok q (List.mem_of_mem_take hq)⟩
        have zr : (((List.range (2 ^ n)).map fun i => sh (frC C (bst C n (ps.take j) i))).zip ((List.range (2 ^ n)).map fun i => sh (frC C (NN C p.2 (lv p.1 n i))))).map (fun p => T.tup [p.1, p.2]) = (List.range (2 ^ n)).map fun i => T.tup [sh (frC C (bst C n (ps.take j) i)), sh (frC C (NN C p.2 (lv p.1 n i)))] := by
          rw [zipR, List.map_map]; rfl
        have c3 := fun h σ6 => lc_pure (f := bodyL prog (run prog W (d + 3)) Eo.none b_greatest_chances_C2) (tg := [8, 9]) (σ := [some vs, some vf, some (.int (n : Int)), some (.lst ((List.range (2 ^ n)).map fun i => sh (frC C (bst C n (ps.take j) i)))), some (src p.1), some (sh p.2), σ6, o7, none, none]) (h := h) (fun i => T.tup [sh (frC C (bst C n (ps.take j) i)), sh (frC C (NN C p.2 (lv p.1 n i)))]) (fun i => sh (frC C (bst C n (ps.take j ++ [p]) i))) (List.range (2 ^ n)) fun i hi => ⟨plainT_sh _, [some vs, some vf, some (.int (n : Int)), some (.lst ((List.range (2 ^ n)).map fun i => sh (frC C (bst C n (ps.take j) i)))), some (src p.1), some (sh p.2), σ6, o7, some (sh (frC C (bst C n (ps.take j) i))), some (sh (frC C (NN C p.2 (lv p.1 n i))))], rfl, by
          have hi := List.mem_range.mp hi
          have b := bst_le cot hi
          have k := nn i hi
          have e := greater_run W (d + 1) (frC C (bst C n (ps.take j) i)) (frC C (NN C p.2 (lv p.1 n i))) h (frC_Sz co.p co.b b.1 (by omega)) (frC_Sz co.p co.b k.1 (by omega))
          rw [mxR_frC co.p] at e
          rw [bst_app]
          simp only [zzO, b_greatest_chances_C2, bodyL, isBI_sh, insOf_sh, plainT_sh, isBor_sh, isExc_sh, over_sh, under_sh, kd_sh, sh_fold, sh_cls, e]⟩
        have mx2 : ((List.range (2 ^ n)).map (fun i => T.tup [sh (frC C (bst C n (ps.take j) i)), sh (frC C (NN C p.2 (lv p.1 n i)))])).length ≤ maxLen := by rw [List.length_map, List.length_range]; unfold maxLen; omega
        have mx2 := eq_true mx2
        have gn : isNon (gT C n (ps.take j)) = false := rfl
        rw [if_neg j0]
        unfold gT
        simp only [zzG, b_greatest_chances_L1, bodyF, isBI_src, insOf_src, plainT_src, states_src, src_fold, src_cls, isBI_sh, insOf_sh, plainT_sh, isBor_sh, isExc_sh, over_sh, under_sh, kd_sh, sh_fold, sh_cls, ec, le, n6, mx1, c1, zr, mx2, c3]
        refine ⟨by trivial, some (src p.1), some (sh p.2), some (.lst ((List.range (2 ^ n)).map fun i => sh (frC C (NN C p.2 (lv p.1 n i))))), o7, o8, o9, nb_of (isBI_src _), nb_of (isBI_sh _), ?_, nb_of (isBI_lst _)⟩
        rw [ep]
  · rintro σ h' ⟨rfl, o4, o5, o6, o7, o8, o9, n4, n5, rfl, n6⟩
    rw [List.length_map, List.take_length, if_neg (by cases ps with | nil => exact (ne rfl).elim | cons a l => rw [List.length_cons]; omega)]
    unfold gT
    simp only [zzG, ib]
    exact ⟨by trivial, by trivial⟩
def bsum (C n : Nat) (ps : List Pr) : Nat → Int
  | 0 => 0
  | j + 1 => bsum C n ps j + bst C n ps j
theorem bsum_le {C n : Nat} {ps : List Pr} (ok : COk C n ps) : ∀ j, j ≤ 2 ^ n → 0 ≤ bsum C n ps j ∧ bsum C n ps j ≤ (j : Int) * C := by
  intro j
  induction j with
  | zero => intro _; exact ⟨Int.le_refl 0, by simp [bsum]⟩
  | succ j ih =>
    intro h
    have a := ih (by omega)
    have b := bst_le ok (i := j) (by omega)
    show 0 ≤ bsum C n ps j + bst C n ps j ∧ bsum C n ps j + bst C n ps j ≤ _
    refine ⟨by omega, ?_⟩
    rw [Int.natCast_add, Int.add_mul]; omega
theorem frC_add (C : Nat) (a b : Int) : frC C a + frC C b = frC C (a + b) := by
  unfold frC
  rw [Rat.intCast_add]; grind
theorem frC_0 (C : Nat) : frC C 0 = 0 := by unfold frC; grind
theorem total_run (W d : Nat) (ps : List Pr) (n C : Nat) (h : Hl) (co : COk C n ps) : Wp (run prog W (d + 3) 9 [gT C n ps] h) (fun v h' => v = sh (frC C (bsum C n ps (2 ^ n))) ∧ h' = h) := by
  have e0 := newT_sh W (d + 1) 0 1 h (by decide) (Nat.one_lt_pow (by decide) (by decide))
  rw [show (((0 : Int) : Rat) / ((1 : Int) : Rat)) = frC C 0 by rw [frC_0]; grind] at e0
  have n8 := co.n8
  have c2 : 2 ^ n ≤ 2 ^ 8 := Nat.pow_le_pow_right (by decide) (by omega)
  unfold gT
  refine Wq.run (rfl : prog.defs[9]? = some ⟨1, 3, b_total_of⟩) rfl ?_
  simp only [zzG, b_total_of, isBI_sh, insOf_sh, plainT_sh, isBor_sh, isExc_sh, over_sh, under_sh, kd_sh, sh_fold, sh_cls, e0]
  refine Wq.for1 (as := List.range (2 ^ n)) (enc := fun i => sh (frC C (bst C n ps i))) (fun (j : Nat) σ h' => h' = h ∧ ∃ o, nb o ∧ σ = [some (.lst ((List.range (2 ^ n)).map fun i => sh (frC C (bst C n ps i)))), some (sh (frC C (bsum C n ps j))), o]) ⟨rfl, none, nb_none, rfl⟩ ?_ ?_
  · rintro j i σ h' hi ⟨rfl, o, no, rfl⟩
    have hij : i = j ∧ i < 2 ^ n := by
      have := List.getElem?_eq_some_iff.mp hi
      obtain ⟨w, e⟩ := this
      rw [List.length_range] at w
      rw [List.getElem_range] at e
      omega
    obtain ⟨rfl, hi2⟩ := hij
    refine ⟨no, ?_⟩
    have b := bst_le co hi2
    have s := bsum_le co i (by omega)
    have i8 : (i : Int) * C ≤ 255 * C := Int.mul_le_mul_of_nonneg_right (by omega) (by omega)
    have e := bin_add W d (frC C (bsum C n ps i)) (frC C (bst C n ps i)) h' (frC_Sz co.p co.b s.1 (by omega)) (frC_Sz co.p co.b b.1 (by omega))
    rw [frC_add] at e
    simp only [zzG, b_total_of_L1, bodyF, isBI_sh, insOf_sh, plainT_sh, isBor_sh, isExc_sh, over_sh, under_sh, kd_sh, sh_fold, sh_cls, e]
    exact ⟨by trivial, some (sh (frC C (bst C n ps i))), nb_of (isBI_sh _), rfl⟩
  · rintro σ h' ⟨rfl, o, no, rfl⟩
    rw [List.length_range]
    simp only [zzG, isBI_sh, insOf_sh, plainT_sh, isBor_sh, isExc_sh, over_sh, under_sh, kd_sh, sh_fold, sh_cls]
    exact ⟨by trivial, by trivial⟩
theorem gsum_run (W d : Nat) (vs vf : T) (ps : List Pr) (n C : Nat) (h : Hl) (co : COk C n ps) (ne : ps ≠ []) (wv : walkOf vs = some (ps.map fun p => src p.1)) (wf : walkOf vf = some (ps.map fun p => sh p.2)) (ib : isBI vs = false) (pv : plainT vs = true) (pf : plainT vf = true) :
    run prog W (d + 5) 10 [vs, vf, .int (n : Int)] h = .ok (sh (frC C (bsum C n ps (2 ^ n)))) h := by
  obtain ⟨_, h1, e1, rfl, q1⟩ := greatest_run W d vs vf ps n C h co ne wv wf ib
  obtain ⟨_, h2, e2, rfl, q2⟩ := total_run W (d + 1) ps n C h co
  rw [q1] at e1
  rw [q2] at e2
  have pg : plainT (gT C n ps) = true := rfl
  rw [run_eq (rfl : prog.defs[10]? = some ⟨3, 3, b_greatest_sum⟩) rfl]
  simp only [zzO, b_greatest_sum, isBI_sh, insOf_sh, plainT_sh, isBor_sh, isExc_sh, over_sh, under_sh, kd_sh, sh_fold, sh_cls, pv, pf, ib, e1, pg, e2]
end K47
end
section
set_option maxRecDepth 100000
set_option maxHeartbeats 4000000
set_option linter.all false
open Kb
local macro_rules
  | `(tactic| simp only [zzO, $as,*]) => `(tactic| simp only [exB, ↓exS_for, ↓exS_whl, ↓evA_lc, exS, evE, evEs, evT, evO, evA, evI, evC, tru, truT, binT, addT, mulT, intT, isIns, insOf_non, binE_non, cmE_non, insOf_bl, binE_bl, cmE_bl, insOf_int, binE_int, cmE_int, insOf_str, binE_str, cmE_str, insOf_lst, binE_lst, cmE_lst, insOf_tup, binE_tup, cmE_tup, insOf_dct, binE_dct, cmE_dct, insOf_kl, binE_kl, cmE_kl, insOf_bL, binE_bL, cmE_bL, insOf_bD, binE_bD, cmE_bD, insOf_ins, insOf_bI, insOf_rf, binE_rf, cmE_rf, fldT_ins, fldT_bI, fldT_rf, mx_0, mx_1, mx_2, mx_3, mx_4, mx_5, mx_01, mx_02, mx_03, mx_04, mx_05, cmpT, icmp, oR, idxT, idxSq, slT, bfT, intF, lenF, lenT, absF, gcdF, min2F, max2F, tupF, sumF, seqOf, lstOf, lstOf', walkOf_lst, walkOf_tup, walkOf_kl, walkOf_str, putI, stF, lkF, putF, lkN, kdAny, kd_non, kd_bl, kd_int, kd_str, kd_tup, kd_lst, kd_bL, kd_kl, kd_ins, kk_ii, kk_ib, kk_bi, kk_bb, kk_ss, kk_tt, kk_ll, kk_tl, kk_lt, kk_is, kk_si, kk_it, kk_il, kk_ti, kk_li, kk_st, kk_sl, kk_ts, kk_ls, onL, mbT, pl_non, pl_bl, pl_int, pl_str, pl_lst, pl_tup, pl_ins, pl_dct, pl_rf, pl_kl, pl_exc, pl_bL, pl_bD, pl_bI, arrT, isExc, isT, isNon, isBlv, ↓R.bind_H, R.bindH_ok, ↓R.toS_H, R.toSH_ok, R.noErr_ok, ↓RS.thn_H, RS.thnH_nx, RS.thnH_rt, R.bindH_ite, R.toSH_ite, RS.thnH_ite, startT, setT, wipeT, freeTg, eqT_int, eqT_bl, List.all_cons, List.all_nil, List.map_cons, List.map_nil, List.zip_cons_cons, List.zip_nil_left, List.zip_nil_right, List.foldl_cons, List.foldl_nil, List.cons_append, List.nil_append, List.replicate, List.length_cons, List.length_nil, List.getElem?_cons_zero, List.getElem?_cons_succ, List.set_cons_zero, List.set_cons_succ, List.isEmpty_cons, List.isEmpty_nil, atI_0, atI_1, atI_2, atI_3, atI_4, ix51, ix52, ix53, ix54, Option.map_some, Option.map_none, Option.isSome_none, Option.isSome_some, Option.isNone_none, Option.isNone_some, eq_self, Option.bind_some, if_true, if_false, Bool.false_eq_true, Bool.and_false, Bool.false_and, Bool.not_false, Bool.not_true, Bool.and_true, Bool.true_and, Bool.or_false, Bool.or_true, Bool.false_or, Bool.true_or, Nat.reduceAdd, Nat.reduceSub, Nat.reduceEqDiff, freeS_eq, freeO_none, freeO_some, decide_true, decide_false, reduceCtorEq, endR_rt, endR_nx, endR_ini, endR_ite, iniV_nil, iniV_cons, isBI_int, isBI_str, isBI_lst, isBI_tup, isBI_ins, isBI_rf, isBI_bl, isBI_kl, isBI_non, isBI_dct, Nat.reduceLT, Nat.one_ne_zero, Nat.zero_ne_one, $as,*])
  | `(tactic| simp only [zzR, $as,*]) => `(tactic| simp -dsimp only [↓Wq_for_nil, Wq_for_nil, ↓Wq_tryN, ↓Wq_end, ↓IfQ_true, ↓IfQ_false, ↓Wq_ok, ↓Wq_err, ↓Wq_nx, ↓Wq_rt, ↓Wq_ct, ↓Wq_bk, ↓Wq_er, Wq_tryN, Wq_end, Wq_noErr, IfQ_true, IfQ_false, Wq_ok, Wq_err, Wq_nx, Wq_rt, Wq_ct, Wq_bk, Wq_er, ↓bindQ_ok, ↓bindQ_err, ↓toSQ_ok, ↓toSQ_err, ↓thnQ_nx, ↓thnQ_rt, ↓thnQ_ct, ↓thnQ_bk, ↓thnQ_err, ↓endQ_rt, ↓endQ_nx, ↓endQ_ini, ↓noQ_ok, ↓okQ_ok, ↓goQ_nx, ↓goQ_ct, ↓goQ_bk, ↓goQ_rt, ↓itemQ_some, ↓itemQ_none, ↓itemS_ok, ↓tryNQ_rt, ↓tryNQ_nx, ↓whlQ_true, ↓whlQ_false, ↓ite_HR, ↓ite_HS, ↓IfH_true, ↓IfH_false, IfH_true, IfH_false, Wq_IfH, Wq_bindH, Wq_toSH, Wq_thnH, exB, ↓exS_for, ↓exS_whl, ↓evA_lc, exS, evE, evEs, evT, evO, evA, evI, evC, tru, truT, binT, addT, mulT, intT, isIns, insOf_non, binE_non, cmE_non, insOf_bl, binE_bl, cmE_bl, insOf_int, binE_int, cmE_int, insOf_str, binE_str, cmE_str, insOf_lst, binE_lst, cmE_lst, insOf_tup, binE_tup, cmE_tup, insOf_dct, binE_dct, cmE_dct, insOf_kl, binE_kl, cmE_kl, insOf_bL, binE_bL, cmE_bL, insOf_bD, binE_bD, cmE_bD, insOf_ins, insOf_bI, insOf_rf, binE_rf, cmE_rf, fldT_ins, fldT_bI, fldT_rf, mx_0, mx_1, mx_2, mx_3, mx_4, mx_5, mx_01, mx_02, mx_03, mx_04, mx_05, cmpT, icmp, oR, idxT, idxSq, slT, bfT, intF, lenF, lenT, absF, gcdF, min2F, max2F, tupF, sumF, seqOf, lstOf, lstOf', walkOf_lst, walkOf_tup, walkOf_kl, walkOf_str, putI, stF, lkF, putF, lkN, kdAny, kd_non, kd_bl, kd_int, kd_str, kd_tup, kd_lst, kd_bL, kd_kl, kd_ins, kk_ii, kk_ib, kk_bi, kk_bb, kk_ss, kk_tt, kk_ll, kk_tl, kk_lt, kk_is, kk_si, kk_it, kk_il, kk_ti, kk_li, kk_st, kk_sl, kk_ts, kk_ls, onL, mbT, pl_non, pl_bl, pl_int, pl_str, pl_lst, pl_tup, pl_ins, pl_dct, pl_rf, pl_kl, pl_exc, pl_bL, pl_bD, pl_bI, arrT, isExc, isT, isNon, isBlv, ↓R.bind_H, R.bindH_ok, ↓R.toS_H, R.toSH_ok, ↓RS.thn_H, RS.thnH_nx, RS.thnH_rt, startT, setT, wipeT, freeTg, eqT_int, eqT_bl, List.all_cons, List.all_nil, List.map_cons, List.map_nil, List.zip_cons_cons, List.zip_nil_left, List.zip_nil_right, List.foldl_cons, List.foldl_nil, List.cons_append, List.nil_append, List.replicate, List.length_cons, List.length_nil, List.getElem?_cons_zero, List.getElem?_cons_succ, List.set_cons_zero, List.set_cons_succ, List.isEmpty_cons, List.isEmpty_nil, atI_0, atI_1, atI_2, atI_3, atI_4, ix51, ix52, ix53, ix54, Option.map_some, Option.map_none, Option.isSome_none, Option.isSome_some, Option.isNone_none, Option.isNone_some, eq_self, Option.bind_some, if_true, if_false, Bool.false_eq_true, Bool.and_false, Bool.false_and, Bool.not_false, Bool.not_true, Bool.and_true, Bool.true_and, Bool.or_false, Bool.or_true, Bool.false_or, Bool.true_or, Nat.reduceAdd, Nat.reduceSub, Nat.reduceEqDiff, freeS_eq, freeO_none, freeO_some, decide_true, decide_false, reduceCtorEq, endR_rt, endR_nx, endR_ini, iniV_nil, iniV_cons, isBI_int, isBI_str, isBI_lst, isBI_tup, isBI_ins, isBI_rf, isBI_bl, isBI_kl, isBI_non, isBI_dct, Nat.reduceLT, Nat.one_ne_zero, Nat.zero_ne_one, $as,*])
  | `(tactic| simp only [zzG, $as,*]) => `(tactic| (simp -dsimp only [↓Wq_for_nil, Wq_for_nil, ↓Wq_tryN, ↓Wq_end, ↓IfQ_true, ↓IfQ_false, ↓Wq_ok, ↓Wq_err, ↓Wq_nx, ↓Wq_rt, ↓Wq_ct, ↓Wq_bk, ↓Wq_er, Wq_tryN, Wq_end, Wq_noErr, IfQ_true, IfQ_false, Wq_ok, Wq_err, Wq_nx, Wq_rt, Wq_ct, Wq_bk, Wq_er, ↓bindQ_ok, ↓bindQ_err, ↓toSQ_ok, ↓toSQ_err, ↓thnQ_nx, ↓thnQ_rt, ↓thnQ_ct, ↓thnQ_bk, ↓thnQ_err, ↓endQ_rt, ↓endQ_nx, ↓endQ_ini, ↓noQ_ok, ↓okQ_ok, ↓goQ_nx, ↓goQ_ct, ↓goQ_bk, ↓goQ_rt, ↓itemQ_some, ↓itemQ_none, ↓itemS_ok, ↓tryNQ_rt, ↓tryNQ_nx, ↓whlQ_true, ↓whlQ_false, ↓ite_HR, ↓ite_HS, ↓IfH_true, ↓IfH_false, IfH_true, IfH_false, Wq_IfH, Wq_bindH, Wq_toSH, Wq_thnH, exB, ↓exS_for, ↓exS_whl, ↓evA_lc, exS, evE, evEs, evT, evO, evA, evI, evC, tru, truT, binT, addT, mulT, intT, isIns, insOf_non, binE_non, cmE_non, insOf_bl, binE_bl, cmE_bl, insOf_int, binE_int, cmE_int, insOf_str, binE_str, cmE_str, insOf_lst, binE_lst, cmE_lst, insOf_tup, binE_tup, cmE_tup, insOf_dct, binE_dct, cmE_dct, insOf_kl, binE_kl, cmE_kl, insOf_bL, binE_bL, cmE_bL, insOf_bD, binE_bD, cmE_bD, insOf_ins, insOf_bI, insOf_rf, binE_rf, cmE_rf, fldT_ins, fldT_bI, fldT_rf, mx_0, mx_1, mx_2, mx_3, mx_4, mx_5, mx_01, mx_02, mx_03, mx_04, mx_05, cmpT, icmp, oR, idxT, idxSq, slT, bfT, intF, lenF, lenT, absF, gcdF, min2F, max2F, tupF, sumF, seqOf, lstOf, lstOf', walkOf_lst, walkOf_tup, walkOf_kl, walkOf_str, putI, stF, lkF, putF, lkN, kdAny, kd_non, kd_bl, kd_int, kd_str, kd_tup, kd_lst, kd_bL, kd_kl, kd_ins, kk_ii, kk_ib, kk_bi, kk_bb, kk_ss, kk_tt, kk_ll, kk_tl, kk_lt, kk_is, kk_si, kk_it, kk_il, kk_ti, kk_li, kk_st, kk_sl, kk_ts, kk_ls, onL, mbT, pl_non, pl_bl, pl_int, pl_str, pl_lst, pl_tup, pl_ins, pl_dct, pl_rf, pl_kl, pl_exc, pl_bL, pl_bD, pl_bI, arrT, isExc, isT, isNon, isBlv, ↓R.bind_H, R.bindH_ok, ↓R.toS_H, R.toSH_ok, ↓RS.thn_H, RS.thnH_nx, RS.thnH_rt, startT, setT, wipeT, freeTg, eqT_int, eqT_bl, List.all_cons, List.all_nil, List.map_cons, List.map_nil, List.zip_cons_cons, List.zip_nil_left, List.zip_nil_right, List.foldl_cons, List.foldl_nil, List.cons_append, List.nil_append, List.replicate, List.length_cons, List.length_nil, List.getElem?_cons_zero, List.getElem?_cons_succ, List.set_cons_zero, List.set_cons_succ, List.isEmpty_cons, List.isEmpty_nil, atI_0, atI_1, atI_2, atI_3, atI_4, ix51, ix52, ix53, ix54, Option.map_some, Option.map_none, Option.isSome_none, Option.isSome_some, Option.isNone_none, Option.isNone_some, eq_self, Option.bind_some, if_true, if_false, Bool.false_eq_true, Bool.and_false, Bool.false_and, Bool.not_false, Bool.not_true, Bool.and_true, Bool.true_and, Bool.or_false, Bool.or_true, Bool.false_or, Bool.true_or, Nat.reduceAdd, Nat.reduceSub, Nat.reduceEqDiff, freeS_eq, freeO_none, freeO_some, decide_true, decide_false, reduceCtorEq, endR_rt, endR_nx, endR_ini, iniV_nil, iniV_cons, isBI_int, isBI_str, isBI_lst, isBI_tup, isBI_ins, isBI_rf, isBI_bl, isBI_kl, isBI_non, isBI_dct, Nat.reduceLT, Nat.one_ne_zero, Nat.zero_ne_one, $as,*]; repeat (first | refine IfQ.yes (mulOk_of (by omega) (by omega) (by omega) (by omega)) ?_ | refine IfQ.yes (divOk_of (by omega) (by omega) (by omega)) ?_ | refine IfQ.yes (by decide) ?_ | refine IfQ.no (by decide) ?_ | refine IfQ.yes (rngOk_of (by (try simp only [List.length_map, List.length_append, List.length_cons, List.length_nil, List.length_range]); omega) (by (try simp only [List.length_map, List.length_append, List.length_cons, List.length_nil, List.length_range]); omega)) ?_ | refine IfQ.yes (len_of (by simp only [List.length_map, List.length_append, List.length_cons, List.length_nil, List.length_replicate, rngT_len]; omega)) ?_ | refine IfQ.yes (shlOk_of (by omega) (by omega) (by omega) (by omega)) ?_ | simp -dsimp only [↓Wq_for_nil, Wq_for_nil, ↓Wq_tryN, ↓Wq_end, ↓IfQ_true, ↓IfQ_false, ↓Wq_ok, ↓Wq_err, ↓Wq_nx, ↓Wq_rt, ↓Wq_ct, ↓Wq_bk, ↓Wq_er, Wq_tryN, Wq_end, Wq_noErr, IfQ_true, IfQ_false, Wq_ok, Wq_err, Wq_nx, Wq_rt, Wq_ct, Wq_bk, Wq_er, ↓bindQ_ok, ↓bindQ_err, ↓toSQ_ok, ↓toSQ_err, ↓thnQ_nx, ↓thnQ_rt, ↓thnQ_ct, ↓thnQ_bk, ↓thnQ_err, ↓endQ_rt, ↓endQ_nx, ↓endQ_ini, ↓noQ_ok, ↓okQ_ok, ↓goQ_nx, ↓goQ_ct, ↓goQ_bk, ↓goQ_rt, ↓itemQ_some, ↓itemQ_none, ↓itemS_ok, ↓tryNQ_rt, ↓tryNQ_nx, ↓whlQ_true, ↓whlQ_false, ↓ite_HR, ↓ite_HS, ↓IfH_true, ↓IfH_false, IfH_true, IfH_false, Wq_IfH, Wq_bindH, Wq_toSH, Wq_thnH, exB, ↓exS_for, ↓exS_whl, ↓evA_lc, exS, evE, evEs, evT, evO, evA, evI, evC, tru, truT, binT, addT, mulT, intT, isIns, insOf_non, binE_non, cmE_non, insOf_bl, binE_bl, cmE_bl, insOf_int, binE_int, cmE_int, insOf_str, binE_str, cmE_str, insOf_lst, binE_lst, cmE_lst, insOf_tup, binE_tup, cmE_tup, insOf_dct, binE_dct, cmE_dct, insOf_kl, binE_kl, cmE_kl, insOf_bL, binE_bL, cmE_bL, insOf_bD, binE_bD, cmE_bD, insOf_ins, insOf_bI, insOf_rf, binE_rf, cmE_rf, fldT_ins, fldT_bI, fldT_rf, mx_0, mx_1, mx_2, mx_3, mx_4, mx_5, mx_01, mx_02, mx_03, mx_04, mx_05, cmpT, icmp, oR, idxT, idxSq, slT, bfT, intF, lenF, lenT, absF, gcdF, min2F, max2F, tupF, sumF, seqOf, lstOf, lstOf', walkOf_lst, walkOf_tup, walkOf_kl, walkOf_str, putI, stF, lkF, putF, lkN, kdAny, kd_non, kd_bl, kd_int, kd_str, kd_tup, kd_lst, kd_bL, kd_kl, kd_ins, kk_ii, kk_ib, kk_bi, kk_bb, kk_ss, kk_tt, kk_ll, kk_tl, kk_lt, kk_is, kk_si, kk_it, kk_il, kk_ti, kk_li, kk_st, kk_sl, kk_ts, kk_ls, onL, mbT, pl_non, pl_bl, pl_int, pl_str, pl_lst, pl_tup, pl_ins, pl_dct, pl_rf, pl_kl, pl_exc, pl_bL, pl_bD, pl_bI, arrT, isExc, isT, isNon, isBlv, ↓R.bind_H, R.bindH_ok, ↓R.toS_H, R.toSH_ok, ↓RS.thn_H, RS.thnH_nx, RS.thnH_rt, startT, setT, wipeT, freeTg, eqT_int, eqT_bl, List.all_cons, List.all_nil, List.map_cons, List.map_nil, List.zip_cons_cons, List.zip_nil_left, List.zip_nil_right, List.foldl_cons, List.foldl_nil, List.cons_append, List.nil_append, List.replicate, List.length_cons, List.length_nil, List.getElem?_cons_zero, List.getElem?_cons_succ, List.set_cons_zero, List.set_cons_succ, List.isEmpty_cons, List.isEmpty_nil, atI_0, atI_1, atI_2, atI_3, atI_4, ix51, ix52, ix53, ix54, Option.map_some, Option.map_none, Option.isSome_none, Option.isSome_some, Option.isNone_none, Option.isNone_some, eq_self, Option.bind_some, if_true, if_false, Bool.false_eq_true, Bool.and_false, Bool.false_and, Bool.not_false, Bool.not_true, Bool.and_true, Bool.true_and, Bool.or_false, Bool.or_true, Bool.false_or, Bool.true_or, Nat.reduceAdd, Nat.reduceSub, Nat.reduceEqDiff, freeS_eq, freeO_none, freeO_some, decide_true, decide_false, reduceCtorEq, endR_rt, endR_nx, endR_ini, iniV_nil, iniV_cons, isBI_int, isBI_str, isBI_lst, isBI_tup, isBI_ins, isBI_rf, isBI_bl, isBI_kl, isBI_non, isBI_dct, Nat.reduceLT, Nat.one_ne_zero, Nat.zero_ne_one, $as,*])))
  | `(tactic| simp only [zzG]) => `(tactic| (simp -dsimp only [↓Wq_for_nil, Wq_for_nil, ↓Wq_tryN, ↓Wq_end, ↓IfQ_true, ↓IfQ_false, ↓Wq_ok, ↓Wq_err, ↓Wq_nx, ↓Wq_rt, ↓Wq_ct, ↓Wq_bk, ↓Wq_er, Wq_tryN, Wq_end, Wq_noErr, IfQ_true, IfQ_false, Wq_ok, Wq_err, Wq_nx, Wq_rt, Wq_ct, Wq_bk, Wq_er, ↓bindQ_ok, ↓bindQ_err, ↓toSQ_ok, ↓toSQ_err, ↓thnQ_nx, ↓thnQ_rt, ↓thnQ_ct, ↓thnQ_bk, ↓thnQ_err, ↓endQ_rt, ↓endQ_nx, ↓endQ_ini, ↓noQ_ok, ↓okQ_ok, ↓goQ_nx, ↓goQ_ct, ↓goQ_bk, ↓goQ_rt, ↓itemQ_some, ↓itemQ_none, ↓itemS_ok, ↓tryNQ_rt, ↓tryNQ_nx, ↓whlQ_true, ↓whlQ_false, ↓ite_HR, ↓ite_HS, ↓IfH_true, ↓IfH_false, IfH_true, IfH_false, Wq_IfH, Wq_bindH, Wq_toSH, Wq_thnH, exB, ↓exS_for, ↓exS_whl, ↓evA_lc, exS, evE, evEs, evT, evO, evA, evI, evC, tru, truT, binT, addT, mulT, intT, isIns, insOf_non, binE_non, cmE_non, insOf_bl, binE_bl, cmE_bl, insOf_int, binE_int, cmE_int, insOf_str, binE_str, cmE_str, insOf_lst, binE_lst, cmE_lst, insOf_tup, binE_tup, cmE_tup, insOf_dct, binE_dct, cmE_dct, insOf_kl, binE_kl, cmE_kl, insOf_bL, binE_bL, cmE_bL, insOf_bD, binE_bD, cmE_bD, insOf_ins, insOf_bI, insOf_rf, binE_rf, cmE_rf, fldT_ins, fldT_bI, fldT_rf, mx_0, mx_1, mx_2, mx_3, mx_4, mx_5, mx_01, mx_02, mx_03, mx_04, mx_05, cmpT, icmp, oR, idxT, idxSq, slT, bfT, intF, lenF, lenT, absF, gcdF, min2F, max2F, tupF, sumF, seqOf, lstOf, lstOf', walkOf_lst, walkOf_tup, walkOf_kl, walkOf_str, putI, stF, lkF, putF, lkN, kdAny, kd_non, kd_bl, kd_int, kd_str, kd_tup, kd_lst, kd_bL, kd_kl, kd_ins, kk_ii, kk_ib, kk_bi, kk_bb, kk_ss, kk_tt, kk_ll, kk_tl, kk_lt, kk_is, kk_si, kk_it, kk_il, kk_ti, kk_li, kk_st, kk_sl, kk_ts, kk_ls, onL, mbT, pl_non, pl_bl, pl_int, pl_str, pl_lst, pl_tup, pl_ins, pl_dct, pl_rf, pl_kl, pl_exc, pl_bL, pl_bD, pl_bI, arrT, isExc, isT, isNon, isBlv, ↓R.bind_H, R.bindH_ok, ↓R.toS_H, R.toSH_ok, ↓RS.thn_H, RS.thnH_nx, RS.thnH_rt, startT, setT, wipeT, freeTg, eqT_int, eqT_bl, List.all_cons, List.all_nil, List.map_cons, List.map_nil, List.zip_cons_cons, List.zip_nil_left, List.zip_nil_right, List.foldl_cons, List.foldl_nil, List.cons_append, List.nil_append, List.replicate, List.length_cons, List.length_nil, List.getElem?_cons_zero, List.getElem?_cons_succ, List.set_cons_zero, List.set_cons_succ, List.isEmpty_cons, List.isEmpty_nil, atI_0, atI_1, atI_2, atI_3, atI_4, ix51, ix52, ix53, ix54, Option.map_some, Option.map_none, Option.isSome_none, Option.isSome_some, Option.isNone_none, Option.isNone_some, eq_self, Option.bind_some, if_true, if_false, Bool.false_eq_true, Bool.and_false, Bool.false_and, Bool.not_false, Bool.not_true, Bool.and_true, Bool.true_and, Bool.or_false, Bool.or_true, Bool.false_or, Bool.true_or, Nat.reduceAdd, Nat.reduceSub, Nat.reduceEqDiff, freeS_eq, freeO_none, freeO_some, decide_true, decide_false, reduceCtorEq, endR_rt, endR_nx, endR_ini, iniV_nil, iniV_cons, isBI_int, isBI_str, isBI_lst, isBI_tup, isBI_ins, isBI_rf, isBI_bl, isBI_kl, isBI_non, isBI_dct, Nat.reduceLT, Nat.one_ne_zero, Nat.zero_ne_one]; repeat (first | refine IfQ.yes (mulOk_of (by omega) (by omega) (by omega) (by omega)) ?_ | refine IfQ.yes (divOk_of (by omega) (by omega) (by omega)) ?_ | refine IfQ.yes (by decide) ?_ | refine IfQ.no (by decide) ?_ | refine IfQ.yes (rngOk_of (by (try simp only [List.length_map, List.length_append, List.length_cons, List.length_nil, List.length_range]); omega) (by (try simp only [List.length_map, List.length_append, List.length_cons, List.length_nil, List.length_range]); omega)) ?_ | refine IfQ.yes (len_of (by simp only [List.length_map, List.length_append, List.length_cons, List.length_nil, List.length_replicate, rngT_len]; omega)) ?_ | refine IfQ.yes (shlOk_of (by omega) (by omega) (by omega) (by omega)) ?_ | simp -dsimp only [↓Wq_for_nil, Wq_for_nil, ↓Wq_tryN, ↓Wq_end, ↓IfQ_true, ↓IfQ_false, ↓Wq_ok, ↓Wq_err, ↓Wq_nx, ↓Wq_rt, ↓Wq_ct, ↓Wq_bk, ↓Wq_er, Wq_tryN, Wq_end, Wq_noErr, IfQ_true, IfQ_false, Wq_ok, Wq_err, Wq_nx, Wq_rt, Wq_ct, Wq_bk, Wq_er, ↓bindQ_ok, ↓bindQ_err, ↓toSQ_ok, ↓toSQ_err, ↓thnQ_nx, ↓thnQ_rt, ↓thnQ_ct, ↓thnQ_bk, ↓thnQ_err, ↓endQ_rt, ↓endQ_nx, ↓endQ_ini, ↓noQ_ok, ↓okQ_ok, ↓goQ_nx, ↓goQ_ct, ↓goQ_bk, ↓goQ_rt, ↓itemQ_some, ↓itemQ_none, ↓itemS_ok, ↓tryNQ_rt, ↓tryNQ_nx, ↓whlQ_true, ↓whlQ_false, ↓ite_HR, ↓ite_HS, ↓IfH_true, ↓IfH_false, IfH_true, IfH_false, Wq_IfH, Wq_bindH, Wq_toSH, Wq_thnH, exB, ↓exS_for, ↓exS_whl, ↓evA_lc, exS, evE, evEs, evT, evO, evA, evI, evC, tru, truT, binT, addT, mulT, intT, isIns, insOf_non, binE_non, cmE_non, insOf_bl, binE_bl, cmE_bl, insOf_int, binE_int, cmE_int, insOf_str, binE_str, cmE_str, insOf_lst, binE_lst, cmE_lst, insOf_tup, binE_tup, cmE_tup, insOf_dct, binE_dct, cmE_dct, insOf_kl, binE_kl, cmE_kl, insOf_bL, binE_bL, cmE_bL, insOf_bD, binE_bD, cmE_bD, insOf_ins, insOf_bI, insOf_rf, binE_rf, cmE_rf, fldT_ins, fldT_bI, fldT_rf, mx_0, mx_1, mx_2, mx_3, mx_4, mx_5, mx_01, mx_02, mx_03, mx_04, mx_05, cmpT, icmp, oR, idxT, idxSq, slT, bfT, intF, lenF, lenT, absF, gcdF, min2F, max2F, tupF, sumF, seqOf, lstOf, lstOf', walkOf_lst, walkOf_tup, walkOf_kl, walkOf_str, putI, stF, lkF, putF, lkN, kdAny, kd_non, kd_bl, kd_int, kd_str, kd_tup, kd_lst, kd_bL, kd_kl, kd_ins, kk_ii, kk_ib, kk_bi, kk_bb, kk_ss, kk_tt, kk_ll, kk_tl, kk_lt, kk_is, kk_si, kk_it, kk_il, kk_ti, kk_li, kk_st, kk_sl, kk_ts, kk_ls, onL, mbT, pl_non, pl_bl, pl_int, pl_str, pl_lst, pl_tup, pl_ins, pl_dct, pl_rf, pl_kl, pl_exc, pl_bL, pl_bD, pl_bI, arrT, isExc, isT, isNon, isBlv, ↓R.bind_H, R.bindH_ok, ↓R.toS_H, R.toSH_ok, ↓RS.thn_H, RS.thnH_nx, RS.thnH_rt, startT, setT, wipeT, freeTg, eqT_int, eqT_bl, List.all_cons, List.all_nil, List.map_cons, List.map_nil, List.zip_cons_cons, List.zip_nil_left, List.zip_nil_right, List.foldl_cons, List.foldl_nil, List.cons_append, List.nil_append, List.replicate, List.length_cons, List.length_nil, List.getElem?_cons_zero, List.getElem?_cons_succ, List.set_cons_zero, List.set_cons_succ, List.isEmpty_cons, List.isEmpty_nil, atI_0, atI_1, atI_2, atI_3, atI_4, ix51, ix52, ix53, ix54, Option.map_some, Option.map_none, Option.isSome_none, Option.isSome_some, Option.isNone_none, Option.isNone_some, eq_self, Option.bind_some, if_true, if_false, Bool.false_eq_true, Bool.and_false, Bool.false_and, Bool.not_false, Bool.not_true, Bool.and_true, Bool.true_and, Bool.or_false, Bool.or_true, Bool.false_or, Bool.true_or, Nat.reduceAdd, Nat.reduceSub, Nat.reduceEqDiff, freeS_eq, freeO_none, freeO_some, decide_true, decide_false, reduceCtorEq, endR_rt, endR_nx, endR_ini, iniV_nil, iniV_cons, isBI_int, isBI_str, isBI_lst, isBI_tup, isBI_ins, isBI_rf, isBI_bl, isBI_kl, isBI_non, isBI_dct, Nat.reduceLT, Nat.one_ne_zero, Nat.zero_ne_one])))
  | `(tactic| simp only [zzR]) => `(tactic| simp -dsimp only [↓Wq_for_nil, Wq_for_nil, ↓Wq_tryN, ↓Wq_end, ↓IfQ_true, ↓IfQ_false, ↓Wq_ok, ↓Wq_err, ↓Wq_nx, ↓Wq_rt, ↓Wq_ct, ↓Wq_bk, ↓Wq_er, Wq_tryN, Wq_end, Wq_noErr, IfQ_true, IfQ_false, Wq_ok, Wq_err, Wq_nx, Wq_rt, Wq_ct, Wq_bk, Wq_er, ↓bindQ_ok, ↓bindQ_err, ↓toSQ_ok, ↓toSQ_err, ↓thnQ_nx, ↓thnQ_rt, ↓thnQ_ct, ↓thnQ_bk, ↓thnQ_err, ↓endQ_rt, ↓endQ_nx, ↓endQ_ini, ↓noQ_ok, ↓okQ_ok, ↓goQ_nx, ↓goQ_ct, ↓goQ_bk, ↓goQ_rt, ↓itemQ_some, ↓itemQ_none, ↓itemS_ok, ↓tryNQ_rt, ↓tryNQ_nx, ↓whlQ_true, ↓whlQ_false, ↓ite_HR, ↓ite_HS, ↓IfH_true, ↓IfH_false, IfH_true, IfH_false, Wq_IfH, Wq_bindH, Wq_toSH, Wq_thnH, exB, ↓exS_for, ↓exS_whl, ↓evA_lc, exS, evE, evEs, evT, evO, evA, evI, evC, tru, truT, binT, addT, mulT, intT, isIns, insOf_non, binE_non, cmE_non, insOf_bl, binE_bl, cmE_bl, insOf_int, binE_int, cmE_int, insOf_str, binE_str, cmE_str, insOf_lst, binE_lst, cmE_lst, insOf_tup, binE_tup, cmE_tup, insOf_dct, binE_dct, cmE_dct, insOf_kl, binE_kl, cmE_kl, insOf_bL, binE_bL, cmE_bL, insOf_bD, binE_bD, cmE_bD, insOf_ins, insOf_bI, insOf_rf, binE_rf, cmE_rf, fldT_ins, fldT_bI, fldT_rf, mx_0, mx_1, mx_2, mx_3, mx_4, mx_5, mx_01, mx_02, mx_03, mx_04, mx_05, cmpT, icmp, oR, idxT, idxSq, slT, bfT, intF, lenF, lenT, absF, gcdF, min2F, max2F, tupF, sumF, seqOf, lstOf, lstOf', walkOf_lst, walkOf_tup, walkOf_kl, walkOf_str, putI, stF, lkF, putF, lkN, kdAny, kd_non, kd_bl, kd_int, kd_str, kd_tup, kd_lst, kd_bL, kd_kl, kd_ins, kk_ii, kk_ib, kk_bi, kk_bb, kk_ss, kk_tt, kk_ll, kk_tl, kk_lt, kk_is, kk_si, kk_it, kk_il, kk_ti, kk_li, kk_st, kk_sl, kk_ts, kk_ls, onL, mbT, pl_non, pl_bl, pl_int, pl_str, pl_lst, pl_tup, pl_ins, pl_dct, pl_rf, pl_kl, pl_exc, pl_bL, pl_bD, pl_bI, arrT, isExc, isT, isNon, isBlv, ↓R.bind_H, R.bindH_ok, ↓R.toS_H, R.toSH_ok, ↓RS.thn_H, RS.thnH_nx, RS.thnH_rt, startT, setT, wipeT, freeTg, eqT_int, eqT_bl, List.all_cons, List.all_nil, List.map_cons, List.map_nil, List.zip_cons_cons, List.zip_nil_left, List.zip_nil_right, List.foldl_cons, List.foldl_nil, List.cons_append, List.nil_append, List.replicate, List.length_cons, List.length_nil, List.getElem?_cons_zero, List.getElem?_cons_succ, List.set_cons_zero, List.set_cons_succ, List.isEmpty_cons, List.isEmpty_nil, atI_0, atI_1, atI_2, atI_3, atI_4, ix51, ix52, ix53, ix54, Option.map_some, Option.map_none, Option.isSome_none, Option.isSome_some, Option.isNone_none, Option.isNone_some, eq_self, Option.bind_some, if_true, if_false, Bool.false_eq_true, Bool.and_false, Bool.false_and, Bool.not_false, Bool.not_true, Bool.and_true, Bool.true_and, Bool.or_false, Bool.or_true, Bool.false_or, Bool.true_or, Nat.reduceAdd, Nat.reduceSub, Nat.reduceEqDiff, freeS_eq, freeO_none, freeO_some, decide_true, decide_false, reduceCtorEq, endR_rt, endR_nx, endR_ini, iniV_nil, iniV_cons, isBI_int, isBI_str, isBI_lst, isBI_tup, isBI_ins, isBI_rf, isBI_bl, isBI_kl, isBI_non, isBI_dct, Nat.reduceLT, Nat.one_ne_zero, Nat.zero_ne_one])

namespace K47
/-! ### the law's fractions and levels (lw.lx) -/
def dT (p : Rat) : T := .tup [.int p.num, .int ((p.den : Nat) : Int)]
theorem plain_dT (p : Rat) : plainT (dT p) = true := rfl
theorem isBI_dT (p : Rat) : isBI (dT p) = false := rfl
theorem low_run (W d : Nat) (a b : Int) (h : Hl) (hW : 10000 < W) (hb : 0 < b) (hb2 : b < 2 ^ 3100) : run prog W (d + 2) 24 [.int a, .int b] h = .ok (dT ((a : Rat) / (b : Rat))) h := by
  obtain ⟨n1, n2⟩ := share_num a b (by omega)
  have es : gs a b = gg a b := by unfold gs; rw [if_neg (by omega)]
  rw [es] at n1 n2
  have g0 := gg_pos a b (by omega)
  have gl := gg_le a b (by omega)
  have ab : (if a < 0 then -a else a) = ((a.natAbs : Nat) : Int) := by split <;> omega
  have g := gcd_runJ prog W 3100 d 23 rfl ((a.natAbs : Nat) : Int) b h (by omega) (by omega) hb2 (by omega)
  have eg : ((Nat.gcd (((a.natAbs : Nat) : Int)).natAbs b.natAbs : Nat) : Int) = gg a b := by rw [Int.natAbs_natCast]; rfl
  rw [eg] at g
  have hb3 : b.natAbs < 2 ^ 3100 := by
    have : ((b.natAbs : Nat) : Int) < ((2 ^ 3100 : Nat) : Int) := by
      rw [Int.natCast_pow]
      have : ((b.natAbs : Nat) : Int) = b := by omega
      rw [this]; exact hb2
    exact_mod_cast this
  have d1 : divOk (gg a b) = true := divOk_n (by omega) (Nat.lt_of_lt_of_le (Nat.lt_of_le_of_lt (show (gg a b).natAbs ≤ b.natAbs by omega) hb3) (Nat.pow_le_pow_right (by decide) (by decide)))
  rw [run_eq (rfl : prog.defs[24]? = some ⟨2, 3, b__law_lowest⟩) rfl]
  simp only [zzO, b__law_lowest, ab, g, d1, n1, n2]
  rfl
theorem isint_run (W d : Nat) (i : Int) (h : Hl) : run prog W (d + 1) 25 [.int i] h = .ok (.bl true) h := by
  have k1 : decide (Kd.int = Kd.int) = true := by decide
  have k2 : decide (Kd.int = Kd.bool) = false := by decide
  rw [run_eq (rfl : prog.defs[25]? = some ⟨1, 1, b__law_is_integer⟩) rfl]
  simp only [zzO, b__law_is_integer, k1, k2]
theorem isdue_run (W d : Nat) (q : Rat) (a b : Int) (h : Hl) : run prog W (d + 2) 26 [sh q, .tup [.int a, .int b]] h = .ok (.bl ((q.num == a) && (((q.den : Nat) : Int) == b))) h := by
  have k : decide (3 = 3) = true := by decide
  have i1 := fun i => isint_run W d i h
  rw [run_eq (rfl : prog.defs[26]? = some ⟨2, 2, b__law_is_share⟩) rfl]
  generalize hy : (((q.den : Nat) : Int) == b) = y
  generalize hx : (q.num == a) = x
  cases x <;> simp only [zzO, b__law_is_share, isBI_sh, insOf_sh, plainT_sh, isBor_sh, isExc_sh, over_sh, under_sh, kd_sh, sh_fold, sh_cls, k, i1, hx, hy]
theorem isdT_run (W d : Nat) (p : Rat) (h : Hl) : run prog W (d + 2) 26 [sh p, dT p] h = .ok (.bl true) h := by
  have e := isdue_run W d p p.num ((p.den : Nat) : Int) h
  rw [rat_eqb, decide_eq_true rfl] at e
  exact e
def t3 (x : Lv) : T := .tup [.int (x.1 : Int), .int (x.2.1 : Int), .int (x.2.2 : Int)]
theorem both_len (rs : List Rw) : ∀ l : List Lv, (l.flatMap (bothL rs)).length = 2 * l.length := by
  intro l
  induction l with
  | nil => rfl
  | cons a l ih => rw [List.flatMap_cons, List.length_append, ih, List.length_cons]; show 2 + _ = _; omega
theorem level_run (W d : Nat) (rs : List Rw) (n : Nat) (hn : n ≤ 8) (h : Hl) (ok : SrcOk rs) : Wp (run prog W (d + 1) 29 [.lst (rs.map tupR), .int (n : Int)] h) (fun v h' => v = .lst ((levL rs n).map t3) ∧ h' = h) := by
  refine Wq.run (rfl : prog.defs[29]? = some ⟨2, 10, b__law_level⟩) rfl ?_
  simp only [zzG, b__law_level]
  refine Wq.forR (fun (j : Nat) σ h' => h' = h ∧ ∃ o3 o4 o5 o6 o7 o8 o9, nb o3 ∧ nb o4 ∧ nb o5 ∧ nb o6 ∧ nb o7 ∧ nb o8 ∧ nb o9 ∧ σ = [some (.lst (rs.map tupR)), some (.int (n : Int)), some (.lst ((levL rs j).map t3)), o3, o4, o5, o6, o7, o8, o9]) ⟨rfl, none, none, none, none, none, none, none, nb_none, nb_none, nb_none, nb_none, nb_none, nb_none, nb_none, rfl⟩ ?_ ?_
  · rintro j σ h' hj ⟨rfl, o3, o4, o5, o6, o7, o8, o9, n3, n4, n5, n6, n7, n8, n9, rfl⟩
    refine ⟨n3, ?_⟩
    have lo := lev_ok ok j
    have ll := lev_len rs j
    have lj : 2 ^ j ≤ 2 ^ 8 := Nat.pow_le_pow_right (by decide) (by omega)
    unfold nb at *
    simp only [zzG, b__law_level_L1, bodyF, n4]
    refine Wq.forI (fun (m : Nat) σ h'' => h'' = h' ∧ ∃ o5 o6 o7 o8 o9, nb o5 ∧ nb o6 ∧ nb o7 ∧ nb o8 ∧ nb o9 ∧ σ = [some (.lst (rs.map tupR)), some (.int (n : Int)), some (.lst ((levL rs j).map t3)), some (.int (0 + (j : Int))), some (.bL ((((levL rs j).take m).flatMap (bothL rs)).map t3)), o5, o6, o7, o8, o9]) ⟨rfl, o5, o6, o7, o8, o9, n5, n6, n7, n8, n9, rfl⟩ ?_ ?_
    · rintro m x σ h'' hx ⟨rfl, p5, p6, p7, p8, p9, n5, n6, n7, n8, n9, rfl⟩
      rw [List.getElem?_map] at hx
      cases hy : (levL rs j)[m]? with
      | none => rw [hy] at hx; cases hx
      | some y =>
        rw [hy] at hx; cases hx
        have oy := lo y (List.mem_of_getElem? hy)
        unfold nb at *
        refine ⟨by simp only [freeTg, freeS_eq, List.getElem?_cons_succ, List.getElem?_cons_zero, n5, n6, n7, List.all_cons, List.all_nil, Bool.and_true], _, rfl, ?_⟩
        show Wq (bodyF _ _ _ _ [some (.lst (rs.map tupR)), some (.int (n : Int)), some (.lst ((levL rs j).map t3)), some (.int (0 + (j : Int))), some (.bL ((((levL rs j).take m).flatMap (bothL rs)).map t3)), some (.int (y.1 : Int)), some (.int (y.2.1 : Int)), some (.int (y.2.2 : Int)), p8, p9] h'') _ _
        have lt : ((((levL rs j).take m).flatMap (bothL rs)).map t3).length ≤ 10000 := by rw [List.length_map, both_len, List.length_take]; omega
        generalize hA : ((((levL rs j).take m).flatMap (bothL rs)).map t3) = A at lt ⊢
        have g := at_get (rs := rs) oy.s
        have k := at_ok ok oy.s
        have ka := k.a; have kb := k.b
        have u := oy.u; have ov := oy.o
        have u2 : y.2.1 ≤ 2 ^ 88 := Nat.le_trans u (Nat.le_trans (Nat.pow_le_pow_right (by decide) (show j ≤ 8 by omega)) (by decide))
        have m1 : mulOk (y.1 : Int) ((at' rs y.2.2).1 : Int) = true := mulOk_of (by omega) (by omega) (by omega) (by omega)
        have m2 : mulOk (y.1 : Int) ((at' rs y.2.2).2.2.1 : Int) = true := mulOk_of (by omega) (by omega) (by omega) (by omega)
        have m3 : mulOk (y.2.1 : Int) (((at' rs y.2.2).1 : Int) + ((at' rs y.2.2).2.2.1 : Int)) = true := mulOk_of (by omega) (by omega) (by omega) (by omega)
        have l1 := lt_of' (n := A.length) (by omega)
        have l2 : ∀ x : T, decide ((A ++ [x]).length < maxLen) = true := fun x => lt_of' (by rw [List.length_append, List.length_cons, List.length_nil]; omega)
        simp only [zzG, b__law_level_L2, bodyF, g, tupR, n8, n9, m1, m2, m3, l1, l2]
        refine ⟨by trivial, some (.int (y.1 : Int)), some (.int (y.2.1 : Int)), some (.int (y.2.2 : Int)), some (tupR (at' rs y.2.2)), some (.int (((at' rs y.2.2).1 : Int) + ((at' rs y.2.2).2.2.1 : Int))), rfl, rfl, rfl, rfl, rfl, ?_⟩
        rw [take_S hy, List.flatMap_append, List.map_append, hA]
        simp [bothL, stepL, t3, wgt, nxt, sm, tupR]
    · rintro σ h'' ⟨rfl, p5, p6, p7, p8, p9, n5, n6, n7, n8, n9, rfl⟩
      rw [List.length_map, List.take_length]
      simp only [zzG]
      exact ⟨by trivial, some (.int (0 + (j : Int))), some (.lst ((levL rs (j + 1)).map t3)), p5, p6, p7, p8, p9, rfl, rfl, n5, n6, n7, n8, n9, rfl⟩
  · rintro σ h' ⟨rfl, o3, o4, o5, o6, o7, o8, o9, n3, n4, n5, n6, n7, n8, n9, rfl⟩
    have jn : ((n : Int) - 0).toNat = n := by omega
    rw [jn]
    simp only [zzG]
    exact ⟨by trivial, by trivial⟩
end K47
end
section
set_option maxRecDepth 100000
set_option maxHeartbeats 4000000
set_option linter.all false
open Kb
local macro_rules
  | `(tactic| simp only [zzO, $as,*]) => `(tactic| simp only [exB, ↓exS_for, ↓exS_whl, ↓evA_lc, exS, evE, evEs, evT, evO, evA, evI, evC, tru, truT, binT, addT, mulT, intT, isIns, insOf_non, binE_non, cmE_non, insOf_bl, binE_bl, cmE_bl, insOf_int, binE_int, cmE_int, insOf_str, binE_str, cmE_str, insOf_lst, binE_lst, cmE_lst, insOf_tup, binE_tup, cmE_tup, insOf_dct, binE_dct, cmE_dct, insOf_kl, binE_kl, cmE_kl, insOf_bL, binE_bL, cmE_bL, insOf_bD, binE_bD, cmE_bD, insOf_ins, insOf_bI, insOf_rf, binE_rf, cmE_rf, fldT_ins, fldT_bI, fldT_rf, mx_0, mx_1, mx_2, mx_3, mx_4, mx_5, mx_01, mx_02, mx_03, mx_04, mx_05, cmpT, icmp, oR, idxT, idxSq, slT, bfT, intF, lenF, lenT, absF, gcdF, min2F, max2F, tupF, sumF, seqOf, lstOf, lstOf', walkOf_lst, walkOf_tup, walkOf_kl, walkOf_str, putI, stF, lkF, putF, lkN, kdAny, kd_non, kd_bl, kd_int, kd_str, kd_tup, kd_lst, kd_bL, kd_kl, kd_ins, kk_ii, kk_ib, kk_bi, kk_bb, kk_ss, kk_tt, kk_ll, kk_tl, kk_lt, kk_is, kk_si, kk_it, kk_il, kk_ti, kk_li, kk_st, kk_sl, kk_ts, kk_ls, onL, mbT, pl_non, pl_bl, pl_int, pl_str, pl_lst, pl_tup, pl_ins, pl_dct, pl_rf, pl_kl, pl_exc, pl_bL, pl_bD, pl_bI, arrT, isExc, isT, isNon, isBlv, ↓R.bind_H, R.bindH_ok, ↓R.toS_H, R.toSH_ok, R.noErr_ok, ↓RS.thn_H, RS.thnH_nx, RS.thnH_rt, R.bindH_ite, R.toSH_ite, RS.thnH_ite, startT, setT, wipeT, freeTg, eqT_int, eqT_bl, List.all_cons, List.all_nil, List.map_cons, List.map_nil, List.zip_cons_cons, List.zip_nil_left, List.zip_nil_right, List.foldl_cons, List.foldl_nil, List.cons_append, List.nil_append, List.replicate, List.length_cons, List.length_nil, List.getElem?_cons_zero, List.getElem?_cons_succ, List.set_cons_zero, List.set_cons_succ, List.isEmpty_cons, List.isEmpty_nil, atI_0, atI_1, atI_2, atI_3, atI_4, ix51, ix52, ix53, ix54, Option.map_some, Option.map_none, Option.isSome_none, Option.isSome_some, Option.isNone_none, Option.isNone_some, eq_self, Option.bind_some, if_true, if_false, Bool.false_eq_true, Bool.and_false, Bool.false_and, Bool.not_false, Bool.not_true, Bool.and_true, Bool.true_and, Bool.or_false, Bool.or_true, Bool.false_or, Bool.true_or, Nat.reduceAdd, Nat.reduceSub, Nat.reduceEqDiff, freeS_eq, freeO_none, freeO_some, decide_true, decide_false, reduceCtorEq, endR_rt, endR_nx, endR_ini, endR_ite, iniV_nil, iniV_cons, isBI_int, isBI_str, isBI_lst, isBI_tup, isBI_ins, isBI_rf, isBI_bl, isBI_kl, isBI_non, isBI_dct, Nat.reduceLT, Nat.one_ne_zero, Nat.zero_ne_one, $as,*])
  | `(tactic| simp only [zzR, $as,*]) => `(tactic| simp -dsimp only [↓Wq_for_nil, Wq_for_nil, ↓Wq_tryN, ↓Wq_end, ↓IfQ_true, ↓IfQ_false, ↓Wq_ok, ↓Wq_err, ↓Wq_nx, ↓Wq_rt, ↓Wq_ct, ↓Wq_bk, ↓Wq_er, Wq_tryN, Wq_end, Wq_noErr, IfQ_true, IfQ_false, Wq_ok, Wq_err, Wq_nx, Wq_rt, Wq_ct, Wq_bk, Wq_er, ↓bindQ_ok, ↓bindQ_err, ↓toSQ_ok, ↓toSQ_err, ↓thnQ_nx, ↓thnQ_rt, ↓thnQ_ct, ↓thnQ_bk, ↓thnQ_err, ↓endQ_rt, ↓endQ_nx, ↓endQ_ini, ↓noQ_ok, ↓okQ_ok, ↓goQ_nx, ↓goQ_ct, ↓goQ_bk, ↓goQ_rt, ↓itemQ_some, ↓itemQ_none, ↓itemS_ok, ↓tryNQ_rt, ↓tryNQ_nx, ↓whlQ_true, ↓whlQ_false, ↓ite_HR, ↓ite_HS, ↓IfH_true, ↓IfH_false, IfH_true, IfH_false, Wq_IfH, Wq_bindH, Wq_toSH, Wq_thnH, exB, ↓exS_for, ↓exS_whl, ↓evA_lc, exS, evE, evEs, evT, evO, evA, evI, evC, tru, truT, binT, addT, mulT, intT, isIns, insOf_non, binE_non, cmE_non, insOf_bl, binE_bl, cmE_bl, insOf_int, binE_int, cmE_int, insOf_str, binE_str, cmE_str, insOf_lst, binE_lst, cmE_lst, insOf_tup, binE_tup, cmE_tup, insOf_dct, binE_dct, cmE_dct, insOf_kl, binE_kl, cmE_kl, insOf_bL, binE_bL, cmE_bL, insOf_bD, binE_bD, cmE_bD, insOf_ins, insOf_bI, insOf_rf, binE_rf, cmE_rf, fldT_ins, fldT_bI, fldT_rf, mx_0, mx_1, mx_2, mx_3, mx_4, mx_5, mx_01, mx_02, mx_03, mx_04, mx_05, cmpT, icmp, oR, idxT, idxSq, slT, bfT, intF, lenF, lenT, absF, gcdF, min2F, max2F, tupF, sumF, seqOf, lstOf, lstOf', walkOf_lst, walkOf_tup, walkOf_kl, walkOf_str, putI, stF, lkF, putF, lkN, kdAny, kd_non, kd_bl, kd_int, kd_str, kd_tup, kd_lst, kd_bL, kd_kl, kd_ins, kk_ii, kk_ib, kk_bi, kk_bb, kk_ss, kk_tt, kk_ll, kk_tl, kk_lt, kk_is, kk_si, kk_it, kk_il, kk_ti, kk_li, kk_st, kk_sl, kk_ts, kk_ls, onL, mbT, pl_non, pl_bl, pl_int, pl_str, pl_lst, pl_tup, pl_ins, pl_dct, pl_rf, pl_kl, pl_exc, pl_bL, pl_bD, pl_bI, arrT, isExc, isT, isNon, isBlv, ↓R.bind_H, R.bindH_ok, ↓R.toS_H, R.toSH_ok, ↓RS.thn_H, RS.thnH_nx, RS.thnH_rt, startT, setT, wipeT, freeTg, eqT_int, eqT_bl, List.all_cons, List.all_nil, List.map_cons, List.map_nil, List.zip_cons_cons, List.zip_nil_left, List.zip_nil_right, List.foldl_cons, List.foldl_nil, List.cons_append, List.nil_append, List.replicate, List.length_cons, List.length_nil, List.getElem?_cons_zero, List.getElem?_cons_succ, List.set_cons_zero, List.set_cons_succ, List.isEmpty_cons, List.isEmpty_nil, atI_0, atI_1, atI_2, atI_3, atI_4, ix51, ix52, ix53, ix54, Option.map_some, Option.map_none, Option.isSome_none, Option.isSome_some, Option.isNone_none, Option.isNone_some, eq_self, Option.bind_some, if_true, if_false, Bool.false_eq_true, Bool.and_false, Bool.false_and, Bool.not_false, Bool.not_true, Bool.and_true, Bool.true_and, Bool.or_false, Bool.or_true, Bool.false_or, Bool.true_or, Nat.reduceAdd, Nat.reduceSub, Nat.reduceEqDiff, freeS_eq, freeO_none, freeO_some, decide_true, decide_false, reduceCtorEq, endR_rt, endR_nx, endR_ini, iniV_nil, iniV_cons, isBI_int, isBI_str, isBI_lst, isBI_tup, isBI_ins, isBI_rf, isBI_bl, isBI_kl, isBI_non, isBI_dct, Nat.reduceLT, Nat.one_ne_zero, Nat.zero_ne_one, $as,*])
  | `(tactic| simp only [zzG, $as,*]) => `(tactic| (simp -dsimp only [↓Wq_for_nil, Wq_for_nil, ↓Wq_tryN, ↓Wq_end, ↓IfQ_true, ↓IfQ_false, ↓Wq_ok, ↓Wq_err, ↓Wq_nx, ↓Wq_rt, ↓Wq_ct, ↓Wq_bk, ↓Wq_er, Wq_tryN, Wq_end, Wq_noErr, IfQ_true, IfQ_false, Wq_ok, Wq_err, Wq_nx, Wq_rt, Wq_ct, Wq_bk, Wq_er, ↓bindQ_ok, ↓bindQ_err, ↓toSQ_ok, ↓toSQ_err, ↓thnQ_nx, ↓thnQ_rt, ↓thnQ_ct, ↓thnQ_bk, ↓thnQ_err, ↓endQ_rt, ↓endQ_nx, ↓endQ_ini, ↓noQ_ok, ↓okQ_ok, ↓goQ_nx, ↓goQ_ct, ↓goQ_bk, ↓goQ_rt, ↓itemQ_some, ↓itemQ_none, ↓itemS_ok, ↓tryNQ_rt, ↓tryNQ_nx, ↓whlQ_true, ↓whlQ_false, ↓ite_HR, ↓ite_HS, ↓IfH_true, ↓IfH_false, IfH_true, IfH_false, Wq_IfH, Wq_bindH, Wq_toSH, Wq_thnH, exB, ↓exS_for, ↓exS_whl, ↓evA_lc, exS, evE, evEs, evT, evO, evA, evI, evC, tru, truT, binT, addT, mulT, intT, isIns, insOf_non, binE_non, cmE_non, insOf_bl, binE_bl, cmE_bl, insOf_int, binE_int, cmE_int, insOf_str, binE_str, cmE_str, insOf_lst, binE_lst, cmE_lst, insOf_tup, binE_tup, cmE_tup, insOf_dct, binE_dct, cmE_dct, insOf_kl, binE_kl, cmE_kl, insOf_bL, binE_bL, cmE_bL, insOf_bD, binE_bD, cmE_bD, insOf_ins, insOf_bI, insOf_rf, binE_rf, cmE_rf, fldT_ins, fldT_bI, fldT_rf, mx_0, mx_1, mx_2, mx_3, mx_4, mx_5, mx_01, mx_02, mx_03, mx_04, mx_05, cmpT, icmp, oR, idxT, idxSq, slT, bfT, intF, lenF, lenT, absF, gcdF, min2F, max2F, tupF, sumF, seqOf, lstOf, lstOf', walkOf_lst, walkOf_tup, walkOf_kl, walkOf_str, putI, stF, lkF, putF, lkN, kdAny, kd_non, kd_bl, kd_int, kd_str, kd_tup, kd_lst, kd_bL, kd_kl, kd_ins, kk_ii, kk_ib, kk_bi, kk_bb, kk_ss, kk_tt, kk_ll, kk_tl, kk_lt, kk_is, kk_si, kk_it, kk_il, kk_ti, kk_li, kk_st, kk_sl, kk_ts, kk_ls, onL, mbT, pl_non, pl_bl, pl_int, pl_str, pl_lst, pl_tup, pl_ins, pl_dct, pl_rf, pl_kl, pl_exc, pl_bL, pl_bD, pl_bI, arrT, isExc, isT, isNon, isBlv, ↓R.bind_H, R.bindH_ok, ↓R.toS_H, R.toSH_ok, ↓RS.thn_H, RS.thnH_nx, RS.thnH_rt, startT, setT, wipeT, freeTg, eqT_int, eqT_bl, List.all_cons, List.all_nil, List.map_cons, List.map_nil, List.zip_cons_cons, List.zip_nil_left, List.zip_nil_right, List.foldl_cons, List.foldl_nil, List.cons_append, List.nil_append, List.replicate, List.length_cons, List.length_nil, List.getElem?_cons_zero, List.getElem?_cons_succ, List.set_cons_zero, List.set_cons_succ, List.isEmpty_cons, List.isEmpty_nil, atI_0, atI_1, atI_2, atI_3, atI_4, ix51, ix52, ix53, ix54, Option.map_some, Option.map_none, Option.isSome_none, Option.isSome_some, Option.isNone_none, Option.isNone_some, eq_self, Option.bind_some, if_true, if_false, Bool.false_eq_true, Bool.and_false, Bool.false_and, Bool.not_false, Bool.not_true, Bool.and_true, Bool.true_and, Bool.or_false, Bool.or_true, Bool.false_or, Bool.true_or, Nat.reduceAdd, Nat.reduceSub, Nat.reduceEqDiff, freeS_eq, freeO_none, freeO_some, decide_true, decide_false, reduceCtorEq, endR_rt, endR_nx, endR_ini, iniV_nil, iniV_cons, isBI_int, isBI_str, isBI_lst, isBI_tup, isBI_ins, isBI_rf, isBI_bl, isBI_kl, isBI_non, isBI_dct, Nat.reduceLT, Nat.one_ne_zero, Nat.zero_ne_one, $as,*]; repeat (first | refine IfQ.yes (mulOk_of (by omega) (by omega) (by omega) (by omega)) ?_ | refine IfQ.yes (divOk_of (by omega) (by omega) (by omega)) ?_ | refine IfQ.yes (by decide) ?_ | refine IfQ.no (by decide) ?_ | refine IfQ.yes (rngOk_of (by (try simp only [List.length_map, List.length_append, List.length_cons, List.length_nil, List.length_range]); omega) (by (try simp only [List.length_map, List.length_append, List.length_cons, List.length_nil, List.length_range]); omega)) ?_ | refine IfQ.yes (len_of (by simp only [List.length_map, List.length_append, List.length_cons, List.length_nil, List.length_replicate, rngT_len]; omega)) ?_ | refine IfQ.yes (shlOk_of (by omega) (by omega) (by omega) (by omega)) ?_ | simp -dsimp only [↓Wq_for_nil, Wq_for_nil, ↓Wq_tryN, ↓Wq_end, ↓IfQ_true, ↓IfQ_false, ↓Wq_ok, ↓Wq_err, ↓Wq_nx, ↓Wq_rt, ↓Wq_ct, ↓Wq_bk, ↓Wq_er, Wq_tryN, Wq_end, Wq_noErr, IfQ_true, IfQ_false, Wq_ok, Wq_err, Wq_nx, Wq_rt, Wq_ct, Wq_bk, Wq_er, ↓bindQ_ok, ↓bindQ_err, ↓toSQ_ok, ↓toSQ_err, ↓thnQ_nx, ↓thnQ_rt, ↓thnQ_ct, ↓thnQ_bk, ↓thnQ_err, ↓endQ_rt, ↓endQ_nx, ↓endQ_ini, ↓noQ_ok, ↓okQ_ok, ↓goQ_nx, ↓goQ_ct, ↓goQ_bk, ↓goQ_rt, ↓itemQ_some, ↓itemQ_none, ↓itemS_ok, ↓tryNQ_rt, ↓tryNQ_nx, ↓whlQ_true, ↓whlQ_false, ↓ite_HR, ↓ite_HS, ↓IfH_true, ↓IfH_false, IfH_true, IfH_false, Wq_IfH, Wq_bindH, Wq_toSH, Wq_thnH, exB, ↓exS_for, ↓exS_whl, ↓evA_lc, exS, evE, evEs, evT, evO, evA, evI, evC, tru, truT, binT, addT, mulT, intT, isIns, insOf_non, binE_non, cmE_non, insOf_bl, binE_bl, cmE_bl, insOf_int, binE_int, cmE_int, insOf_str, binE_str, cmE_str, insOf_lst, binE_lst, cmE_lst, insOf_tup, binE_tup, cmE_tup, insOf_dct, binE_dct, cmE_dct, insOf_kl, binE_kl, cmE_kl, insOf_bL, binE_bL, cmE_bL, insOf_bD, binE_bD, cmE_bD, insOf_ins, insOf_bI, insOf_rf, binE_rf, cmE_rf, fldT_ins, fldT_bI, fldT_rf, mx_0, mx_1, mx_2, mx_3, mx_4, mx_5, mx_01, mx_02, mx_03, mx_04, mx_05, cmpT, icmp, oR, idxT, idxSq, slT, bfT, intF, lenF, lenT, absF, gcdF, min2F, max2F, tupF, sumF, seqOf, lstOf, lstOf', walkOf_lst, walkOf_tup, walkOf_kl, walkOf_str, putI, stF, lkF, putF, lkN, kdAny, kd_non, kd_bl, kd_int, kd_str, kd_tup, kd_lst, kd_bL, kd_kl, kd_ins, kk_ii, kk_ib, kk_bi, kk_bb, kk_ss, kk_tt, kk_ll, kk_tl, kk_lt, kk_is, kk_si, kk_it, kk_il, kk_ti, kk_li, kk_st, kk_sl, kk_ts, kk_ls, onL, mbT, pl_non, pl_bl, pl_int, pl_str, pl_lst, pl_tup, pl_ins, pl_dct, pl_rf, pl_kl, pl_exc, pl_bL, pl_bD, pl_bI, arrT, isExc, isT, isNon, isBlv, ↓R.bind_H, R.bindH_ok, ↓R.toS_H, R.toSH_ok, ↓RS.thn_H, RS.thnH_nx, RS.thnH_rt, startT, setT, wipeT, freeTg, eqT_int, eqT_bl, List.all_cons, List.all_nil, List.map_cons, List.map_nil, List.zip_cons_cons, List.zip_nil_left, List.zip_nil_right, List.foldl_cons, List.foldl_nil, List.cons_append, List.nil_append, List.replicate, List.length_cons, List.length_nil, List.getElem?_cons_zero, List.getElem?_cons_succ, List.set_cons_zero, List.set_cons_succ, List.isEmpty_cons, List.isEmpty_nil, atI_0, atI_1, atI_2, atI_3, atI_4, ix51, ix52, ix53, ix54, Option.map_some, Option.map_none, Option.isSome_none, Option.isSome_some, Option.isNone_none, Option.isNone_some, eq_self, Option.bind_some, if_true, if_false, Bool.false_eq_true, Bool.and_false, Bool.false_and, Bool.not_false, Bool.not_true, Bool.and_true, Bool.true_and, Bool.or_false, Bool.or_true, Bool.false_or, Bool.true_or, Nat.reduceAdd, Nat.reduceSub, Nat.reduceEqDiff, freeS_eq, freeO_none, freeO_some, decide_true, decide_false, reduceCtorEq, endR_rt, endR_nx, endR_ini, iniV_nil, iniV_cons, isBI_int, isBI_str, isBI_lst, isBI_tup, isBI_ins, isBI_rf, isBI_bl, isBI_kl, isBI_non, isBI_dct, Nat.reduceLT, Nat.one_ne_zero, Nat.zero_ne_one, $as,*])))
  | `(tactic| simp only [zzG]) => `(tactic| (simp -dsimp only [↓Wq_for_nil, Wq_for_nil, ↓Wq_tryN, ↓Wq_end, ↓IfQ_true, ↓IfQ_false, ↓Wq_ok, ↓Wq_err, ↓Wq_nx, ↓Wq_rt, ↓Wq_ct, ↓Wq_bk, ↓Wq_er, Wq_tryN, Wq_end, Wq_noErr, IfQ_true, IfQ_false, Wq_ok, Wq_err, Wq_nx, Wq_rt, Wq_ct, Wq_bk, Wq_er, ↓bindQ_ok, ↓bindQ_err, ↓toSQ_ok, ↓toSQ_err, ↓thnQ_nx, ↓thnQ_rt, ↓thnQ_ct, ↓thnQ_bk, ↓thnQ_err, ↓endQ_rt, ↓endQ_nx, ↓endQ_ini, ↓noQ_ok, ↓okQ_ok, ↓goQ_nx, ↓goQ_ct, ↓goQ_bk, ↓goQ_rt, ↓itemQ_some, ↓itemQ_none, ↓itemS_ok, ↓tryNQ_rt, ↓tryNQ_nx, ↓whlQ_true, ↓whlQ_false, ↓ite_HR, ↓ite_HS, ↓IfH_true, ↓IfH_false, IfH_true, IfH_false, Wq_IfH, Wq_bindH, Wq_toSH, Wq_thnH, exB, ↓exS_for, ↓exS_whl, ↓evA_lc, exS, evE, evEs, evT, evO, evA, evI, evC, tru, truT, binT, addT, mulT, intT, isIns, insOf_non, binE_non, cmE_non, insOf_bl, binE_bl, cmE_bl, insOf_int, binE_int, cmE_int, insOf_str, binE_str, cmE_str, insOf_lst, binE_lst, cmE_lst, insOf_tup, binE_tup, cmE_tup, insOf_dct, binE_dct, cmE_dct, insOf_kl, binE_kl, cmE_kl, insOf_bL, binE_bL, cmE_bL, insOf_bD, binE_bD, cmE_bD, insOf_ins, insOf_bI, insOf_rf, binE_rf, cmE_rf, fldT_ins, fldT_bI, fldT_rf, mx_0, mx_1, mx_2, mx_3, mx_4, mx_5, mx_01, mx_02, mx_03, mx_04, mx_05, cmpT, icmp, oR, idxT, idxSq, slT, bfT, intF, lenF, lenT, absF, gcdF, min2F, max2F, tupF, sumF, seqOf, lstOf, lstOf', walkOf_lst, walkOf_tup, walkOf_kl, walkOf_str, putI, stF, lkF, putF, lkN, kdAny, kd_non, kd_bl, kd_int, kd_str, kd_tup, kd_lst, kd_bL, kd_kl, kd_ins, kk_ii, kk_ib, kk_bi, kk_bb, kk_ss, kk_tt, kk_ll, kk_tl, kk_lt, kk_is, kk_si, kk_it, kk_il, kk_ti, kk_li, kk_st, kk_sl, kk_ts, kk_ls, onL, mbT, pl_non, pl_bl, pl_int, pl_str, pl_lst, pl_tup, pl_ins, pl_dct, pl_rf, pl_kl, pl_exc, pl_bL, pl_bD, pl_bI, arrT, isExc, isT, isNon, isBlv, ↓R.bind_H, R.bindH_ok, ↓R.toS_H, R.toSH_ok, ↓RS.thn_H, RS.thnH_nx, RS.thnH_rt, startT, setT, wipeT, freeTg, eqT_int, eqT_bl, List.all_cons, List.all_nil, List.map_cons, List.map_nil, List.zip_cons_cons, List.zip_nil_left, List.zip_nil_right, List.foldl_cons, List.foldl_nil, List.cons_append, List.nil_append, List.replicate, List.length_cons, List.length_nil, List.getElem?_cons_zero, List.getElem?_cons_succ, List.set_cons_zero, List.set_cons_succ, List.isEmpty_cons, List.isEmpty_nil, atI_0, atI_1, atI_2, atI_3, atI_4, ix51, ix52, ix53, ix54, Option.map_some, Option.map_none, Option.isSome_none, Option.isSome_some, Option.isNone_none, Option.isNone_some, eq_self, Option.bind_some, if_true, if_false, Bool.false_eq_true, Bool.and_false, Bool.false_and, Bool.not_false, Bool.not_true, Bool.and_true, Bool.true_and, Bool.or_false, Bool.or_true, Bool.false_or, Bool.true_or, Nat.reduceAdd, Nat.reduceSub, Nat.reduceEqDiff, freeS_eq, freeO_none, freeO_some, decide_true, decide_false, reduceCtorEq, endR_rt, endR_nx, endR_ini, iniV_nil, iniV_cons, isBI_int, isBI_str, isBI_lst, isBI_tup, isBI_ins, isBI_rf, isBI_bl, isBI_kl, isBI_non, isBI_dct, Nat.reduceLT, Nat.one_ne_zero, Nat.zero_ne_one]; repeat (first | refine IfQ.yes (mulOk_of (by omega) (by omega) (by omega) (by omega)) ?_ | refine IfQ.yes (divOk_of (by omega) (by omega) (by omega)) ?_ | refine IfQ.yes (by decide) ?_ | refine IfQ.no (by decide) ?_ | refine IfQ.yes (rngOk_of (by (try simp only [List.length_map, List.length_append, List.length_cons, List.length_nil, List.length_range]); omega) (by (try simp only [List.length_map, List.length_append, List.length_cons, List.length_nil, List.length_range]); omega)) ?_ | refine IfQ.yes (len_of (by simp only [List.length_map, List.length_append, List.length_cons, List.length_nil, List.length_replicate, rngT_len]; omega)) ?_ | refine IfQ.yes (shlOk_of (by omega) (by omega) (by omega) (by omega)) ?_ | simp -dsimp only [↓Wq_for_nil, Wq_for_nil, ↓Wq_tryN, ↓Wq_end, ↓IfQ_true, ↓IfQ_false, ↓Wq_ok, ↓Wq_err, ↓Wq_nx, ↓Wq_rt, ↓Wq_ct, ↓Wq_bk, ↓Wq_er, Wq_tryN, Wq_end, Wq_noErr, IfQ_true, IfQ_false, Wq_ok, Wq_err, Wq_nx, Wq_rt, Wq_ct, Wq_bk, Wq_er, ↓bindQ_ok, ↓bindQ_err, ↓toSQ_ok, ↓toSQ_err, ↓thnQ_nx, ↓thnQ_rt, ↓thnQ_ct, ↓thnQ_bk, ↓thnQ_err, ↓endQ_rt, ↓endQ_nx, ↓endQ_ini, ↓noQ_ok, ↓okQ_ok, ↓goQ_nx, ↓goQ_ct, ↓goQ_bk, ↓goQ_rt, ↓itemQ_some, ↓itemQ_none, ↓itemS_ok, ↓tryNQ_rt, ↓tryNQ_nx, ↓whlQ_true, ↓whlQ_false, ↓ite_HR, ↓ite_HS, ↓IfH_true, ↓IfH_false, IfH_true, IfH_false, Wq_IfH, Wq_bindH, Wq_toSH, Wq_thnH, exB, ↓exS_for, ↓exS_whl, ↓evA_lc, exS, evE, evEs, evT, evO, evA, evI, evC, tru, truT, binT, addT, mulT, intT, isIns, insOf_non, binE_non, cmE_non, insOf_bl, binE_bl, cmE_bl, insOf_int, binE_int, cmE_int, insOf_str, binE_str, cmE_str, insOf_lst, binE_lst, cmE_lst, insOf_tup, binE_tup, cmE_tup, insOf_dct, binE_dct, cmE_dct, insOf_kl, binE_kl, cmE_kl, insOf_bL, binE_bL, cmE_bL, insOf_bD, binE_bD, cmE_bD, insOf_ins, insOf_bI, insOf_rf, binE_rf, cmE_rf, fldT_ins, fldT_bI, fldT_rf, mx_0, mx_1, mx_2, mx_3, mx_4, mx_5, mx_01, mx_02, mx_03, mx_04, mx_05, cmpT, icmp, oR, idxT, idxSq, slT, bfT, intF, lenF, lenT, absF, gcdF, min2F, max2F, tupF, sumF, seqOf, lstOf, lstOf', walkOf_lst, walkOf_tup, walkOf_kl, walkOf_str, putI, stF, lkF, putF, lkN, kdAny, kd_non, kd_bl, kd_int, kd_str, kd_tup, kd_lst, kd_bL, kd_kl, kd_ins, kk_ii, kk_ib, kk_bi, kk_bb, kk_ss, kk_tt, kk_ll, kk_tl, kk_lt, kk_is, kk_si, kk_it, kk_il, kk_ti, kk_li, kk_st, kk_sl, kk_ts, kk_ls, onL, mbT, pl_non, pl_bl, pl_int, pl_str, pl_lst, pl_tup, pl_ins, pl_dct, pl_rf, pl_kl, pl_exc, pl_bL, pl_bD, pl_bI, arrT, isExc, isT, isNon, isBlv, ↓R.bind_H, R.bindH_ok, ↓R.toS_H, R.toSH_ok, ↓RS.thn_H, RS.thnH_nx, RS.thnH_rt, startT, setT, wipeT, freeTg, eqT_int, eqT_bl, List.all_cons, List.all_nil, List.map_cons, List.map_nil, List.zip_cons_cons, List.zip_nil_left, List.zip_nil_right, List.foldl_cons, List.foldl_nil, List.cons_append, List.nil_append, List.replicate, List.length_cons, List.length_nil, List.getElem?_cons_zero, List.getElem?_cons_succ, List.set_cons_zero, List.set_cons_succ, List.isEmpty_cons, List.isEmpty_nil, atI_0, atI_1, atI_2, atI_3, atI_4, ix51, ix52, ix53, ix54, Option.map_some, Option.map_none, Option.isSome_none, Option.isSome_some, Option.isNone_none, Option.isNone_some, eq_self, Option.bind_some, if_true, if_false, Bool.false_eq_true, Bool.and_false, Bool.false_and, Bool.not_false, Bool.not_true, Bool.and_true, Bool.true_and, Bool.or_false, Bool.or_true, Bool.false_or, Bool.true_or, Nat.reduceAdd, Nat.reduceSub, Nat.reduceEqDiff, freeS_eq, freeO_none, freeO_some, decide_true, decide_false, reduceCtorEq, endR_rt, endR_nx, endR_ini, iniV_nil, iniV_cons, isBI_int, isBI_str, isBI_lst, isBI_tup, isBI_ins, isBI_rf, isBI_bl, isBI_kl, isBI_non, isBI_dct, Nat.reduceLT, Nat.one_ne_zero, Nat.zero_ne_one])))
  | `(tactic| simp only [zzR]) => `(tactic| simp -dsimp only [↓Wq_for_nil, Wq_for_nil, ↓Wq_tryN, ↓Wq_end, ↓IfQ_true, ↓IfQ_false, ↓Wq_ok, ↓Wq_err, ↓Wq_nx, ↓Wq_rt, ↓Wq_ct, ↓Wq_bk, ↓Wq_er, Wq_tryN, Wq_end, Wq_noErr, IfQ_true, IfQ_false, Wq_ok, Wq_err, Wq_nx, Wq_rt, Wq_ct, Wq_bk, Wq_er, ↓bindQ_ok, ↓bindQ_err, ↓toSQ_ok, ↓toSQ_err, ↓thnQ_nx, ↓thnQ_rt, ↓thnQ_ct, ↓thnQ_bk, ↓thnQ_err, ↓endQ_rt, ↓endQ_nx, ↓endQ_ini, ↓noQ_ok, ↓okQ_ok, ↓goQ_nx, ↓goQ_ct, ↓goQ_bk, ↓goQ_rt, ↓itemQ_some, ↓itemQ_none, ↓itemS_ok, ↓tryNQ_rt, ↓tryNQ_nx, ↓whlQ_true, ↓whlQ_false, ↓ite_HR, ↓ite_HS, ↓IfH_true, ↓IfH_false, IfH_true, IfH_false, Wq_IfH, Wq_bindH, Wq_toSH, Wq_thnH, exB, ↓exS_for, ↓exS_whl, ↓evA_lc, exS, evE, evEs, evT, evO, evA, evI, evC, tru, truT, binT, addT, mulT, intT, isIns, insOf_non, binE_non, cmE_non, insOf_bl, binE_bl, cmE_bl, insOf_int, binE_int, cmE_int, insOf_str, binE_str, cmE_str, insOf_lst, binE_lst, cmE_lst, insOf_tup, binE_tup, cmE_tup, insOf_dct, binE_dct, cmE_dct, insOf_kl, binE_kl, cmE_kl, insOf_bL, binE_bL, cmE_bL, insOf_bD, binE_bD, cmE_bD, insOf_ins, insOf_bI, insOf_rf, binE_rf, cmE_rf, fldT_ins, fldT_bI, fldT_rf, mx_0, mx_1, mx_2, mx_3, mx_4, mx_5, mx_01, mx_02, mx_03, mx_04, mx_05, cmpT, icmp, oR, idxT, idxSq, slT, bfT, intF, lenF, lenT, absF, gcdF, min2F, max2F, tupF, sumF, seqOf, lstOf, lstOf', walkOf_lst, walkOf_tup, walkOf_kl, walkOf_str, putI, stF, lkF, putF, lkN, kdAny, kd_non, kd_bl, kd_int, kd_str, kd_tup, kd_lst, kd_bL, kd_kl, kd_ins, kk_ii, kk_ib, kk_bi, kk_bb, kk_ss, kk_tt, kk_ll, kk_tl, kk_lt, kk_is, kk_si, kk_it, kk_il, kk_ti, kk_li, kk_st, kk_sl, kk_ts, kk_ls, onL, mbT, pl_non, pl_bl, pl_int, pl_str, pl_lst, pl_tup, pl_ins, pl_dct, pl_rf, pl_kl, pl_exc, pl_bL, pl_bD, pl_bI, arrT, isExc, isT, isNon, isBlv, ↓R.bind_H, R.bindH_ok, ↓R.toS_H, R.toSH_ok, ↓RS.thn_H, RS.thnH_nx, RS.thnH_rt, startT, setT, wipeT, freeTg, eqT_int, eqT_bl, List.all_cons, List.all_nil, List.map_cons, List.map_nil, List.zip_cons_cons, List.zip_nil_left, List.zip_nil_right, List.foldl_cons, List.foldl_nil, List.cons_append, List.nil_append, List.replicate, List.length_cons, List.length_nil, List.getElem?_cons_zero, List.getElem?_cons_succ, List.set_cons_zero, List.set_cons_succ, List.isEmpty_cons, List.isEmpty_nil, atI_0, atI_1, atI_2, atI_3, atI_4, ix51, ix52, ix53, ix54, Option.map_some, Option.map_none, Option.isSome_none, Option.isSome_some, Option.isNone_none, Option.isNone_some, eq_self, Option.bind_some, if_true, if_false, Bool.false_eq_true, Bool.and_false, Bool.false_and, Bool.not_false, Bool.not_true, Bool.and_true, Bool.true_and, Bool.or_false, Bool.or_true, Bool.false_or, Bool.true_or, Nat.reduceAdd, Nat.reduceSub, Nat.reduceEqDiff, freeS_eq, freeO_none, freeO_some, decide_true, decide_false, reduceCtorEq, endR_rt, endR_nx, endR_ini, iniV_nil, iniV_cons, isBI_int, isBI_str, isBI_lst, isBI_tup, isBI_ins, isBI_rf, isBI_bl, isBI_kl, isBI_non, isBI_dct, Nat.reduceLT, Nat.one_ne_zero, Nat.zero_ne_one])

namespace K47
/-! ### a drawn source's rows (lw2.lx) -/
theorem pick4 (a b c e : Int) (r : Nat) (h : (r : Int) < 4) : atI [T.int a, T.int b, T.int c, T.int e] (r : Int) = some (.int ([a, b, c, e].getD r 0)) := by
  have : r = 0 ∨ r = 1 ∨ r = 2 ∨ r = 3 := by omega
  rcases this with rfl | rfl | rfl | rfl <;> rfl
theorem high_le (r : Nat) (h : (r : Int) < 4) : 0 < ([2, 3, 11, 1001] : List Int).getD r 0 ∧ ([2, 3, 11, 1001] : List Int).getD r 0 ≤ 1001 := by
  have : r = 0 ∨ r = 1 ∨ r = 2 ∨ r = 3 := by omega
  rcases this with rfl | rfl | rfl | rfl <;> decide
theorem quad_run (W d : Nat) (s0 : Bx) (k : Nat) (ok : BxOk s0 k) (hk : k < 900000) : Wp (run prog W (d + 2) 27 [.rf 0] [bxC s0]) (fun v h => ∃ rs st, v = .lst (rs.map tupR) ∧ h = [bxC st] ∧ SrcOk rs ∧ BxOk st (k + 40)) := by
  refine Wq.run (rfl : prog.defs[27]? = some ⟨1, 6, b__law_quadruples⟩) rfl ?_
  simp only [zzG, b__law_quadruples]
  refine draw_qn ok (by omega) (by omega) (by omega) fun S st S1 ok => ?_
  simp only [zzG]
  refine Wq.forR (fun (j : Nat) σ h' => ∃ rs : List Rw, ∃ st o3 o4 o5, nb o3 ∧ nb o4 ∧ nb o5 ∧ rs.length = j ∧ (∀ r ∈ rs, RwOk (1 + S) r) ∧ BxOk st (k + 1 + 6 * j) ∧ h' = [bxC st] ∧ σ = [some (.rf 0), some (.int (1 + (S : Int))), some (.bL (rs.map tupR)), o3, o4, o5]) ⟨[], st, none, none, none, nb_none, nb_none, nb_none, rfl, by simp, ok, rfl, rfl⟩ ?_ ?_
  · rintro j σ h' hj ⟨rs, st, o3, o4, o5, n3, n4, n5, hl, hr, ok, rfl, rfl⟩
    refine ⟨n3, ?_⟩
    unfold nb at *
    have l1 := lt_of' (n := (rs.map tupR).length) (by rw [List.length_map]; omega)
    simp only [zzG, b__law_quadruples_L1, bodyF]
    refine draw_qn ok (by omega) (by omega) (by omega) fun c st c1 ok => ?_
    have p4 := pick4 2 3 11 1001 c c1
    have hh := high_le c c1
    generalize hg : ([2, 3, 11, 1001] : List Int).getD c 0 = hi at p4 hh
    simp only [zzG, p4, n4]
    refine draw_qn ok (by omega) (by omega) (by omega) fun a st a1 ok => ?_
    simp only [zzG]
    refine draw_qn ok (by omega) (by omega) (by omega) fun b st b1 ok => ?_
    simp only [zzG, n5]
    refine IfQ.split (fun z => ?_) (fun z => ?_)
    · have z : (a : Int) + (b : Int) = 0 := by simpa using z
      simp only [zzG]
      refine draw_qn ok (by omega) (by omega) (by omega) fun w st w1 ok => ?_
      have w2 : w = 0 ∨ w = 1 := by omega
      rcases w2 with rfl | rfl
      · skip
        simp only [zzG, ixN_nat 2 0 (by decide)]
        refine draw_qn ok (by omega) (by omega) (by omega) fun s st s1 ok => ?_
        simp only [zzG]
        refine draw_qn ok (by omega) (by omega) (by omega) fun t st t1 ok => ?_
        simp only [zzG, l1]
        refine ⟨rs ++ [(1, s, b, t)], st, some (.int (0 + (j : Int))), some (.int hi), some (.bL [.int 1, .int (b : Int)]), rfl, rfl, rfl, by rw [List.length_append, hl]; rfl, ?_, ok.mono (by omega), by trivial, by simp [tupR]⟩
        intro r hr2
        rcases List.mem_append.mp hr2 with h | h
        · exact hr r h
        · have : r = (1, s, b, t) := by simpa using h
          subst this
          exact ⟨by show 0 < 1 + b; omega, by show 1 ≤ 1000; omega, by show b ≤ 1000; omega, by show s < 1 + S; omega, by show t < 1 + S; omega⟩
      · skip
        simp only [zzG, ixN_nat 2 1 (by decide)]
        refine draw_qn ok (by omega) (by omega) (by omega) fun s st s1 ok => ?_
        simp only [zzG]
        refine draw_qn ok (by omega) (by omega) (by omega) fun t st t1 ok => ?_
        simp only [zzG, l1]
        refine ⟨rs ++ [(a, s, 1, t)], st, some (.int (0 + (j : Int))), some (.int hi), some (.bL [.int (a : Int), .int 1]), rfl, rfl, rfl, by rw [List.length_append, hl]; rfl, ?_, ok.mono (by omega), by trivial, by simp [tupR]⟩
        intro r hr2
        rcases List.mem_append.mp hr2 with h | h
        · exact hr r h
        · have : r = (a, s, 1, t) := by simpa using h
          subst this
          exact ⟨by show 0 < a + 1; omega, by show a ≤ 1000; omega, by show 1 ≤ 1000; omega, by show s < 1 + S; omega, by show t < 1 + S; omega⟩
    · have z : ¬ (a : Int) + (b : Int) = 0 := by simpa using z
      simp only [zzG]
      refine draw_qn ok (by omega) (by omega) (by omega) fun s st s1 ok => ?_
      simp only [zzG]
      refine draw_qn ok (by omega) (by omega) (by omega) fun t st t1 ok => ?_
      simp only [zzG, l1]
      refine ⟨rs ++ [(a, s, b, t)], st, some (.int (0 + (j : Int))), some (.int hi), some (.bL [.int (a : Int), .int (b : Int)]), rfl, rfl, rfl, by rw [List.length_append, hl]; rfl, ?_, ok.mono (by omega), by trivial, by simp [tupR]⟩
      intro r hr2
      rcases List.mem_append.mp hr2 with h | h
      · exact hr r h
      · have : r = (a, s, b, t) := by simpa using h
        subst this
        exact ⟨by show 0 < a + b; omega, by show a ≤ 1000; omega, by show b ≤ 1000; omega, by show s < 1 + S; omega, by show t < 1 + S; omega⟩
  · rintro σ h' ⟨rs, st, o3, o4, o5, n3, n4, n5, hl, hr, ok, rfl, rfl⟩
    simp only [zzG]
    have e : rs.length = 1 + S := by omega
    exact ⟨rs, st, by trivial, by trivial, ⟨by omega, by omega, by rw [e]; exact hr⟩, ok.mono (by omega)⟩
end K47
end
section
set_option maxRecDepth 100000
set_option maxHeartbeats 4000000
set_option linter.all false
open Kb
local macro_rules
  | `(tactic| simp only [zzO, $as,*]) => `(tactic| simp only [exB, ↓exS_for, ↓exS_whl, ↓evA_lc, exS, evE, evEs, evT, evO, evA, evI, evC, tru, truT, binT, addT, mulT, intT, isIns, insOf_non, binE_non, cmE_non, insOf_bl, binE_bl, cmE_bl, insOf_int, binE_int, cmE_int, insOf_str, binE_str, cmE_str, insOf_lst, binE_lst, cmE_lst, insOf_tup, binE_tup, cmE_tup, insOf_dct, binE_dct, cmE_dct, insOf_kl, binE_kl, cmE_kl, insOf_bL, binE_bL, cmE_bL, insOf_bD, binE_bD, cmE_bD, insOf_ins, insOf_bI, insOf_rf, binE_rf, cmE_rf, fldT_ins, fldT_bI, fldT_rf, mx_0, mx_1, mx_2, mx_3, mx_4, mx_5, mx_01, mx_02, mx_03, mx_04, mx_05, cmpT, icmp, oR, idxT, idxSq, slT, bfT, intF, lenF, lenT, absF, gcdF, min2F, max2F, tupF, sumF, seqOf, lstOf, lstOf', walkOf_lst, walkOf_tup, walkOf_kl, walkOf_str, putI, stF, lkF, putF, lkN, kdAny, kd_non, kd_bl, kd_int, kd_str, kd_tup, kd_lst, kd_bL, kd_kl, kd_ins, kk_ii, kk_ib, kk_bi, kk_bb, kk_ss, kk_tt, kk_ll, kk_tl, kk_lt, kk_is, kk_si, kk_it, kk_il, kk_ti, kk_li, kk_st, kk_sl, kk_ts, kk_ls, onL, mbT, pl_non, pl_bl, pl_int, pl_str, pl_lst, pl_tup, pl_ins, pl_dct, pl_rf, pl_kl, pl_exc, pl_bL, pl_bD, pl_bI, arrT, isExc, isT, isNon, isBlv, ↓R.bind_H, R.bindH_ok, ↓R.toS_H, R.toSH_ok, R.noErr_ok, ↓RS.thn_H, RS.thnH_nx, RS.thnH_rt, R.bindH_ite, R.toSH_ite, RS.thnH_ite, startT, setT, wipeT, freeTg, eqT_int, eqT_bl, List.all_cons, List.all_nil, List.map_cons, List.map_nil, List.zip_cons_cons, List.zip_nil_left, List.zip_nil_right, List.foldl_cons, List.foldl_nil, List.cons_append, List.nil_append, List.replicate, List.length_cons, List.length_nil, List.getElem?_cons_zero, List.getElem?_cons_succ, List.set_cons_zero, List.set_cons_succ, List.isEmpty_cons, List.isEmpty_nil, atI_0, atI_1, atI_2, atI_3, atI_4, ix51, ix52, ix53, ix54, Option.map_some, Option.map_none, Option.isSome_none, Option.isSome_some, Option.isNone_none, Option.isNone_some, eq_self, Option.bind_some, if_true, if_false, Bool.false_eq_true, Bool.and_false, Bool.false_and, Bool.not_false, Bool.not_true, Bool.and_true, Bool.true_and, Bool.or_false, Bool.or_true, Bool.false_or, Bool.true_or, Nat.reduceAdd, Nat.reduceSub, Nat.reduceEqDiff, freeS_eq, freeO_none, freeO_some, decide_true, decide_false, reduceCtorEq, endR_rt, endR_nx, endR_ini, endR_ite, iniV_nil, iniV_cons, isBI_int, isBI_str, isBI_lst, isBI_tup, isBI_ins, isBI_rf, isBI_bl, isBI_kl, isBI_non, isBI_dct, Nat.reduceLT, Nat.one_ne_zero, Nat.zero_ne_one, $as,*])
  | `(tactic| simp only [zzR, $as,*]) => `(tactic| simp -dsimp only [↓Wq_for_nil, Wq_for_nil, ↓Wq_tryN, ↓Wq_end, ↓IfQ_true, ↓IfQ_false, ↓Wq_ok, ↓Wq_err, ↓Wq_nx, ↓Wq_rt, ↓Wq_ct, ↓Wq_bk, ↓Wq_er, Wq_tryN, Wq_end, Wq_noErr, IfQ_true, IfQ_false, Wq_ok, Wq_err, Wq_nx, Wq_rt, Wq_ct, Wq_bk, Wq_er, ↓bindQ_ok, ↓bindQ_err, ↓toSQ_ok, ↓toSQ_err, ↓thnQ_nx, ↓thnQ_rt, ↓thnQ_ct, ↓thnQ_bk, ↓thnQ_err, ↓endQ_rt, ↓endQ_nx, ↓endQ_ini, ↓noQ_ok, ↓okQ_ok, ↓goQ_nx, ↓goQ_ct, ↓goQ_bk, ↓goQ_rt, ↓itemQ_some, ↓itemQ_none, ↓itemS_ok, ↓tryNQ_rt, ↓tryNQ_nx, ↓whlQ_true, ↓whlQ_false, ↓ite_HR, ↓ite_HS, ↓IfH_true, ↓IfH_false, IfH_true, IfH_false, Wq_IfH, Wq_bindH, Wq_toSH, Wq_thnH, exB, ↓exS_for, ↓exS_whl, ↓evA_lc, exS, evE, evEs, evT, evO, evA, evI, evC, tru, truT, binT, addT, mulT, intT, isIns, insOf_non, binE_non, cmE_non, insOf_bl, binE_bl, cmE_bl, insOf_int, binE_int, cmE_int, insOf_str, binE_str, cmE_str, insOf_lst, binE_lst, cmE_lst, insOf_tup, binE_tup, cmE_tup, insOf_dct, binE_dct, cmE_dct, insOf_kl, binE_kl, cmE_kl, insOf_bL, binE_bL, cmE_bL, insOf_bD, binE_bD, cmE_bD, insOf_ins, insOf_bI, insOf_rf, binE_rf, cmE_rf, fldT_ins, fldT_bI, fldT_rf, mx_0, mx_1, mx_2, mx_3, mx_4, mx_5, mx_01, mx_02, mx_03, mx_04, mx_05, cmpT, icmp, oR, idxT, idxSq, slT, bfT, intF, lenF, lenT, absF, gcdF, min2F, max2F, tupF, sumF, seqOf, lstOf, lstOf', walkOf_lst, walkOf_tup, walkOf_kl, walkOf_str, putI, stF, lkF, putF, lkN, kdAny, kd_non, kd_bl, kd_int, kd_str, kd_tup, kd_lst, kd_bL, kd_kl, kd_ins, kk_ii, kk_ib, kk_bi, kk_bb, kk_ss, kk_tt, kk_ll, kk_tl, kk_lt, kk_is, kk_si, kk_it, kk_il, kk_ti, kk_li, kk_st, kk_sl, kk_ts, kk_ls, onL, mbT, pl_non, pl_bl, pl_int, pl_str, pl_lst, pl_tup, pl_ins, pl_dct, pl_rf, pl_kl, pl_exc, pl_bL, pl_bD, pl_bI, arrT, isExc, isT, isNon, isBlv, ↓R.bind_H, R.bindH_ok, ↓R.toS_H, R.toSH_ok, ↓RS.thn_H, RS.thnH_nx, RS.thnH_rt, startT, setT, wipeT, freeTg, eqT_int, eqT_bl, List.all_cons, List.all_nil, List.map_cons, List.map_nil, List.zip_cons_cons, List.zip_nil_left, List.zip_nil_right, List.foldl_cons, List.foldl_nil, List.cons_append, List.nil_append, List.replicate, List.length_cons, List.length_nil, List.getElem?_cons_zero, List.getElem?_cons_succ, List.set_cons_zero, List.set_cons_succ, List.isEmpty_cons, List.isEmpty_nil, atI_0, atI_1, atI_2, atI_3, atI_4, ix51, ix52, ix53, ix54, Option.map_some, Option.map_none, Option.isSome_none, Option.isSome_some, Option.isNone_none, Option.isNone_some, eq_self, Option.bind_some, if_true, if_false, Bool.false_eq_true, Bool.and_false, Bool.false_and, Bool.not_false, Bool.not_true, Bool.and_true, Bool.true_and, Bool.or_false, Bool.or_true, Bool.false_or, Bool.true_or, Nat.reduceAdd, Nat.reduceSub, Nat.reduceEqDiff, freeS_eq, freeO_none, freeO_some, decide_true, decide_false, reduceCtorEq, endR_rt, endR_nx, endR_ini, iniV_nil, iniV_cons, isBI_int, isBI_str, isBI_lst, isBI_tup, isBI_ins, isBI_rf, isBI_bl, isBI_kl, isBI_non, isBI_dct, Nat.reduceLT, Nat.one_ne_zero, Nat.zero_ne_one, $as,*])
  | `(tactic| simp only [zzG, $as,*]) => `(tactic| (simp -dsimp only [↓Wq_for_nil, Wq_for_nil, ↓Wq_tryN, ↓Wq_end, ↓IfQ_true, ↓IfQ_false, ↓Wq_ok, ↓Wq_err, ↓Wq_nx, ↓Wq_rt, ↓Wq_ct, ↓Wq_bk, ↓Wq_er, Wq_tryN, Wq_end, Wq_noErr, IfQ_true, IfQ_false, Wq_ok, Wq_err, Wq_nx, Wq_rt, Wq_ct, Wq_bk, Wq_er, ↓bindQ_ok, ↓bindQ_err, ↓toSQ_ok, ↓toSQ_err, ↓thnQ_nx, ↓thnQ_rt, ↓thnQ_ct, ↓thnQ_bk, ↓thnQ_err, ↓endQ_rt, ↓endQ_nx, ↓endQ_ini, ↓noQ_ok, ↓okQ_ok, ↓goQ_nx, ↓goQ_ct, ↓goQ_bk, ↓goQ_rt, ↓itemQ_some, ↓itemQ_none, ↓itemS_ok, ↓tryNQ_rt, ↓tryNQ_nx, ↓whlQ_true, ↓whlQ_false, ↓ite_HR, ↓ite_HS, ↓IfH_true, ↓IfH_false, IfH_true, IfH_false, Wq_IfH, Wq_bindH, Wq_toSH, Wq_thnH, exB, ↓exS_for, ↓exS_whl, ↓evA_lc, exS, evE, evEs, evT, evO, evA, evI, evC, tru, truT, binT, addT, mulT, intT, isIns, insOf_non, binE_non, cmE_non, insOf_bl, binE_bl, cmE_bl, insOf_int, binE_int, cmE_int, insOf_str, binE_str, cmE_str, insOf_lst, binE_lst, cmE_lst, insOf_tup, binE_tup, cmE_tup, insOf_dct, binE_dct, cmE_dct, insOf_kl, binE_kl, cmE_kl, insOf_bL, binE_bL, cmE_bL, insOf_bD, binE_bD, cmE_bD, insOf_ins, insOf_bI, insOf_rf, binE_rf, cmE_rf, fldT_ins, fldT_bI, fldT_rf, mx_0, mx_1, mx_2, mx_3, mx_4, mx_5, mx_01, mx_02, mx_03, mx_04, mx_05, cmpT, icmp, oR, idxT, idxSq, slT, bfT, intF, lenF, lenT, absF, gcdF, min2F, max2F, tupF, sumF, seqOf, lstOf, lstOf', walkOf_lst, walkOf_tup, walkOf_kl, walkOf_str, putI, stF, lkF, putF, lkN, kdAny, kd_non, kd_bl, kd_int, kd_str, kd_tup, kd_lst, kd_bL, kd_kl, kd_ins, kk_ii, kk_ib, kk_bi, kk_bb, kk_ss, kk_tt, kk_ll, kk_tl, kk_lt, kk_is, kk_si, kk_it, kk_il, kk_ti, kk_li, kk_st, kk_sl, kk_ts, kk_ls, onL, mbT, pl_non, pl_bl, pl_int, pl_str, pl_lst, pl_tup, pl_ins, pl_dct, pl_rf, pl_kl, pl_exc, pl_bL, pl_bD, pl_bI, arrT, isExc, isT, isNon, isBlv, ↓R.bind_H, R.bindH_ok, ↓R.toS_H, R.toSH_ok, ↓RS.thn_H, RS.thnH_nx, RS.thnH_rt, startT, setT, wipeT, freeTg, eqT_int, eqT_bl, List.all_cons, List.all_nil, List.map_cons, List.map_nil, List.zip_cons_cons, List.zip_nil_left, List.zip_nil_right, List.foldl_cons, List.foldl_nil, List.cons_append, List.nil_append, List.replicate, List.length_cons, List.length_nil, List.getElem?_cons_zero, List.getElem?_cons_succ, List.set_cons_zero, List.set_cons_succ, List.isEmpty_cons, List.isEmpty_nil, atI_0, atI_1, atI_2, atI_3, atI_4, ix51, ix52, ix53, ix54, Option.map_some, Option.map_none, Option.isSome_none, Option.isSome_some, Option.isNone_none, Option.isNone_some, eq_self, Option.bind_some, if_true, if_false, Bool.false_eq_true, Bool.and_false, Bool.false_and, Bool.not_false, Bool.not_true, Bool.and_true, Bool.true_and, Bool.or_false, Bool.or_true, Bool.false_or, Bool.true_or, Nat.reduceAdd, Nat.reduceSub, Nat.reduceEqDiff, freeS_eq, freeO_none, freeO_some, decide_true, decide_false, reduceCtorEq, endR_rt, endR_nx, endR_ini, iniV_nil, iniV_cons, isBI_int, isBI_str, isBI_lst, isBI_tup, isBI_ins, isBI_rf, isBI_bl, isBI_kl, isBI_non, isBI_dct, Nat.reduceLT, Nat.one_ne_zero, Nat.zero_ne_one, $as,*]; repeat (first | refine IfQ.yes (mulOk_of (by omega) (by omega) (by omega) (by omega)) ?_ | refine IfQ.yes (divOk_of (by omega) (by omega) (by omega)) ?_ | refine IfQ.yes (by decide) ?_ | refine IfQ.no (by decide) ?_ | refine IfQ.yes (rngOk_of (by (try simp only [List.length_map, List.length_append, List.length_cons, List.length_nil, List.length_range]); omega) (by (try simp only [List.length_map, List.length_append, List.length_cons, List.length_nil, List.length_range]); omega)) ?_ | refine IfQ.yes (len_of (by simp only [List.length_map, List.length_append, List.length_cons, List.length_nil, List.length_replicate, rngT_len]; omega)) ?_ | refine IfQ.yes (shlOk_of (by omega) (by omega) (by omega) (by omega)) ?_ | simp -dsimp only [↓Wq_for_nil, Wq_for_nil, ↓Wq_tryN, ↓Wq_end, ↓IfQ_true, ↓IfQ_false, ↓Wq_ok, ↓Wq_err, ↓Wq_nx, ↓Wq_rt, ↓Wq_ct, ↓Wq_bk, ↓Wq_er, Wq_tryN, Wq_end, Wq_noErr, IfQ_true, IfQ_false, Wq_ok, Wq_err, Wq_nx, Wq_rt, Wq_ct, Wq_bk, Wq_er, ↓bindQ_ok, ↓bindQ_err, ↓toSQ_ok, ↓toSQ_err, ↓thnQ_nx, ↓thnQ_rt, ↓thnQ_ct, ↓thnQ_bk, ↓thnQ_err, ↓endQ_rt, ↓endQ_nx, ↓endQ_ini, ↓noQ_ok, ↓okQ_ok, ↓goQ_nx, ↓goQ_ct, ↓goQ_bk, ↓goQ_rt, ↓itemQ_some, ↓itemQ_none, ↓itemS_ok, ↓tryNQ_rt, ↓tryNQ_nx, ↓whlQ_true, ↓whlQ_false, ↓ite_HR, ↓ite_HS, ↓IfH_true, ↓IfH_false, IfH_true, IfH_false, Wq_IfH, Wq_bindH, Wq_toSH, Wq_thnH, exB, ↓exS_for, ↓exS_whl, ↓evA_lc, exS, evE, evEs, evT, evO, evA, evI, evC, tru, truT, binT, addT, mulT, intT, isIns, insOf_non, binE_non, cmE_non, insOf_bl, binE_bl, cmE_bl, insOf_int, binE_int, cmE_int, insOf_str, binE_str, cmE_str, insOf_lst, binE_lst, cmE_lst, insOf_tup, binE_tup, cmE_tup, insOf_dct, binE_dct, cmE_dct, insOf_kl, binE_kl, cmE_kl, insOf_bL, binE_bL, cmE_bL, insOf_bD, binE_bD, cmE_bD, insOf_ins, insOf_bI, insOf_rf, binE_rf, cmE_rf, fldT_ins, fldT_bI, fldT_rf, mx_0, mx_1, mx_2, mx_3, mx_4, mx_5, mx_01, mx_02, mx_03, mx_04, mx_05, cmpT, icmp, oR, idxT, idxSq, slT, bfT, intF, lenF, lenT, absF, gcdF, min2F, max2F, tupF, sumF, seqOf, lstOf, lstOf', walkOf_lst, walkOf_tup, walkOf_kl, walkOf_str, putI, stF, lkF, putF, lkN, kdAny, kd_non, kd_bl, kd_int, kd_str, kd_tup, kd_lst, kd_bL, kd_kl, kd_ins, kk_ii, kk_ib, kk_bi, kk_bb, kk_ss, kk_tt, kk_ll, kk_tl, kk_lt, kk_is, kk_si, kk_it, kk_il, kk_ti, kk_li, kk_st, kk_sl, kk_ts, kk_ls, onL, mbT, pl_non, pl_bl, pl_int, pl_str, pl_lst, pl_tup, pl_ins, pl_dct, pl_rf, pl_kl, pl_exc, pl_bL, pl_bD, pl_bI, arrT, isExc, isT, isNon, isBlv, ↓R.bind_H, R.bindH_ok, ↓R.toS_H, R.toSH_ok, ↓RS.thn_H, RS.thnH_nx, RS.thnH_rt, startT, setT, wipeT, freeTg, eqT_int, eqT_bl, List.all_cons, List.all_nil, List.map_cons, List.map_nil, List.zip_cons_cons, List.zip_nil_left, List.zip_nil_right, List.foldl_cons, List.foldl_nil, List.cons_append, List.nil_append, List.replicate, List.length_cons, List.length_nil, List.getElem?_cons_zero, List.getElem?_cons_succ, List.set_cons_zero, List.set_cons_succ, List.isEmpty_cons, List.isEmpty_nil, atI_0, atI_1, atI_2, atI_3, atI_4, ix51, ix52, ix53, ix54, Option.map_some, Option.map_none, Option.isSome_none, Option.isSome_some, Option.isNone_none, Option.isNone_some, eq_self, Option.bind_some, if_true, if_false, Bool.false_eq_true, Bool.and_false, Bool.false_and, Bool.not_false, Bool.not_true, Bool.and_true, Bool.true_and, Bool.or_false, Bool.or_true, Bool.false_or, Bool.true_or, Nat.reduceAdd, Nat.reduceSub, Nat.reduceEqDiff, freeS_eq, freeO_none, freeO_some, decide_true, decide_false, reduceCtorEq, endR_rt, endR_nx, endR_ini, iniV_nil, iniV_cons, isBI_int, isBI_str, isBI_lst, isBI_tup, isBI_ins, isBI_rf, isBI_bl, isBI_kl, isBI_non, isBI_dct, Nat.reduceLT, Nat.one_ne_zero, Nat.zero_ne_one, $as,*])))
  | `(tactic| simp only [zzG]) => `(tactic| (simp -dsimp only [↓Wq_for_nil, Wq_for_nil, ↓Wq_tryN, ↓Wq_end, ↓IfQ_true, ↓IfQ_false, ↓Wq_ok, ↓Wq_err, ↓Wq_nx, ↓Wq_rt, ↓Wq_ct, ↓Wq_bk, ↓Wq_er, Wq_tryN, Wq_end, Wq_noErr, IfQ_true, IfQ_false, Wq_ok, Wq_err, Wq_nx, Wq_rt, Wq_ct, Wq_bk, Wq_er, ↓bindQ_ok, ↓bindQ_err, ↓toSQ_ok, ↓toSQ_err, ↓thnQ_nx, ↓thnQ_rt, ↓thnQ_ct, ↓thnQ_bk, ↓thnQ_err, ↓endQ_rt, ↓endQ_nx, ↓endQ_ini, ↓noQ_ok, ↓okQ_ok, ↓goQ_nx, ↓goQ_ct, ↓goQ_bk, ↓goQ_rt, ↓itemQ_some, ↓itemQ_none, ↓itemS_ok, ↓tryNQ_rt, ↓tryNQ_nx, ↓whlQ_true, ↓whlQ_false, ↓ite_HR, ↓ite_HS, ↓IfH_true, ↓IfH_false, IfH_true, IfH_false, Wq_IfH, Wq_bindH, Wq_toSH, Wq_thnH, exB, ↓exS_for, ↓exS_whl, ↓evA_lc, exS, evE, evEs, evT, evO, evA, evI, evC, tru, truT, binT, addT, mulT, intT, isIns, insOf_non, binE_non, cmE_non, insOf_bl, binE_bl, cmE_bl, insOf_int, binE_int, cmE_int, insOf_str, binE_str, cmE_str, insOf_lst, binE_lst, cmE_lst, insOf_tup, binE_tup, cmE_tup, insOf_dct, binE_dct, cmE_dct, insOf_kl, binE_kl, cmE_kl, insOf_bL, binE_bL, cmE_bL, insOf_bD, binE_bD, cmE_bD, insOf_ins, insOf_bI, insOf_rf, binE_rf, cmE_rf, fldT_ins, fldT_bI, fldT_rf, mx_0, mx_1, mx_2, mx_3, mx_4, mx_5, mx_01, mx_02, mx_03, mx_04, mx_05, cmpT, icmp, oR, idxT, idxSq, slT, bfT, intF, lenF, lenT, absF, gcdF, min2F, max2F, tupF, sumF, seqOf, lstOf, lstOf', walkOf_lst, walkOf_tup, walkOf_kl, walkOf_str, putI, stF, lkF, putF, lkN, kdAny, kd_non, kd_bl, kd_int, kd_str, kd_tup, kd_lst, kd_bL, kd_kl, kd_ins, kk_ii, kk_ib, kk_bi, kk_bb, kk_ss, kk_tt, kk_ll, kk_tl, kk_lt, kk_is, kk_si, kk_it, kk_il, kk_ti, kk_li, kk_st, kk_sl, kk_ts, kk_ls, onL, mbT, pl_non, pl_bl, pl_int, pl_str, pl_lst, pl_tup, pl_ins, pl_dct, pl_rf, pl_kl, pl_exc, pl_bL, pl_bD, pl_bI, arrT, isExc, isT, isNon, isBlv, ↓R.bind_H, R.bindH_ok, ↓R.toS_H, R.toSH_ok, ↓RS.thn_H, RS.thnH_nx, RS.thnH_rt, startT, setT, wipeT, freeTg, eqT_int, eqT_bl, List.all_cons, List.all_nil, List.map_cons, List.map_nil, List.zip_cons_cons, List.zip_nil_left, List.zip_nil_right, List.foldl_cons, List.foldl_nil, List.cons_append, List.nil_append, List.replicate, List.length_cons, List.length_nil, List.getElem?_cons_zero, List.getElem?_cons_succ, List.set_cons_zero, List.set_cons_succ, List.isEmpty_cons, List.isEmpty_nil, atI_0, atI_1, atI_2, atI_3, atI_4, ix51, ix52, ix53, ix54, Option.map_some, Option.map_none, Option.isSome_none, Option.isSome_some, Option.isNone_none, Option.isNone_some, eq_self, Option.bind_some, if_true, if_false, Bool.false_eq_true, Bool.and_false, Bool.false_and, Bool.not_false, Bool.not_true, Bool.and_true, Bool.true_and, Bool.or_false, Bool.or_true, Bool.false_or, Bool.true_or, Nat.reduceAdd, Nat.reduceSub, Nat.reduceEqDiff, freeS_eq, freeO_none, freeO_some, decide_true, decide_false, reduceCtorEq, endR_rt, endR_nx, endR_ini, iniV_nil, iniV_cons, isBI_int, isBI_str, isBI_lst, isBI_tup, isBI_ins, isBI_rf, isBI_bl, isBI_kl, isBI_non, isBI_dct, Nat.reduceLT, Nat.one_ne_zero, Nat.zero_ne_one]; repeat (first | refine IfQ.yes (mulOk_of (by omega) (by omega) (by omega) (by omega)) ?_ | refine IfQ.yes (divOk_of (by omega) (by omega) (by omega)) ?_ | refine IfQ.yes (by decide) ?_ | refine IfQ.no (by decide) ?_ | refine IfQ.yes (rngOk_of (by (try simp only [List.length_map, List.length_append, List.length_cons, List.length_nil, List.length_range]); omega) (by (try simp only [List.length_map, List.length_append, List.length_cons, List.length_nil, List.length_range]); omega)) ?_ | refine IfQ.yes (len_of (by simp only [List.length_map, List.length_append, List.length_cons, List.length_nil, List.length_replicate, rngT_len]; omega)) ?_ | refine IfQ.yes (shlOk_of (by omega) (by omega) (by omega) (by omega)) ?_ | simp -dsimp only [↓Wq_for_nil, Wq_for_nil, ↓Wq_tryN, ↓Wq_end, ↓IfQ_true, ↓IfQ_false, ↓Wq_ok, ↓Wq_err, ↓Wq_nx, ↓Wq_rt, ↓Wq_ct, ↓Wq_bk, ↓Wq_er, Wq_tryN, Wq_end, Wq_noErr, IfQ_true, IfQ_false, Wq_ok, Wq_err, Wq_nx, Wq_rt, Wq_ct, Wq_bk, Wq_er, ↓bindQ_ok, ↓bindQ_err, ↓toSQ_ok, ↓toSQ_err, ↓thnQ_nx, ↓thnQ_rt, ↓thnQ_ct, ↓thnQ_bk, ↓thnQ_err, ↓endQ_rt, ↓endQ_nx, ↓endQ_ini, ↓noQ_ok, ↓okQ_ok, ↓goQ_nx, ↓goQ_ct, ↓goQ_bk, ↓goQ_rt, ↓itemQ_some, ↓itemQ_none, ↓itemS_ok, ↓tryNQ_rt, ↓tryNQ_nx, ↓whlQ_true, ↓whlQ_false, ↓ite_HR, ↓ite_HS, ↓IfH_true, ↓IfH_false, IfH_true, IfH_false, Wq_IfH, Wq_bindH, Wq_toSH, Wq_thnH, exB, ↓exS_for, ↓exS_whl, ↓evA_lc, exS, evE, evEs, evT, evO, evA, evI, evC, tru, truT, binT, addT, mulT, intT, isIns, insOf_non, binE_non, cmE_non, insOf_bl, binE_bl, cmE_bl, insOf_int, binE_int, cmE_int, insOf_str, binE_str, cmE_str, insOf_lst, binE_lst, cmE_lst, insOf_tup, binE_tup, cmE_tup, insOf_dct, binE_dct, cmE_dct, insOf_kl, binE_kl, cmE_kl, insOf_bL, binE_bL, cmE_bL, insOf_bD, binE_bD, cmE_bD, insOf_ins, insOf_bI, insOf_rf, binE_rf, cmE_rf, fldT_ins, fldT_bI, fldT_rf, mx_0, mx_1, mx_2, mx_3, mx_4, mx_5, mx_01, mx_02, mx_03, mx_04, mx_05, cmpT, icmp, oR, idxT, idxSq, slT, bfT, intF, lenF, lenT, absF, gcdF, min2F, max2F, tupF, sumF, seqOf, lstOf, lstOf', walkOf_lst, walkOf_tup, walkOf_kl, walkOf_str, putI, stF, lkF, putF, lkN, kdAny, kd_non, kd_bl, kd_int, kd_str, kd_tup, kd_lst, kd_bL, kd_kl, kd_ins, kk_ii, kk_ib, kk_bi, kk_bb, kk_ss, kk_tt, kk_ll, kk_tl, kk_lt, kk_is, kk_si, kk_it, kk_il, kk_ti, kk_li, kk_st, kk_sl, kk_ts, kk_ls, onL, mbT, pl_non, pl_bl, pl_int, pl_str, pl_lst, pl_tup, pl_ins, pl_dct, pl_rf, pl_kl, pl_exc, pl_bL, pl_bD, pl_bI, arrT, isExc, isT, isNon, isBlv, ↓R.bind_H, R.bindH_ok, ↓R.toS_H, R.toSH_ok, ↓RS.thn_H, RS.thnH_nx, RS.thnH_rt, startT, setT, wipeT, freeTg, eqT_int, eqT_bl, List.all_cons, List.all_nil, List.map_cons, List.map_nil, List.zip_cons_cons, List.zip_nil_left, List.zip_nil_right, List.foldl_cons, List.foldl_nil, List.cons_append, List.nil_append, List.replicate, List.length_cons, List.length_nil, List.getElem?_cons_zero, List.getElem?_cons_succ, List.set_cons_zero, List.set_cons_succ, List.isEmpty_cons, List.isEmpty_nil, atI_0, atI_1, atI_2, atI_3, atI_4, ix51, ix52, ix53, ix54, Option.map_some, Option.map_none, Option.isSome_none, Option.isSome_some, Option.isNone_none, Option.isNone_some, eq_self, Option.bind_some, if_true, if_false, Bool.false_eq_true, Bool.and_false, Bool.false_and, Bool.not_false, Bool.not_true, Bool.and_true, Bool.true_and, Bool.or_false, Bool.or_true, Bool.false_or, Bool.true_or, Nat.reduceAdd, Nat.reduceSub, Nat.reduceEqDiff, freeS_eq, freeO_none, freeO_some, decide_true, decide_false, reduceCtorEq, endR_rt, endR_nx, endR_ini, iniV_nil, iniV_cons, isBI_int, isBI_str, isBI_lst, isBI_tup, isBI_ins, isBI_rf, isBI_bl, isBI_kl, isBI_non, isBI_dct, Nat.reduceLT, Nat.one_ne_zero, Nat.zero_ne_one])))
  | `(tactic| simp only [zzR]) => `(tactic| simp -dsimp only [↓Wq_for_nil, Wq_for_nil, ↓Wq_tryN, ↓Wq_end, ↓IfQ_true, ↓IfQ_false, ↓Wq_ok, ↓Wq_err, ↓Wq_nx, ↓Wq_rt, ↓Wq_ct, ↓Wq_bk, ↓Wq_er, Wq_tryN, Wq_end, Wq_noErr, IfQ_true, IfQ_false, Wq_ok, Wq_err, Wq_nx, Wq_rt, Wq_ct, Wq_bk, Wq_er, ↓bindQ_ok, ↓bindQ_err, ↓toSQ_ok, ↓toSQ_err, ↓thnQ_nx, ↓thnQ_rt, ↓thnQ_ct, ↓thnQ_bk, ↓thnQ_err, ↓endQ_rt, ↓endQ_nx, ↓endQ_ini, ↓noQ_ok, ↓okQ_ok, ↓goQ_nx, ↓goQ_ct, ↓goQ_bk, ↓goQ_rt, ↓itemQ_some, ↓itemQ_none, ↓itemS_ok, ↓tryNQ_rt, ↓tryNQ_nx, ↓whlQ_true, ↓whlQ_false, ↓ite_HR, ↓ite_HS, ↓IfH_true, ↓IfH_false, IfH_true, IfH_false, Wq_IfH, Wq_bindH, Wq_toSH, Wq_thnH, exB, ↓exS_for, ↓exS_whl, ↓evA_lc, exS, evE, evEs, evT, evO, evA, evI, evC, tru, truT, binT, addT, mulT, intT, isIns, insOf_non, binE_non, cmE_non, insOf_bl, binE_bl, cmE_bl, insOf_int, binE_int, cmE_int, insOf_str, binE_str, cmE_str, insOf_lst, binE_lst, cmE_lst, insOf_tup, binE_tup, cmE_tup, insOf_dct, binE_dct, cmE_dct, insOf_kl, binE_kl, cmE_kl, insOf_bL, binE_bL, cmE_bL, insOf_bD, binE_bD, cmE_bD, insOf_ins, insOf_bI, insOf_rf, binE_rf, cmE_rf, fldT_ins, fldT_bI, fldT_rf, mx_0, mx_1, mx_2, mx_3, mx_4, mx_5, mx_01, mx_02, mx_03, mx_04, mx_05, cmpT, icmp, oR, idxT, idxSq, slT, bfT, intF, lenF, lenT, absF, gcdF, min2F, max2F, tupF, sumF, seqOf, lstOf, lstOf', walkOf_lst, walkOf_tup, walkOf_kl, walkOf_str, putI, stF, lkF, putF, lkN, kdAny, kd_non, kd_bl, kd_int, kd_str, kd_tup, kd_lst, kd_bL, kd_kl, kd_ins, kk_ii, kk_ib, kk_bi, kk_bb, kk_ss, kk_tt, kk_ll, kk_tl, kk_lt, kk_is, kk_si, kk_it, kk_il, kk_ti, kk_li, kk_st, kk_sl, kk_ts, kk_ls, onL, mbT, pl_non, pl_bl, pl_int, pl_str, pl_lst, pl_tup, pl_ins, pl_dct, pl_rf, pl_kl, pl_exc, pl_bL, pl_bD, pl_bI, arrT, isExc, isT, isNon, isBlv, ↓R.bind_H, R.bindH_ok, ↓R.toS_H, R.toSH_ok, ↓RS.thn_H, RS.thnH_nx, RS.thnH_rt, startT, setT, wipeT, freeTg, eqT_int, eqT_bl, List.all_cons, List.all_nil, List.map_cons, List.map_nil, List.zip_cons_cons, List.zip_nil_left, List.zip_nil_right, List.foldl_cons, List.foldl_nil, List.cons_append, List.nil_append, List.replicate, List.length_cons, List.length_nil, List.getElem?_cons_zero, List.getElem?_cons_succ, List.set_cons_zero, List.set_cons_succ, List.isEmpty_cons, List.isEmpty_nil, atI_0, atI_1, atI_2, atI_3, atI_4, ix51, ix52, ix53, ix54, Option.map_some, Option.map_none, Option.isSome_none, Option.isSome_some, Option.isNone_none, Option.isNone_some, eq_self, Option.bind_some, if_true, if_false, Bool.false_eq_true, Bool.and_false, Bool.false_and, Bool.not_false, Bool.not_true, Bool.and_true, Bool.true_and, Bool.or_false, Bool.or_true, Bool.false_or, Bool.true_or, Nat.reduceAdd, Nat.reduceSub, Nat.reduceEqDiff, freeS_eq, freeO_none, freeO_some, decide_true, decide_false, reduceCtorEq, endR_rt, endR_nx, endR_ini, iniV_nil, iniV_cons, isBI_int, isBI_str, isBI_lst, isBI_tup, isBI_ins, isBI_rf, isBI_bl, isBI_kl, isBI_non, isBI_dct, Nat.reduceLT, Nat.one_ne_zero, Nat.zero_ne_one])

namespace K47
/-! ### the common denominator and the law's sum -/
def P1 (n : Nat) : List Rw → Nat
  | [] => 1
  | r :: rs => sm r ^ n * P1 n rs
def PT (n : Nat) : List Pr → Nat
  | [] => 1
  | p :: ps => P1 n p.1 * PT n ps
def PF : List Pr → Nat
  | [] => 1
  | p :: ps => p.2.den * PF ps
def CC (n : Nat) (ps : List Pr) : Nat := PT n ps * PF ps
theorem P1_app (n : Nat) (l : List Rw) (r : Rw) : P1 n (l ++ [r]) = P1 n l * sm r ^ n := by
  induction l with
  | nil => show sm r ^ n * 1 = 1 * sm r ^ n; omega
  | cons a l ih => show sm a ^ n * P1 n (l ++ [r]) = sm a ^ n * P1 n l * sm r ^ n; rw [ih, Nat.mul_assoc]
theorem PT_app (n : Nat) (l : List Pr) (p : Pr) : PT n (l ++ [p]) = PT n l * P1 n p.1 := by
  induction l with
  | nil => show P1 n p.1 * 1 = 1 * P1 n p.1; omega
  | cons a l ih => show P1 n a.1 * PT n (l ++ [p]) = P1 n a.1 * PT n l * P1 n p.1; rw [ih, Nat.mul_assoc]
theorem PF_app (l : List Pr) (p : Pr) : PF (l ++ [p]) = PF l * p.2.den := by
  induction l with
  | nil => show p.2.den * 1 = 1 * p.2.den; omega
  | cons a l ih => show a.2.den * PF (l ++ [p]) = a.2.den * PF l * p.2.den; rw [ih, Nat.mul_assoc]
theorem sm_b {N : Nat} {r : Rw} (h : RwOk N r) : 0 < sm r ∧ sm r ≤ 2 ^ 11 := by
  have := h.p; have := h.a; have := h.b
  unfold sm; omega
theorem mul_pow_le {a b x y : Nat} (h1 : a ≤ 2 ^ x) (h2 : b ≤ 2 ^ y) : a * b ≤ 2 ^ (x + y) := by
  rw [Nat.pow_add]; exact Nat.mul_le_mul h1 h2
theorem pow_sm {N : Nat} {r : Rw} (h : RwOk N r) (j : Nat) : 0 < sm r ^ j ∧ sm r ^ j ≤ 2 ^ (11 * j) := by
  have k := sm_b h
  refine ⟨Nat.pow_pos k.1, ?_⟩
  rw [Nat.pow_mul]; exact Nat.pow_le_pow_left k.2 j
theorem P1_le {N n : Nat} (hn : n ≤ 8) : ∀ l : List Rw, (∀ r ∈ l, RwOk N r) → 0 < P1 n l ∧ P1 n l ≤ 2 ^ (88 * l.length) := by
  intro l
  induction l with
  | nil => intro _; exact ⟨Nat.one_pos, Nat.le_refl 1⟩
  | cons r l ih =>
    intro h
    have a := ih fun x hx => h x (List.mem_cons_of_mem _ hx)
    have b := pow_sm (h r List.mem_cons_self) n
    refine ⟨Nat.mul_pos b.1 a.1, ?_⟩
    refine Nat.le_trans (mul_pow_le (Nat.le_trans b.2 (Nat.pow_le_pow_right (by decide) (show 11 * n ≤ 88 by omega))) a.2) ?_
    exact Nat.pow_le_pow_right (by decide) (by rw [List.length_cons]; omega)
theorem PT_le {n : Nat} (hn : n ≤ 8) : ∀ l : List Pr, (∀ p ∈ l, SrcOk p.1) → 0 < PT n l ∧ PT n l ≤ 2 ^ (352 * l.length) := by
  intro l
  induction l with
  | nil => intro _; exact ⟨Nat.one_pos, Nat.le_refl 1⟩
  | cons p l ih =>
    intro h
    have a := ih fun x hx => h x (List.mem_cons_of_mem _ hx)
    have o := h p List.mem_cons_self
    have b := P1_le hn p.1 o.ok
    have l4 := o.le
    refine ⟨Nat.mul_pos b.1 a.1, ?_⟩
    refine Nat.le_trans (mul_pow_le (Nat.le_trans b.2 (Nat.pow_le_pow_right (by decide) (show 88 * p.1.length ≤ 352 by omega))) a.2) ?_
    exact Nat.pow_le_pow_right (by decide) (by rw [List.length_cons]; omega)
theorem PF_le : ∀ l : List Pr, (∀ p ∈ l, FOk p.2) → 0 < PF l ∧ PF l ≤ 2 ^ (201 * l.length) := by
  intro l
  induction l with
  | nil => intro _; exact ⟨Nat.one_pos, Nat.le_refl 1⟩
  | cons p l ih =>
    intro h
    have a := ih fun x hx => h x (List.mem_cons_of_mem _ hx)
    have o := h p List.mem_cons_self
    refine ⟨Nat.mul_pos p.2.den_pos a.1, ?_⟩
    refine Nat.le_trans (mul_pow_le o.d a.2) ?_
    exact Nat.pow_le_pow_right (by decide) (by rw [List.length_cons]; omega)
theorem sm_dvd_P1 (rs : List Rw) {s : Nat} (h : s < rs.length) : ∃ k, P1 1 rs = sm (at' rs s) * k := by
  unfold at'
  rw [List.getD_eq_getElem?_getD, List.getElem?_eq_getElem h]
  show ∃ k, P1 1 rs = sm rs[s] * k
  induction rs generalizing s with
  | nil => simp at h
  | cons r rs ih =>
    cases s with
    | zero => exact ⟨P1 1 rs, by show sm r ^ 1 * _ = sm r * _; rw [Nat.pow_one]⟩
    | succ s =>
      have hs : s < rs.length := by simpa using h
      obtain ⟨k, e⟩ := ih (s := s) hs
      refine ⟨sm r * k, ?_⟩
      show sm r ^ 1 * P1 1 rs = _
      rw [e, Nat.pow_one]
      exact Nat.mul_left_comm _ _ _
theorem P1_pow (n : Nat) : ∀ rs : List Rw, P1 n rs = (P1 1 rs) ^ n := by
  intro rs
  induction rs with
  | nil => show 1 = 1 ^ n; rw [Nat.one_pow]
  | cons r rs ih => show sm r ^ n * P1 n rs = (sm r ^ 1 * P1 1 rs) ^ n; rw [ih, Nat.pow_one, Nat.mul_pow]
theorem lev_dvd {rs : List Rw} (ok : SrcOk rs) : ∀ n, ∀ x ∈ levL rs n, x.2.1 ∣ (P1 1 rs) ^ n := by
  intro n
  induction n with
  | zero =>
    intro x hx
    have : x = (1, 1, 0) := by simpa [levL] using hx
    subst this
    exact ⟨1, rfl⟩
  | succ n ih =>
    intro x hx
    obtain ⟨y, hy, hx⟩ := List.mem_flatMap.mp hx
    obtain ⟨k, e⟩ := sm_dvd_P1 rs (lev_ok ok n y hy).s
    have : x.2.1 = y.2.1 * sm (at' rs y.2.2) := by
      have : x = stepL rs false y ∨ x = stepL rs true y := by simpa [bothL] using hx
      rcases this with rfl | rfl <;> rfl
    rw [this, Nat.pow_succ]
    exact Nat.mul_dvd_mul (ih y hy) ⟨k, e⟩
theorem lv_mem {rs : List Rw} {n i : Nat} (h : i < 2 ^ n) : lv rs n i ∈ levL rs n := by
  have h2 : i < (levL rs n).length := by rw [lev_len]; exact h
  unfold lv
  rw [List.getD_eq_getElem?_getD, List.getElem?_eq_getElem h2]
  exact List.getElem_mem h2
theorem PT_dvd (n : Nat) : ∀ (l : List Pr) (p : Pr), p ∈ l → P1 n p.1 ∣ PT n l := by
  intro l
  induction l with
  | nil => intro p h; simp at h
  | cons a l ih =>
    intro p h
    rcases List.mem_cons.mp h with rfl | h
    · exact ⟨_, rfl⟩
    · exact Nat.dvd_trans (ih p h) ⟨P1 n a.1, Nat.mul_comm _ _⟩
theorem PF_dvd : ∀ (l : List Pr) (p : Pr), p ∈ l → p.2.den ∣ PF l := by
  intro l
  induction l with
  | nil => intro p h; simp at h
  | cons a l ih =>
    intro p h
    rcases List.mem_cons.mp h with rfl | h
    · exact ⟨_, rfl⟩
    · exact Nat.dvd_trans (ih p h) ⟨a.2.den, Nat.mul_comm _ _⟩
structure PsOk (ps : List Pr) : Prop where
  ok : ∀ p ∈ ps, SrcOk p.1 ∧ FOk p.2
  l : ps.length ≤ 4
theorem CC_le {n : Nat} (hn : n ≤ 8) {ps : List Pr} (o : PsOk ps) : 0 < CC n ps ∧ CC n ps ≤ 2 ^ 2300 := by
  have a := PT_le hn ps fun p h => (o.ok p h).1
  have b := PF_le ps fun p h => (o.ok p h).2
  have l := o.l
  refine ⟨Nat.mul_pos a.1 b.1, Nat.le_trans (mul_pow_le a.2 b.2) (Nat.pow_le_pow_right (by decide) (by omega))⟩
theorem CC_ok {n : Nat} (hn : n ≤ 8) {ps : List Pr} (o : PsOk ps) : COk (CC n ps) n ps := by
  have c := CC_le hn o
  refine ⟨c.1, Nat.le_trans c.2 (Nat.pow_le_pow_right (by decide) (by decide)), hn, fun p hp i hi => ?_, o.ok⟩
  have d := lev_dvd (o.ok p hp).1 n _ (lv_mem (rs := p.1) hi)
  rw [← P1_pow] at d
  exact Nat.mul_dvd_mul (Nat.dvd_trans d (PT_dvd n ps p hp)) (PF_dvd ps p hp)
def tbT (p : Pr) : T := .lst (p.1.map tupR)
def fcT (p : Pr) : T := dT p.2
theorem mul_big {a b : Nat} (h1 : a ≤ 2 ^ 3500) (h2 : b ≤ 2 ^ 3500) : mulOk (a : Int) (b : Int) = true := by
  have e : (2 : Nat) ^ 3501 ≤ Big := Nat.pow_le_pow_right (by decide) (by decide)
  have e2 : (2 : Nat) ^ 3500 < 2 ^ 3501 := Nat.pow_lt_pow_right (by decide) (by decide)
  exact mulOk_n (by omega) (by omega)
theorem le_35 {a x : Nat} (h : a ≤ 2 ^ x) (hx : x ≤ 3500) : a ≤ 2 ^ 3500 := Nat.le_trans h (Nat.pow_le_pow_right (by decide) hx)
theorem row_run (W d : Nat) (tb fb nI : T) (n : Nat) (hn : n ≤ 8) (c : Nat) (b : Nat) (r : Rw) (N : Nat) (ro : RwOk N r) (o4 o5 o7 : Option T) (n7 : nb o7) (h : Hl) (hc : c ≤ 2 ^ b) (hb : b ≤ 3000) (Q : RS → Prop) (wn : nI = .int (n : Int))
    (k : ∀ o7, nb o7 → Q (.nx [some tb, some fb, some nI, some (.int ((c * sm r ^ n : Nat) : Int)), o4, o5, some (tupR r), o7] h)) :
    Wq (bodyF prog (run prog W d) W b__law_common_L2 [some tb, some fb, some nI, some (.int (c : Int)), o4, o5, some (tupR r), o7] h) Q Tg.mk := by
  subst wn
  simp only [zzG, b__law_common_L2, bodyF]
  refine Wq.forR (fun (j : Nat) σ h' => h' = h ∧ ∃ o7, nb o7 ∧ σ = [some tb, some fb, some (.int (n : Int)), some (.int ((c * sm r ^ j : Nat) : Int)), o4, o5, some (tupR r), o7]) ⟨rfl, o7, n7, by rw [Nat.pow_zero, Nat.mul_one]⟩ ?_ ?_
  · rintro j σ h' hj ⟨rfl, o7, n7, rfl⟩
    refine ⟨n7, ?_⟩
    have p := pow_sm ro j
    have q := le_35 (mul_pow_le hc p.2) (by omega)
    have s := sm_b ro
    have e : ((sm r : Nat) : Int) = (r.1 : Int) + (r.2.2.1 : Int) := by unfold sm; omega
    have m := mul_big q (le_35 s.2 (by decide))
    rw [e] at m
    simp only [zzG, b__law_common_L3, bodyF, tupR, m]
    refine ⟨by trivial, some (.int (0 + (j : Int))), rfl, ?_⟩
    rw [← e, Nat.pow_succ, ← Nat.mul_assoc, Int.natCast_mul (c * sm r ^ j)]
  · rintro σ h' ⟨rfl, o7, n7, rfl⟩
    have jn : ((n : Int) - 0).toNat = n := by omega
    rw [jn]
    simp only [zzG]
    exact k o7 n7
theorem common_run (W d : Nat) (ps : List Pr) (n : Nat) (hn : n ≤ 8) (h : Hl) (o : PsOk ps) : Wp (run prog W (d + 1) 30 [.lst (ps.map tbT), .lst (ps.map fcT), .int (n : Int)] h) (fun v h' => v = .int ((CC n ps : Nat) : Int) ∧ h' = h) := by
  have ol := o.l
  refine Wq.run (rfl : prog.defs[30]? = some ⟨3, 8, b__law_common⟩) rfl ?_
  simp only [zzG, b__law_common]
  refine Wq.for1 (fun (j : Nat) σ h' => h' = h ∧ ∃ o4 o6 o7, nb o4 ∧ nb o6 ∧ nb o7 ∧ σ = [some (.lst (ps.map tbT)), some (.lst (ps.map fcT)), some (.int (n : Int)), some (.int ((PT n (ps.take j) : Nat) : Int)), o4, none, o6, o7]) ⟨rfl, none, none, none, nb_none, nb_none, nb_none, rfl⟩ ?_ ?_
  · rintro j p σ h' hp ⟨rfl, o4, o6, o7, n4, n6, n7, rfl⟩
    refine ⟨n4, ?_⟩
    obtain ⟨so, fo⟩ := o.ok p (List.mem_of_getElem? hp)
    have lp := so.le
    have a := PT_le hn (ps.take j) fun q hq => (o.ok q (List.mem_of_mem_take hq)).1
    have lt : (ps.take j).length ≤ 4 := by rw [List.length_take]; omega
    simp only [zzG, b__law_common_L1, bodyF, tbT]
    refine Wq.for1 (fun (m : Nat) σ h'' => h'' = h' ∧ ∃ o6 o7, nb o6 ∧ nb o7 ∧ σ = [some (.lst (ps.map tbT)), some (.lst (ps.map fcT)), some (.int (n : Int)), some (.int ((PT n (ps.take j) * P1 n (p.1.take m) : Nat) : Int)), some (.lst (p.1.map tupR)), none, o6, o7]) ⟨rfl, o6, o7, n6, n7, by rw [show P1 n (p.1.take 0) = 1 from rfl, Nat.mul_one]⟩ ?_ ?_
    · rintro m r σ h'' hr ⟨rfl, o6, o7, n6, n7, rfl⟩
      refine ⟨n6, ?_⟩
      have ro := so.ok r (List.mem_of_getElem? hr)
      have b := P1_le hn (p.1.take m) fun q hq => so.ok q (List.mem_of_mem_take hq)
      have lm : (p.1.take m).length ≤ 4 := by rw [List.length_take]; omega
      show Wq (bodyF _ _ _ _ [some (.lst (ps.map tbT)), some (.lst (ps.map fcT)), some (.int (n : Int)), some (.int ((PT n (ps.take j) * P1 n (p.1.take m) : Nat) : Int)), some (.lst (p.1.map tupR)), none, some (tupR r), o7] h'') _ _
      refine row_run W d _ _ _ n hn _ (352 * (ps.take j).length + 88 * (p.1.take m).length) r _ ro _ _ o7 n7 h'' (mul_pow_le a.2 b.2) (by omega) _ rfl fun o7 n7 => ?_
      simp only [zzG]
      refine ⟨by trivial, some (tupR r), o7, nb_of rfl, n7, ?_⟩
      rw [take_S hr, P1_app, Nat.mul_assoc]
    · rintro σ h'' ⟨rfl, o6, o7, n6, n7, rfl⟩
      simp only [zzG]
      refine ⟨by trivial, some (.lst (p.1.map tupR)), o6, o7, nb_of rfl, n6, n7, ?_⟩
      rw [List.take_length, take_S hp, PT_app]
  · rintro σ h' ⟨rfl, o4, o6, o7, n4, n6, n7, rfl⟩
    rw [List.take_length]
    simp only [zzG]
    have a := PT_le hn ps fun q hq => (o.ok q hq).1
    refine Wq.for1 (fun (j : Nat) σ h'' => h'' = h' ∧ ∃ o5, nb o5 ∧ σ = [some (.lst (ps.map tbT)), some (.lst (ps.map fcT)), some (.int (n : Int)), some (.int ((PT n ps * PF (ps.take j) : Nat) : Int)), o4, o5, o6, o7]) ⟨rfl, none, nb_none, by rw [show PF (ps.take 0) = 1 from rfl, Nat.mul_one]⟩ ?_ ?_
    · rintro j p σ h'' hp ⟨rfl, o5, n5, rfl⟩
      refine ⟨n5, ?_⟩
      obtain ⟨so, fo⟩ := o.ok p (List.mem_of_getElem? hp)
      have b := PF_le (ps.take j) fun q hq => (o.ok q (List.mem_of_mem_take hq)).2
      have lt : (ps.take j).length ≤ 4 := by rw [List.length_take]; omega
      have m := mul_big (le_35 (mul_pow_le a.2 b.2) (by omega)) (le_35 fo.d (by decide))
      simp only [zzG, b__law_common_L4, bodyF, fcT, dT, m]
      refine ⟨by trivial, some (fcT p), nb_of rfl, ?_⟩
      rw [take_S hp, PF_app, ← Nat.mul_assoc, Int.natCast_mul (PT n ps * PF (ps.take j))]
      rfl
    · rintro σ h'' ⟨rfl, o5, n5, rfl⟩
      simp only [zzG]
      exact ⟨by rw [List.take_length]; rfl, by trivial⟩
end K47
end
section
set_option maxRecDepth 100000
set_option maxHeartbeats 4000000
set_option linter.all false
open Kb
local macro_rules
  | `(tactic| simp only [zzO, $as,*]) => `(tactic| simp only [exB, ↓exS_for, ↓exS_whl, ↓evA_lc, exS, evE, evEs, evT, evO, evA, evI, evC, tru, truT, binT, addT, mulT, intT, isIns, insOf_non, binE_non, cmE_non, insOf_bl, binE_bl, cmE_bl, insOf_int, binE_int, cmE_int, insOf_str, binE_str, cmE_str, insOf_lst, binE_lst, cmE_lst, insOf_tup, binE_tup, cmE_tup, insOf_dct, binE_dct, cmE_dct, insOf_kl, binE_kl, cmE_kl, insOf_bL, binE_bL, cmE_bL, insOf_bD, binE_bD, cmE_bD, insOf_ins, insOf_bI, insOf_rf, binE_rf, cmE_rf, fldT_ins, fldT_bI, fldT_rf, mx_0, mx_1, mx_2, mx_3, mx_4, mx_5, mx_01, mx_02, mx_03, mx_04, mx_05, cmpT, icmp, oR, idxT, idxSq, slT, bfT, intF, lenF, lenT, absF, gcdF, min2F, max2F, tupF, sumF, seqOf, lstOf, lstOf', walkOf_lst, walkOf_tup, walkOf_kl, walkOf_str, putI, stF, lkF, putF, lkN, kdAny, kd_non, kd_bl, kd_int, kd_str, kd_tup, kd_lst, kd_bL, kd_kl, kd_ins, kk_ii, kk_ib, kk_bi, kk_bb, kk_ss, kk_tt, kk_ll, kk_tl, kk_lt, kk_is, kk_si, kk_it, kk_il, kk_ti, kk_li, kk_st, kk_sl, kk_ts, kk_ls, onL, mbT, pl_non, pl_bl, pl_int, pl_str, pl_lst, pl_tup, pl_ins, pl_dct, pl_rf, pl_kl, pl_exc, pl_bL, pl_bD, pl_bI, arrT, isExc, isT, isNon, isBlv, ↓R.bind_H, R.bindH_ok, ↓R.toS_H, R.toSH_ok, R.noErr_ok, ↓RS.thn_H, RS.thnH_nx, RS.thnH_rt, R.bindH_ite, R.toSH_ite, RS.thnH_ite, startT, setT, wipeT, freeTg, eqT_int, eqT_bl, List.all_cons, List.all_nil, List.map_cons, List.map_nil, List.zip_cons_cons, List.zip_nil_left, List.zip_nil_right, List.foldl_cons, List.foldl_nil, List.cons_append, List.nil_append, List.replicate, List.length_cons, List.length_nil, List.getElem?_cons_zero, List.getElem?_cons_succ, List.set_cons_zero, List.set_cons_succ, List.isEmpty_cons, List.isEmpty_nil, atI_0, atI_1, atI_2, atI_3, atI_4, ix51, ix52, ix53, ix54, Option.map_some, Option.map_none, Option.isSome_none, Option.isSome_some, Option.isNone_none, Option.isNone_some, eq_self, Option.bind_some, if_true, if_false, Bool.false_eq_true, Bool.and_false, Bool.false_and, Bool.not_false, Bool.not_true, Bool.and_true, Bool.true_and, Bool.or_false, Bool.or_true, Bool.false_or, Bool.true_or, Nat.reduceAdd, Nat.reduceSub, Nat.reduceEqDiff, freeS_eq, freeO_none, freeO_some, decide_true, decide_false, reduceCtorEq, endR_rt, endR_nx, endR_ini, endR_ite, iniV_nil, iniV_cons, isBI_int, isBI_str, isBI_lst, isBI_tup, isBI_ins, isBI_rf, isBI_bl, isBI_kl, isBI_non, isBI_dct, Nat.reduceLT, Nat.one_ne_zero, Nat.zero_ne_one, $as,*])
  | `(tactic| simp only [zzR, $as,*]) => `(tactic| simp -dsimp only [↓Wq_for_nil, Wq_for_nil, ↓Wq_tryN, ↓Wq_end, ↓IfQ_true, ↓IfQ_false, ↓Wq_ok, ↓Wq_err, ↓Wq_nx, ↓Wq_rt, ↓Wq_ct, ↓Wq_bk, ↓Wq_er, Wq_tryN, Wq_end, Wq_noErr, IfQ_true, IfQ_false, Wq_ok, Wq_err, Wq_nx, Wq_rt, Wq_ct, Wq_bk, Wq_er, ↓bindQ_ok, ↓bindQ_err, ↓toSQ_ok, ↓toSQ_err, ↓thnQ_nx, ↓thnQ_rt, ↓thnQ_ct, ↓thnQ_bk, ↓thnQ_err, ↓endQ_rt, ↓endQ_nx, ↓endQ_ini, ↓noQ_ok, ↓okQ_ok, ↓goQ_nx, ↓goQ_ct, ↓goQ_bk, ↓goQ_rt, ↓itemQ_some, ↓itemQ_none, ↓itemS_ok, ↓tryNQ_rt, ↓tryNQ_nx, ↓whlQ_true, ↓whlQ_false, ↓ite_HR, ↓ite_HS, ↓IfH_true, ↓IfH_false, IfH_true, IfH_false, Wq_IfH, Wq_bindH, Wq_toSH, Wq_thnH, exB, ↓exS_for, ↓exS_whl, ↓evA_lc, exS, evE, evEs, evT, evO, evA, evI, evC, tru, truT, binT, addT, mulT, intT, isIns, insOf_non, binE_non, cmE_non, insOf_bl, binE_bl, cmE_bl, insOf_int, binE_int, cmE_int, insOf_str, binE_str, cmE_str, insOf_lst, binE_lst, cmE_lst, insOf_tup, binE_tup, cmE_tup, insOf_dct, binE_dct, cmE_dct, insOf_kl, binE_kl, cmE_kl, insOf_bL, binE_bL, cmE_bL, insOf_bD, binE_bD, cmE_bD, insOf_ins, insOf_bI, insOf_rf, binE_rf, cmE_rf, fldT_ins, fldT_bI, fldT_rf, mx_0, mx_1, mx_2, mx_3, mx_4, mx_5, mx_01, mx_02, mx_03, mx_04, mx_05, cmpT, icmp, oR, idxT, idxSq, slT, bfT, intF, lenF, lenT, absF, gcdF, min2F, max2F, tupF, sumF, seqOf, lstOf, lstOf', walkOf_lst, walkOf_tup, walkOf_kl, walkOf_str, putI, stF, lkF, putF, lkN, kdAny, kd_non, kd_bl, kd_int, kd_str, kd_tup, kd_lst, kd_bL, kd_kl, kd_ins, kk_ii, kk_ib, kk_bi, kk_bb, kk_ss, kk_tt, kk_ll, kk_tl, kk_lt, kk_is, kk_si, kk_it, kk_il, kk_ti, kk_li, kk_st, kk_sl, kk_ts, kk_ls, onL, mbT, pl_non, pl_bl, pl_int, pl_str, pl_lst, pl_tup, pl_ins, pl_dct, pl_rf, pl_kl, pl_exc, pl_bL, pl_bD, pl_bI, arrT, isExc, isT, isNon, isBlv, ↓R.bind_H, R.bindH_ok, ↓R.toS_H, R.toSH_ok, ↓RS.thn_H, RS.thnH_nx, RS.thnH_rt, startT, setT, wipeT, freeTg, eqT_int, eqT_bl, List.all_cons, List.all_nil, List.map_cons, List.map_nil, List.zip_cons_cons, List.zip_nil_left, List.zip_nil_right, List.foldl_cons, List.foldl_nil, List.cons_append, List.nil_append, List.replicate, List.length_cons, List.length_nil, List.getElem?_cons_zero, List.getElem?_cons_succ, List.set_cons_zero, List.set_cons_succ, List.isEmpty_cons, List.isEmpty_nil, atI_0, atI_1, atI_2, atI_3, atI_4, ix51, ix52, ix53, ix54, Option.map_some, Option.map_none, Option.isSome_none, Option.isSome_some, Option.isNone_none, Option.isNone_some, eq_self, Option.bind_some, if_true, if_false, Bool.false_eq_true, Bool.and_false, Bool.false_and, Bool.not_false, Bool.not_true, Bool.and_true, Bool.true_and, Bool.or_false, Bool.or_true, Bool.false_or, Bool.true_or, Nat.reduceAdd, Nat.reduceSub, Nat.reduceEqDiff, freeS_eq, freeO_none, freeO_some, decide_true, decide_false, reduceCtorEq, endR_rt, endR_nx, endR_ini, iniV_nil, iniV_cons, isBI_int, isBI_str, isBI_lst, isBI_tup, isBI_ins, isBI_rf, isBI_bl, isBI_kl, isBI_non, isBI_dct, Nat.reduceLT, Nat.one_ne_zero, Nat.zero_ne_one, $as,*])
  | `(tactic| simp only [zzG, $as,*]) => `(tactic| (simp -dsimp only [↓Wq_for_nil, Wq_for_nil, ↓Wq_tryN, ↓Wq_end, ↓IfQ_true, ↓IfQ_false, ↓Wq_ok, ↓Wq_err, ↓Wq_nx, ↓Wq_rt, ↓Wq_ct, ↓Wq_bk, ↓Wq_er, Wq_tryN, Wq_end, Wq_noErr, IfQ_true, IfQ_false, Wq_ok, Wq_err, Wq_nx, Wq_rt, Wq_ct, Wq_bk, Wq_er, ↓bindQ_ok, ↓bindQ_err, ↓toSQ_ok, ↓toSQ_err, ↓thnQ_nx, ↓thnQ_rt, ↓thnQ_ct, ↓thnQ_bk, ↓thnQ_err, ↓endQ_rt, ↓endQ_nx, ↓endQ_ini, ↓noQ_ok, ↓okQ_ok, ↓goQ_nx, ↓goQ_ct, ↓goQ_bk, ↓goQ_rt, ↓itemQ_some, ↓itemQ_none, ↓itemS_ok, ↓tryNQ_rt, ↓tryNQ_nx, ↓whlQ_true, ↓whlQ_false, ↓ite_HR, ↓ite_HS, ↓IfH_true, ↓IfH_false, IfH_true, IfH_false, Wq_IfH, Wq_bindH, Wq_toSH, Wq_thnH, exB, ↓exS_for, ↓exS_whl, ↓evA_lc, exS, evE, evEs, evT, evO, evA, evI, evC, tru, truT, binT, addT, mulT, intT, isIns, insOf_non, binE_non, cmE_non, insOf_bl, binE_bl, cmE_bl, insOf_int, binE_int, cmE_int, insOf_str, binE_str, cmE_str, insOf_lst, binE_lst, cmE_lst, insOf_tup, binE_tup, cmE_tup, insOf_dct, binE_dct, cmE_dct, insOf_kl, binE_kl, cmE_kl, insOf_bL, binE_bL, cmE_bL, insOf_bD, binE_bD, cmE_bD, insOf_ins, insOf_bI, insOf_rf, binE_rf, cmE_rf, fldT_ins, fldT_bI, fldT_rf, mx_0, mx_1, mx_2, mx_3, mx_4, mx_5, mx_01, mx_02, mx_03, mx_04, mx_05, cmpT, icmp, oR, idxT, idxSq, slT, bfT, intF, lenF, lenT, absF, gcdF, min2F, max2F, tupF, sumF, seqOf, lstOf, lstOf', walkOf_lst, walkOf_tup, walkOf_kl, walkOf_str, putI, stF, lkF, putF, lkN, kdAny, kd_non, kd_bl, kd_int, kd_str, kd_tup, kd_lst, kd_bL, kd_kl, kd_ins, kk_ii, kk_ib, kk_bi, kk_bb, kk_ss, kk_tt, kk_ll, kk_tl, kk_lt, kk_is, kk_si, kk_it, kk_il, kk_ti, kk_li, kk_st, kk_sl, kk_ts, kk_ls, onL, mbT, pl_non, pl_bl, pl_int, pl_str, pl_lst, pl_tup, pl_ins, pl_dct, pl_rf, pl_kl, pl_exc, pl_bL, pl_bD, pl_bI, arrT, isExc, isT, isNon, isBlv, ↓R.bind_H, R.bindH_ok, ↓R.toS_H, R.toSH_ok, ↓RS.thn_H, RS.thnH_nx, RS.thnH_rt, startT, setT, wipeT, freeTg, eqT_int, eqT_bl, List.all_cons, List.all_nil, List.map_cons, List.map_nil, List.zip_cons_cons, List.zip_nil_left, List.zip_nil_right, List.foldl_cons, List.foldl_nil, List.cons_append, List.nil_append, List.replicate, List.length_cons, List.length_nil, List.getElem?_cons_zero, List.getElem?_cons_succ, List.set_cons_zero, List.set_cons_succ, List.isEmpty_cons, List.isEmpty_nil, atI_0, atI_1, atI_2, atI_3, atI_4, ix51, ix52, ix53, ix54, Option.map_some, Option.map_none, Option.isSome_none, Option.isSome_some, Option.isNone_none, Option.isNone_some, eq_self, Option.bind_some, if_true, if_false, Bool.false_eq_true, Bool.and_false, Bool.false_and, Bool.not_false, Bool.not_true, Bool.and_true, Bool.true_and, Bool.or_false, Bool.or_true, Bool.false_or, Bool.true_or, Nat.reduceAdd, Nat.reduceSub, Nat.reduceEqDiff, freeS_eq, freeO_none, freeO_some, decide_true, decide_false, reduceCtorEq, endR_rt, endR_nx, endR_ini, iniV_nil, iniV_cons, isBI_int, isBI_str, isBI_lst, isBI_tup, isBI_ins, isBI_rf, isBI_bl, isBI_kl, isBI_non, isBI_dct, Nat.reduceLT, Nat.one_ne_zero, Nat.zero_ne_one, $as,*]; repeat (first | refine IfQ.yes (mulOk_of (by omega) (by omega) (by omega) (by omega)) ?_ | refine IfQ.yes (divOk_of (by omega) (by omega) (by omega)) ?_ | refine IfQ.yes (by decide) ?_ | refine IfQ.no (by decide) ?_ | refine IfQ.yes (rngOk_of (by (try simp only [List.length_map, List.length_append, List.length_cons, List.length_nil, List.length_range]); omega) (by (try simp only [List.length_map, List.length_append, List.length_cons, List.length_nil, List.length_range]); omega)) ?_ | refine IfQ.yes (len_of (by simp only [List.length_map, List.length_append, List.length_cons, List.length_nil, List.length_replicate, rngT_len]; omega)) ?_ | refine IfQ.yes (shlOk_of (by omega) (by omega) (by omega) (by omega)) ?_ | simp -dsimp only [↓Wq_for_nil, Wq_for_nil, ↓Wq_tryN, ↓Wq_end, ↓IfQ_true, ↓IfQ_false, ↓Wq_ok, ↓Wq_err, ↓Wq_nx, ↓Wq_rt, ↓Wq_ct, ↓Wq_bk, ↓Wq_er, Wq_tryN, Wq_end, Wq_noErr, IfQ_true, IfQ_false, Wq_ok, Wq_err, Wq_nx, Wq_rt, Wq_ct, Wq_bk, Wq_er, ↓bindQ_ok, ↓bindQ_err, ↓toSQ_ok, ↓toSQ_err, ↓thnQ_nx, ↓thnQ_rt, ↓thnQ_ct, ↓thnQ_bk, ↓thnQ_err, ↓endQ_rt, ↓endQ_nx, ↓endQ_ini, ↓noQ_ok, ↓okQ_ok, ↓goQ_nx, ↓goQ_ct, ↓goQ_bk, ↓goQ_rt, ↓itemQ_some, ↓itemQ_none, ↓itemS_ok, ↓tryNQ_rt, ↓tryNQ_nx, ↓whlQ_true, ↓whlQ_false, ↓ite_HR, ↓ite_HS, ↓IfH_true, ↓IfH_false, IfH_true, IfH_false, Wq_IfH, Wq_bindH, Wq_toSH, Wq_thnH, exB, ↓exS_for, ↓exS_whl, ↓evA_lc, exS, evE, evEs, evT, evO, evA, evI, evC, tru, truT, binT, addT, mulT, intT, isIns, insOf_non, binE_non, cmE_non, insOf_bl, binE_bl, cmE_bl, insOf_int, binE_int, cmE_int, insOf_str, binE_str, cmE_str, insOf_lst, binE_lst, cmE_lst, insOf_tup, binE_tup, cmE_tup, insOf_dct, binE_dct, cmE_dct, insOf_kl, binE_kl, cmE_kl, insOf_bL, binE_bL, cmE_bL, insOf_bD, binE_bD, cmE_bD, insOf_ins, insOf_bI, insOf_rf, binE_rf, cmE_rf, fldT_ins, fldT_bI, fldT_rf, mx_0, mx_1, mx_2, mx_3, mx_4, mx_5, mx_01, mx_02, mx_03, mx_04, mx_05, cmpT, icmp, oR, idxT, idxSq, slT, bfT, intF, lenF, lenT, absF, gcdF, min2F, max2F, tupF, sumF, seqOf, lstOf, lstOf', walkOf_lst, walkOf_tup, walkOf_kl, walkOf_str, putI, stF, lkF, putF, lkN, kdAny, kd_non, kd_bl, kd_int, kd_str, kd_tup, kd_lst, kd_bL, kd_kl, kd_ins, kk_ii, kk_ib, kk_bi, kk_bb, kk_ss, kk_tt, kk_ll, kk_tl, kk_lt, kk_is, kk_si, kk_it, kk_il, kk_ti, kk_li, kk_st, kk_sl, kk_ts, kk_ls, onL, mbT, pl_non, pl_bl, pl_int, pl_str, pl_lst, pl_tup, pl_ins, pl_dct, pl_rf, pl_kl, pl_exc, pl_bL, pl_bD, pl_bI, arrT, isExc, isT, isNon, isBlv, ↓R.bind_H, R.bindH_ok, ↓R.toS_H, R.toSH_ok, ↓RS.thn_H, RS.thnH_nx, RS.thnH_rt, startT, setT, wipeT, freeTg, eqT_int, eqT_bl, List.all_cons, List.all_nil, List.map_cons, List.map_nil, List.zip_cons_cons, List.zip_nil_left, List.zip_nil_right, List.foldl_cons, List.foldl_nil, List.cons_append, List.nil_append, List.replicate, List.length_cons, List.length_nil, List.getElem?_cons_zero, List.getElem?_cons_succ, List.set_cons_zero, List.set_cons_succ, List.isEmpty_cons, List.isEmpty_nil, atI_0, atI_1, atI_2, atI_3, atI_4, ix51, ix52, ix53, ix54, Option.map_some, Option.map_none, Option.isSome_none, Option.isSome_some, Option.isNone_none, Option.isNone_some, eq_self, Option.bind_some, if_true, if_false, Bool.false_eq_true, Bool.and_false, Bool.false_and, Bool.not_false, Bool.not_true, Bool.and_true, Bool.true_and, Bool.or_false, Bool.or_true, Bool.false_or, Bool.true_or, Nat.reduceAdd, Nat.reduceSub, Nat.reduceEqDiff, freeS_eq, freeO_none, freeO_some, decide_true, decide_false, reduceCtorEq, endR_rt, endR_nx, endR_ini, iniV_nil, iniV_cons, isBI_int, isBI_str, isBI_lst, isBI_tup, isBI_ins, isBI_rf, isBI_bl, isBI_kl, isBI_non, isBI_dct, Nat.reduceLT, Nat.one_ne_zero, Nat.zero_ne_one, $as,*])))
  | `(tactic| simp only [zzG]) => `(tactic| (simp -dsimp only [↓Wq_for_nil, Wq_for_nil, ↓Wq_tryN, ↓Wq_end, ↓IfQ_true, ↓IfQ_false, ↓Wq_ok, ↓Wq_err, ↓Wq_nx, ↓Wq_rt, ↓Wq_ct, ↓Wq_bk, ↓Wq_er, Wq_tryN, Wq_end, Wq_noErr, IfQ_true, IfQ_false, Wq_ok, Wq_err, Wq_nx, Wq_rt, Wq_ct, Wq_bk, Wq_er, ↓bindQ_ok, ↓bindQ_err, ↓toSQ_ok, ↓toSQ_err, ↓thnQ_nx, ↓thnQ_rt, ↓thnQ_ct, ↓thnQ_bk, ↓thnQ_err, ↓endQ_rt, ↓endQ_nx, ↓endQ_ini, ↓noQ_ok, ↓okQ_ok, ↓goQ_nx, ↓goQ_ct, ↓goQ_bk, ↓goQ_rt, ↓itemQ_some, ↓itemQ_none, ↓itemS_ok, ↓tryNQ_rt, ↓tryNQ_nx, ↓whlQ_true, ↓whlQ_false, ↓ite_HR, ↓ite_HS, ↓IfH_true, ↓IfH_false, IfH_true, IfH_false, Wq_IfH, Wq_bindH, Wq_toSH, Wq_thnH, exB, ↓exS_for, ↓exS_whl, ↓evA_lc, exS, evE, evEs, evT, evO, evA, evI, evC, tru, truT, binT, addT, mulT, intT, isIns, insOf_non, binE_non, cmE_non, insOf_bl, binE_bl, cmE_bl, insOf_int, binE_int, cmE_int, insOf_str, binE_str, cmE_str, insOf_lst, binE_lst, cmE_lst, insOf_tup, binE_tup, cmE_tup, insOf_dct, binE_dct, cmE_dct, insOf_kl, binE_kl, cmE_kl, insOf_bL, binE_bL, cmE_bL, insOf_bD, binE_bD, cmE_bD, insOf_ins, insOf_bI, insOf_rf, binE_rf, cmE_rf, fldT_ins, fldT_bI, fldT_rf, mx_0, mx_1, mx_2, mx_3, mx_4, mx_5, mx_01, mx_02, mx_03, mx_04, mx_05, cmpT, icmp, oR, idxT, idxSq, slT, bfT, intF, lenF, lenT, absF, gcdF, min2F, max2F, tupF, sumF, seqOf, lstOf, lstOf', walkOf_lst, walkOf_tup, walkOf_kl, walkOf_str, putI, stF, lkF, putF, lkN, kdAny, kd_non, kd_bl, kd_int, kd_str, kd_tup, kd_lst, kd_bL, kd_kl, kd_ins, kk_ii, kk_ib, kk_bi, kk_bb, kk_ss, kk_tt, kk_ll, kk_tl, kk_lt, kk_is, kk_si, kk_it, kk_il, kk_ti, kk_li, kk_st, kk_sl, kk_ts, kk_ls, onL, mbT, pl_non, pl_bl, pl_int, pl_str, pl_lst, pl_tup, pl_ins, pl_dct, pl_rf, pl_kl, pl_exc, pl_bL, pl_bD, pl_bI, arrT, isExc, isT, isNon, isBlv, ↓R.bind_H, R.bindH_ok, ↓R.toS_H, R.toSH_ok, ↓RS.thn_H, RS.thnH_nx, RS.thnH_rt, startT, setT, wipeT, freeTg, eqT_int, eqT_bl, List.all_cons, List.all_nil, List.map_cons, List.map_nil, List.zip_cons_cons, List.zip_nil_left, List.zip_nil_right, List.foldl_cons, List.foldl_nil, List.cons_append, List.nil_append, List.replicate, List.length_cons, List.length_nil, List.getElem?_cons_zero, List.getElem?_cons_succ, List.set_cons_zero, List.set_cons_succ, List.isEmpty_cons, List.isEmpty_nil, atI_0, atI_1, atI_2, atI_3, atI_4, ix51, ix52, ix53, ix54, Option.map_some, Option.map_none, Option.isSome_none, Option.isSome_some, Option.isNone_none, Option.isNone_some, eq_self, Option.bind_some, if_true, if_false, Bool.false_eq_true, Bool.and_false, Bool.false_and, Bool.not_false, Bool.not_true, Bool.and_true, Bool.true_and, Bool.or_false, Bool.or_true, Bool.false_or, Bool.true_or, Nat.reduceAdd, Nat.reduceSub, Nat.reduceEqDiff, freeS_eq, freeO_none, freeO_some, decide_true, decide_false, reduceCtorEq, endR_rt, endR_nx, endR_ini, iniV_nil, iniV_cons, isBI_int, isBI_str, isBI_lst, isBI_tup, isBI_ins, isBI_rf, isBI_bl, isBI_kl, isBI_non, isBI_dct, Nat.reduceLT, Nat.one_ne_zero, Nat.zero_ne_one]; repeat (first | refine IfQ.yes (mulOk_of (by omega) (by omega) (by omega) (by omega)) ?_ | refine IfQ.yes (divOk_of (by omega) (by omega) (by omega)) ?_ | refine IfQ.yes (by decide) ?_ | refine IfQ.no (by decide) ?_ | refine IfQ.yes (rngOk_of (by (try simp only [List.length_map, List.length_append, List.length_cons, List.length_nil, List.length_range]); omega) (by (try simp only [List.length_map, List.length_append, List.length_cons, List.length_nil, List.length_range]); omega)) ?_ | refine IfQ.yes (len_of (by simp only [List.length_map, List.length_append, List.length_cons, List.length_nil, List.length_replicate, rngT_len]; omega)) ?_ | refine IfQ.yes (shlOk_of (by omega) (by omega) (by omega) (by omega)) ?_ | simp -dsimp only [↓Wq_for_nil, Wq_for_nil, ↓Wq_tryN, ↓Wq_end, ↓IfQ_true, ↓IfQ_false, ↓Wq_ok, ↓Wq_err, ↓Wq_nx, ↓Wq_rt, ↓Wq_ct, ↓Wq_bk, ↓Wq_er, Wq_tryN, Wq_end, Wq_noErr, IfQ_true, IfQ_false, Wq_ok, Wq_err, Wq_nx, Wq_rt, Wq_ct, Wq_bk, Wq_er, ↓bindQ_ok, ↓bindQ_err, ↓toSQ_ok, ↓toSQ_err, ↓thnQ_nx, ↓thnQ_rt, ↓thnQ_ct, ↓thnQ_bk, ↓thnQ_err, ↓endQ_rt, ↓endQ_nx, ↓endQ_ini, ↓noQ_ok, ↓okQ_ok, ↓goQ_nx, ↓goQ_ct, ↓goQ_bk, ↓goQ_rt, ↓itemQ_some, ↓itemQ_none, ↓itemS_ok, ↓tryNQ_rt, ↓tryNQ_nx, ↓whlQ_true, ↓whlQ_false, ↓ite_HR, ↓ite_HS, ↓IfH_true, ↓IfH_false, IfH_true, IfH_false, Wq_IfH, Wq_bindH, Wq_toSH, Wq_thnH, exB, ↓exS_for, ↓exS_whl, ↓evA_lc, exS, evE, evEs, evT, evO, evA, evI, evC, tru, truT, binT, addT, mulT, intT, isIns, insOf_non, binE_non, cmE_non, insOf_bl, binE_bl, cmE_bl, insOf_int, binE_int, cmE_int, insOf_str, binE_str, cmE_str, insOf_lst, binE_lst, cmE_lst, insOf_tup, binE_tup, cmE_tup, insOf_dct, binE_dct, cmE_dct, insOf_kl, binE_kl, cmE_kl, insOf_bL, binE_bL, cmE_bL, insOf_bD, binE_bD, cmE_bD, insOf_ins, insOf_bI, insOf_rf, binE_rf, cmE_rf, fldT_ins, fldT_bI, fldT_rf, mx_0, mx_1, mx_2, mx_3, mx_4, mx_5, mx_01, mx_02, mx_03, mx_04, mx_05, cmpT, icmp, oR, idxT, idxSq, slT, bfT, intF, lenF, lenT, absF, gcdF, min2F, max2F, tupF, sumF, seqOf, lstOf, lstOf', walkOf_lst, walkOf_tup, walkOf_kl, walkOf_str, putI, stF, lkF, putF, lkN, kdAny, kd_non, kd_bl, kd_int, kd_str, kd_tup, kd_lst, kd_bL, kd_kl, kd_ins, kk_ii, kk_ib, kk_bi, kk_bb, kk_ss, kk_tt, kk_ll, kk_tl, kk_lt, kk_is, kk_si, kk_it, kk_il, kk_ti, kk_li, kk_st, kk_sl, kk_ts, kk_ls, onL, mbT, pl_non, pl_bl, pl_int, pl_str, pl_lst, pl_tup, pl_ins, pl_dct, pl_rf, pl_kl, pl_exc, pl_bL, pl_bD, pl_bI, arrT, isExc, isT, isNon, isBlv, ↓R.bind_H, R.bindH_ok, ↓R.toS_H, R.toSH_ok, ↓RS.thn_H, RS.thnH_nx, RS.thnH_rt, startT, setT, wipeT, freeTg, eqT_int, eqT_bl, List.all_cons, List.all_nil, List.map_cons, List.map_nil, List.zip_cons_cons, List.zip_nil_left, List.zip_nil_right, List.foldl_cons, List.foldl_nil, List.cons_append, List.nil_append, List.replicate, List.length_cons, List.length_nil, List.getElem?_cons_zero, List.getElem?_cons_succ, List.set_cons_zero, List.set_cons_succ, List.isEmpty_cons, List.isEmpty_nil, atI_0, atI_1, atI_2, atI_3, atI_4, ix51, ix52, ix53, ix54, Option.map_some, Option.map_none, Option.isSome_none, Option.isSome_some, Option.isNone_none, Option.isNone_some, eq_self, Option.bind_some, if_true, if_false, Bool.false_eq_true, Bool.and_false, Bool.false_and, Bool.not_false, Bool.not_true, Bool.and_true, Bool.true_and, Bool.or_false, Bool.or_true, Bool.false_or, Bool.true_or, Nat.reduceAdd, Nat.reduceSub, Nat.reduceEqDiff, freeS_eq, freeO_none, freeO_some, decide_true, decide_false, reduceCtorEq, endR_rt, endR_nx, endR_ini, iniV_nil, iniV_cons, isBI_int, isBI_str, isBI_lst, isBI_tup, isBI_ins, isBI_rf, isBI_bl, isBI_kl, isBI_non, isBI_dct, Nat.reduceLT, Nat.one_ne_zero, Nat.zero_ne_one])))
  | `(tactic| simp only [zzR]) => `(tactic| simp -dsimp only [↓Wq_for_nil, Wq_for_nil, ↓Wq_tryN, ↓Wq_end, ↓IfQ_true, ↓IfQ_false, ↓Wq_ok, ↓Wq_err, ↓Wq_nx, ↓Wq_rt, ↓Wq_ct, ↓Wq_bk, ↓Wq_er, Wq_tryN, Wq_end, Wq_noErr, IfQ_true, IfQ_false, Wq_ok, Wq_err, Wq_nx, Wq_rt, Wq_ct, Wq_bk, Wq_er, ↓bindQ_ok, ↓bindQ_err, ↓toSQ_ok, ↓toSQ_err, ↓thnQ_nx, ↓thnQ_rt, ↓thnQ_ct, ↓thnQ_bk, ↓thnQ_err, ↓endQ_rt, ↓endQ_nx, ↓endQ_ini, ↓noQ_ok, ↓okQ_ok, ↓goQ_nx, ↓goQ_ct, ↓goQ_bk, ↓goQ_rt, ↓itemQ_some, ↓itemQ_none, ↓itemS_ok, ↓tryNQ_rt, ↓tryNQ_nx, ↓whlQ_true, ↓whlQ_false, ↓ite_HR, ↓ite_HS, ↓IfH_true, ↓IfH_false, IfH_true, IfH_false, Wq_IfH, Wq_bindH, Wq_toSH, Wq_thnH, exB, ↓exS_for, ↓exS_whl, ↓evA_lc, exS, evE, evEs, evT, evO, evA, evI, evC, tru, truT, binT, addT, mulT, intT, isIns, insOf_non, binE_non, cmE_non, insOf_bl, binE_bl, cmE_bl, insOf_int, binE_int, cmE_int, insOf_str, binE_str, cmE_str, insOf_lst, binE_lst, cmE_lst, insOf_tup, binE_tup, cmE_tup, insOf_dct, binE_dct, cmE_dct, insOf_kl, binE_kl, cmE_kl, insOf_bL, binE_bL, cmE_bL, insOf_bD, binE_bD, cmE_bD, insOf_ins, insOf_bI, insOf_rf, binE_rf, cmE_rf, fldT_ins, fldT_bI, fldT_rf, mx_0, mx_1, mx_2, mx_3, mx_4, mx_5, mx_01, mx_02, mx_03, mx_04, mx_05, cmpT, icmp, oR, idxT, idxSq, slT, bfT, intF, lenF, lenT, absF, gcdF, min2F, max2F, tupF, sumF, seqOf, lstOf, lstOf', walkOf_lst, walkOf_tup, walkOf_kl, walkOf_str, putI, stF, lkF, putF, lkN, kdAny, kd_non, kd_bl, kd_int, kd_str, kd_tup, kd_lst, kd_bL, kd_kl, kd_ins, kk_ii, kk_ib, kk_bi, kk_bb, kk_ss, kk_tt, kk_ll, kk_tl, kk_lt, kk_is, kk_si, kk_it, kk_il, kk_ti, kk_li, kk_st, kk_sl, kk_ts, kk_ls, onL, mbT, pl_non, pl_bl, pl_int, pl_str, pl_lst, pl_tup, pl_ins, pl_dct, pl_rf, pl_kl, pl_exc, pl_bL, pl_bD, pl_bI, arrT, isExc, isT, isNon, isBlv, ↓R.bind_H, R.bindH_ok, ↓R.toS_H, R.toSH_ok, ↓RS.thn_H, RS.thnH_nx, RS.thnH_rt, startT, setT, wipeT, freeTg, eqT_int, eqT_bl, List.all_cons, List.all_nil, List.map_cons, List.map_nil, List.zip_cons_cons, List.zip_nil_left, List.zip_nil_right, List.foldl_cons, List.foldl_nil, List.cons_append, List.nil_append, List.replicate, List.length_cons, List.length_nil, List.getElem?_cons_zero, List.getElem?_cons_succ, List.set_cons_zero, List.set_cons_succ, List.isEmpty_cons, List.isEmpty_nil, atI_0, atI_1, atI_2, atI_3, atI_4, ix51, ix52, ix53, ix54, Option.map_some, Option.map_none, Option.isSome_none, Option.isSome_some, Option.isNone_none, Option.isNone_some, eq_self, Option.bind_some, if_true, if_false, Bool.false_eq_true, Bool.and_false, Bool.false_and, Bool.not_false, Bool.not_true, Bool.and_true, Bool.true_and, Bool.or_false, Bool.or_true, Bool.false_or, Bool.true_or, Nat.reduceAdd, Nat.reduceSub, Nat.reduceEqDiff, freeS_eq, freeO_none, freeO_some, decide_true, decide_false, reduceCtorEq, endR_rt, endR_nx, endR_ini, iniV_nil, iniV_cons, isBI_int, isBI_str, isBI_lst, isBI_tup, isBI_ins, isBI_rf, isBI_bl, isBI_kl, isBI_non, isBI_dct, Nat.reduceLT, Nat.one_ne_zero, Nat.zero_ne_one])

namespace K47
/-! ### the law's sum -/
def lvT (n : Nat) (p : Pr) : T := .lst ((levL p.1 n).map t3)
theorem at_map {α : Type} (g : α → T) {l : List α} {k : Nat} {a : α} (h : l[k]? = some a) : atI (l.map g) (k : Int) = some (g a) := by
  rw [atI_nat, List.getElem?_map, h]; rfl
theorem bst_take {C n i k : Nat} {ps : List Pr} {p : Pr} (h : ps[k]? = some p) : bst C n (ps.take (k + 1)) i = if NN C p.2 (lv p.1 n i) > bst C n (ps.take k) i then NN C p.2 (lv p.1 n i) else bst C n (ps.take k) i := by
  rw [take_S h, bst_app]
theorem lsum_run (W d : Nat) (ps : List Pr) (n : Nat) (hn : n ≤ 8) (h : Hl) (o : PsOk ps) (hW : 10000 < W) : Wp (run prog W (d + 3) 31 [.lst (ps.map tbT), .lst (ps.map fcT), .int (n : Int)] h) (fun v h' => v = dT (frC (CC n ps) (bsum (CC n ps) n ps (2 ^ n))) ∧ h' = h) := by
  have ol := o.l
  have co := CC_ok hn o
  have cl := CC_le hn o
  have c2 : 2 ^ n ≤ 2 ^ 8 := Nat.pow_le_pow_right (by decide) hn
  have c1 := fun σ h => lc_pure (f := bodyL prog (run prog W (d + 2)) Eo.none b__law_sum_C1) (tg := [9]) (σ := [some (.lst (ps.map tbT)), some (.lst (ps.map fcT)), some (.int (n : Int)), none, none, none, none, none, none, σ, none, none, none]) (h := h) tbT (lvT n) ps fun p hp => ⟨rfl, [some (.lst (ps.map tbT)), some (.lst (ps.map fcT)), some (.int (n : Int)), none, none, none, none, none, none, some (tbT p), none, none, none], rfl, by
    obtain ⟨_, h2, e, rfl, q⟩ := level_run W (d + 1) p.1 n hn h (o.ok p hp).1
    rw [q] at e
    simp only [zzO, b__law_sum_C1, bodyL, tbT, e, lvT]⟩
  have mx1 := le_of' (n := (ps.map tbT).length) (by rw [List.length_map]; omega)
  obtain ⟨_, h2, ec, rfl, q2⟩ := common_run W (d + 1) ps n hn h o
  rw [q2] at ec
  have et : (2 : Int) ^ ((n : Int).toNat) = ((2 ^ n : Nat) : Int) := by rw [Int.toNat_natCast, Int.natCast_pow]; rfl
  have c3 : ((2 ^ n : Nat) : Int) ≤ 256 := by exact_mod_cast c2
  have rk : rngOk ((2 ^ n : Nat) : Int) = true := rngOk_of (by have := Int.natCast_nonneg (2 ^ n); omega) (by omega)
  generalize hC : CC n ps = C at *
  refine Wq.run (rfl : prog.defs[31]? = some ⟨3, 13, b__law_sum⟩) rfl ?_
  simp only [zzG, b__law_sum, mx1, c1, ec, et, Int.one_mul, rk]
  refine Wq.forR (fun (i : Nat) σ h' => h' = h ∧ ∃ o6 o7 o8 o9 o10 o11 o12, nb o6 ∧ nb o7 ∧ nb o8 ∧ nb o10 ∧ nb o11 ∧ nb o12 ∧ σ = [some (.lst (ps.map tbT)), some (.lst (ps.map fcT)), some (.int (n : Int)), some (.lst (ps.map (lvT n))), some (.int (C : Int)), some (.int (bsum C n ps i)), o6, o7, o8, o9, o10, o11, o12]) ⟨rfl, none, none, none, none, none, none, none, nb_none, nb_none, nb_none, nb_none, nb_none, nb_none, rfl⟩ ?_ ?_
  · rintro i σ h' hi ⟨rfl, o6, o7, o8, o9, o10, o11, o12, n6, n7, n8, n10, n11, n12, rfl⟩
    refine ⟨n6, ?_⟩
    have hi : i < 2 ^ n := by omega
    unfold nb at *
    simp only [zzG, b__law_sum_L1, bodyF, n7]
    refine Wq.forR (fun (k : Nat) σ h'' => h'' = h' ∧ ∃ o8 o10 o11 o12, nb o8 ∧ nb o10 ∧ nb o11 ∧ nb o12 ∧ σ = [some (.lst (ps.map tbT)), some (.lst (ps.map fcT)), some (.int (n : Int)), some (.lst (ps.map (lvT n))), some (.int (C : Int)), some (.int (bsum C n ps i)), some (.int (0 + (i : Int))), some (.int (bst C n (ps.take k) i)), o8, o9, o10, o11, o12]) ⟨rfl, o8, o10, o11, o12, n8, n10, n11, n12, rfl⟩ ?_ ?_
    · rintro k σ h'' hk ⟨rfl, o8, o10, o11, o12, n8, n10, n11, n12, rfl⟩
      refine ⟨n8, ?_⟩
      have hk : k < ps.length := by rw [List.length_map] at hk; omega
      have hp : ps[k]? = some ps[k] := List.getElem?_eq_getElem hk
      generalize ps[k] = p at hp
      have pm := List.mem_of_getElem? hp
      obtain ⟨so, fo⟩ := o.ok p pm
      have lo := lv_ok so hi
      have dv := co.d p pm i hi
      have a1 := at_map (lvT n) hp
      have a2 := at_map fcT hp
      have hx : (levL p.1 n)[i]? = some (lv p.1 n i) := by
        have h2 : i < (levL p.1 n).length := by rw [lev_len]; exact hi
        unfold lv
        rw [List.getD_eq_getElem?_getD, List.getElem?_eq_getElem h2]; rfl
      have a3 := at_map t3 hx
      have bt := bst_take (C := C) (n := n) (i := i) hp
      have ef : fdivI (C : Int) (((lv p.1 n i).2.1 : Int) * ((p.2.den : Nat) : Int)) = ((C / ((lv p.1 n i).2.1 * p.2.den) : Nat) : Int) := by
        have := lo.p; have := p.2.den_pos
        rw [← Int.natCast_mul, fdiv_pos (by have := Nat.mul_pos lo.p p.2.den_pos; omega)]
        exact (Int.natCast_ediv _ _).symm
      have u88 : (lv p.1 n i).2.1 ≤ 2 ^ 88 := Nat.le_trans lo.u (Nat.le_trans (Nat.pow_le_pow_right (by decide) hn) (by decide))
      have o88 : (lv p.1 n i).1 ≤ 2 ^ 88 := Nat.le_trans lo.o u88
      have fn := fo.n; have fl := fo.l
      obtain ⟨fN, hfN⟩ := Int.eq_ofNat_of_zero_le fn
      have fN2 : fN ≤ 2 ^ 201 := Nat.le_trans (by omega) fo.d
      have m1 : mulOk ((lv p.1 n i).1 : Int) p.2.num = true := by rw [hfN]; exact mul_big (le_35 o88 (by decide)) (le_35 fN2 (by decide))
      have m2 := mul_big (le_35 u88 (by decide)) (le_35 fo.d (by decide))
      have m3 : mulOk (((lv p.1 n i).1 : Int) * p.2.num) ((C / ((lv p.1 n i).2.1 * p.2.den) : Nat) : Int) = true := by
        rw [hfN, ← Int.natCast_mul]
        exact mul_big (le_35 (mul_pow_le o88 fN2) (by decide)) (le_35 (Nat.le_trans (Nat.div_le_self _ _) cl.2) (by decide))
      have dk : divOk (((lv p.1 n i).2.1 : Int) * ((p.2.den : Nat) : Int)) = true := by
        have q := mul_pow_le u88 fo.d
        have q1 := Nat.mul_pos lo.p p.2.den_pos
        have e9 : (2 : Nat) ^ (88 + 201) < 2 ^ 8999 := Nat.pow_lt_pow_right (by decide) (by decide)
        rw [← Int.natCast_mul]
        exact divOk_n (by omega) (by rw [Int.natAbs_natCast]; exact Nat.lt_of_le_of_lt q e9)
      have nn : ((lv p.1 n i).1 : Int) * p.2.num * ((C / ((lv p.1 n i).2.1 * p.2.den) : Nat) : Int) = NN C p.2 (lv p.1 n i) := rfl
      unfold nb at *
      simp only [zzG, b__law_sum_L2, bodyF, Int.zero_add, a1, a2, a3, lvT, fcT, dT, t3, n10, n11, n12, m1, m2, m3, dk, ef, nn]
      rw [bt]
      exact ⟨by trivial, some (.int (k : Int)), some (.int ((lv p.1 n i).1 : Int)), some (.int ((lv p.1 n i).2.1 : Int)), some (.int ((lv p.1 n i).2.2 : Int)), rfl, rfl, rfl, rfl, by first | rfl | (simp only [Int.zero_add])⟩
    · rintro σ h'' ⟨rfl, o8, o10, o11, o12, n8, n10, n11, n12, rfl⟩
      rw [List.length_map, show ((ps.length : Int) - 0).toNat = ps.length by omega, List.take_length]
      simp only [zzG]
      exact ⟨by trivial, _, _, o8, o9, o10, o11, o12, nb_i _, nb_i _, n8, n10, n11, n12, rfl⟩
  · rintro σ h' ⟨rfl, o6, o7, o8, o9, o10, o11, o12, n6, n7, n8, n10, n11, n12, rfl⟩
    rw [show (((2 ^ n : Nat) : Int) - 0).toNat = 2 ^ n by rw [Int.sub_zero, Int.toNat_natCast]]
    have cb : (C : Int) < 2 ^ 3100 := by
      have : C < 2 ^ 3100 := Nat.lt_of_le_of_lt cl.2 (Nat.pow_lt_pow_right (by decide) (by decide))
      exact_mod_cast this
    have cp : (0 : Int) < (C : Int) := by exact_mod_cast cl.1
    have e := low_run W d (bsum C n ps (2 ^ n)) (C : Int) h' hW cp cb
    have pd : plainT (dT (((bsum C n ps (2 ^ n) : Int) : Rat) / (((C : Nat) : Int) : Rat))) = true := rfl
    simp only [zzG, e, pd]
    exact ⟨rfl, by trivial⟩
end K47
end
section
set_option maxRecDepth 100000
set_option maxHeartbeats 4000000
set_option linter.all false
open Kb
local macro_rules
  | `(tactic| simp only [zzO, $as,*]) => `(tactic| simp only [exB, ↓exS_for, ↓exS_whl, ↓evA_lc, exS, evE, evEs, evT, evO, evA, evI, evC, tru, truT, binT, addT, mulT, intT, isIns, insOf_non, binE_non, cmE_non, insOf_bl, binE_bl, cmE_bl, insOf_int, binE_int, cmE_int, insOf_str, binE_str, cmE_str, insOf_lst, binE_lst, cmE_lst, insOf_tup, binE_tup, cmE_tup, insOf_dct, binE_dct, cmE_dct, insOf_kl, binE_kl, cmE_kl, insOf_bL, binE_bL, cmE_bL, insOf_bD, binE_bD, cmE_bD, insOf_ins, insOf_bI, insOf_rf, binE_rf, cmE_rf, fldT_ins, fldT_bI, fldT_rf, mx_0, mx_1, mx_2, mx_3, mx_4, mx_5, mx_01, mx_02, mx_03, mx_04, mx_05, cmpT, icmp, oR, idxT, idxSq, slT, bfT, intF, lenF, lenT, absF, gcdF, min2F, max2F, tupF, sumF, seqOf, lstOf, lstOf', walkOf_lst, walkOf_tup, walkOf_kl, walkOf_str, putI, stF, lkF, putF, lkN, kdAny, kd_non, kd_bl, kd_int, kd_str, kd_tup, kd_lst, kd_bL, kd_kl, kd_ins, kk_ii, kk_ib, kk_bi, kk_bb, kk_ss, kk_tt, kk_ll, kk_tl, kk_lt, kk_is, kk_si, kk_it, kk_il, kk_ti, kk_li, kk_st, kk_sl, kk_ts, kk_ls, onL, mbT, pl_non, pl_bl, pl_int, pl_str, pl_lst, pl_tup, pl_ins, pl_dct, pl_rf, pl_kl, pl_exc, pl_bL, pl_bD, pl_bI, arrT, isExc, isT, isNon, isBlv, ↓R.bind_H, R.bindH_ok, ↓R.toS_H, R.toSH_ok, R.noErr_ok, ↓RS.thn_H, RS.thnH_nx, RS.thnH_rt, R.bindH_ite, R.toSH_ite, RS.thnH_ite, startT, setT, wipeT, freeTg, eqT_int, eqT_bl, List.all_cons, List.all_nil, List.map_cons, List.map_nil, List.zip_cons_cons, List.zip_nil_left, List.zip_nil_right, List.foldl_cons, List.foldl_nil, List.cons_append, List.nil_append, List.replicate, List.length_cons, List.length_nil, List.getElem?_cons_zero, List.getElem?_cons_succ, List.set_cons_zero, List.set_cons_succ, List.isEmpty_cons, List.isEmpty_nil, atI_0, atI_1, atI_2, atI_3, atI_4, ix51, ix52, ix53, ix54, Option.map_some, Option.map_none, Option.isSome_none, Option.isSome_some, Option.isNone_none, Option.isNone_some, eq_self, Option.bind_some, if_true, if_false, Bool.false_eq_true, Bool.and_false, Bool.false_and, Bool.not_false, Bool.not_true, Bool.and_true, Bool.true_and, Bool.or_false, Bool.or_true, Bool.false_or, Bool.true_or, Nat.reduceAdd, Nat.reduceSub, Nat.reduceEqDiff, freeS_eq, freeO_none, freeO_some, decide_true, decide_false, reduceCtorEq, endR_rt, endR_nx, endR_ini, endR_ite, iniV_nil, iniV_cons, isBI_int, isBI_str, isBI_lst, isBI_tup, isBI_ins, isBI_rf, isBI_bl, isBI_kl, isBI_non, isBI_dct, Nat.reduceLT, Nat.one_ne_zero, Nat.zero_ne_one, $as,*])
  | `(tactic| simp only [zzR, $as,*]) => `(tactic| simp -dsimp only [↓Wq_for_nil, Wq_for_nil, ↓Wq_tryN, ↓Wq_end, ↓IfQ_true, ↓IfQ_false, ↓Wq_ok, ↓Wq_err, ↓Wq_nx, ↓Wq_rt, ↓Wq_ct, ↓Wq_bk, ↓Wq_er, Wq_tryN, Wq_end, Wq_noErr, IfQ_true, IfQ_false, Wq_ok, Wq_err, Wq_nx, Wq_rt, Wq_ct, Wq_bk, Wq_er, ↓bindQ_ok, ↓bindQ_err, ↓toSQ_ok, ↓toSQ_err, ↓thnQ_nx, ↓thnQ_rt, ↓thnQ_ct, ↓thnQ_bk, ↓thnQ_err, ↓endQ_rt, ↓endQ_nx, ↓endQ_ini, ↓noQ_ok, ↓okQ_ok, ↓goQ_nx, ↓goQ_ct, ↓goQ_bk, ↓goQ_rt, ↓itemQ_some, ↓itemQ_none, ↓itemS_ok, ↓tryNQ_rt, ↓tryNQ_nx, ↓whlQ_true, ↓whlQ_false, ↓ite_HR, ↓ite_HS, ↓IfH_true, ↓IfH_false, IfH_true, IfH_false, Wq_IfH, Wq_bindH, Wq_toSH, Wq_thnH, exB, ↓exS_for, ↓exS_whl, ↓evA_lc, exS, evE, evEs, evT, evO, evA, evI, evC, tru, truT, binT, addT, mulT, intT, isIns, insOf_non, binE_non, cmE_non, insOf_bl, binE_bl, cmE_bl, insOf_int, binE_int, cmE_int, insOf_str, binE_str, cmE_str, insOf_lst, binE_lst, cmE_lst, insOf_tup, binE_tup, cmE_tup, insOf_dct, binE_dct, cmE_dct, insOf_kl, binE_kl, cmE_kl, insOf_bL, binE_bL, cmE_bL, insOf_bD, binE_bD, cmE_bD, insOf_ins, insOf_bI, insOf_rf, binE_rf, cmE_rf, fldT_ins, fldT_bI, fldT_rf, mx_0, mx_1, mx_2, mx_3, mx_4, mx_5, mx_01, mx_02, mx_03, mx_04, mx_05, cmpT, icmp, oR, idxT, idxSq, slT, bfT, intF, lenF, lenT, absF, gcdF, min2F, max2F, tupF, sumF, seqOf, lstOf, lstOf', walkOf_lst, walkOf_tup, walkOf_kl, walkOf_str, putI, stF, lkF, putF, lkN, kdAny, kd_non, kd_bl, kd_int, kd_str, kd_tup, kd_lst, kd_bL, kd_kl, kd_ins, kk_ii, kk_ib, kk_bi, kk_bb, kk_ss, kk_tt, kk_ll, kk_tl, kk_lt, kk_is, kk_si, kk_it, kk_il, kk_ti, kk_li, kk_st, kk_sl, kk_ts, kk_ls, onL, mbT, pl_non, pl_bl, pl_int, pl_str, pl_lst, pl_tup, pl_ins, pl_dct, pl_rf, pl_kl, pl_exc, pl_bL, pl_bD, pl_bI, arrT, isExc, isT, isNon, isBlv, ↓R.bind_H, R.bindH_ok, ↓R.toS_H, R.toSH_ok, ↓RS.thn_H, RS.thnH_nx, RS.thnH_rt, startT, setT, wipeT, freeTg, eqT_int, eqT_bl, List.all_cons, List.all_nil, List.map_cons, List.map_nil, List.zip_cons_cons, List.zip_nil_left, List.zip_nil_right, List.foldl_cons, List.foldl_nil, List.cons_append, List.nil_append, List.replicate, List.length_cons, List.length_nil, List.getElem?_cons_zero, List.getElem?_cons_succ, List.set_cons_zero, List.set_cons_succ, List.isEmpty_cons, List.isEmpty_nil, atI_0, atI_1, atI_2, atI_3, atI_4, ix51, ix52, ix53, ix54, Option.map_some, Option.map_none, Option.isSome_none, Option.isSome_some, Option.isNone_none, Option.isNone_some, eq_self, Option.bind_some, if_true, if_false, Bool.false_eq_true, Bool.and_false, Bool.false_and, Bool.not_false, Bool.not_true, Bool.and_true, Bool.true_and, Bool.or_false, Bool.or_true, Bool.false_or, Bool.true_or, Nat.reduceAdd, Nat.reduceSub, Nat.reduceEqDiff, freeS_eq, freeO_none, freeO_some, decide_true, decide_false, reduceCtorEq, endR_rt, endR_nx, endR_ini, iniV_nil, iniV_cons, isBI_int, isBI_str, isBI_lst, isBI_tup, isBI_ins, isBI_rf, isBI_bl, isBI_kl, isBI_non, isBI_dct, Nat.reduceLT, Nat.one_ne_zero, Nat.zero_ne_one, $as,*])
  | `(tactic| simp only [zzG, $as,*]) => `(tactic| (simp -dsimp only [↓Wq_for_nil, Wq_for_nil, ↓Wq_tryN, ↓Wq_end, ↓IfQ_true, ↓IfQ_false, ↓Wq_ok, ↓Wq_err, ↓Wq_nx, ↓Wq_rt, ↓Wq_ct, ↓Wq_bk, ↓Wq_er, Wq_tryN, Wq_end, Wq_noErr, IfQ_true, IfQ_false, Wq_ok, Wq_err, Wq_nx, Wq_rt, Wq_ct, Wq_bk, Wq_er, ↓bindQ_ok, ↓bindQ_err, ↓toSQ_ok, ↓toSQ_err, ↓thnQ_nx, ↓thnQ_rt, ↓thnQ_ct, ↓thnQ_bk, ↓thnQ_err, ↓endQ_rt, ↓endQ_nx, ↓endQ_ini, ↓noQ_ok, ↓okQ_ok, ↓goQ_nx, ↓goQ_ct, ↓goQ_bk, ↓goQ_rt, ↓itemQ_some, ↓itemQ_none, ↓itemS_ok, ↓tryNQ_rt, ↓tryNQ_nx, ↓whlQ_true, ↓whlQ_false, ↓ite_HR, ↓ite_HS, ↓IfH_true, ↓IfH_false, IfH_true, IfH_false, Wq_IfH, Wq_bindH, Wq_toSH, Wq_thnH, exB, ↓exS_for, ↓exS_whl, ↓evA_lc, exS, evE, evEs, evT, evO, evA, evI, evC, tru, truT, binT, addT, mulT, intT, isIns, insOf_non, binE_non, cmE_non, insOf_bl, binE_bl, cmE_bl, insOf_int, binE_int, cmE_int, insOf_str, binE_str, cmE_str, insOf_lst, binE_lst, cmE_lst, insOf_tup, binE_tup, cmE_tup, insOf_dct, binE_dct, cmE_dct, insOf_kl, binE_kl, cmE_kl, insOf_bL, binE_bL, cmE_bL, insOf_bD, binE_bD, cmE_bD, insOf_ins, insOf_bI, insOf_rf, binE_rf, cmE_rf, fldT_ins, fldT_bI, fldT_rf, mx_0, mx_1, mx_2, mx_3, mx_4, mx_5, mx_01, mx_02, mx_03, mx_04, mx_05, cmpT, icmp, oR, idxT, idxSq, slT, bfT, intF, lenF, lenT, absF, gcdF, min2F, max2F, tupF, sumF, seqOf, lstOf, lstOf', walkOf_lst, walkOf_tup, walkOf_kl, walkOf_str, putI, stF, lkF, putF, lkN, kdAny, kd_non, kd_bl, kd_int, kd_str, kd_tup, kd_lst, kd_bL, kd_kl, kd_ins, kk_ii, kk_ib, kk_bi, kk_bb, kk_ss, kk_tt, kk_ll, kk_tl, kk_lt, kk_is, kk_si, kk_it, kk_il, kk_ti, kk_li, kk_st, kk_sl, kk_ts, kk_ls, onL, mbT, pl_non, pl_bl, pl_int, pl_str, pl_lst, pl_tup, pl_ins, pl_dct, pl_rf, pl_kl, pl_exc, pl_bL, pl_bD, pl_bI, arrT, isExc, isT, isNon, isBlv, ↓R.bind_H, R.bindH_ok, ↓R.toS_H, R.toSH_ok, ↓RS.thn_H, RS.thnH_nx, RS.thnH_rt, startT, setT, wipeT, freeTg, eqT_int, eqT_bl, List.all_cons, List.all_nil, List.map_cons, List.map_nil, List.zip_cons_cons, List.zip_nil_left, List.zip_nil_right, List.foldl_cons, List.foldl_nil, List.cons_append, List.nil_append, List.replicate, List.length_cons, List.length_nil, List.getElem?_cons_zero, List.getElem?_cons_succ, List.set_cons_zero, List.set_cons_succ, List.isEmpty_cons, List.isEmpty_nil, atI_0, atI_1, atI_2, atI_3, atI_4, ix51, ix52, ix53, ix54, Option.map_some, Option.map_none, Option.isSome_none, Option.isSome_some, Option.isNone_none, Option.isNone_some, eq_self, Option.bind_some, if_true, if_false, Bool.false_eq_true, Bool.and_false, Bool.false_and, Bool.not_false, Bool.not_true, Bool.and_true, Bool.true_and, Bool.or_false, Bool.or_true, Bool.false_or, Bool.true_or, Nat.reduceAdd, Nat.reduceSub, Nat.reduceEqDiff, freeS_eq, freeO_none, freeO_some, decide_true, decide_false, reduceCtorEq, endR_rt, endR_nx, endR_ini, iniV_nil, iniV_cons, isBI_int, isBI_str, isBI_lst, isBI_tup, isBI_ins, isBI_rf, isBI_bl, isBI_kl, isBI_non, isBI_dct, Nat.reduceLT, Nat.one_ne_zero, Nat.zero_ne_one, $as,*]; repeat (first | refine IfQ.yes (mulOk_of (by omega) (by omega) (by omega) (by omega)) ?_ | refine IfQ.yes (divOk_of (by omega) (by omega) (by omega)) ?_ | refine IfQ.yes (by decide) ?_ | refine IfQ.no (by decide) ?_ | refine IfQ.yes (rngOk_of (by (try simp only [List.length_map, List.length_append, List.length_cons, List.length_nil, List.length_range]); omega) (by (try simp only [List.length_map, List.length_append, List.length_cons, List.length_nil, List.length_range]); omega)) ?_ | refine IfQ.yes (len_of (by simp only [List.length_map, List.length_append, List.length_cons, List.length_nil, List.length_replicate, rngT_len]; omega)) ?_ | refine IfQ.yes (shlOk_of (by omega) (by omega) (by omega) (by omega)) ?_ | simp -dsimp only [↓Wq_for_nil, Wq_for_nil, ↓Wq_tryN, ↓Wq_end, ↓IfQ_true, ↓IfQ_false, ↓Wq_ok, ↓Wq_err, ↓Wq_nx, ↓Wq_rt, ↓Wq_ct, ↓Wq_bk, ↓Wq_er, Wq_tryN, Wq_end, Wq_noErr, IfQ_true, IfQ_false, Wq_ok, Wq_err, Wq_nx, Wq_rt, Wq_ct, Wq_bk, Wq_er, ↓bindQ_ok, ↓bindQ_err, ↓toSQ_ok, ↓toSQ_err, ↓thnQ_nx, ↓thnQ_rt, ↓thnQ_ct, ↓thnQ_bk, ↓thnQ_err, ↓endQ_rt, ↓endQ_nx, ↓endQ_ini, ↓noQ_ok, ↓okQ_ok, ↓goQ_nx, ↓goQ_ct, ↓goQ_bk, ↓goQ_rt, ↓itemQ_some, ↓itemQ_none, ↓itemS_ok, ↓tryNQ_rt, ↓tryNQ_nx, ↓whlQ_true, ↓whlQ_false, ↓ite_HR, ↓ite_HS, ↓IfH_true, ↓IfH_false, IfH_true, IfH_false, Wq_IfH, Wq_bindH, Wq_toSH, Wq_thnH, exB, ↓exS_for, ↓exS_whl, ↓evA_lc, exS, evE, evEs, evT, evO, evA, evI, evC, tru, truT, binT, addT, mulT, intT, isIns, insOf_non, binE_non, cmE_non, insOf_bl, binE_bl, cmE_bl, insOf_int, binE_int, cmE_int, insOf_str, binE_str, cmE_str, insOf_lst, binE_lst, cmE_lst, insOf_tup, binE_tup, cmE_tup, insOf_dct, binE_dct, cmE_dct, insOf_kl, binE_kl, cmE_kl, insOf_bL, binE_bL, cmE_bL, insOf_bD, binE_bD, cmE_bD, insOf_ins, insOf_bI, insOf_rf, binE_rf, cmE_rf, fldT_ins, fldT_bI, fldT_rf, mx_0, mx_1, mx_2, mx_3, mx_4, mx_5, mx_01, mx_02, mx_03, mx_04, mx_05, cmpT, icmp, oR, idxT, idxSq, slT, bfT, intF, lenF, lenT, absF, gcdF, min2F, max2F, tupF, sumF, seqOf, lstOf, lstOf', walkOf_lst, walkOf_tup, walkOf_kl, walkOf_str, putI, stF, lkF, putF, lkN, kdAny, kd_non, kd_bl, kd_int, kd_str, kd_tup, kd_lst, kd_bL, kd_kl, kd_ins, kk_ii, kk_ib, kk_bi, kk_bb, kk_ss, kk_tt, kk_ll, kk_tl, kk_lt, kk_is, kk_si, kk_it, kk_il, kk_ti, kk_li, kk_st, kk_sl, kk_ts, kk_ls, onL, mbT, pl_non, pl_bl, pl_int, pl_str, pl_lst, pl_tup, pl_ins, pl_dct, pl_rf, pl_kl, pl_exc, pl_bL, pl_bD, pl_bI, arrT, isExc, isT, isNon, isBlv, ↓R.bind_H, R.bindH_ok, ↓R.toS_H, R.toSH_ok, ↓RS.thn_H, RS.thnH_nx, RS.thnH_rt, startT, setT, wipeT, freeTg, eqT_int, eqT_bl, List.all_cons, List.all_nil, List.map_cons, List.map_nil, List.zip_cons_cons, List.zip_nil_left, List.zip_nil_right, List.foldl_cons, List.foldl_nil, List.cons_append, List.nil_append, List.replicate, List.length_cons, List.length_nil, List.getElem?_cons_zero, List.getElem?_cons_succ, List.set_cons_zero, List.set_cons_succ, List.isEmpty_cons, List.isEmpty_nil, atI_0, atI_1, atI_2, atI_3, atI_4, ix51, ix52, ix53, ix54, Option.map_some, Option.map_none, Option.isSome_none, Option.isSome_some, Option.isNone_none, Option.isNone_some, eq_self, Option.bind_some, if_true, if_false, Bool.false_eq_true, Bool.and_false, Bool.false_and, Bool.not_false, Bool.not_true, Bool.and_true, Bool.true_and, Bool.or_false, Bool.or_true, Bool.false_or, Bool.true_or, Nat.reduceAdd, Nat.reduceSub, Nat.reduceEqDiff, freeS_eq, freeO_none, freeO_some, decide_true, decide_false, reduceCtorEq, endR_rt, endR_nx, endR_ini, iniV_nil, iniV_cons, isBI_int, isBI_str, isBI_lst, isBI_tup, isBI_ins, isBI_rf, isBI_bl, isBI_kl, isBI_non, isBI_dct, Nat.reduceLT, Nat.one_ne_zero, Nat.zero_ne_one, $as,*])))
  | `(tactic| simp only [zzG]) => `(tactic| (simp -dsimp only [↓Wq_for_nil, Wq_for_nil, ↓Wq_tryN, ↓Wq_end, ↓IfQ_true, ↓IfQ_false, ↓Wq_ok, ↓Wq_err, ↓Wq_nx, ↓Wq_rt, ↓Wq_ct, ↓Wq_bk, ↓Wq_er, Wq_tryN, Wq_end, Wq_noErr, IfQ_true, IfQ_false, Wq_ok, Wq_err, Wq_nx, Wq_rt, Wq_ct, Wq_bk, Wq_er, ↓bindQ_ok, ↓bindQ_err, ↓toSQ_ok, ↓toSQ_err, ↓thnQ_nx, ↓thnQ_rt, ↓thnQ_ct, ↓thnQ_bk, ↓thnQ_err, ↓endQ_rt, ↓endQ_nx, ↓endQ_ini, ↓noQ_ok, ↓okQ_ok, ↓goQ_nx, ↓goQ_ct, ↓goQ_bk, ↓goQ_rt, ↓itemQ_some, ↓itemQ_none, ↓itemS_ok, ↓tryNQ_rt, ↓tryNQ_nx, ↓whlQ_true, ↓whlQ_false, ↓ite_HR, ↓ite_HS, ↓IfH_true, ↓IfH_false, IfH_true, IfH_false, Wq_IfH, Wq_bindH, Wq_toSH, Wq_thnH, exB, ↓exS_for, ↓exS_whl, ↓evA_lc, exS, evE, evEs, evT, evO, evA, evI, evC, tru, truT, binT, addT, mulT, intT, isIns, insOf_non, binE_non, cmE_non, insOf_bl, binE_bl, cmE_bl, insOf_int, binE_int, cmE_int, insOf_str, binE_str, cmE_str, insOf_lst, binE_lst, cmE_lst, insOf_tup, binE_tup, cmE_tup, insOf_dct, binE_dct, cmE_dct, insOf_kl, binE_kl, cmE_kl, insOf_bL, binE_bL, cmE_bL, insOf_bD, binE_bD, cmE_bD, insOf_ins, insOf_bI, insOf_rf, binE_rf, cmE_rf, fldT_ins, fldT_bI, fldT_rf, mx_0, mx_1, mx_2, mx_3, mx_4, mx_5, mx_01, mx_02, mx_03, mx_04, mx_05, cmpT, icmp, oR, idxT, idxSq, slT, bfT, intF, lenF, lenT, absF, gcdF, min2F, max2F, tupF, sumF, seqOf, lstOf, lstOf', walkOf_lst, walkOf_tup, walkOf_kl, walkOf_str, putI, stF, lkF, putF, lkN, kdAny, kd_non, kd_bl, kd_int, kd_str, kd_tup, kd_lst, kd_bL, kd_kl, kd_ins, kk_ii, kk_ib, kk_bi, kk_bb, kk_ss, kk_tt, kk_ll, kk_tl, kk_lt, kk_is, kk_si, kk_it, kk_il, kk_ti, kk_li, kk_st, kk_sl, kk_ts, kk_ls, onL, mbT, pl_non, pl_bl, pl_int, pl_str, pl_lst, pl_tup, pl_ins, pl_dct, pl_rf, pl_kl, pl_exc, pl_bL, pl_bD, pl_bI, arrT, isExc, isT, isNon, isBlv, ↓R.bind_H, R.bindH_ok, ↓R.toS_H, R.toSH_ok, ↓RS.thn_H, RS.thnH_nx, RS.thnH_rt, startT, setT, wipeT, freeTg, eqT_int, eqT_bl, List.all_cons, List.all_nil, List.map_cons, List.map_nil, List.zip_cons_cons, List.zip_nil_left, List.zip_nil_right, List.foldl_cons, List.foldl_nil, List.cons_append, List.nil_append, List.replicate, List.length_cons, List.length_nil, List.getElem?_cons_zero, List.getElem?_cons_succ, List.set_cons_zero, List.set_cons_succ, List.isEmpty_cons, List.isEmpty_nil, atI_0, atI_1, atI_2, atI_3, atI_4, ix51, ix52, ix53, ix54, Option.map_some, Option.map_none, Option.isSome_none, Option.isSome_some, Option.isNone_none, Option.isNone_some, eq_self, Option.bind_some, if_true, if_false, Bool.false_eq_true, Bool.and_false, Bool.false_and, Bool.not_false, Bool.not_true, Bool.and_true, Bool.true_and, Bool.or_false, Bool.or_true, Bool.false_or, Bool.true_or, Nat.reduceAdd, Nat.reduceSub, Nat.reduceEqDiff, freeS_eq, freeO_none, freeO_some, decide_true, decide_false, reduceCtorEq, endR_rt, endR_nx, endR_ini, iniV_nil, iniV_cons, isBI_int, isBI_str, isBI_lst, isBI_tup, isBI_ins, isBI_rf, isBI_bl, isBI_kl, isBI_non, isBI_dct, Nat.reduceLT, Nat.one_ne_zero, Nat.zero_ne_one]; repeat (first | refine IfQ.yes (mulOk_of (by omega) (by omega) (by omega) (by omega)) ?_ | refine IfQ.yes (divOk_of (by omega) (by omega) (by omega)) ?_ | refine IfQ.yes (by decide) ?_ | refine IfQ.no (by decide) ?_ | refine IfQ.yes (rngOk_of (by (try simp only [List.length_map, List.length_append, List.length_cons, List.length_nil, List.length_range]); omega) (by (try simp only [List.length_map, List.length_append, List.length_cons, List.length_nil, List.length_range]); omega)) ?_ | refine IfQ.yes (len_of (by simp only [List.length_map, List.length_append, List.length_cons, List.length_nil, List.length_replicate, rngT_len]; omega)) ?_ | refine IfQ.yes (shlOk_of (by omega) (by omega) (by omega) (by omega)) ?_ | simp -dsimp only [↓Wq_for_nil, Wq_for_nil, ↓Wq_tryN, ↓Wq_end, ↓IfQ_true, ↓IfQ_false, ↓Wq_ok, ↓Wq_err, ↓Wq_nx, ↓Wq_rt, ↓Wq_ct, ↓Wq_bk, ↓Wq_er, Wq_tryN, Wq_end, Wq_noErr, IfQ_true, IfQ_false, Wq_ok, Wq_err, Wq_nx, Wq_rt, Wq_ct, Wq_bk, Wq_er, ↓bindQ_ok, ↓bindQ_err, ↓toSQ_ok, ↓toSQ_err, ↓thnQ_nx, ↓thnQ_rt, ↓thnQ_ct, ↓thnQ_bk, ↓thnQ_err, ↓endQ_rt, ↓endQ_nx, ↓endQ_ini, ↓noQ_ok, ↓okQ_ok, ↓goQ_nx, ↓goQ_ct, ↓goQ_bk, ↓goQ_rt, ↓itemQ_some, ↓itemQ_none, ↓itemS_ok, ↓tryNQ_rt, ↓tryNQ_nx, ↓whlQ_true, ↓whlQ_false, ↓ite_HR, ↓ite_HS, ↓IfH_true, ↓IfH_false, IfH_true, IfH_false, Wq_IfH, Wq_bindH, Wq_toSH, Wq_thnH, exB, ↓exS_for, ↓exS_whl, ↓evA_lc, exS, evE, evEs, evT, evO, evA, evI, evC, tru, truT, binT, addT, mulT, intT, isIns, insOf_non, binE_non, cmE_non, insOf_bl, binE_bl, cmE_bl, insOf_int, binE_int, cmE_int, insOf_str, binE_str, cmE_str, insOf_lst, binE_lst, cmE_lst, insOf_tup, binE_tup, cmE_tup, insOf_dct, binE_dct, cmE_dct, insOf_kl, binE_kl, cmE_kl, insOf_bL, binE_bL, cmE_bL, insOf_bD, binE_bD, cmE_bD, insOf_ins, insOf_bI, insOf_rf, binE_rf, cmE_rf, fldT_ins, fldT_bI, fldT_rf, mx_0, mx_1, mx_2, mx_3, mx_4, mx_5, mx_01, mx_02, mx_03, mx_04, mx_05, cmpT, icmp, oR, idxT, idxSq, slT, bfT, intF, lenF, lenT, absF, gcdF, min2F, max2F, tupF, sumF, seqOf, lstOf, lstOf', walkOf_lst, walkOf_tup, walkOf_kl, walkOf_str, putI, stF, lkF, putF, lkN, kdAny, kd_non, kd_bl, kd_int, kd_str, kd_tup, kd_lst, kd_bL, kd_kl, kd_ins, kk_ii, kk_ib, kk_bi, kk_bb, kk_ss, kk_tt, kk_ll, kk_tl, kk_lt, kk_is, kk_si, kk_it, kk_il, kk_ti, kk_li, kk_st, kk_sl, kk_ts, kk_ls, onL, mbT, pl_non, pl_bl, pl_int, pl_str, pl_lst, pl_tup, pl_ins, pl_dct, pl_rf, pl_kl, pl_exc, pl_bL, pl_bD, pl_bI, arrT, isExc, isT, isNon, isBlv, ↓R.bind_H, R.bindH_ok, ↓R.toS_H, R.toSH_ok, ↓RS.thn_H, RS.thnH_nx, RS.thnH_rt, startT, setT, wipeT, freeTg, eqT_int, eqT_bl, List.all_cons, List.all_nil, List.map_cons, List.map_nil, List.zip_cons_cons, List.zip_nil_left, List.zip_nil_right, List.foldl_cons, List.foldl_nil, List.cons_append, List.nil_append, List.replicate, List.length_cons, List.length_nil, List.getElem?_cons_zero, List.getElem?_cons_succ, List.set_cons_zero, List.set_cons_succ, List.isEmpty_cons, List.isEmpty_nil, atI_0, atI_1, atI_2, atI_3, atI_4, ix51, ix52, ix53, ix54, Option.map_some, Option.map_none, Option.isSome_none, Option.isSome_some, Option.isNone_none, Option.isNone_some, eq_self, Option.bind_some, if_true, if_false, Bool.false_eq_true, Bool.and_false, Bool.false_and, Bool.not_false, Bool.not_true, Bool.and_true, Bool.true_and, Bool.or_false, Bool.or_true, Bool.false_or, Bool.true_or, Nat.reduceAdd, Nat.reduceSub, Nat.reduceEqDiff, freeS_eq, freeO_none, freeO_some, decide_true, decide_false, reduceCtorEq, endR_rt, endR_nx, endR_ini, iniV_nil, iniV_cons, isBI_int, isBI_str, isBI_lst, isBI_tup, isBI_ins, isBI_rf, isBI_bl, isBI_kl, isBI_non, isBI_dct, Nat.reduceLT, Nat.one_ne_zero, Nat.zero_ne_one])))
  | `(tactic| simp only [zzR]) => `(tactic| simp -dsimp only [↓Wq_for_nil, Wq_for_nil, ↓Wq_tryN, ↓Wq_end, ↓IfQ_true, ↓IfQ_false, ↓Wq_ok, ↓Wq_err, ↓Wq_nx, ↓Wq_rt, ↓Wq_ct, ↓Wq_bk, ↓Wq_er, Wq_tryN, Wq_end, Wq_noErr, IfQ_true, IfQ_false, Wq_ok, Wq_err, Wq_nx, Wq_rt, Wq_ct, Wq_bk, Wq_er, ↓bindQ_ok, ↓bindQ_err, ↓toSQ_ok, ↓toSQ_err, ↓thnQ_nx, ↓thnQ_rt, ↓thnQ_ct, ↓thnQ_bk, ↓thnQ_err, ↓endQ_rt, ↓endQ_nx, ↓endQ_ini, ↓noQ_ok, ↓okQ_ok, ↓goQ_nx, ↓goQ_ct, ↓goQ_bk, ↓goQ_rt, ↓itemQ_some, ↓itemQ_none, ↓itemS_ok, ↓tryNQ_rt, ↓tryNQ_nx, ↓whlQ_true, ↓whlQ_false, ↓ite_HR, ↓ite_HS, ↓IfH_true, ↓IfH_false, IfH_true, IfH_false, Wq_IfH, Wq_bindH, Wq_toSH, Wq_thnH, exB, ↓exS_for, ↓exS_whl, ↓evA_lc, exS, evE, evEs, evT, evO, evA, evI, evC, tru, truT, binT, addT, mulT, intT, isIns, insOf_non, binE_non, cmE_non, insOf_bl, binE_bl, cmE_bl, insOf_int, binE_int, cmE_int, insOf_str, binE_str, cmE_str, insOf_lst, binE_lst, cmE_lst, insOf_tup, binE_tup, cmE_tup, insOf_dct, binE_dct, cmE_dct, insOf_kl, binE_kl, cmE_kl, insOf_bL, binE_bL, cmE_bL, insOf_bD, binE_bD, cmE_bD, insOf_ins, insOf_bI, insOf_rf, binE_rf, cmE_rf, fldT_ins, fldT_bI, fldT_rf, mx_0, mx_1, mx_2, mx_3, mx_4, mx_5, mx_01, mx_02, mx_03, mx_04, mx_05, cmpT, icmp, oR, idxT, idxSq, slT, bfT, intF, lenF, lenT, absF, gcdF, min2F, max2F, tupF, sumF, seqOf, lstOf, lstOf', walkOf_lst, walkOf_tup, walkOf_kl, walkOf_str, putI, stF, lkF, putF, lkN, kdAny, kd_non, kd_bl, kd_int, kd_str, kd_tup, kd_lst, kd_bL, kd_kl, kd_ins, kk_ii, kk_ib, kk_bi, kk_bb, kk_ss, kk_tt, kk_ll, kk_tl, kk_lt, kk_is, kk_si, kk_it, kk_il, kk_ti, kk_li, kk_st, kk_sl, kk_ts, kk_ls, onL, mbT, pl_non, pl_bl, pl_int, pl_str, pl_lst, pl_tup, pl_ins, pl_dct, pl_rf, pl_kl, pl_exc, pl_bL, pl_bD, pl_bI, arrT, isExc, isT, isNon, isBlv, ↓R.bind_H, R.bindH_ok, ↓R.toS_H, R.toSH_ok, ↓RS.thn_H, RS.thnH_nx, RS.thnH_rt, startT, setT, wipeT, freeTg, eqT_int, eqT_bl, List.all_cons, List.all_nil, List.map_cons, List.map_nil, List.zip_cons_cons, List.zip_nil_left, List.zip_nil_right, List.foldl_cons, List.foldl_nil, List.cons_append, List.nil_append, List.replicate, List.length_cons, List.length_nil, List.getElem?_cons_zero, List.getElem?_cons_succ, List.set_cons_zero, List.set_cons_succ, List.isEmpty_cons, List.isEmpty_nil, atI_0, atI_1, atI_2, atI_3, atI_4, ix51, ix52, ix53, ix54, Option.map_some, Option.map_none, Option.isSome_none, Option.isSome_some, Option.isNone_none, Option.isNone_some, eq_self, Option.bind_some, if_true, if_false, Bool.false_eq_true, Bool.and_false, Bool.false_and, Bool.not_false, Bool.not_true, Bool.and_true, Bool.true_and, Bool.or_false, Bool.or_true, Bool.false_or, Bool.true_or, Nat.reduceAdd, Nat.reduceSub, Nat.reduceEqDiff, freeS_eq, freeO_none, freeO_some, decide_true, decide_false, reduceCtorEq, endR_rt, endR_nx, endR_ini, iniV_nil, iniV_cons, isBI_int, isBI_str, isBI_lst, isBI_tup, isBI_ins, isBI_rf, isBI_bl, isBI_kl, isBI_non, isBI_dct, Nat.reduceLT, Nat.one_ne_zero, Nat.zero_ne_one])

namespace K47
/-! ### factors, the law's questions -/
theorem low_FOk {a b : Int} (h0 : 0 ≤ a) (h1 : a ≤ b) (hb : 0 < b) (h2 : b ≤ 2 ^ 201) : FOk ((a : Rat) / (b : Rat)) := by
  obtain ⟨n1, n2⟩ := share_num a b (by omega)
  have m := num_le a b (by omega)
  rw [fdivI_gs a b a (by omega) (gg_dvd a b).1, if_neg (by omega)] at n1
  rw [fdivI_gs a b b (by omega) (gg_dvd a b).2, if_neg (by omega)] at n2
  have g0 := gg_pos a b (by omega)
  refine ⟨?_, ?_, ?_⟩
  · rw [← n1]; exact Int.ediv_nonneg h0 (by omega)
  · rw [← n1, ← n2]; exact Int.ediv_le_ediv g0 h1
  · have := m.2
    have e : b.natAbs ≤ 2 ^ 201 := by
      have : ((b.natAbs : Nat) : Int) ≤ ((2 ^ 201 : Nat) : Int) := by
        rw [Int.natCast_pow]
        have : ((b.natAbs : Nat) : Int) = b := by omega
        rw [this]; exact h2
      exact_mod_cast this
    omega
def hf (j : Nat) : Rat := ⟨1, 2 ^ j, by have := Nat.pow_pos (n := j) (show 0 < 2 by decide); omega, by show Nat.Coprime 1 _; exact Nat.coprime_one_left _⟩
theorem factor_run (W d : Nat) (s0 : Bx) (k : Nat) (ok : BxOk s0 k) (hk : k < 900000) (hW : 10000 < W) : Wp (run prog W (d + 3) 28 [.rf 0] [bxC s0]) (fun v h => ∃ f st, v = dT f ∧ h = [bxC st] ∧ FOk f ∧ BxOk st (k + 3)) := by
  have p60 : powOk 10 60 = true := by decide
  have p59 : powOk 10 59 = true := by decide
  have t60 : (10 : Int) ^ (60 : Int).toNat = 1000000000000000000000000000000000000000000000000000000000000 := by decide
  have t59 : (10 : Int) ^ (59 : Int).toNat = 100000000000000000000000000000000000000000000000000000000000 := by decide
  have pd : ∀ f, plainT (dT f) = true := fun _ => rfl
  refine Wq.run (rfl : prog.defs[28]? = some ⟨1, 4, b__law_factor⟩) rfl ?_
  simp only [zzG, b__law_factor]
  refine draw_qn ok (by omega) (by omega) (by omega) fun c st c1 ok => ?_
  simp only [zzG]
  refine IfQ.split (fun z => ?_) (fun z => ?_)
  · have z : (c : Int) < 2 := by simpa using z
    have : c = 0 ∨ c = 1 := by omega
    rcases this with rfl | rfl
    · skip
      simp only [zzG]
      exact ⟨0, st, rfl, by trivial, ⟨by decide, by decide, by decide⟩, ok.mono (by omega)⟩
    · skip
      simp only [zzG]
      exact ⟨1, st, rfl, by trivial, ⟨by decide, by decide, by decide⟩, ok.mono (by omega)⟩
  · simp only [zzG]
    refine IfQ.split (fun z => ?_) (fun z => ?_)
    · skip
      simp only [zzG]
      refine draw_qn ok (by omega) (by omega) (by omega) fun j st j1 ok => ?_
      simp only [zzG, Int.one_mul]
      refine ⟨hf j, st, ?_, by trivial, ⟨by show (0 : Int) ≤ 1; decide, ?_, ?_⟩, ok.mono (by omega)⟩
      · show _ = T.tup [.int 1, .int ((2 ^ j : Nat) : Int)]
        rw [Int.toNat_natCast, Int.natCast_pow]; rfl
      · show (1 : Int) ≤ ((2 ^ j : Nat) : Int)
        have := Nat.pow_pos (n := j) (show 0 < 2 by decide)
        exact_mod_cast this
      · show 2 ^ j ≤ 2 ^ 201
        exact Nat.pow_le_pow_right (by decide) (by omega)
    · skip
      simp only [zzG]
      refine IfQ.split (fun z => ?_) (fun z => ?_)
      · skip
        simp only [zzG, p60, t60]
        refine draw_qn ok (by omega) (by omega) (by omega) fun a st a1 ok => ?_
        simp only [zzG, p59, t59]
        refine draw_qn ok (by omega) (by omega) (by omega) fun b st b1 ok => ?_
        have q0 : 0 < (a : Int) + 1 + (b : Int) := by omega
        have q1 : (a : Int) + 1 + (b : Int) < 2 ^ 201 := by omega
        have q2 : 0 ≤ (a : Int) := by omega
        have q3 : (a : Int) ≤ (a : Int) + 1 + (b : Int) := by omega
        have e := fun h => low_run W d (a : Int) ((a : Int) + 1 + (b : Int)) h hW q0 (Int.lt_of_lt_of_le q1 (by exact_mod_cast (Nat.pow_le_pow_right (by decide) (by decide) : (2 : Nat) ^ 201 ≤ 2 ^ 3100)))
        simp only [zzG, e, pd]
        exact ⟨(((a : Int) : Int) : Rat) / ((((a : Int) + 1 + (b : Int)) : Int) : Rat), st, rfl, rfl, low_FOk q2 q3 q0 (Int.le_of_lt q1), ok.mono (by omega)⟩
      · skip
        simp only [zzG]
        refine draw_qn ok (by omega) (by omega) (by omega) fun u st u1 ok => ?_
        simp only [zzG]
        refine draw_qn ok (by omega) (by omega) (by omega) fun a st a1 ok => ?_
        have e := fun h => low_run W d (a : Int) (1 + (u : Int)) h hW (by omega) (Int.lt_of_lt_of_le (show (1 + (u : Int)) < 2 ^ 201 by omega) (by exact_mod_cast (Nat.pow_le_pow_right (by decide) (by decide) : (2 : Nat) ^ 201 ≤ 2 ^ 3100)))
        simp only [zzG, e, pd]
        exact ⟨_, st, rfl, by trivial, low_FOk (by omega) (by omega) (by omega) (by omega), ok.mono (by omega)⟩
theorem newT_d (W d : Nat) (f : Rat) (h : Hl) (fo : FOk f) : newT prog (run prog W (d + 1)) 3 [.int f.num, .int ((f.den : Nat) : Int)] h = .ok (sh f) h := by
  have e := newT_sh W d f.num ((f.den : Nat) : Int) h (by have := f.den_pos; omega) (by rw [Int.natAbs_natCast]; exact Nat.lt_of_le_of_lt fo.d (Nat.pow_lt_pow_right (by decide) (by decide)))
  rw [Rat.intCast_natCast, rat_eq] at e
  exact e
def srcs (ps : List Pr) : List T := ps.map fun p => src p.1
def shs (ps : List Pr) : List T := ps.map fun p => sh p.2
def due (n : Nat) (ps : List Pr) : Rat := frC (CC n ps) (bsum (CC n ps) n ps (2 ^ n))
theorem gs_run (W d : Nat) (vs vf : T) (ps : List Pr) (n : Nat) (hn : n ≤ 8) (h : Hl) (o : PsOk ps) (ne : ps ≠ []) (wv : walkOf vs = some (srcs ps)) (wf : walkOf vf = some (shs ps)) (ib : isBI vs = false) (pv : plainT vs = true) (pf : plainT vf = true) :
    run prog W (d + 5) 10 [vs, vf, .int (n : Int)] h = .ok (sh (due n ps)) h := gsum_run W d vs vf ps n (CC n ps) h (CC_ok hn o) ne wv wf ib pv pf
theorem holds_run (W d : Nat) (s0 : Bx) (k : Nat) (ok : BxOk s0 k) (hk : k < 900000) (ps : List Pr) (n : Nat) (hn : n ≤ 8) (o : PsOk ps) (ne : ps ≠ []) : Wp (run prog W (d + 6) 32 [.rf 0, .lst (srcs ps), .lst (ps.map fcT), .int (n : Int), dT (due n ps)] [bxC s0]) (fun v h => v = .bl true ∧ ∃ st, h = [bxC st] ∧ BxOk st (k + 1)) := by
  have ol := o.l
  have mx1 := le_of' (n := (ps.map fcT).length) (by rw [List.length_map]; omega)
  have c1 := fun (o6 o7 o9 : Option T) h => lc_pure (f := bodyL prog (run prog W (d + 5)) Eo.none b__law_sum_holds_C1) (tg := [8]) (σ := [some (.rf 0), some (.lst (srcs ps)), some (.lst (ps.map fcT)), some (.int (n : Int)), some (dT (due n ps)), none, o6, o7, none, o9]) (h := h) fcT (fun p => sh p.2) ps fun p hp => ⟨plainT_sh _, [some (.rf 0), some (.lst (srcs ps)), some (.lst (ps.map fcT)), some (.int (n : Int)), some (dT (due n ps)), none, o6, o7, some (fcT p), o9], rfl, by
    have e := newT_d W (d + 4) p.2 h (o.ok p hp).2
    simp only [zzO, b__law_sum_holds_C1, bodyL, fcT, dT, e]⟩
  have es : ps.map (fun p => sh p.2) = shs ps := rfl
  have g1 := fun h => gs_run W d _ _ ps n hn h o ne (show walkOf (.tup (srcs ps)) = some (srcs ps) from rfl) (show walkOf (.tup (shs ps)) = some (shs ps) from rfl) rfl rfl rfl
  have g2 := fun h => gs_run W d _ _ ps n hn h o ne (show walkOf (.lst (srcs ps)) = some (srcs ps) from rfl) (show walkOf (.lst (shs ps)) = some (shs ps) from rfl) rfl rfl rfl
  have ll : ∀ h, eqT h (.int ((shs ps).length : Int)) (.int ((ps.map fcT).length : Int)) = some true := fun h => by
    rw [eqT_int]; unfold shs; rw [List.length_map, List.length_map]; simp
  have i0 := fun p h => isdT_run W (d + 3) p h
  have rk : rngOk ((ps.map fcT).length : Int) = true := by rw [List.length_map]; exact rngOk_of (by omega) (by omega)
  have mx2 := le_of' (n := (rngT 0 ((ps.map fcT).length : Int)).length) (by rw [rngT_len, List.length_map]; omega)
  have c2 := fun (o7 : Option T) (o6 : Option T) h => lc_rng (f := bodyL prog (run prog W (d + 5)) Eo.none b__law_sum_holds_C2) (i := 9) (σ := [some (.rf 0), some (.lst (srcs ps)), some (.lst (ps.map fcT)), some (.int (n : Int)), some (dT (due n ps)), some (.lst (shs ps)), o6, o7, none, none]) (h := h) (fun _ => .bl true) 0 ((ps.map fcT).length : Int) fun j hj => ⟨rfl, by
    have hk : j < ps.length := by rw [List.length_map] at hj; omega
    have hp : ps[j]? = some ps[j] := List.getElem?_eq_getElem hk
    have a1 := at_map fcT hp
    have a2 : atI (shs ps) (j : Int) = some (sh ps[j].2) := at_map (fun p : Pr => sh p.2) hp
    have i1 := isdT_run W (d + 3) ps[j].2 h
    rw [Int.zero_add]
    simp only [zzO, b__law_sum_holds_C2, bodyL, isBI_sh, insOf_sh, plainT_sh, isBor_sh, isExc_sh, over_sh, under_sh, kd_sh, sh_fold, sh_cls, a1, a2, fcT, plain_dT, i1]⟩
  have ab : ∀ h, allF [.lst ((List.range ((((ps.map fcT).length : Int) - 0).toNat)).map fun _ => T.bl true)] h = .ok (.bl true) h := fun h => all_trues _ h
  refine Wq.run (rfl : prog.defs[32]? = some ⟨5, 10, b__law_sum_holds⟩) rfl ?_
  simp only [zzG, b__law_sum_holds, mx1, c1, es, isBI_dT]
  refine draw_qn ok (by omega) (by omega) (by omega) fun c st c1 ok => ?_
  have c3 : c = 0 ∨ c = 1 ∨ c = 2 := by omega
  rcases c3 with rfl | rfl | rfl
  · simp only [zzG, g1, g2, ll, rk, mx2, c2, ab, isBI_sh, insOf_sh, plainT_sh, isBor_sh, isExc_sh, over_sh, under_sh, kd_sh, sh_fold, sh_cls, i0, plain_dT]
    exact ⟨by trivial, st, by trivial, ok⟩
  · simp only [zzG, g1, g2, ll, rk, mx2, c2, ab, isBI_sh, insOf_sh, plainT_sh, isBor_sh, isExc_sh, over_sh, under_sh, kd_sh, sh_fold, sh_cls, i0, plain_dT]
    exact ⟨by trivial, st, by trivial, ok⟩
  · simp only [zzG, g1, g2, ll, rk, mx2, c2, ab, isBI_sh, insOf_sh, plainT_sh, isBor_sh, isExc_sh, over_sh, under_sh, kd_sh, sh_fold, sh_cls, i0, plain_dT]
    exact ⟨by trivial, st, by trivial, ok⟩
theorem den_num (q : Rat) (h : 0 < q.num) : ((((q.den : Nat) : Int) : Rat) / ((q.num : Int) : Rat)).num = ((q.den : Nat) : Int) ∧ ((((((q.den : Nat) : Int) : Rat) / ((q.num : Int) : Rat)).den : Nat) : Int) = q.num := by
  obtain ⟨n1, n2⟩ := share_num ((q.den : Nat) : Int) q.num (by omega)
  have g : gs ((q.den : Nat) : Int) q.num = 1 := by
    unfold gs gg
    rw [if_neg (by omega), Int.natAbs_natCast, Nat.gcd_comm]
    have := q.reduced
    unfold Nat.Coprime at this
    rw [this]; rfl
  rw [g] at n1 n2
  have f1 : ∀ i : Int, fdivI i 1 = i := fun i => by rw [fdiv_pos (by decide), Int.ediv_one]
  rw [f1] at n1 n2
  exact ⟨n1.symm, n2.symm⟩
def ones (ps : List (List Rw)) : List Pr := ps.map fun rs => (rs, 1)
theorem loss_run (W d : Nat) (vs : T) (rss : List (List Rw)) (n : Nat) (hn : n ≤ 8) (h : Hl) (o : PsOk (ones rss)) (ne : rss ≠ []) (hv : vs = .lst (srcs (ones rss)) ∨ vs = .tup (srcs (ones rss))) (q0 : 0 < (due n (ones rss)).num) (qb : (due n (ones rss)).num.natAbs < 2 ^ 8999) :
    Wp (run prog W (d + 6) 11 [vs, .int (n : Int)] h) (fun v h' => v = sh ((((due n (ones rss)).den : Nat) : Int) / ((due n (ones rss)).num : Int) : Rat) ∧ h' = h) := by
  have ol := o.l
  have ll : (ones rss).length = rss.length := by unfold ones; rw [List.length_map]
  have e0 := newT_sh W (d + 4) 1 1 h (by decide) (Nat.one_lt_pow (by decide) (by decide))
  rw [one_sh] at e0
  have ne2 : ones rss ≠ [] := by
    cases rss with
    | nil => exact (ne rfl).elim
    | cons a l => unfold ones; simp
  have sh1 : ((srcs (ones rss)).map fun _ => sh (1 : Rat)) = shs (ones rss) := by
    unfold shs srcs ones; rw [List.map_map, List.map_map, List.map_map]; rfl
  have mx := le_of' (n := (srcs (ones rss)).length) (by unfold srcs; rw [List.length_map]; omega)
  have wv : walkOf vs = some (srcs (ones rss)) := by rcases hv with rfl | rfl <;> rfl
  have pv : plainT vs = true := by rcases hv with rfl | rfl <;> rfl
  have iv : isBI vs = false := by rcases hv with rfl | rfl <;> rfl
  have c1 := fun h2 (hh : h2 = h) => lc_pure (f := bodyL prog (run prog W (d + 5)) Eo.none b_least_loss_C1) (tg := [3]) (σ := [some vs, some (.int (n : Int)), none, none]) (h := h2) (fun t : T => t) (fun _ => sh (1 : Rat)) (srcs (ones rss)) fun p hp => ⟨plainT_sh _, [some vs, some (.int (n : Int)), none, some p], rfl, by
    subst hh
    simp only [zzO, b_least_loss_C1, bodyL, e0]⟩
  have c1 := c1 h rfl
  rw [List.map_id', sh1] at c1
  have g := gs_run W d vs (.lst (shs (ones rss))) (ones rss) n hn h o ne2 wv rfl iv pv rfl
  have e2 := newT_sh W (d + 4) (((due n (ones rss)).den : Nat) : Int) (due n (ones rss)).num h (by omega) qb
  refine Wq.run (rfl : prog.defs[11]? = some ⟨2, 4, b_least_loss⟩) rfl ?_
  simp only [zzG, b_least_loss, wv, pv, iv, mx, c1, g, isBI_sh, insOf_sh, plainT_sh, isBor_sh, isExc_sh, over_sh, under_sh, kd_sh, sh_fold, sh_cls, e2]
  exact ⟨by trivial, by trivial⟩
theorem lev_pos {rs : List Rw} (ok : SrcOk rs) : ∀ n, ∃ x ∈ levL rs n, 0 < x.1 := by
  intro n
  induction n with
  | zero => exact ⟨(1, 1, 0), by simp [levL], by decide⟩
  | succ n ih =>
    obtain ⟨x, hx, p⟩ := ih
    have k := at_ok ok (lev_ok ok n x hx).s
    have kp := k.p
    by_cases a : 0 < (at' rs x.2.2).1
    · exact ⟨stepL rs false x, List.mem_flatMap.mpr ⟨x, hx, by simp [bothL]⟩, Nat.mul_pos p a⟩
    · exact ⟨stepL rs true x, List.mem_flatMap.mpr ⟨x, hx, by simp [bothL]⟩, Nat.mul_pos p (by show 0 < (at' rs x.2.2).2.2.1; omega)⟩
theorem foldl_ge (C n i : Nat) : ∀ (l : List Pr) (b : Int), b ≤ l.foldl (fun b p => let v := NN C p.2 (lv p.1 n i); if v > b then v else b) b := by
  intro l
  induction l with
  | nil => intro b; exact Int.le_refl b
  | cons p l ih =>
    intro b
    rw [List.foldl_cons]
    refine Int.le_trans ?_ (ih _)
    dsimp only; split <;> omega
theorem bst_ge (C n i : Nat) (p : Pr) (l : List Pr) : NN C p.2 (lv p.1 n i) ≤ bst C n (p :: l) i := by
  unfold bst
  rw [List.foldl_cons]
  refine Int.le_trans ?_ (foldl_ge C n i l _)
  dsimp only; split <;> omega
theorem bsum_mono {C n : Nat} {ps : List Pr} (co : COk C n ps) : ∀ (j i : Nat), i < j → j ≤ 2 ^ n → bst C n ps i ≤ bsum C n ps j := by
  intro j
  induction j with
  | zero => intro i h; omega
  | succ j ih =>
    intro i h hj
    have b := bsum_le co j (by omega)
    have c := bst_le co (i := j) (by omega)
    show _ ≤ bsum C n ps j + bst C n ps j
    by_cases e : i = j
    · subst e; omega
    · have := ih i (by omega) (by omega); omega
theorem due_pos (rss : List (List Rw)) (n : Nat) (hn : n ≤ 8) (o : PsOk (ones rss)) (ne : rss ≠ []) : 0 < (due n (ones rss)).num := by
  cases rss with
  | nil => exact (ne rfl).elim
  | cons rs l =>
    have co := CC_ok hn o
    have so := (o.ok (rs, 1) (by simp [ones])).1
    obtain ⟨x, hx, px⟩ := lev_pos so n
    obtain ⟨i, hi, e⟩ := List.mem_iff_getElem.mp hx
    have hi2 : i < 2 ^ n := by rw [lev_len] at hi; exact hi
    have ex : lv rs n i = x := by
      unfold lv
      rw [List.getD_eq_getElem?_getD, List.getElem?_eq_getElem hi]; exact e
    have dv := co.d (rs, 1) (by simp [ones]) i hi2
    have lo := lv_ok so hi2
    have nn : 0 < NN (CC n (ones (rs :: l))) 1 (lv rs n i) := by
      unfold NN
      have h1 : 0 < CC n (ones (rs :: l)) / ((lv rs n i).2.1 * (1 : Rat).den) := Nat.div_pos (Nat.le_of_dvd co.p dv) (Nat.mul_pos lo.p (by decide))
      rw [ex] at h1 ⊢
      have : ((x.1 : Int) * (1 : Rat).num) = x.1 := by show (x.1 : Int) * 1 = _; omega
      rw [this]
      exact Int.mul_pos (by omega) (by omega)
    have g1 := bst_ge (CC n (ones (rs :: l))) n i (rs, 1) (ones l)
    have g2 := bsum_mono co (2 ^ n) i hi2 (Nat.le_refl _)
    have g3 : 0 < bsum (CC n (ones (rs :: l))) n (ones (rs :: l)) (2 ^ n) := Int.lt_of_lt_of_le nn (Int.le_trans g1 g2)
    unfold due frC
    have c0 := co.p
    generalize bsum (CC n (ones (rs :: l))) n (ones (rs :: l)) (2 ^ n) = a at *
    generalize CC n (ones (rs :: l)) = b at *
    have hb : ((b : Nat) : Int) ≠ 0 := by omega
    obtain ⟨n1, n2⟩ := share_num a ((b : Nat) : Int) hb
    rw [fdivI_gs a _ a hb (gg_dvd a _).1, if_neg (by omega)] at n1
    rw [← n1]
    have g0 := gg_pos a ((b : Nat) : Int) hb
    obtain ⟨k, hk⟩ := (gg_dvd a ((b : Nat) : Int)).1
    rw [Int.ediv_eq_of_eq_mul_right (by omega) hk]
    have : 0 < gg a ((b : Nat) : Int) * k := by rw [← hk]; exact g3
    rcases Int.lt_or_le 0 k with h | h
    · exact h
    · have q := Int.mul_le_mul_of_nonneg_left h (Int.le_of_lt g0)
      rw [Int.mul_zero] at q; omega
end K47
end
section
set_option maxRecDepth 100000
set_option maxHeartbeats 4000000
set_option linter.all false
open Kb
local macro_rules
  | `(tactic| simp only [zzO, $as,*]) => `(tactic| simp only [exB, ↓exS_for, ↓exS_whl, ↓evA_lc, exS, evE, evEs, evT, evO, evA, evI, evC, tru, truT, binT, addT, mulT, intT, isIns, insOf_non, binE_non, cmE_non, insOf_bl, binE_bl, cmE_bl, insOf_int, binE_int, cmE_int, insOf_str, binE_str, cmE_str, insOf_lst, binE_lst, cmE_lst, insOf_tup, binE_tup, cmE_tup, insOf_dct, binE_dct, cmE_dct, insOf_kl, binE_kl, cmE_kl, insOf_bL, binE_bL, cmE_bL, insOf_bD, binE_bD, cmE_bD, insOf_ins, insOf_bI, insOf_rf, binE_rf, cmE_rf, fldT_ins, fldT_bI, fldT_rf, mx_0, mx_1, mx_2, mx_3, mx_4, mx_5, mx_01, mx_02, mx_03, mx_04, mx_05, cmpT, icmp, oR, idxT, idxSq, slT, bfT, intF, lenF, lenT, absF, gcdF, min2F, max2F, tupF, sumF, seqOf, lstOf, lstOf', walkOf_lst, walkOf_tup, walkOf_kl, walkOf_str, putI, stF, lkF, putF, lkN, kdAny, kd_non, kd_bl, kd_int, kd_str, kd_tup, kd_lst, kd_bL, kd_kl, kd_ins, kk_ii, kk_ib, kk_bi, kk_bb, kk_ss, kk_tt, kk_ll, kk_tl, kk_lt, kk_is, kk_si, kk_it, kk_il, kk_ti, kk_li, kk_st, kk_sl, kk_ts, kk_ls, onL, mbT, pl_non, pl_bl, pl_int, pl_str, pl_lst, pl_tup, pl_ins, pl_dct, pl_rf, pl_kl, pl_exc, pl_bL, pl_bD, pl_bI, arrT, isExc, isT, isNon, isBlv, ↓R.bind_H, R.bindH_ok, ↓R.toS_H, R.toSH_ok, R.noErr_ok, ↓RS.thn_H, RS.thnH_nx, RS.thnH_rt, R.bindH_ite, R.toSH_ite, RS.thnH_ite, startT, setT, wipeT, freeTg, eqT_int, eqT_bl, List.all_cons, List.all_nil, List.map_cons, List.map_nil, List.zip_cons_cons, List.zip_nil_left, List.zip_nil_right, List.foldl_cons, List.foldl_nil, List.cons_append, List.nil_append, List.replicate, List.length_cons, List.length_nil, List.getElem?_cons_zero, List.getElem?_cons_succ, List.set_cons_zero, List.set_cons_succ, List.isEmpty_cons, List.isEmpty_nil, atI_0, atI_1, atI_2, atI_3, atI_4, ix51, ix52, ix53, ix54, Option.map_some, Option.map_none, Option.isSome_none, Option.isSome_some, Option.isNone_none, Option.isNone_some, eq_self, Option.bind_some, if_true, if_false, Bool.false_eq_true, Bool.and_false, Bool.false_and, Bool.not_false, Bool.not_true, Bool.and_true, Bool.true_and, Bool.or_false, Bool.or_true, Bool.false_or, Bool.true_or, Nat.reduceAdd, Nat.reduceSub, Nat.reduceEqDiff, freeS_eq, freeO_none, freeO_some, decide_true, decide_false, reduceCtorEq, endR_rt, endR_nx, endR_ini, endR_ite, iniV_nil, iniV_cons, isBI_int, isBI_str, isBI_lst, isBI_tup, isBI_ins, isBI_rf, isBI_bl, isBI_kl, isBI_non, isBI_dct, Nat.reduceLT, Nat.one_ne_zero, Nat.zero_ne_one, $as,*])
  | `(tactic| simp only [zzR, $as,*]) => `(tactic| simp -dsimp only [↓Wq_for_nil, Wq_for_nil, ↓Wq_tryN, ↓Wq_end, ↓IfQ_true, ↓IfQ_false, ↓Wq_ok, ↓Wq_err, ↓Wq_nx, ↓Wq_rt, ↓Wq_ct, ↓Wq_bk, ↓Wq_er, Wq_tryN, Wq_end, Wq_noErr, IfQ_true, IfQ_false, Wq_ok, Wq_err, Wq_nx, Wq_rt, Wq_ct, Wq_bk, Wq_er, ↓bindQ_ok, ↓bindQ_err, ↓toSQ_ok, ↓toSQ_err, ↓thnQ_nx, ↓thnQ_rt, ↓thnQ_ct, ↓thnQ_bk, ↓thnQ_err, ↓endQ_rt, ↓endQ_nx, ↓endQ_ini, ↓noQ_ok, ↓okQ_ok, ↓goQ_nx, ↓goQ_ct, ↓goQ_bk, ↓goQ_rt, ↓itemQ_some, ↓itemQ_none, ↓itemS_ok, ↓tryNQ_rt, ↓tryNQ_nx, ↓whlQ_true, ↓whlQ_false, ↓ite_HR, ↓ite_HS, ↓IfH_true, ↓IfH_false, IfH_true, IfH_false, Wq_IfH, Wq_bindH, Wq_toSH, Wq_thnH, exB, ↓exS_for, ↓exS_whl, ↓evA_lc, exS, evE, evEs, evT, evO, evA, evI, evC, tru, truT, binT, addT, mulT, intT, isIns, insOf_non, binE_non, cmE_non, insOf_bl, binE_bl, cmE_bl, insOf_int, binE_int, cmE_int, insOf_str, binE_str, cmE_str, insOf_lst, binE_lst, cmE_lst, insOf_tup, binE_tup, cmE_tup, insOf_dct, binE_dct, cmE_dct, insOf_kl, binE_kl, cmE_kl, insOf_bL, binE_bL, cmE_bL, insOf_bD, binE_bD, cmE_bD, insOf_ins, insOf_bI, insOf_rf, binE_rf, cmE_rf, fldT_ins, fldT_bI, fldT_rf, mx_0, mx_1, mx_2, mx_3, mx_4, mx_5, mx_01, mx_02, mx_03, mx_04, mx_05, cmpT, icmp, oR, idxT, idxSq, slT, bfT, intF, lenF, lenT, absF, gcdF, min2F, max2F, tupF, sumF, seqOf, lstOf, lstOf', walkOf_lst, walkOf_tup, walkOf_kl, walkOf_str, putI, stF, lkF, putF, lkN, kdAny, kd_non, kd_bl, kd_int, kd_str, kd_tup, kd_lst, kd_bL, kd_kl, kd_ins, kk_ii, kk_ib, kk_bi, kk_bb, kk_ss, kk_tt, kk_ll, kk_tl, kk_lt, kk_is, kk_si, kk_it, kk_il, kk_ti, kk_li, kk_st, kk_sl, kk_ts, kk_ls, onL, mbT, pl_non, pl_bl, pl_int, pl_str, pl_lst, pl_tup, pl_ins, pl_dct, pl_rf, pl_kl, pl_exc, pl_bL, pl_bD, pl_bI, arrT, isExc, isT, isNon, isBlv, ↓R.bind_H, R.bindH_ok, ↓R.toS_H, R.toSH_ok, ↓RS.thn_H, RS.thnH_nx, RS.thnH_rt, startT, setT, wipeT, freeTg, eqT_int, eqT_bl, List.all_cons, List.all_nil, List.map_cons, List.map_nil, List.zip_cons_cons, List.zip_nil_left, List.zip_nil_right, List.foldl_cons, List.foldl_nil, List.cons_append, List.nil_append, List.replicate, List.length_cons, List.length_nil, List.getElem?_cons_zero, List.getElem?_cons_succ, List.set_cons_zero, List.set_cons_succ, List.isEmpty_cons, List.isEmpty_nil, atI_0, atI_1, atI_2, atI_3, atI_4, ix51, ix52, ix53, ix54, Option.map_some, Option.map_none, Option.isSome_none, Option.isSome_some, Option.isNone_none, Option.isNone_some, eq_self, Option.bind_some, if_true, if_false, Bool.false_eq_true, Bool.and_false, Bool.false_and, Bool.not_false, Bool.not_true, Bool.and_true, Bool.true_and, Bool.or_false, Bool.or_true, Bool.false_or, Bool.true_or, Nat.reduceAdd, Nat.reduceSub, Nat.reduceEqDiff, freeS_eq, freeO_none, freeO_some, decide_true, decide_false, reduceCtorEq, endR_rt, endR_nx, endR_ini, iniV_nil, iniV_cons, isBI_int, isBI_str, isBI_lst, isBI_tup, isBI_ins, isBI_rf, isBI_bl, isBI_kl, isBI_non, isBI_dct, Nat.reduceLT, Nat.one_ne_zero, Nat.zero_ne_one, $as,*])
  | `(tactic| simp only [zzG, $as,*]) => `(tactic| (simp -dsimp only [↓Wq_for_nil, Wq_for_nil, ↓Wq_tryN, ↓Wq_end, ↓IfQ_true, ↓IfQ_false, ↓Wq_ok, ↓Wq_err, ↓Wq_nx, ↓Wq_rt, ↓Wq_ct, ↓Wq_bk, ↓Wq_er, Wq_tryN, Wq_end, Wq_noErr, IfQ_true, IfQ_false, Wq_ok, Wq_err, Wq_nx, Wq_rt, Wq_ct, Wq_bk, Wq_er, ↓bindQ_ok, ↓bindQ_err, ↓toSQ_ok, ↓toSQ_err, ↓thnQ_nx, ↓thnQ_rt, ↓thnQ_ct, ↓thnQ_bk, ↓thnQ_err, ↓endQ_rt, ↓endQ_nx, ↓endQ_ini, ↓noQ_ok, ↓okQ_ok, ↓goQ_nx, ↓goQ_ct, ↓goQ_bk, ↓goQ_rt, ↓itemQ_some, ↓itemQ_none, ↓itemS_ok, ↓tryNQ_rt, ↓tryNQ_nx, ↓whlQ_true, ↓whlQ_false, ↓ite_HR, ↓ite_HS, ↓IfH_true, ↓IfH_false, IfH_true, IfH_false, Wq_IfH, Wq_bindH, Wq_toSH, Wq_thnH, exB, ↓exS_for, ↓exS_whl, ↓evA_lc, exS, evE, evEs, evT, evO, evA, evI, evC, tru, truT, binT, addT, mulT, intT, isIns, insOf_non, binE_non, cmE_non, insOf_bl, binE_bl, cmE_bl, insOf_int, binE_int, cmE_int, insOf_str, binE_str, cmE_str, insOf_lst, binE_lst, cmE_lst, insOf_tup, binE_tup, cmE_tup, insOf_dct, binE_dct, cmE_dct, insOf_kl, binE_kl, cmE_kl, insOf_bL, binE_bL, cmE_bL, insOf_bD, binE_bD, cmE_bD, insOf_ins, insOf_bI, insOf_rf, binE_rf, cmE_rf, fldT_ins, fldT_bI, fldT_rf, mx_0, mx_1, mx_2, mx_3, mx_4, mx_5, mx_01, mx_02, mx_03, mx_04, mx_05, cmpT, icmp, oR, idxT, idxSq, slT, bfT, intF, lenF, lenT, absF, gcdF, min2F, max2F, tupF, sumF, seqOf, lstOf, lstOf', walkOf_lst, walkOf_tup, walkOf_kl, walkOf_str, putI, stF, lkF, putF, lkN, kdAny, kd_non, kd_bl, kd_int, kd_str, kd_tup, kd_lst, kd_bL, kd_kl, kd_ins, kk_ii, kk_ib, kk_bi, kk_bb, kk_ss, kk_tt, kk_ll, kk_tl, kk_lt, kk_is, kk_si, kk_it, kk_il, kk_ti, kk_li, kk_st, kk_sl, kk_ts, kk_ls, onL, mbT, pl_non, pl_bl, pl_int, pl_str, pl_lst, pl_tup, pl_ins, pl_dct, pl_rf, pl_kl, pl_exc, pl_bL, pl_bD, pl_bI, arrT, isExc, isT, isNon, isBlv, ↓R.bind_H, R.bindH_ok, ↓R.toS_H, R.toSH_ok, ↓RS.thn_H, RS.thnH_nx, RS.thnH_rt, startT, setT, wipeT, freeTg, eqT_int, eqT_bl, List.all_cons, List.all_nil, List.map_cons, List.map_nil, List.zip_cons_cons, List.zip_nil_left, List.zip_nil_right, List.foldl_cons, List.foldl_nil, List.cons_append, List.nil_append, List.replicate, List.length_cons, List.length_nil, List.getElem?_cons_zero, List.getElem?_cons_succ, List.set_cons_zero, List.set_cons_succ, List.isEmpty_cons, List.isEmpty_nil, atI_0, atI_1, atI_2, atI_3, atI_4, ix51, ix52, ix53, ix54, Option.map_some, Option.map_none, Option.isSome_none, Option.isSome_some, Option.isNone_none, Option.isNone_some, eq_self, Option.bind_some, if_true, if_false, Bool.false_eq_true, Bool.and_false, Bool.false_and, Bool.not_false, Bool.not_true, Bool.and_true, Bool.true_and, Bool.or_false, Bool.or_true, Bool.false_or, Bool.true_or, Nat.reduceAdd, Nat.reduceSub, Nat.reduceEqDiff, freeS_eq, freeO_none, freeO_some, decide_true, decide_false, reduceCtorEq, endR_rt, endR_nx, endR_ini, iniV_nil, iniV_cons, isBI_int, isBI_str, isBI_lst, isBI_tup, isBI_ins, isBI_rf, isBI_bl, isBI_kl, isBI_non, isBI_dct, Nat.reduceLT, Nat.one_ne_zero, Nat.zero_ne_one, $as,*]; repeat (first | refine IfQ.yes (mulOk_of (by omega) (by omega) (by omega) (by omega)) ?_ | refine IfQ.yes (divOk_of (by omega) (by omega) (by omega)) ?_ | refine IfQ.yes (by decide) ?_ | refine IfQ.no (by decide) ?_ | refine IfQ.yes (rngOk_of (by (try simp only [List.length_map, List.length_append, List.length_cons, List.length_nil, List.length_range]); omega) (by (try simp only [List.length_map, List.length_append, List.length_cons, List.length_nil, List.length_range]); omega)) ?_ | refine IfQ.yes (len_of (by simp only [List.length_map, List.length_append, List.length_cons, List.length_nil, List.length_replicate, rngT_len]; omega)) ?_ | refine IfQ.yes (shlOk_of (by omega) (by omega) (by omega) (by omega)) ?_ | simp -dsimp only [↓Wq_for_nil, Wq_for_nil, ↓Wq_tryN, ↓Wq_end, ↓IfQ_true, ↓IfQ_false, ↓Wq_ok, ↓Wq_err, ↓Wq_nx, ↓Wq_rt, ↓Wq_ct, ↓Wq_bk, ↓Wq_er, Wq_tryN, Wq_end, Wq_noErr, IfQ_true, IfQ_false, Wq_ok, Wq_err, Wq_nx, Wq_rt, Wq_ct, Wq_bk, Wq_er, ↓bindQ_ok, ↓bindQ_err, ↓toSQ_ok, ↓toSQ_err, ↓thnQ_nx, ↓thnQ_rt, ↓thnQ_ct, ↓thnQ_bk, ↓thnQ_err, ↓endQ_rt, ↓endQ_nx, ↓endQ_ini, ↓noQ_ok, ↓okQ_ok, ↓goQ_nx, ↓goQ_ct, ↓goQ_bk, ↓goQ_rt, ↓itemQ_some, ↓itemQ_none, ↓itemS_ok, ↓tryNQ_rt, ↓tryNQ_nx, ↓whlQ_true, ↓whlQ_false, ↓ite_HR, ↓ite_HS, ↓IfH_true, ↓IfH_false, IfH_true, IfH_false, Wq_IfH, Wq_bindH, Wq_toSH, Wq_thnH, exB, ↓exS_for, ↓exS_whl, ↓evA_lc, exS, evE, evEs, evT, evO, evA, evI, evC, tru, truT, binT, addT, mulT, intT, isIns, insOf_non, binE_non, cmE_non, insOf_bl, binE_bl, cmE_bl, insOf_int, binE_int, cmE_int, insOf_str, binE_str, cmE_str, insOf_lst, binE_lst, cmE_lst, insOf_tup, binE_tup, cmE_tup, insOf_dct, binE_dct, cmE_dct, insOf_kl, binE_kl, cmE_kl, insOf_bL, binE_bL, cmE_bL, insOf_bD, binE_bD, cmE_bD, insOf_ins, insOf_bI, insOf_rf, binE_rf, cmE_rf, fldT_ins, fldT_bI, fldT_rf, mx_0, mx_1, mx_2, mx_3, mx_4, mx_5, mx_01, mx_02, mx_03, mx_04, mx_05, cmpT, icmp, oR, idxT, idxSq, slT, bfT, intF, lenF, lenT, absF, gcdF, min2F, max2F, tupF, sumF, seqOf, lstOf, lstOf', walkOf_lst, walkOf_tup, walkOf_kl, walkOf_str, putI, stF, lkF, putF, lkN, kdAny, kd_non, kd_bl, kd_int, kd_str, kd_tup, kd_lst, kd_bL, kd_kl, kd_ins, kk_ii, kk_ib, kk_bi, kk_bb, kk_ss, kk_tt, kk_ll, kk_tl, kk_lt, kk_is, kk_si, kk_it, kk_il, kk_ti, kk_li, kk_st, kk_sl, kk_ts, kk_ls, onL, mbT, pl_non, pl_bl, pl_int, pl_str, pl_lst, pl_tup, pl_ins, pl_dct, pl_rf, pl_kl, pl_exc, pl_bL, pl_bD, pl_bI, arrT, isExc, isT, isNon, isBlv, ↓R.bind_H, R.bindH_ok, ↓R.toS_H, R.toSH_ok, ↓RS.thn_H, RS.thnH_nx, RS.thnH_rt, startT, setT, wipeT, freeTg, eqT_int, eqT_bl, List.all_cons, List.all_nil, List.map_cons, List.map_nil, List.zip_cons_cons, List.zip_nil_left, List.zip_nil_right, List.foldl_cons, List.foldl_nil, List.cons_append, List.nil_append, List.replicate, List.length_cons, List.length_nil, List.getElem?_cons_zero, List.getElem?_cons_succ, List.set_cons_zero, List.set_cons_succ, List.isEmpty_cons, List.isEmpty_nil, atI_0, atI_1, atI_2, atI_3, atI_4, ix51, ix52, ix53, ix54, Option.map_some, Option.map_none, Option.isSome_none, Option.isSome_some, Option.isNone_none, Option.isNone_some, eq_self, Option.bind_some, if_true, if_false, Bool.false_eq_true, Bool.and_false, Bool.false_and, Bool.not_false, Bool.not_true, Bool.and_true, Bool.true_and, Bool.or_false, Bool.or_true, Bool.false_or, Bool.true_or, Nat.reduceAdd, Nat.reduceSub, Nat.reduceEqDiff, freeS_eq, freeO_none, freeO_some, decide_true, decide_false, reduceCtorEq, endR_rt, endR_nx, endR_ini, iniV_nil, iniV_cons, isBI_int, isBI_str, isBI_lst, isBI_tup, isBI_ins, isBI_rf, isBI_bl, isBI_kl, isBI_non, isBI_dct, Nat.reduceLT, Nat.one_ne_zero, Nat.zero_ne_one, $as,*])))
  | `(tactic| simp only [zzG]) => `(tactic| (simp -dsimp only [↓Wq_for_nil, Wq_for_nil, ↓Wq_tryN, ↓Wq_end, ↓IfQ_true, ↓IfQ_false, ↓Wq_ok, ↓Wq_err, ↓Wq_nx, ↓Wq_rt, ↓Wq_ct, ↓Wq_bk, ↓Wq_er, Wq_tryN, Wq_end, Wq_noErr, IfQ_true, IfQ_false, Wq_ok, Wq_err, Wq_nx, Wq_rt, Wq_ct, Wq_bk, Wq_er, ↓bindQ_ok, ↓bindQ_err, ↓toSQ_ok, ↓toSQ_err, ↓thnQ_nx, ↓thnQ_rt, ↓thnQ_ct, ↓thnQ_bk, ↓thnQ_err, ↓endQ_rt, ↓endQ_nx, ↓endQ_ini, ↓noQ_ok, ↓okQ_ok, ↓goQ_nx, ↓goQ_ct, ↓goQ_bk, ↓goQ_rt, ↓itemQ_some, ↓itemQ_none, ↓itemS_ok, ↓tryNQ_rt, ↓tryNQ_nx, ↓whlQ_true, ↓whlQ_false, ↓ite_HR, ↓ite_HS, ↓IfH_true, ↓IfH_false, IfH_true, IfH_false, Wq_IfH, Wq_bindH, Wq_toSH, Wq_thnH, exB, ↓exS_for, ↓exS_whl, ↓evA_lc, exS, evE, evEs, evT, evO, evA, evI, evC, tru, truT, binT, addT, mulT, intT, isIns, insOf_non, binE_non, cmE_non, insOf_bl, binE_bl, cmE_bl, insOf_int, binE_int, cmE_int, insOf_str, binE_str, cmE_str, insOf_lst, binE_lst, cmE_lst, insOf_tup, binE_tup, cmE_tup, insOf_dct, binE_dct, cmE_dct, insOf_kl, binE_kl, cmE_kl, insOf_bL, binE_bL, cmE_bL, insOf_bD, binE_bD, cmE_bD, insOf_ins, insOf_bI, insOf_rf, binE_rf, cmE_rf, fldT_ins, fldT_bI, fldT_rf, mx_0, mx_1, mx_2, mx_3, mx_4, mx_5, mx_01, mx_02, mx_03, mx_04, mx_05, cmpT, icmp, oR, idxT, idxSq, slT, bfT, intF, lenF, lenT, absF, gcdF, min2F, max2F, tupF, sumF, seqOf, lstOf, lstOf', walkOf_lst, walkOf_tup, walkOf_kl, walkOf_str, putI, stF, lkF, putF, lkN, kdAny, kd_non, kd_bl, kd_int, kd_str, kd_tup, kd_lst, kd_bL, kd_kl, kd_ins, kk_ii, kk_ib, kk_bi, kk_bb, kk_ss, kk_tt, kk_ll, kk_tl, kk_lt, kk_is, kk_si, kk_it, kk_il, kk_ti, kk_li, kk_st, kk_sl, kk_ts, kk_ls, onL, mbT, pl_non, pl_bl, pl_int, pl_str, pl_lst, pl_tup, pl_ins, pl_dct, pl_rf, pl_kl, pl_exc, pl_bL, pl_bD, pl_bI, arrT, isExc, isT, isNon, isBlv, ↓R.bind_H, R.bindH_ok, ↓R.toS_H, R.toSH_ok, ↓RS.thn_H, RS.thnH_nx, RS.thnH_rt, startT, setT, wipeT, freeTg, eqT_int, eqT_bl, List.all_cons, List.all_nil, List.map_cons, List.map_nil, List.zip_cons_cons, List.zip_nil_left, List.zip_nil_right, List.foldl_cons, List.foldl_nil, List.cons_append, List.nil_append, List.replicate, List.length_cons, List.length_nil, List.getElem?_cons_zero, List.getElem?_cons_succ, List.set_cons_zero, List.set_cons_succ, List.isEmpty_cons, List.isEmpty_nil, atI_0, atI_1, atI_2, atI_3, atI_4, ix51, ix52, ix53, ix54, Option.map_some, Option.map_none, Option.isSome_none, Option.isSome_some, Option.isNone_none, Option.isNone_some, eq_self, Option.bind_some, if_true, if_false, Bool.false_eq_true, Bool.and_false, Bool.false_and, Bool.not_false, Bool.not_true, Bool.and_true, Bool.true_and, Bool.or_false, Bool.or_true, Bool.false_or, Bool.true_or, Nat.reduceAdd, Nat.reduceSub, Nat.reduceEqDiff, freeS_eq, freeO_none, freeO_some, decide_true, decide_false, reduceCtorEq, endR_rt, endR_nx, endR_ini, iniV_nil, iniV_cons, isBI_int, isBI_str, isBI_lst, isBI_tup, isBI_ins, isBI_rf, isBI_bl, isBI_kl, isBI_non, isBI_dct, Nat.reduceLT, Nat.one_ne_zero, Nat.zero_ne_one]; repeat (first | refine IfQ.yes (mulOk_of (by omega) (by omega) (by omega) (by omega)) ?_ | refine IfQ.yes (divOk_of (by omega) (by omega) (by omega)) ?_ | refine IfQ.yes (by decide) ?_ | refine IfQ.no (by decide) ?_ | refine IfQ.yes (rngOk_of (by (try simp only [List.length_map, List.length_append, List.length_cons, List.length_nil, List.length_range]); omega) (by (try simp only [List.length_map, List.length_append, List.length_cons, List.length_nil, List.length_range]); omega)) ?_ | refine IfQ.yes (len_of (by simp only [List.length_map, List.length_append, List.length_cons, List.length_nil, List.length_replicate, rngT_len]; omega)) ?_ | refine IfQ.yes (shlOk_of (by omega) (by omega) (by omega) (by omega)) ?_ | simp -dsimp only [↓Wq_for_nil, Wq_for_nil, ↓Wq_tryN, ↓Wq_end, ↓IfQ_true, ↓IfQ_false, ↓Wq_ok, ↓Wq_err, ↓Wq_nx, ↓Wq_rt, ↓Wq_ct, ↓Wq_bk, ↓Wq_er, Wq_tryN, Wq_end, Wq_noErr, IfQ_true, IfQ_false, Wq_ok, Wq_err, Wq_nx, Wq_rt, Wq_ct, Wq_bk, Wq_er, ↓bindQ_ok, ↓bindQ_err, ↓toSQ_ok, ↓toSQ_err, ↓thnQ_nx, ↓thnQ_rt, ↓thnQ_ct, ↓thnQ_bk, ↓thnQ_err, ↓endQ_rt, ↓endQ_nx, ↓endQ_ini, ↓noQ_ok, ↓okQ_ok, ↓goQ_nx, ↓goQ_ct, ↓goQ_bk, ↓goQ_rt, ↓itemQ_some, ↓itemQ_none, ↓itemS_ok, ↓tryNQ_rt, ↓tryNQ_nx, ↓whlQ_true, ↓whlQ_false, ↓ite_HR, ↓ite_HS, ↓IfH_true, ↓IfH_false, IfH_true, IfH_false, Wq_IfH, Wq_bindH, Wq_toSH, Wq_thnH, exB, ↓exS_for, ↓exS_whl, ↓evA_lc, exS, evE, evEs, evT, evO, evA, evI, evC, tru, truT, binT, addT, mulT, intT, isIns, insOf_non, binE_non, cmE_non, insOf_bl, binE_bl, cmE_bl, insOf_int, binE_int, cmE_int, insOf_str, binE_str, cmE_str, insOf_lst, binE_lst, cmE_lst, insOf_tup, binE_tup, cmE_tup, insOf_dct, binE_dct, cmE_dct, insOf_kl, binE_kl, cmE_kl, insOf_bL, binE_bL, cmE_bL, insOf_bD, binE_bD, cmE_bD, insOf_ins, insOf_bI, insOf_rf, binE_rf, cmE_rf, fldT_ins, fldT_bI, fldT_rf, mx_0, mx_1, mx_2, mx_3, mx_4, mx_5, mx_01, mx_02, mx_03, mx_04, mx_05, cmpT, icmp, oR, idxT, idxSq, slT, bfT, intF, lenF, lenT, absF, gcdF, min2F, max2F, tupF, sumF, seqOf, lstOf, lstOf', walkOf_lst, walkOf_tup, walkOf_kl, walkOf_str, putI, stF, lkF, putF, lkN, kdAny, kd_non, kd_bl, kd_int, kd_str, kd_tup, kd_lst, kd_bL, kd_kl, kd_ins, kk_ii, kk_ib, kk_bi, kk_bb, kk_ss, kk_tt, kk_ll, kk_tl, kk_lt, kk_is, kk_si, kk_it, kk_il, kk_ti, kk_li, kk_st, kk_sl, kk_ts, kk_ls, onL, mbT, pl_non, pl_bl, pl_int, pl_str, pl_lst, pl_tup, pl_ins, pl_dct, pl_rf, pl_kl, pl_exc, pl_bL, pl_bD, pl_bI, arrT, isExc, isT, isNon, isBlv, ↓R.bind_H, R.bindH_ok, ↓R.toS_H, R.toSH_ok, ↓RS.thn_H, RS.thnH_nx, RS.thnH_rt, startT, setT, wipeT, freeTg, eqT_int, eqT_bl, List.all_cons, List.all_nil, List.map_cons, List.map_nil, List.zip_cons_cons, List.zip_nil_left, List.zip_nil_right, List.foldl_cons, List.foldl_nil, List.cons_append, List.nil_append, List.replicate, List.length_cons, List.length_nil, List.getElem?_cons_zero, List.getElem?_cons_succ, List.set_cons_zero, List.set_cons_succ, List.isEmpty_cons, List.isEmpty_nil, atI_0, atI_1, atI_2, atI_3, atI_4, ix51, ix52, ix53, ix54, Option.map_some, Option.map_none, Option.isSome_none, Option.isSome_some, Option.isNone_none, Option.isNone_some, eq_self, Option.bind_some, if_true, if_false, Bool.false_eq_true, Bool.and_false, Bool.false_and, Bool.not_false, Bool.not_true, Bool.and_true, Bool.true_and, Bool.or_false, Bool.or_true, Bool.false_or, Bool.true_or, Nat.reduceAdd, Nat.reduceSub, Nat.reduceEqDiff, freeS_eq, freeO_none, freeO_some, decide_true, decide_false, reduceCtorEq, endR_rt, endR_nx, endR_ini, iniV_nil, iniV_cons, isBI_int, isBI_str, isBI_lst, isBI_tup, isBI_ins, isBI_rf, isBI_bl, isBI_kl, isBI_non, isBI_dct, Nat.reduceLT, Nat.one_ne_zero, Nat.zero_ne_one])))
  | `(tactic| simp only [zzR]) => `(tactic| simp -dsimp only [↓Wq_for_nil, Wq_for_nil, ↓Wq_tryN, ↓Wq_end, ↓IfQ_true, ↓IfQ_false, ↓Wq_ok, ↓Wq_err, ↓Wq_nx, ↓Wq_rt, ↓Wq_ct, ↓Wq_bk, ↓Wq_er, Wq_tryN, Wq_end, Wq_noErr, IfQ_true, IfQ_false, Wq_ok, Wq_err, Wq_nx, Wq_rt, Wq_ct, Wq_bk, Wq_er, ↓bindQ_ok, ↓bindQ_err, ↓toSQ_ok, ↓toSQ_err, ↓thnQ_nx, ↓thnQ_rt, ↓thnQ_ct, ↓thnQ_bk, ↓thnQ_err, ↓endQ_rt, ↓endQ_nx, ↓endQ_ini, ↓noQ_ok, ↓okQ_ok, ↓goQ_nx, ↓goQ_ct, ↓goQ_bk, ↓goQ_rt, ↓itemQ_some, ↓itemQ_none, ↓itemS_ok, ↓tryNQ_rt, ↓tryNQ_nx, ↓whlQ_true, ↓whlQ_false, ↓ite_HR, ↓ite_HS, ↓IfH_true, ↓IfH_false, IfH_true, IfH_false, Wq_IfH, Wq_bindH, Wq_toSH, Wq_thnH, exB, ↓exS_for, ↓exS_whl, ↓evA_lc, exS, evE, evEs, evT, evO, evA, evI, evC, tru, truT, binT, addT, mulT, intT, isIns, insOf_non, binE_non, cmE_non, insOf_bl, binE_bl, cmE_bl, insOf_int, binE_int, cmE_int, insOf_str, binE_str, cmE_str, insOf_lst, binE_lst, cmE_lst, insOf_tup, binE_tup, cmE_tup, insOf_dct, binE_dct, cmE_dct, insOf_kl, binE_kl, cmE_kl, insOf_bL, binE_bL, cmE_bL, insOf_bD, binE_bD, cmE_bD, insOf_ins, insOf_bI, insOf_rf, binE_rf, cmE_rf, fldT_ins, fldT_bI, fldT_rf, mx_0, mx_1, mx_2, mx_3, mx_4, mx_5, mx_01, mx_02, mx_03, mx_04, mx_05, cmpT, icmp, oR, idxT, idxSq, slT, bfT, intF, lenF, lenT, absF, gcdF, min2F, max2F, tupF, sumF, seqOf, lstOf, lstOf', walkOf_lst, walkOf_tup, walkOf_kl, walkOf_str, putI, stF, lkF, putF, lkN, kdAny, kd_non, kd_bl, kd_int, kd_str, kd_tup, kd_lst, kd_bL, kd_kl, kd_ins, kk_ii, kk_ib, kk_bi, kk_bb, kk_ss, kk_tt, kk_ll, kk_tl, kk_lt, kk_is, kk_si, kk_it, kk_il, kk_ti, kk_li, kk_st, kk_sl, kk_ts, kk_ls, onL, mbT, pl_non, pl_bl, pl_int, pl_str, pl_lst, pl_tup, pl_ins, pl_dct, pl_rf, pl_kl, pl_exc, pl_bL, pl_bD, pl_bI, arrT, isExc, isT, isNon, isBlv, ↓R.bind_H, R.bindH_ok, ↓R.toS_H, R.toSH_ok, ↓RS.thn_H, RS.thnH_nx, RS.thnH_rt, startT, setT, wipeT, freeTg, eqT_int, eqT_bl, List.all_cons, List.all_nil, List.map_cons, List.map_nil, List.zip_cons_cons, List.zip_nil_left, List.zip_nil_right, List.foldl_cons, List.foldl_nil, List.cons_append, List.nil_append, List.replicate, List.length_cons, List.length_nil, List.getElem?_cons_zero, List.getElem?_cons_succ, List.set_cons_zero, List.set_cons_succ, List.isEmpty_cons, List.isEmpty_nil, atI_0, atI_1, atI_2, atI_3, atI_4, ix51, ix52, ix53, ix54, Option.map_some, Option.map_none, Option.isSome_none, Option.isSome_some, Option.isNone_none, Option.isNone_some, eq_self, Option.bind_some, if_true, if_false, Bool.false_eq_true, Bool.and_false, Bool.false_and, Bool.not_false, Bool.not_true, Bool.and_true, Bool.true_and, Bool.or_false, Bool.or_true, Bool.false_or, Bool.true_or, Nat.reduceAdd, Nat.reduceSub, Nat.reduceEqDiff, freeS_eq, freeO_none, freeO_some, decide_true, decide_false, reduceCtorEq, endR_rt, endR_nx, endR_ini, iniV_nil, iniV_cons, isBI_int, isBI_str, isBI_lst, isBI_tup, isBI_ins, isBI_rf, isBI_bl, isBI_kl, isBI_non, isBI_dct, Nat.reduceLT, Nat.one_ne_zero, Nat.zero_ne_one])

namespace K47
/-! ### the law -/
theorem due_Sz {n : Nat} (hn : n ≤ 8) {ps : List Pr} (o : PsOk ps) : Sz (due n ps) := by
  have co := CC_ok hn o
  have b := bsum_le co (2 ^ n) (Nat.le_refl _)
  have c2 : ((2 ^ n : Nat) : Int) ≤ 256 := by exact_mod_cast (Nat.pow_le_pow_right (by decide) hn : 2 ^ n ≤ 2 ^ 8)
  exact frC_Sz co.p co.b b.1 (Int.le_trans b.2 (Int.mul_le_mul_of_nonneg_right c2 (Int.natCast_nonneg _)))
theorem lossh_run (W d : Nat) (s0 : Bx) (k : Nat) (ok : BxOk s0 k) (hk : k < 900000) (rss : List (List Rw)) (n : Nat) (hn : n ≤ 8) (o : PsOk (ones rss)) (ne : rss ≠ []) : Wp (run prog W (d + 7) 33 [.rf 0, .lst (srcs (ones rss)), .int (n : Int), dT (due n (ones rss))] [bxC s0]) (fun v h => v = .bl true ∧ ∃ st, h = [bxC st] ∧ BxOk st (k + 1)) := by
  have q0 := due_pos rss n hn o ne
  have sz := due_Sz hn o
  have qb : (due n (ones rss)).num.natAbs < 2 ^ 8999 := Nat.lt_trans sz.1 (Nat.pow_lt_pow_right (by decide) (by decide))
  have g1 : ∀ h, run prog W (d + 6) 11 [.tup (srcs (ones rss)), .int (n : Int)] h = .ok (sh ((((due n (ones rss)).den : Nat) : Int) / ((due n (ones rss)).num : Int) : Rat)) h := fun h => by
    obtain ⟨_, h2, e, rfl, q⟩ := loss_run W d _ rss n hn h o ne (.inr rfl) q0 qb
    rw [q] at e; exact e
  have g2 : ∀ h, run prog W (d + 6) 11 [.lst (srcs (ones rss)), .int (n : Int)] h = .ok (sh ((((due n (ones rss)).den : Nat) : Int) / ((due n (ones rss)).num : Int) : Rat)) h := fun h => by
    obtain ⟨_, h2, e, rfl, q⟩ := loss_run W d _ rss n hn h o ne (.inl rfl) q0 qb
    rw [q] at e; exact e
  have is : ∀ h, run prog W (d + 6) 26 [sh ((((due n (ones rss)).den : Nat) : Int) / ((due n (ones rss)).num : Int) : Rat), .tup [.int (((due n (ones rss)).den : Nat) : Int), .int (due n (ones rss)).num]] h = .ok (.bl true) h := fun h => by
    have e := isdue_run W (d + 4) ((((due n (ones rss)).den : Nat) : Int) / ((due n (ones rss)).num : Int) : Rat) (((due n (ones rss)).den : Nat) : Int) (due n (ones rss)).num h
    have dn := den_num (due n (ones rss)) q0
    rw [dn.1, dn.2, beq_self_eq_true, beq_self_eq_true] at e
    exact e
  generalize due n (ones rss) = q at *
  generalize hs : sh (((((q.den : Nat) : Int) : Rat)) / ((q.num : Int) : Rat)) = S at *
  have ps : plainT S = true := by rw [← hs]; rfl
  have bs : isBI S = false := by rw [← hs]; rfl
  refine Wq.run (rfl : prog.defs[33]? = some ⟨4, 6, b__law_loss_holds⟩) rfl ?_
  simp only [zzG, b__law_loss_holds, isBI_dT]
  refine draw_qn ok (by omega) (by omega) (by omega) fun c st c1 ok => ?_
  have c3 : c = 0 ∨ c = 1 ∨ c = 2 := by omega
  rcases c3 with rfl | rfl | rfl
  · simp only [zzG, g1, g2, is, ps, bs, dT]
    exact ⟨by trivial, st, by trivial, ok⟩
  · simp only [zzG, g1, g2, is, ps, bs, dT]
    exact ⟨by trivial, st, by trivial, ok⟩
  · simp only [zzG, g1, g2, is, ps, bs, dT]
    exact ⟨by trivial, st, by trivial, ok⟩
theorem pick5 (r : Nat) (h : (r : Int) < 5) : atI [T.int 0, T.int 1, T.int 2, T.int 3, T.int 4] (r : Int) = some (.int (r : Int)) := by
  have : r = 0 ∨ r = 1 ∨ r = 2 ∨ r = 3 ∨ r = 4 := by omega
  rcases this with rfl | rfl | rfl | rfl | rfl <;> rfl
theorem FOk_1 : FOk 1 := ⟨by decide, by decide, by decide⟩
def tb (rs : List Rw) : T := .lst (rs.map tupR)
theorem zip_ok (rss : List (List Rw)) (fs : List Rat) (hl : fs.length = rss.length) (h4 : rss.length ≤ 4) (h1 : ∀ rs ∈ rss, SrcOk rs) (h2 : ∀ f ∈ fs, FOk f) : PsOk (rss.zip fs) ∧ (rss.zip fs).map tbT = rss.map tb ∧ (rss.zip fs).map fcT = fs.map dT ∧ srcs (rss.zip fs) = rss.map src := by
  have m1 : (rss.zip fs).map Prod.fst = rss := by rw [List.map_fst_zip]; omega
  have m2 : (rss.zip fs).map Prod.snd = fs := by rw [List.map_snd_zip]; omega
  refine ⟨⟨fun p hp => ⟨h1 _ ?_, h2 _ ?_⟩, by rw [List.length_zip]; omega⟩, ?_, ?_, ?_⟩
  · rw [← m1]; exact List.mem_map_of_mem hp
  · rw [← m2]; exact List.mem_map_of_mem hp
  · conv => rhs; rw [← m1]
    rw [List.map_map]; rfl
  · conv => rhs; rw [← m2]
    rw [List.map_map]; rfl
  · conv => rhs; rw [← m1]
    rw [List.map_map]; rfl
theorem losses_run (W d : Nat) (s0 : Bx) (hW : 10000 < W) (ok : BxOk s0 0) : ∃ v h, run prog W (d + 8) 34 [.rf 0] [bxC s0] = .ok v h ∧ v = .bl true := by
  show Wp _ (fun v _ => v = .bl true)
  refine Wq.run (rfl : prog.defs[34]? = some ⟨1, 11, b__law_losses⟩) rfl ?_
  simp only [zzG, b__law_losses]
  refine draw_qn ok (by omega) (by omega) (by omega) fun m st m1 ok => ?_
  simp only [zzG]
  refine Wq.lcS tb (fun j h => ∃ st, h = [bxC st] ∧ BxOk st (1 + 40 * j)) SrcOk ⟨st, rfl, ok.mono (by omega)⟩ ?_ ?_
  · rintro j x h hx ⟨st, rfl, ok⟩
    have hj := (List.getElem?_eq_some_iff.mp hx).1
    rw [rngT_len] at hj
    refine ⟨_, rfl, ?_⟩
    obtain ⟨_, _, e, rs, st', rfl, rfl, so, ok'⟩ := quad_run W (d + 5) st _ ok (by omega)
    simp only [zzG, b__law_losses_C1, bodyL, e]
    exact ⟨rs, by trivial, rfl, so, st', by trivial, ok'.mono (by omega)⟩
  rintro rss h hl hs ⟨st, rfl, ok⟩
  rw [rngT_len] at hl ok
  have h4 : rss.length ≤ 4 := by omega
  have ne : rss ≠ [] := fun z => by rw [z] at hl; have : (0 : Nat) = (1 + (m : Int) - 0).toNat := hl; omega
  have mx1 := le_of' (n := (rss.map tb).length) (by rw [List.length_map]; omega)
  have c2 := fun (o2 o3 o4 o5 o6 o7 o8 : Option T) h => lc_pure (f := bodyL prog (run prog W (d + 7)) Eo.none b__law_losses_C2) (tg := [10]) (σ := [some (.rf 0), some (.lst (rss.map tb)), o2, o3, o4, o5, o6, o7, o8, none, none]) (h := h) tb src rss fun rs hr => ⟨plainT_src rs, [some (.rf 0), some (.lst (rss.map tb)), o2, o3, o4, o5, o6, o7, o8, none, some (tb rs)], rfl, by
    have e := newT_src W (d + 3) rs h (hs rs hr)
    simp only [zzO, b__law_losses_C2, bodyL, tb, isBI_src, insOf_src, plainT_src, states_src, src_fold, src_cls, e]⟩
  simp only [zzG, mx1, c2]
  refine Wq.lcS dT (fun j h => ∃ st, h = [bxC st] ∧ BxOk st (200 + 10 * j)) FOk ⟨st, rfl, ok.mono (by omega)⟩ ?_ ?_
  · rintro j x h hx ⟨st, rfl, ok⟩
    have hj := (List.getElem?_eq_some_iff.mp hx).1
    rw [List.length_map] at hj
    refine ⟨_, rfl, ?_⟩
    obtain ⟨_, _, e, f, st', rfl, rfl, fo, ok'⟩ := factor_run W (d + 4) st _ ok (by omega) hW
    simp only [zzG, b__law_losses_C3, bodyL, e]
    exact ⟨f, by trivial, rfl, fo, st', by trivial, ok'.mono (by omega)⟩
  rintro fs h hl2 hfs ⟨st, rfl, ok⟩
  rw [List.length_map] at hl2 ok
  obtain ⟨po, z1, z2, z3⟩ := zip_ok rss fs hl2 h4 hs hfs
  have oo : PsOk (ones rss) := ⟨fun p hp => by
    obtain ⟨rs, hr, rfl⟩ := List.mem_map.mp hp
    exact ⟨hs rs hr, FOk_1⟩, by unfold ones; rw [List.length_map]; exact h4⟩
  have y1 : (ones rss).map tbT = rss.map tb := by unfold ones; rw [List.map_map]; rfl
  have y2 : (ones rss).map fcT = rss.map fun _ => T.tup [.int 1, .int 1] := by unfold ones; rw [List.map_map]; rfl
  have y3 : srcs (ones rss) = rss.map src := by unfold ones srcs; rw [List.map_map]; rfl
  have ne2 : rss.zip fs ≠ [] := by
    clear z1 z2 z3 po
    cases rss with
    | nil => exact (ne rfl).elim
    | cons a l => cases fs with
      | nil => simp at hl2
      | cons b m => simp
  simp only [zzG, mx1]
  refine draw_qn ok (by omega) (by omega) (by omega) fun c st c1 ok => ?_
  have p5 := pick5 c c1
  simp only [zzG, p5]
  refine draw_qn ok (by omega) (by omega) (by omega) fun u st u1 ok => ?_
  have l1 : ((rss.map src).length : Int) = ((rss.map tb).length : Int) := by rw [List.length_map, List.length_map]
  have key : ∀ n : Nat, n ≤ 8 → Wq (exB prog (run prog W (d + 7)) W (B.drop b__law_losses 5) [some (.rf 0), some (.lst (rss.map tb)), some (.lst (rss.map src)), some (.lst (fs.map dT)), some (.int (n : Int)), none, none, none, none, none, none] [bxC st]) (endQ prog [.rf 0] (okQ fun v _ => v = .bl true)) Tg.mk := by
    intro n hn
    have c4 := fun (o5 o6 o7 o8 : Option T) h => lc_pure (f := bodyL prog (run prog W (d + 7)) Eo.none b__law_losses_C4) (tg := [10]) (σ := [some (.rf 0), some (.lst (rss.map tb)), some (.lst (rss.map src)), some (.lst (fs.map dT)), some (.int (n : Int)), o5, o6, o7, o8, none, none]) (h := h) tb (fun _ => T.tup [.int 1, .int 1]) rss fun rs hr => ⟨rfl, [some (.rf 0), some (.lst (rss.map tb)), some (.lst (rss.map src)), some (.lst (fs.map dT)), some (.int (n : Int)), o5, o6, o7, o8, none, some (tb rs)], rfl, by
      simp only [zzO, b__law_losses_C4, bodyL]⟩
    have sumF : ∀ (n : Nat) (hn : n ≤ 8) h, run prog W (d + 7) 31 [.lst (rss.map tb), .lst (fs.map dT), .int (n : Int)] h = .ok (dT (due n (rss.zip fs))) h := fun n hn h => by
      obtain ⟨_, h2, e, rfl, q⟩ := lsum_run W (d + 4) (rss.zip fs) n hn h po hW
      rw [q, z1, z2] at e; exact e
    have sumO : ∀ (n : Nat) (hn : n ≤ 8) h, run prog W (d + 7) 31 [.lst (rss.map tb), .lst (rss.map fun _ => T.tup [.int 1, .int 1]), .int (n : Int)] h = .ok (dT (due n (ones rss))) h := fun n hn h => by
      obtain ⟨_, h2, e, rfl, q⟩ := lsum_run W (d + 4) (ones rss) n hn h oo hW
      rw [q, y1, y2] at e; exact e
    have ne1 : ones rss ≠ [] := by
      cases rss with
      | nil => exact (ne rfl).elim
      | cons a l => unfold ones; simp
    have hF : ∀ (st : Bx) (k : Nat), BxOk st k → k < 900000 → Wp (run prog W (d + 7) 32 [.rf 0, .lst (rss.map src), .lst (fs.map dT), .int (n : Int), dT (due n (rss.zip fs))] [bxC st]) (fun v h => v = .bl true ∧ ∃ st, h = [bxC st] ∧ BxOk st (k + 1)) := fun st k ok hk => by
      have := holds_run W (d + 1) st k ok hk (rss.zip fs) n hn po ne2
      rw [z2, z3] at this; exact this
    have hO : ∀ (st : Bx) (k : Nat), BxOk st k → k < 900000 → Wp (run prog W (d + 7) 32 [.rf 0, .lst (rss.map src), .lst (rss.map fun _ => T.tup [.int 1, .int 1]), .int (n : Int), dT (due n (ones rss))] [bxC st]) (fun v h => v = .bl true ∧ ∃ st, h = [bxC st] ∧ BxOk st (k + 1)) := fun st k ok hk => by
      have := holds_run W (d + 1) st k ok hk (ones rss) n hn oo ne1
      rw [y2, y3] at this; exact this
    have hL : ∀ (n : Nat) (hn : n ≤ 8) (st : Bx) (k : Nat), BxOk st k → k < 900000 → Wp (run prog W (d + 7) 33 [.rf 0, .lst (rss.map src), .int (n : Int), dT (due n (ones rss))] [bxC st]) (fun v h => v = .bl true ∧ ∃ st, h = [bxC st] ∧ BxOk st (k + 1)) := fun n hn st k ok hk => by
      have := lossh_run W d st k ok hk rss n hn oo ne
      rw [y3] at this; exact this
    obtain ⟨_, _, e1, rfl, s1, rfl, ok⟩ := hF st _ ok (by omega)
    obtain ⟨_, _, e2, rfl, s2, rfl, ok⟩ := hL n hn s1 _ ok (by omega)
    have g1 := sumF n hn
    have g2 := sumO n hn
    simp only [B.drop, b__law_losses]
    simp only [zzG, mx1, c4, g1, g2, plain_dT, isBI_dT, e1, e2]
    refine draw_qn ok (by omega) (by omega) (by omega) fun ls st ls1 ok => ?_
    have g3 := sumO ls (by omega)
    obtain ⟨_, _, e3, rfl, s3, rfl, ok⟩ := hL ls (by omega) st _ ok (by omega)
    obtain ⟨_, _, e4, rfl, s4, rfl, ok⟩ := hO s3 _ ok (by omega)
    obtain ⟨_, _, e5, rfl, s5, rfl, ok⟩ := hF s4 _ ok (by omega)
    obtain ⟨_, _, e6, rfl, s6, rfl, ok⟩ := hL n hn s5 _ ok (by omega)
    simp only [zzG, g3, plain_dT, isBI_dT, e3, e4, e5, e6, l1, beq_self_eq_true]
    try exact rfl
  simp only [zzG]
  refine IfQ.split (fun z => ?_) (fun z => ?_)
  · exact key 8 (by decide)
  · exact key c (by omega)
theorem lawT (ns : List Int) (hn : ns.length ≤ 63) : ∃ h, run prog 100000 24 35 [.kl ns] [] = .ok (.bl true) h := by
  obtain ⟨_, h, q, rfl⟩ := losses_run 100000 15 ⟨ns, 0, 0, 1, 0⟩ (by decide) (box_ok ns)
  have b := box_run 100000 22 ns hn
  refine ⟨h, ?_⟩
  rw [run_eq (rfl : prog.defs[35]? = some ⟨1, 1, b_law⟩) rfl]
  simp only [zzO, b_law, b, q]
end K47
end
section
set_option Elab.async false
set_option linter.all false
set_option maxRecDepth 100000
set_option maxHeartbeats 4000000
set_option autoImplicit false
open PySem PySem.W PyProof.Rows
set_option maxRecDepth 100000 in
set_option maxHeartbeats 0 in
theorem PySem.Challenge.cw_keptbudgets_k47_greatest_sums_holds : PySem.Challenge.rw_keptbudgets_k47_greatest_sums.Holds := by
  w_on; o_law; k_head; (case hw => w_witness2)
  k_fill
  refine K47.walk (l := PySem.Challenge.rw_keptbudgets_k47_greatest_sums) rfl rfl (fun w h Y => PySem.W.kIn_of Y) ?F
  case F =>
    intro w mg fa h KX G hmg
    refine' K47.all_mk K47.lawT KX G hmg ?aC3 ?aC4 ?a0 ?i0 ?l0 ?c0 ?k0 ?a1 ?i1 ?l1 ?c1 ?k1 ?a2 ?i2 ?l2 ?c2 ?k2 ?a3 ?i3 ?l3 ?c3 ?k3 ?a4 ?i4 ?l4 ?c4 ?k4 ?a5 ?i5 ?l5 ?c5 ?k5 ?a6 ?l6 ?c6 ?k6 ?a7 ?l7 ?c7 ?k7 ?a8 ?l8 ?c8 ?k8 ?a9 ?l9 ?c9 ?k9 ?a10 ?l10 ?c10 ?k10 ?a11 ?l11 ?c11 ?k11 ?a12 ?l12 ?c12 ?k12 ?a13 ?l13 ?c13 ?k13 ?a14 ?l14 ?c14 ?k14 ?a15 ?l15 ?c15 ?k15 ?a16 ?l16 ?c16 ?k16 ?a17 ?i17 ?l17 ?c17 ?k17 ?a18 ?i18 ?l18 ?c18 ?k18 ?a19 ?i19 ?l19 ?c19 ?k19 ?a21 ?l21 ?c21 ?k21 ?a22 ?l22 ?c22 ?k22 ?a23 ?l23 ?c23 ?k23 ?a24 ?l24 ?c24 ?k24 ?a25 ?l25 ?c25 ?k25 ?a26 ?l26 ?c26 ?k26 ?a27 ?l27 ?c27 ?k27 ?a28 ?l28 ?c28 ?k28 ?a29 ?l29 ?c29 ?k29 ?a30 ?l30 ?c30 ?k30 ?a31 ?l31 ?c31 ?k31 ?a32 ?l32 ?c32 ?k32 ?a33 ?l33 ?c33 ?k33 ?a34 ?l34 ?c34 ?k34 ?a35 ?l35 ?c35 ?k35 ?pg3 ?hd3 ?po3 ?sa3 ?mk3 ?kc3 ?sf3 ?dc_3 ?mo3 ?n3_number ?n3_over ?n3_rows ?n3_states ?n3_under ?ko3_int ?ko3_bool ?ko3_str ?ko3_tuple ?ko3_list ?kk3_3 ?kk3_4 ?kb3_NoneType ?kb3_bool ?kb3_int ?kb3_str ?kb3_tuple ?kb3_list ?pg4 ?hd4 ?po4 ?sa4 ?mk4 ?kc4 ?sf4 ?dc_4 ?mo4 ?n4_number ?n4_over ?n4_rows ?n4_states ?n4_under ?ko4_int ?ko4_bool ?ko4_str ?ko4_tuple ?ko4_list ?kk4_3 ?kk4_4 ?kb4_NoneType ?kb4_bool ?kb4_int ?kb4_str ?kb4_tuple ?kb4_list ?sp1 ?sp2 ?z_abs ?z_all ?z_bool ?z_int ?z_isinstance ?z_len ?z_list ?z_max ?z_range ?z_tuple ?z_zip ?g_gcd
    (case aC3 => k_is)
    (case aC4 => k_is)
    (case a0 => k_is)
    (case i0 => k_is)
    (case l0 => k_is)
    (case c0 => k_is)
    (case k0 => k_is)
    (case a1 => k_is)
    (case i1 => k_is)
    (case l1 => k_is)
    (case c1 => k_is)
    (case k1 => k_is)
    (case a2 => k_is)
    (case i2 => k_is)
    (case l2 => k_is)
    (case c2 => k_is)
    (case k2 => k_is)
    (case a3 => k_is)
    (case i3 => k_is)
    (case l3 => k_is)
    (case c3 => k_is)
    (case k3 => k_is)
    (case a4 => k_is)
    (case i4 => k_is)
    (case l4 => k_is)
    (case c4 => k_is)
    (case k4 => k_is)
    (case a5 => k_is)
    (case i5 => k_is)
    (case l5 => k_is)
    (case c5 => k_is)
    (case k5 => k_is)
    (case a6 => k_is)
    (case l6 => k_is)
    (case c6 => k_is)
    (case k6 => k_is)
    (case a7 => k_is)
    (case l7 => k_is)
    (case c7 => k_is)
    (case k7 => k_is)
    (case a8 => k_is)
    (case l8 => k_is)
    (case c8 => k_is)
    (case k8 => k_is)
    (case a9 => k_is)
    (case l9 => k_is)
    (case c9 => k_is)
    (case k9 => k_is)
    (case a10 => k_is)
    (case l10 => k_is)
    (case c10 => k_is)
    (case k10 => k_is)
    (case a11 => k_is)
    (case l11 => k_is)
    (case c11 => k_is)
    (case k11 => k_is)
    (case a12 => k_is)
    (case l12 => k_is)
    (case c12 => k_is)
    (case k12 => k_is)
    (case a13 => k_is)
    (case l13 => k_is)
    (case c13 => k_is)
    (case k13 => k_is)
    (case a14 => k_is)
    (case l14 => k_is)
    (case c14 => k_is)
    (case k14 => k_is)
    (case a15 => k_is)
    (case l15 => k_is)
    (case c15 => k_is)
    (case k15 => k_is)
    (case a16 => k_is)
    (case l16 => k_is)
    (case c16 => k_is)
    (case k16 => k_is)
    (case a17 => k_is)
    (case i17 => k_is)
    (case l17 => k_is)
    (case c17 => k_is)
    (case k17 => k_is)
    (case a18 => k_is)
    (case i18 => k_is)
    (case l18 => k_is)
    (case c18 => k_is)
    (case k18 => k_is)
    (case a19 => k_is)
    (case i19 => k_is)
    (case l19 => k_is)
    (case c19 => k_is)
    (case k19 => k_is)
    (case a21 => k_is)
    (case l21 => k_is)
    (case c21 => k_is)
    (case k21 => k_is)
    (case a22 => k_is)
    (case l22 => k_is)
    (case c22 => k_is)
    (case k22 => k_is)
    (case a23 => k_is)
    (case l23 => k_is)
    (case c23 => k_is)
    (case k23 => k_is)
    (case a24 => k_is)
    (case l24 => k_is)
    (case c24 => k_is)
    (case k24 => k_is)
    (case a25 => k_is)
    (case l25 => k_is)
    (case c25 => k_is)
    (case k25 => k_is)
    (case a26 => k_is)
    (case l26 => k_is)
    (case c26 => k_is)
    (case k26 => k_is)
    (case a27 => k_is)
    (case l27 => k_is)
    (case c27 => k_is)
    (case k27 => k_is)
    (case a28 => k_is)
    (case l28 => k_is)
    (case c28 => k_is)
    (case k28 => k_is)
    (case a29 => k_is)
    (case l29 => k_is)
    (case c29 => k_is)
    (case k29 => k_is)
    (case a30 => k_is)
    (case l30 => k_is)
    (case c30 => k_is)
    (case k30 => k_is)
    (case a31 => k_is)
    (case l31 => k_is)
    (case c31 => k_is)
    (case k31 => k_is)
    (case a32 => k_is)
    (case l32 => k_is)
    (case c32 => k_is)
    (case k32 => k_is)
    (case a33 => k_is)
    (case l33 => k_is)
    (case c33 => k_is)
    (case k33 => k_is)
    (case a34 => k_is)
    (case l34 => k_is)
    (case c34 => k_is)
    (case k34 => k_is)
    (case a35 => k_is)
    (case l35 => k_is)
    (case c35 => k_is)
    (case k35 => k_is)
    (case pg3 => k_is)
    (case hd3 => k_is)
    (case po3 => k_is)
    (case sa3 => k_is)
    (case mk3 => k_is)
    (case kc3 => k_is)
    (case sf3 => k_is)
    (case dc_3 => k_is)
    (case mo3 => k_is)
    (case n3_number => k_is)
    (case n3_over => k_is)
    (case n3_rows => k_is)
    (case n3_states => k_is)
    (case n3_under => k_is)
    (case ko3_int => kit_is)
    (case ko3_bool => kit_is)
    (case ko3_str => kit_is)
    (case ko3_tuple => kit_is)
    (case ko3_list => kit_is)
    (case kk3_3 => kit_is)
    (case kk3_4 => kit_is)
    (case kb3_NoneType => kit_is)
    (case kb3_bool => kit_is)
    (case kb3_int => kit_is)
    (case kb3_str => kit_is)
    (case kb3_tuple => kit_is)
    (case kb3_list => kit_is)
    (case pg4 => k_is)
    (case hd4 => k_is)
    (case po4 => k_is)
    (case sa4 => k_is)
    (case mk4 => k_is)
    (case kc4 => k_is)
    (case sf4 => k_is)
    (case dc_4 => k_is)
    (case mo4 => k_is)
    (case n4_number => k_is)
    (case n4_over => k_is)
    (case n4_rows => k_is)
    (case n4_states => k_is)
    (case n4_under => k_is)
    (case ko4_int => kit_is)
    (case ko4_bool => kit_is)
    (case ko4_str => kit_is)
    (case ko4_tuple => kit_is)
    (case ko4_list => kit_is)
    (case kk4_3 => kit_is)
    (case kk4_4 => kit_is)
    (case kb4_NoneType => kit_is)
    (case kb4_bool => kit_is)
    (case kb4_int => kit_is)
    (case kb4_str => kit_is)
    (case kb4_tuple => kit_is)
    (case kb4_list => kit_is)
    (case sp1 => k_is)
    (case sp2 => k_is)
    (case z_abs => k_is)
    (case z_all => k_is)
    (case z_bool => k_is)
    (case z_int => k_is)
    (case z_isinstance => k_is)
    (case z_len => k_is)
    (case z_list => k_is)
    (case z_max => k_is)
    (case z_range => k_is)
    (case z_tuple => k_is)
    (case z_zip => k_is)
    (case g_gcd => k_is)
#print axioms PySem.Challenge.cw_keptbudgets_k47_greatest_sums_holds
end
