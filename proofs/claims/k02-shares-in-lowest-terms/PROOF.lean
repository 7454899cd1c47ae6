import PyProof.Rows.All
import Wide.All
import OpenK.AllK
import Wide.FinOn
import HandS.ForMost
import HandS.ForExc
import HandS.Wide
import HandS.Gcd
import HandS.IsInst
import HandS.Flow
import KE.RegKIsAll
import HandS.Words
import HandS.Walk
import HandS.WordsExc
import HandS.Defaults
import HandS.TupAny
import HandS.TupMul
import HandS.WideBits
import KE.DatumOrd
import HandS.IntHex
import HandS.MakeKwOnly
import HandS.ExcCtx
import HandS.HotCalls
import PyProof.InstNe
import HandS.NoneIn
import HandS.More
import KE.GoesMore
import HandS.SortKw
import KE.GoesEnum
import HandS.Flt
import HandS.SortRule
import HandS.SortInts
import HandS.ExcInit
import HandS.DictComp
import HandS.Style
import HandS.Conv
import PySem.Challenge.RW_keptbudgets_k02_shares_in_lowest_terms
section
/-! Kb0: a small interpreter for the forms that the laws use: values are trees, mutable objects stand in a list of cells. Core Lean alone. -/
set_option autoImplicit false
set_option linter.all false
noncomputable section
namespace Kb
inductive T where
  | non | bl (b : Bool) | int (i : Int) | str (s : List Nat)
  | lst (xs : List T) | tup (xs : List T) | ins (c : Nat) (fs : List (Nat × T)) | dct (kvs : List (T × T))
  | rf (n : Nat)
  | kl (xs : List Int)
  | exc (c : Nat) (fs : List (Nat × T))
  | bL (xs : List T) | bD (kvs : List (T × T)) | bI (c : Nat) (fs : List (Nat × T))
  deriving Inhabited
inductive C where
  | lst (xs : List T) | ins (c : Nat) (fs : List (Nat × T)) | dct (kvs : List (T × T))
  deriving Inhabited
abbrev Hl := List C
abbrev Sl := List (Option T)
inductive R (α : Type) where
  | ok (a : α) (h : Hl) | err (c : Nat) (fs : List (Nat × T)) (h : Hl) | stuck
def R.bind {α β : Type} (x : R α) (f : α → Hl → R β) : R β := match x with
  | .ok a h => f a h
  | .err c fs h => .err c fs h
  | .stuck => .stuck
@[simp] theorem R.bind_ok {α β : Type} (a : α) (h : Hl) (f : α → Hl → R β) : (R.ok a h).bind f = f a h := rfl
@[simp] theorem R.bind_err {α β : Type} (c : Nat) (fs : List (Nat × T)) (h : Hl) (f : α → Hl → R β) : (R.err c fs h).bind f = R.err c fs h := rfl
@[simp] theorem R.bind_stuck {α β : Type} (f : α → Hl → R β) : (R.stuck : R α).bind f = R.stuck := rfl
/-- an error within a comprehension is not carried -/
def R.noErr {α : Type} : R α → R α
  | .ok a h => .ok a h
  | _ => .stuck
@[simp] theorem R.noErr_ok {α : Type} (a : α) (h : Hl) : (R.ok a h).noErr = R.ok a h := rfl
inductive RS where
  | nx (σ : Sl) (h : Hl) | rt (t : T) (h : Hl) | bk (σ : Sl) (h : Hl) | ct (σ : Sl) (h : Hl) | err (c : Nat) (fs : List (Nat × T)) (σ : Sl) (h : Hl) | stuck
def R.toS {α : Type} (x : R α) (σ : Sl) (f : α → Hl → RS) : RS := match x with
  | .ok a h => f a h
  | .err c fs h => .err c fs σ h
  | .stuck => .stuck
@[simp] theorem R.toS_ok {α : Type} (a : α) (h : Hl) (σ : Sl) (f : α → Hl → RS) : (R.ok a h).toS σ f = f a h := rfl
@[simp] theorem R.toS_err {α : Type} (c : Nat) (fs : List (Nat × T)) (h : Hl) (σ : Sl) (f : α → Hl → RS) : (R.err c fs h : R α).toS σ f = .err c fs σ h := rfl
@[simp] theorem R.toS_stuck {α : Type} (σ : Sl) (f : α → Hl → RS) : (R.stuck : R α).toS σ f = .stuck := rfl
def RS.thn (x : RS) (f : Sl → Hl → RS) : RS := match x with
  | .nx σ h => f σ h
  | .rt t h => .rt t h
  | .bk σ h => .bk σ h
  | .ct σ h => .ct σ h
  | .err c fs σ h => .err c fs σ h
  | .stuck => .stuck
@[simp] theorem RS.thn_nx (σ : Sl) (h : Hl) (f : Sl → Hl → RS) : (RS.nx σ h).thn f = f σ h := rfl
@[simp] theorem RS.thn_rt (t : T) (h : Hl) (f : Sl → Hl → RS) : (RS.rt t h).thn f = .rt t h := rfl
@[simp] theorem RS.thn_bk (σ : Sl) (h : Hl) (f : Sl → Hl → RS) : (RS.bk σ h).thn f = .bk σ h := rfl
@[simp] theorem RS.thn_ct (σ : Sl) (h : Hl) (f : Sl → Hl → RS) : (RS.ct σ h).thn f = .ct σ h := rfl
@[simp] theorem RS.thn_err (c : Nat) (fs : List (Nat × T)) (σ : Sl) (h : Hl) (f : Sl → Hl → RS) : (RS.err c fs σ h).thn f = .err c fs σ h := rfl
@[simp] theorem RS.thn_stuck (f : Sl → Hl → RS) : RS.stuck.thn f = .stuck := rfl
/-! ### the forms -/
inductive BOp where
  | add | sub | mul | fdiv | mod | pow | shl | shr | band
  deriving DecidableEq
inductive COp where
  | eq | ne | lt | le | gt | ge | is | isNot | isIn | notIn
  deriving DecidableEq
/-- kinds for isinstance -/
inductive Kd where
  | int | bool | str | tuple | list | cls (c : Nat)
  deriving DecidableEq
/-- built-in functions; methods that read -/
inductive BF where
  | len | abs | int | str | sum | all | any | gcd | max2 | min2 | max | min | max3 | min3 | maxD | tuple | repr
  deriving DecidableEq
inductive BM where
  | startswith | join | index | get | getD | strip | bitlen
  deriving DecidableEq
/-- methods that change a list -/
inductive MB where
  | append | extend | insert | pop | popAt | reverse | clear | sort
  deriving DecidableEq
mutual
inductive E where
  | var (i : Nat) | cst (t : T) | glo (k : Nat)
  | bin (o : BOp) (a b : E) | cmp (o : COp) (a b : E) | cmp2 (o p : COp) (a b c : E)
  | neg (a : E) | not (a : E) | and (a b : E) | or (a b : E) | ife (c a b : E)
  | tup (es : Es) | idx (a b : E) | sl (a : E) (lo hi : Eo) | fld (a : E) (f : Nat)
  | call (f : Nat) (es : Es) | callK (f : Nat) (es : Es) (ks : Es) (arr : List (Nat ⊕ T))
  | meth (o : E) (m : Nat) (es : Es) | new (c : Nat) (es : Es)
  | methK (o : E) (m : Nat) (es : Es) (ks : Es) (arr : List (Nat ⊕ T)) | newK (c : Nat) (es : Es) (ks : Es) (arr : List (Nat ⊕ T))
  | bf (b : BF) (es : Es) | bm (b : BM) (o : E) (es : Es) | isi (a : E) (ks : List Kd)
  | al (w : Bool) (a : A)
  /-- a field of the error that is handled -/
  | xf (i f : Nat)
  /-- a comparison without methods -/
  | cmpN (o : COp) (a b : E)
  /-- a call while an error is handled: nothing is raised -/
  | callH (f : Nat) (es : Es)
  | mbE (b : MB) (o : E) (es : Es)
inductive Eo where
  | none | some (e : E)
inductive Es where
  | nil | cons (e : E) (es : Es)
/-- what lays a new list (or dict) -/
inductive A where
  | lst (es : Es) | lc (it : It) (tg : List Nat) (own : List Nat) (c : Eo) (e : E) | lof (e : E) | sl (a : E) (lo hi : Eo) | cat (a b : E) | rep (a b : E)
  | srt (e : E) | rev (e : E) | lrg (e : E) | dct (ks : List T) (vs : Es) | dc (it : It) (tg : List Nat) (own : List Nat) (c : Eo) (k v : E)
/-- what is walked -/
inductive It where
  | e (e : E) | rng1 (a : E) | rng2 (a b : E) | rng3 (a b c : E) | enum (a : E) | zip (a b : E)
end
mutual
inductive S where
  | asg (i : Nat) (e : E) | own (i : Nat) (a : A) | asgT (is : List Nat) (e : E) | par (i j : Nat) (a b : E)
  | aug (i : Nat) (o : BOp) (e : E) | setF (o : E) (f : Nat) (e : E) | augF (o : E) (f : Nat) (b : BOp) (e : E) | setI (o i e : E) | setD (o i e : E) | augI (o i : E) (b : BOp) (e : E)
  | mb (b : MB) (o : E) (es : Es) | mbA (i : Nat) (b : MB) (o : E) (es : Es)
  | ex (e : E) | ret (e : E) | retN | ite (c : E) (a b : B) | forS (tg : List Nat) (it : It) (b : B) | whl (c : E) (b : B) | brk | cont | pass
  | rais (c : Nat) (es : Es) | tryS (b : B) (hs : Hs) | tryN (b : B) | frz (i : Nat)
inductive B where
  | nil | cons (s : S) (b : B)
/-- handlers: the class, the slot, the suite -/
inductive Hs where
  | nil | cons (c : Nat) (i : Option Nat) (b : B) (r : Hs)
end
/-- a def: its parameters, its slots, its body -/
structure Def where
  np : Nat
  ns : Nat
  body : B
/-- a class: mode 0: its instances change (cells); 1: they don't, behind __init__; 2: an exception -/
structure Cls where
  mode : Nat
  init : Option Nat
  meths : List (Nat × Nat)
  efs : List Nat
  sup : List Nat
structure Prog where
  defs : List Def
  cls : List Cls
  globs : List T
  /-- the ids of the methods __add__, __sub__, __mul__, __eq__ -/
  mAdd : Nat := 1000
  mSub : Nat := 1000
  mMul : Nat := 1000
  mEq : Nat := 1000
  /-- are exceptions carried out of a def? -/
  exc : Bool := false
/-! ### values -/
def maxLen : Nat := 16777216
def lkF (f : Nat) : List (Nat × T) → Option T
  | [] => none
  | (g, t) :: r => if g = f then some t else lkF f r
def putF (f : Nat) (t : T) : List (Nat × T) → List (Nat × T)
  | [] => [(f, t)]
  | (g, u) :: r => if g = f then (g, t) :: r else (g, u) :: putF f t r
def lkN (f : Nat) : List (Nat × Nat) → Option Nat
  | [] => none
  | (g, t) :: r => if g = f then some t else lkN f r
def isBor : T → Bool
  | .bL _ => true | .bD _ => true | .bI _ _ => true | _ => false
def isExc : T → Bool
  | .exc _ _ => true | _ => false
/-- what may be stored, passed, returned -/
def plainT (t : T) : Bool := !isBor t && !isExc t
/-- the items of a list or a tuple -/
def seqOf (t : T) (h : Hl) : Option (List T) := match t with
  | .lst xs => some xs
  | .tup xs => some xs
  | .bL xs => some xs
  | .kl xs => some (xs.map T.int)
  | .rf n => match h[n]? with
    | some (.lst xs) => some xs
    | _ => none
  | _ => none
/-- of a list alone -/
def lstOf (t : T) (h : Hl) : Option (List T) := match t with
  | .tup _ => none
  | t => seqOf t h
/-- .. whose object is tracked as it is -/
def lstOf' (t : T) (h : Hl) : Option (List T) := match t with
  | .tup _ => none
  | .kl _ => none
  | t => seqOf t h
def insOf (t : T) (h : Hl) : Option (Nat × List (Nat × T)) := match t with
  | .ins c fs => some (c, fs)
  | .bI c fs => some (c, fs)
  | .rf n => match h[n]? with
    | some (.ins c fs) => some (c, fs)
    | _ => none
  | _ => none
def dctOf (t : T) (h : Hl) : Option (List (T × T)) := match t with
  | .dct kvs => some kvs
  | .bD kvs => some kvs
  | .rf n => match h[n]? with
    | some (.dct kvs) => some kvs
    | _ => none
  | _ => none
/-- truth -/
def truT (t : T) (h : Hl) : Option Bool := match t with
  | .non => some false
  | .bl b => some b
  | .int i => some (i != 0)
  | .str s => if s.length ≤ maxLen then some (!s.isEmpty) else none
  | t => (seqOf t h).map fun xs => !xs.isEmpty
def tru (t : T) (h : Hl) : R Bool := match truT t h with
  | some b => .ok b h
  | none => .stuck
/-! plain data for == -/
inductive D where
  | non | bl (b : Bool) | int (i : Int) | str (s : List Nat) | lst (xs : List D) | tup (xs : List D)
def mapO {α β : Type} (f : α → Option β) : List α → Option (List β)
  | [] => some []
  | x :: xs => match f x with
    | some y => match mapO f xs with
      | some ys => some (y :: ys)
      | none => none
    | none => none
def datS (s : List Nat) : Option D := if s.all (fun c => decide (c < 1114112)) then some (.str s) else none
def dat (h : Hl) : Nat → T → Option D
  | 0, t => match t with
    | .non => some .non
    | .bl b => some (.bl b)
    | .int i => some (.int i)
    | .str s => datS s
    | _ => none
  | n + 1, t => match t with
    | .non => some .non
    | .bl b => some (.bl b)
    | .int i => some (.int i)
    | .str s => datS s
    | .lst xs => (mapO (dat h n) xs).map .lst
    | .tup xs => (mapO (dat h n) xs).map .tup
    | .bL xs => (mapO (dat h n) xs).map .lst
    | .kl xs => some (.lst (xs.map D.int))
    | .rf k => match h[k]? with
      | some (.lst xs) => (mapO (dat h n) xs).map .lst
      | _ => none
    | _ => none
mutual
def eqD : D → D → Bool
  | .non, .non => true
  | .bl a, .bl b => a == b
  | .bl a, .int j => (if a then 1 else 0) == j
  | .int i, .bl b => i == (if b then 1 else 0)
  | .int i, .int j => i == j
  | .str x, .str y => x == y
  | .lst xs, .lst ys => eqDs xs ys
  | .tup xs, .tup ys => eqDs xs ys
  | _, _ => false
def eqDs : List D → List D → Bool
  | [], [] => true
  | x :: xs, y :: ys => eqD x y && eqDs xs ys
  | _, _ => false
end
def eqT (h : Hl) (x y : T) : Option Bool := match dat h 60 x, dat h 60 y with
  | some d, some e => some (eqD d e)
  | _, _ => none
def keyT : T → Bool
  | .int _ => true | .str _ => true | _ => false
def flatT : T → Bool
  | .non => true | .bl _ => true | .int _ => true | .str _ => true | _ => false
def eqF : T → T → Bool
  | .non, .non => true
  | .bl a, .bl b => a == b
  | .bl a, .int b => (if a then 1 else 0) == b
  | .int a, .bl b => a == (if b then 1 else 0)
  | .int a, .int b => a == b
  | .str a, .str b => a == b
  | _, _ => false
def inF (x : T) (xs : List T) : Bool := xs.any fun y => eqF y x
/-- the one sorted list of numbers -/
def srtI (l : List Int) : List Int := l.mergeSort (fun a b => decide (a ≤ b))
/-- the one sorted list of texts -/
def ltN : List Nat → List Nat → Bool
  | [], [] => false
  | [], _ :: _ => true
  | _ :: _, [] => false
  | a :: r, b :: t => decide (a < b) || (decide (a = b) && ltN r t)
def srtS (l : List (List Nat)) : List (List Nat) := l.mergeSort (fun a b => !ltN b a)
def ixN (n : Nat) (i : Int) : Option Nat := if 0 ≤ i then (if i < n then some i.toNat else none) else if -(n : Int) ≤ i then some (i + n).toNat else none
def atI {α : Type} (xs : List α) (i : Int) : Option α := (ixN xs.length i).bind fun j => xs[j]?
def sIx (n d : Nat) : Option Int → Nat
  | none => d
  | some v => if v < 0 then (v + n).toNat else min v.toNat n
def cutT {α : Type} (xs : List α) (lo hi : Option Int) : List α := (xs.drop (sIx xs.length 0 lo)).take (sIx xs.length xs.length hi - sIx xs.length 0 lo)
def allInts : List T → Option (List Int)
  | [] => some []
  | .int i :: r => (allInts r).map (i :: ·)
  | _ => none
/-- the one sorted list of pairs of numbers -/
def ltPr (a b : Int × Int) : Bool := decide (a.1 < b.1) || (decide (a.1 = b.1) && decide (a.2 < b.2))
def srtP (l : List (Int × Int)) : List (Int × Int) := l.mergeSort (fun a b => !ltPr b a)
def prT (p : Int × Int) : T := .tup [.int p.1, .int p.2]
def allPrs : List T → Option (List (Int × Int))
  | [] => some []
  | .tup [.int i, .int j] :: r => (allPrs r).map ((i, j) :: ·)
  | _ => none
def allBls : List T → Option (List Bool)
  | [] => some []
  | .bl i :: r => (allBls r).map (i :: ·)
  | _ => none
def allStrs : List T → Option (List (List Nat))
  | [] => some []
  | .str i :: r => (allStrs r).map (i :: ·)
  | _ => none
def maxI : Int → List Int → Int
  | m, [] => m
  | m, x :: r => maxI (if x > m then x else m) r
def minI : Int → List Int → Int
  | m, [] => m
  | m, x :: r => minI (if x < m then x else m) r
/-! ### operators -/
def mulOk (i j : Int) : Bool := decide (i.natAbs.log2 + j.natAbs.log2 < 1000000)
def divOk (j : Int) : Bool := decide (j ≠ 0) && decide (j.natAbs.log2 < 9000)
def fdivI (i j : Int) : Int := if 0 < j then i / j else i.fdiv j
def fmodI (i j : Int) : Int := if 0 < j then i % j else i.fmod j
def powOk (i j : Int) : Bool := decide (0 ≤ j) && decide (j.natAbs ≤ 1000000) && decide (i.natAbs < 18446744073709551616)
def shlOk (i j : Int) : Bool := decide (0 ≤ j) && decide (j.natAbs ≤ 1000000) && decide (i.natAbs.log2 < 1000000)
def repOk (n : Nat) (j : Int) : Bool := decide (n * j.toNat ≤ maxLen) && decide (j.natAbs < 9223372036854775808)
def addT (x y : T) (h : Hl) : R T := match x, y with
  | .int i, .int j => .ok (.int (i + j)) h
  | .str a, .str b => if a.length + b.length ≤ maxLen then .ok (.str (a ++ b)) h else .stuck
  | .tup a, .tup b => if a.length + b.length ≤ maxLen then .ok (.tup (a ++ b)) h else .stuck
  | x, y => match lstOf' x h, lstOf' y h with
    | some a, some b => if a.length + b.length ≤ maxLen then .ok (.lst (a ++ b)) h else .stuck
    | _, _ => .stuck
def mulT (x y : T) (h : Hl) : R T := match y with
  | .int j => match x with
    | .int i => if mulOk i j then .ok (.int (i * j)) h else .stuck
    | .str a => if repOk a.length j then .ok (.str (List.replicate j.toNat a).flatten) h else .stuck
    | .tup a => if decide (a.length ≤ 1000) && ((!a.isEmpty && decide (1 ≤ j)) && decide (j ≤ 1000)) then .ok (.tup (List.replicate j.toNat a).flatten) h else .stuck
    | x => match lstOf' x h with
      | some a => if repOk a.length j then .ok (.lst (List.replicate j.toNat a).flatten) h else .stuck
      | none => .stuck
  | _ => .stuck
def intT (o : BOp) (i j : Int) (h : Hl) : R T := match o with
  | .sub => .ok (.int (i - j)) h
  | .fdiv => if divOk j then .ok (.int (fdivI i j)) h else .stuck
  | .mod => if decide (j ≠ 0) then .ok (.int (fmodI i j)) h else .stuck
  | .pow => if powOk i j then .ok (.int (i ^ j.toNat)) h else .stuck
  | .shl => if shlOk i j then .ok (.int (i * 2 ^ j.toNat)) h else .stuck
  | .shr => if decide (0 ≤ j) then .ok (.int (i / 2 ^ j.toNat)) h else .stuck
  | .band => if decide (0 ≤ i) && decide (0 ≤ j) then .ok (.int ((i.toNat &&& j.toNat : Nat) : Int)) h else .stuck
  | _ => .stuck
def binT (o : BOp) (x y : T) (h : Hl) : R T := match o with
  | .add => addT x y h
  | .mul => mulT x y h
  | o => match x, y with
    | .int i, .int j => intT o i j h
    | _, _ => .stuck
/-- is s in t, texts -/
def isPre : List Nat → List Nat → Bool
  | [], _ => true
  | _ :: _, [] => false
  | x :: xs, y :: ys => x == y && isPre xs ys
def isSub (s : List Nat) : List Nat → Bool
  | [] => s.isEmpty
  | y :: ys => isPre s (y :: ys) || isSub s ys
def lexI : List Int → List Int → Bool
  | [], [] => false
  | [], _ :: _ => true
  | _ :: _, [] => false
  | x :: xs, y :: ys => if x = y then lexI xs ys else decide (x < y)
def inSq (x : T) (xs : List T) : Option Bool := if flatT x && xs.all flatT then some (inF x xs) else none
def inDc (x : T) (kvs : List (T × T)) : Option Bool := if keyT x then some (kvs.any fun p => eqF p.1 x) else none
def inT (x y : T) (h : Hl) : Option Bool := match y with
  | .str t => match x with
    | .str [c] => some (decide (c ∈ t))
    | _ => none
  | .dct kvs => inDc x kvs
  | .bD kvs => inDc x kvs
  | .rf n => match h[n]? with
    | some (.dct kvs) => inDc x kvs
    | some (.lst xs) => inSq x xs
    | _ => none
  | y => match seqOf y h with
    | some xs => inSq x xs
    | none => none
def icmp (o : COp) (i j : Int) : Option Bool := match o with
  | .lt => some (decide (i < j))
  | .le => some (decide (i ≤ j))
  | .gt => some (decide (j < i))
  | .ge => some (decide (j ≤ i))
  | _ => none
def isNon : T → Bool
  | .non => true | _ => false
def isBlv (b : Bool) : T → Bool
  | .bl a => a == b | _ => false
def isT (x y : T) : Option Bool := if isExc x then none else match y with
  | .non => some (isNon x)
  | .bl b => some (isBlv b x)
  | _ => none
def oR (b : Option Bool) (h : Hl) : R T := match b with
  | some b => .ok (.bl b) h
  | none => .stuck
def cmpT (o : COp) (x y : T) (h : Hl) : R T := match o with
  | .eq => oR (eqT h x y) h
  | .ne => oR ((eqT h x y).map (!·)) h
  | .is => oR (isT x y) h
  | .isNot => oR ((isT x y).map (!·)) h
  | .isIn => oR (inT x y h) h
  | .notIn => oR ((inT x y h).map (!·)) h
  | o => match x, y with
    | .int i, .int j => oR (icmp o i j) h
    | _, _ => .stuck
def idxSq (xs : List T) (i : T) (h : Hl) : R T := match i with
  | .int k => match atI xs k with
    | some t => .ok t h
    | none => .stuck
  | _ => .stuck
def fndK (k : T) (kvs : List (T × T)) : Option T := (kvs.find? fun p => eqF p.1 k).map (·.2)
def idxDc (kvs : List (T × T)) (i : T) (h : Hl) : R T := if keyT i then match fndK i kvs with
  | some t => .ok t h
  | none => .stuck else .stuck
def idxT (x i : T) (h : Hl) : R T := match x with
  | .str s => match i with
    | .int k => if s.length ≤ maxLen then match atI s k with
      | some c => .ok (.str [c]) h
      | none => .stuck else .stuck
    | _ => .stuck
  | .dct kvs => idxDc kvs i h
  | .bD kvs => idxDc kvs i h
  | .rf n => match h[n]? with
    | some (.dct kvs) => idxDc kvs i h
    | some (.lst xs) => idxSq xs i h
    | _ => .stuck
  | x => match seqOf x h with
    | some xs => idxSq xs i h
    | none => .stuck
def slT (x : T) (lo hi : Option Int) (h : Hl) : R T := match x with
  | .str s => if s.length ≤ maxLen then .ok (.str (cutT s lo hi)) h else .stuck
  | .tup xs => .ok (.tup (cutT xs lo hi)) h
  | x => match lstOf x h with
    | some xs => .ok (.lst (cutT xs lo hi)) h
    | none => .stuck
def fldT (x : T) (f : Nat) (h : Hl) : R T := match x with
  | .exc _ _ => .stuck
  | x => match insOf x h with
    | some (_, fs) => match lkF f fs with
      | some t => .ok t h
      | none => .stuck
    | none => .stuck
def kdOf (k : Kd) (t : T) (h : Hl) : Option Bool := match t with
  | .non => some false
  | .bl _ => some (k = .int ∨ k = .bool)
  | .int _ => some (k = .int)
  | .str _ => some (k = .str)
  | .tup _ => some (k = .tuple)
  | .lst _ => some (k = .list)
  | .bL _ => some (k = .list)
  | .kl _ => some (k = .list)
  | .ins c _ => some (k = .cls c)
  | .bI c _ => some (k = .cls c)
  | .rf n => match h[n]? with
    | some (.lst _) => some (k = .list)
    | some (.ins c _) => some (k = .cls c)
    | _ => none
  | _ => none
def kdAny (t : T) (h : Hl) : List Kd → Option Bool
  | [] => some false
  | k :: ks => match kdOf k t h, kdAny t h ks with
    | some a, some b => some (a || b)
    | _, _ => none
/-- the digits of str(n) -/
def natS (n : Nat) : List Nat := (Nat.toDigits 10 n).map Char.toNat
def intS (i : Int) : List Nat := if i < 0 then 45 :: natS i.natAbs else natS i.natAbs
/-- int(s) of one digit -/
def digI : List Nat → Option Int
  | [c] => if 48 ≤ c && c ≤ 57 then some ((c : Int) - 48) else none
  | _ => none
def joinS (sep : List Nat) : List (List Nat) → List Nat
  | [] => []
  | [x] => x
  | x :: y :: r => x ++ sep ++ joinS sep (y :: r)
def lenT (x : T) (h : Hl) : Option Nat := match x with
  | .str s => if s.length ≤ maxLen then some s.length else none
  | .dct kvs => some kvs.length
  | .bD kvs => some kvs.length
  | .rf n => match h[n]? with
    | some (.dct kvs) => some kvs.length
    | some (.lst xs) => some xs.length
    | _ => none
  | x => (seqOf x h).map List.length
def lenF (vs : List T) (h : Hl) : R T := match vs with
  | [x] => match lenT x h with
    | some n => .ok (.int (n : Int)) h
    | none => .stuck
  | _ => .stuck
def absF (vs : List T) (h : Hl) : R T := match vs with
  | [.int i] => .ok (.int (if i < 0 then -i else i)) h
  | _ => .stuck
/-- the number that a text of bits tells -/
def binN (s : List Nat) : Nat := s.foldl (fun a c => a * 2 + (c - 48)) 0
def intF (vs : List T) (h : Hl) : R T := match vs with
  | [.int i] => .ok (.int i) h
  | [.bl b] => .ok (.int (if b then 1 else 0)) h
  | [.str s] => match digI s with
    | some i => .ok (.int i) h
    | none => .stuck
  | [.str s, .int 2] => if s.all (fun c => c == 48 || c == 49) && !s.isEmpty && decide (s.length ≤ 640) then .ok (.int (binN s : Nat)) h else .stuck
  | _ => .stuck
def strF (vs : List T) (h : Hl) : R T := match vs with
  | [.int i] => if i.natAbs.log2 < 1920 then .ok (.str (intS i)) h else .stuck
  | _ => .stuck
def sumF (vs : List T) (h : Hl) : R T := match vs with
  | [x] => match (lstOf x h).bind allInts with
    | some ns => .ok (.int ns.sum) h
    | none => .stuck
  | _ => .stuck
def allF (vs : List T) (h : Hl) : R T := match vs with
  | [x] => match (lstOf x h).bind allBls with
    | some ns => .ok (.bl (ns.all id)) h
    | none => .stuck
  | _ => .stuck
def anyF (vs : List T) (h : Hl) : R T := match vs with
  | [x] => match (lstOf x h).bind allBls with
    | some ns => .ok (.bl (ns.any id)) h
    | none => .stuck
  | _ => .stuck
def gcdF (vs : List T) (h : Hl) : R T := match vs with
  | [.int i, .int j] => .ok (.int ((Nat.gcd i.natAbs j.natAbs : Nat) : Int)) h
  | _ => .stuck
def max2F (vs : List T) (h : Hl) : R T := match vs with
  | [.int i, .int j] => .ok (.int (if j > i then j else i)) h
  | _ => .stuck
def min2F (vs : List T) (h : Hl) : R T := match vs with
  | [.int i, .int j] => .ok (.int (if j < i then j else i)) h
  | _ => .stuck
def maxF (vs : List T) (h : Hl) : R T := match vs with
  | [x] => match (seqOf x h).bind allInts with
    | some (n :: ns) => .ok (.int (maxI n ns)) h
    | _ => .stuck
  | _ => .stuck
def minF (vs : List T) (h : Hl) : R T := match vs with
  | [x] => match (seqOf x h).bind allInts with
    | some (n :: ns) => .ok (.int (minI n ns)) h
    | _ => .stuck
  | _ => .stuck
def tupF (vs : List T) (h : Hl) : R T := match vs with
  | [x] => match seqOf x h with
    | some xs => .ok (.tup xs) h
    | none => .stuck
  | _ => .stuck
def maxDF (vs : List T) (h : Hl) : R T := match vs with
  | [x, .int d] => match (seqOf x h).bind allInts with
    | some (n :: ns) => .ok (.int (maxI n ns)) h
    | some [] => .ok (.int d) h
    | _ => .stuck
  | _ => .stuck
def max3F (vs : List T) (h : Hl) : R T := match vs with
  | [.int i, .int j, .int k] => .ok (.int (maxI i [j, k])) h
  | _ => .stuck
def min3F (vs : List T) (h : Hl) : R T := match vs with
  | [.int i, .int j, .int k] => .ok (.int (minI i [j, k])) h
  | _ => .stuck
def bfT (b : BF) (vs : List T) (h : Hl) : R T := match b with
  | .len => lenF vs h | .abs => absF vs h | .int => intF vs h | .str => strF vs h | .sum => sumF vs h | .all => allF vs h | .any => anyF vs h | .gcd => gcdF vs h
  | .max2 => max2F vs h | .min2 => min2F vs h | .max => maxF vs h | .min => minF vs h | .tuple => tupF vs h | .maxD => maxDF vs h | .max3 => max3F vs h | .min3 => min3F vs h
  | .repr => .stuck
def swF (o : T) (vs : List T) (h : Hl) : R T := match o, vs with
  | .str s, [.str t] => .ok (.bl (isPre t s)) h
  | _, _ => .stuck
def joinF (o : T) (vs : List T) (h : Hl) : R T := match o, vs with
  | .str s, [x] => match (seqOf x h).bind allStrs with
    | some ss => if (ss.map List.length).sum + s.length * ss.length ≤ maxLen then .ok (.str (joinS s ss)) h else .stuck
    | none => .stuck
  | _, _ => .stuck
def getF (o : T) (vs : List T) (h : Hl) : R T := match vs with
  | [k] => match dctOf o h with
    | some kvs => if keyT k then .ok ((fndK k kvs).getD .non) h else .stuck
    | none => .stuck
  | _ => .stuck
def getDF (o : T) (vs : List T) (h : Hl) : R T := match vs with
  | [k, u] => match dctOf o h with
    | some kvs => if keyT k then .ok ((fndK k kvs).getD u) h else .stuck
    | none => .stuck
  | _ => .stuck
/-- where x first stands -/
def fndJ (x : T) : List T → Nat → Option Nat
  | [], _ => none
  | y :: ys, j => if eqF y x then some j else fndJ x ys (j + 1)
def indexF (o : T) (vs : List T) (h : Hl) : R T := match vs with
  | [x] => match lstOf' o h with
    | some xs => if flatT x && xs.all flatT then match fndJ x xs 0 with
        | some j => .ok (.int (j : Int)) h
        | none => .stuck
      else .stuck
    | none => .stuck
  | _ => .stuck
def bmT (b : BM) (o : T) (vs : List T) (h : Hl) : R T := match b with
  | .index => indexF o vs h
  | .startswith => swF o vs h | .join => joinF o vs h | .get => getF o vs h | .getD => getDF o vs h
  | _ => .stuck
/-- of what kind the object of a method must be -/
def isStrT : T → Bool
  | .str _ => true | _ => false
def isIntT : T → Bool
  | .int _ => true | _ => false
def bmPre (b : BM) (x : T) (h : Hl) : Bool := match b with
  | .get => (dctOf x h).isSome
  | .getD => (dctOf x h).isSome
  | .bitlen => isIntT x
  | .index => (lstOf' x h).isSome
  | _ => isStrT x
/-- what a list may be made longer by -/
def extOf (v : T) (h : Hl) : Option (List T) := match v with
  | .tup xs => some xs
  | v => lstOf' v h
/-- what a change makes of a list: what it gives, the list behind it -/
def mbT (b : MB) (xs : List T) (vs : List T) (h : Hl) : Option (T × List T) := match b, vs with
  | .append, [v] => if plainT v && decide (xs.length < maxLen) then some (.non, xs ++ [v]) else none
  | .extend, [v] => match extOf v h with
    | some ys => if xs.length + ys.length ≤ maxLen then some (.non, xs ++ ys) else none
    | none => none
  | .pop, [] => match xs.getLast? with
    | some y => some (y, xs.dropLast)
    | none => none
  | .popAt, [.int i] => match ixN xs.length i with
    | some j => match xs[j]? with
      | some y => if decide (i.natAbs < 9223372036854775808) then some (y, xs.eraseIdx j) else none
      | none => none
    | none => none
  | .insert, [.int i, v] => if plainT v && decide (xs.length < maxLen) && decide (0 ≤ i) && decide (i < 9223372036854775808) then some (.non, xs.take i.toNat ++ [v] ++ xs.drop i.toNat) else none
  | .reverse, [] => some (.non, xs.reverse)
  | .clear, [] => some (.non, [])
  | _, _ => none
def dput (kvs : List (T × T)) (k v : T) : List (T × T) := if kvs.any (fun p => eqF p.1 k) then kvs.map (fun p => if eqF p.1 k then (p.1, v) else p) else kvs ++ [(k, v)]
/-- what stands still and is walked -/
def walkOf : T → Option (List T)
  | .lst xs => some xs
  | .tup xs => some xs
  | .kl xs => some (xs.map T.int)
  | .str s => if s.length ≤ maxLen then some (s.map fun c => T.str [c]) else none
  | _ => none
/-- the keys of a dict that stands for ever -/
def keysT : T → Option (List T)
  | .dct kvs => some (kvs.map (·.1))
  | _ => none
/-- .. lists alone -/
def lwalkOf : T → Option (List T)
  | .lst xs => some xs
  | .kl xs => some (xs.map T.int)
  | _ => none
/-- .. lists and tuples -/
def swalkOf : T → Option (List T)
  | .lst xs => some xs
  | .tup xs => some xs
  | .kl xs => some (xs.map T.int)
  | _ => none
def numT (n : Nat) : List T → List T
  | [] => []
  | x :: r => .tup [.int (n : Int), x] :: numT (n + 1) r
def rngT (lo hi : Int) : List T := (List.range (hi - lo).toNat).map fun (k : Nat) => T.int (lo + (k : Int))
/-- with a step -/
def rngN (m n s : Int) : Nat := if 0 < s then (if m < n then ((n - m - 1) / s + 1).toNat else 0) else (if m > n then ((m - n - 1) / (-s) + 1).toNat else 0)
def rngS (m s : Int) (k : Nat) : List T := (List.range k).map fun (j : Nat) => T.int (m + (j : Int) * s)
def rngOk (i : Int) : Bool := decide (i.natAbs < 4611686018427387904)
/-- targets -/
def setT (tg : List Nat) (t : T) (σ : Sl) : Option Sl := match tg with
  | [i] => some (σ.set i (some t))
  | is => match t with
    | .tup xs => if xs.length = is.length then some ((is.zip xs).foldl (fun s p => s.set p.1 (some p.2)) σ) else none
    | .lst xs => if xs.length = is.length then some ((is.zip xs).foldl (fun s p => s.set p.1 (some p.2)) σ) else none
    | _ => none
def wipeT (σ : Sl) : List Nat → Sl
  | [] => σ
  | v :: vs => (wipeT σ vs).set v none
/-! ### lists in cells that are walked: they must stand while the walk lasts -/
def chk (gs : List (Nat × List T)) (h : Hl) : Prop := ∀ p ∈ gs, h[p.1]? = some (C.lst p.2)
instance chkD (gs : List (Nat × List T)) (h : Hl) : Decidable (chk gs h) := Classical.propDecidable _
def cellL (x : T) (h : Hl) : Option (List T) := match x with
  | .rf n => match h[n]? with
    | some (.lst xs) => some xs
    | _ => none
  | _ => none
def isVarE' : E → Bool
  | .var _ => true | _ => false
/-- what is walked: a cell only if it stands in a slot -/
def wk (v : Bool) (x : T) (h : Hl) : Option (List T) := match walkOf x with
  | some xs => some xs
  | none => if v then cellL x h else none
def gdT (x : T) (h : Hl) : List (Nat × List T) := match walkOf x with
  | some _ => []
  | none => match x with
    | .rf n => match h[n]? with
      | some (.lst xs) => [(n, xs)]
      | _ => []
    | _ => []
def gdV (e : E) (σ : Sl) (h : Hl) : List (Nat × List T) := match e with
  | .var i => match σ[i]? with
    | some (some x) => gdT x h
    | _ => []
  | _ => []
/-- a field of what stands in a slot -/
def isFV : E → Bool
  | .fld (.var _) _ => true | _ => false
def gdF (e : E) (σ : Sl) (h : Hl) : List (Nat × List T) := match e with
  | .fld (.var i) f => match σ[i]? with
    | some (some y) => match fldT y f h with
      | .ok x _ => gdT x h
      | _ => []
    | _ => []
  | _ => []
def gdI (it : It) (σ : Sl) (h : Hl) : List (Nat × List T) := match it with
  | .e e => if isFV e = true then gdF e σ h else gdV e σ h
  | .enum e => gdV e σ h
  | .zip a b => if isVarE' a && isVarE' b then gdV a σ h ++ gdV b σ h else []
  | _ => []
def ckS (gs : List (Nat × List T)) (r : RS) : RS := match r with
  | .nx σ h => if chk gs h then .nx σ h else .stuck
  | .ct σ h => if chk gs h then .ct σ h else .stuck
  | r => r
def ckR {α : Type} (gs : List (Nat × List T)) (r : R α) : R α := match r with
  | .ok a h => if chk gs h then .ok a h else .stuck
  | r => r
/-! ### the interpreter -/
section
variable (P : Prog) (call : Nat → List T → Hl → R T) (W : Nat)
/-- an operator that an own class may define -/
def ownM (m : Nat) (x y : T) (h : Hl) : R T := match insOf x h, insOf y h with
  | some (c, _), some (c', _) => if c = c' then match P.cls[c]? with
      | some k => match lkN m k.meths with
        | some f => if plainT x && plainT y then (call f [x, y] h).noErr else .stuck
        | none => .stuck
      | none => .stuck
    else .stuck
  | _, _ => .stuck
/-- what may be held against an instance by its own == -/
def strgT : T → Bool
  | .non => true | .bl _ => true | .int _ => true | .str _ => true | .lst _ => true | .tup _ => true | _ => false
def samC (y : T) (h : Hl) (c : Nat) : Bool := match insOf y h with
  | some (c', _) => decide (c' = c)
  | none => strgT y
def ownQ (x y : T) (h : Hl) : R T := match insOf x h with
  | some (c, _) => if samC y h c then match P.cls[c]? with
      | some k => match lkN P.mEq k.meths with
        | some f => if plainT x && plainT y then (call f [x, y] h).noErr else .stuck
        | none => .stuck
      | none => .stuck
    else .stuck
  | none => .stuck
def isIns (x : T) (h : Hl) : Bool := (insOf x h).isSome
def binE (o : BOp) (x y : T) (h : Hl) : R T :=
  if isIns x h then
    match o with
    | .add => ownM P call P.mAdd x y h
    | .sub => ownM P call P.mSub x y h
    | .mul => ownM P call P.mMul x y h
    | _ => .stuck
  else binT o x y h
def cmpE (o : COp) (x y : T) (h : Hl) : R T :=
  if isIns x h && (decide (o = .eq) || decide (o = .ne)) then (ownQ P call x y h).bind fun v h => match v with
    | .bl b => .ok (.bl (if o = .ne then !b else b)) h
    | _ => .stuck
  else cmpT o x y h
/-- a comprehension's items -/
def lcG (f : Sl → Hl → R (Option T)) (tg : List Nat) (σ : Sl) : List T → Hl → R (List T)
  | [], h => .ok [] h
  | x :: xs, h => match setT tg x σ with
    | none => .stuck
    | some σ' => (f σ' h).noErr.bind fun y h => match y with
      | some y => if plainT y then (lcG f tg σ xs h).bind fun ys h => .ok (y :: ys) h else .stuck
      | none => lcG f tg σ xs h
def lcC (gs : List (Nat × List T)) (f : Sl → Hl → R (Option T)) (tg : List Nat) (σ : Sl) (xs : List T) (h : Hl) : R (List T) := match gs with
  | [] => lcG f tg σ xs h
  | g :: gs => if chk (g :: gs) h then lcG (fun σ h => ckR (g :: gs) (f σ h)) tg σ xs h else .stuck
def dcG (f : Sl → Hl → R (Option (T × T))) (tg : List Nat) (σ : Sl) : List T → List (T × T) → Hl → R (List (T × T))
  | [], acc, h => .ok acc h
  | x :: xs, acc, h => match setT tg x σ with
    | none => .stuck
    | some σ' => (f σ' h).noErr.bind fun y h => match y with
      | some (k, v) => if plainT v && keyT k then dcG f tg σ xs (dput acc k v) h else .stuck
      | none => dcG f tg σ xs acc h
def dcC (gs : List (Nat × List T)) (f : Sl → Hl → R (Option (T × T))) (tg : List Nat) (σ : Sl) (xs : List T) (h : Hl) : R (List (T × T)) := match gs with
  | [] => dcG f tg σ xs [] h
  | g :: gs => if chk (g :: gs) h then dcG (fun σ h => ckR (g :: gs) (f σ h)) tg σ xs [] h else .stuck
/-- a call's values in the parameters' order -/
def arrT (vs : List T) : List (Nat ⊕ T) → Option (List T)
  | [] => some []
  | .inl i :: r => match vs[i]?, arrT vs r with
    | some t, some ts => some (t :: ts)
    | _, _ => none
  | .inr t :: r => (arrT vs r).map (t :: ·)
/-- a new instance -/
def newT (c : Nat) (vs : List T) (h : Hl) : R T := match P.cls[c]? with
    | some k => match k.init with
      | some f =>
        if vs.all plainT then
          if k.mode = 0 then (call f (.rf h.length :: vs) (h ++ [.ins c []])).bind fun v h' => match v with
            | .non => .ok (.rf h.length) h'
            | _ => .stuck
          else if k.mode = 1 then (call f (.bI c [] :: vs) h).bind fun v h' => match v with
            | .bI c' fs => if c' = c then .ok (.ins c fs) h' else .stuck
            | _ => .stuck
          else .stuck
        else .stuck
      | none => if vs.isEmpty then (if k.mode = 0 then .ok (.rf h.length) (h ++ [.ins c []]) else .ok (.ins c []) h) else .stuck
    | none => .stuck
mutual
def evE : E → Sl → Hl → R T
  | .var i, σ, h => match σ[i]? with
    | some (some t) => .ok t h
    | _ => .stuck
  | .cst t, _, h => .ok t h
  | .glo k, _, h => match P.globs[k]? with
    | some t => .ok t h
    | none => .stuck
  | .bin o a b, σ, h => (evE a σ h).bind fun x h => (evE b σ h).bind fun y h => binE P call o x y h
  | .cmp o a b, σ, h => (evE a σ h).bind fun x h => (evE b σ h).bind fun y h => cmpE P call o x y h
  | .cmpN o a b, σ, h => (evE a σ h).bind fun x h => (evE b σ h).bind fun y h => cmpT o x y h
  | .cmp2 o p a b c, σ, h => (evE a σ h).bind fun x h => (evE b σ h).bind fun y h => (cmpT o x y h).bind fun r h => match r with
    | .bl true => (evE c σ h).bind fun z h => cmpT p y z h
    | .bl false => .ok (.bl false) h
    | _ => .stuck
  | .neg a, σ, h => (evE a σ h).bind fun x h => match x with
    | .int i => .ok (.int (-i)) h
    | _ => .stuck
  | .not a, σ, h => (evE a σ h).bind fun x h => (tru x h).bind fun b h => .ok (.bl (!b)) h
  | .and a b, σ, h => (evE a σ h).bind fun x h => (tru x h).bind fun t h => if t then evE b σ h else .ok x h
  | .or a b, σ, h => (evE a σ h).bind fun x h => (tru x h).bind fun t h => if t then .ok x h else evE b σ h
  | .ife c a b, σ, h => (evE c σ h).bind fun x h => (tru x h).bind fun t h => if t then evE a σ h else evE b σ h
  | .tup es, σ, h => (evEs es σ h).bind fun vs h => if vs.all plainT && decide (vs.length ≤ maxLen) then .ok (.tup vs) h else .stuck
  | .idx a b, σ, h => (evE a σ h).bind fun x h => (evE b σ h).bind fun y h => idxT x y h
  | .sl a lo hi, σ, h => (evE a σ h).bind fun x h => (evO lo σ h).bind fun l h => (evO hi σ h).bind fun u h => slT x l u h
  | .fld a f, σ, h => (evE a σ h).bind fun x h => fldT x f h
  | .call f es, σ, h => (evEs es σ h).bind fun vs h => if vs.all plainT then call f vs h else .stuck
  | .callH f es, σ, h => (evEs es σ h).bind fun vs h => if vs.all plainT then (call f vs h).noErr else .stuck
  | .callK f es ks arr, σ, h => (evEs es σ h).bind fun vs h => (evEs ks σ h).bind fun ws h => if (vs ++ ws).all plainT then match arrT (vs ++ ws) arr with
      | some us => call f us h
      | none => .stuck
    else .stuck
  | .meth o m es, σ, h => (evE o σ h).bind fun x h => match insOf x h with
    | some (c, fs) => match P.cls[c]? with
      | some k => match (if (lkF m fs).isNone then lkN m k.meths else none) with
        | some f => (evEs es σ h).bind fun vs h => if plainT x && vs.all plainT then call f (x :: vs) h else .stuck
        | none => .stuck
      | none => .stuck
    | none => .stuck
  | .methK o m es ks arr, σ, h => (evE o σ h).bind fun x h => match insOf x h with
    | some (c, fs) => match P.cls[c]? with
      | some k => match (if (lkF m fs).isNone then lkN m k.meths else none) with
        | some f => (evEs es σ h).bind fun vs h => (evEs ks σ h).bind fun ws h => if plainT x && (vs ++ ws).all plainT then match arrT (vs ++ ws) arr with
            | some us => call f (x :: us) h
            | none => .stuck
          else .stuck
        | none => .stuck
      | none => .stuck
    | none => .stuck
  | .new c es, σ, h => (evEs es σ h).bind fun vs h => newT P call c vs h
  | .newK c es ks arr, σ, h => (evEs es σ h).bind fun vs h => (evEs ks σ h).bind fun ws h => match arrT (vs ++ ws) arr with
      | some us => newT P call c us h
      | none => .stuck
  | .bf b es, σ, h => (evEs es σ h).bind fun vs h => bfT b vs h
  | .bm b o es, σ, h => (evE o σ h).bind fun x h => if bmPre b x h then (evEs es σ h).bind fun vs h => bmT b x vs h else .stuck
  | .isi a ks, σ, h => (evE a σ h).bind fun x h => match kdAny x h ks with
    | some b => .ok (.bl b) h
    | none => .stuck
  | .al w a, σ, h => (evA a σ h).bind fun c h => if w then .ok (.rf h.length) (h ++ [c]) else match c with
    | .lst xs => .ok (.lst xs) h
    | .dct kvs => .ok (.dct kvs) h
    | _ => .stuck
  | .mbE b o es, σ, h => (evE o σ h).bind fun x h => if (lstOf' x h).isSome then (evEs es σ h).bind fun vs h => match x with
    | .rf n => match h[n]? with
      | some (.lst xs) => match mbT b xs vs h with
        | some (v, xs') => .ok v (h.set n (.lst xs'))
        | none => .stuck
      | _ => .stuck
    | _ => .stuck
    else .stuck
  | .xf i f, σ, h => match σ[i]? with
    | some (some (.exc c fs)) => match P.cls[c]? with
      | some k => if k.mode = 2 then match lkF f fs with
          | some t => .ok t h
          | none => .stuck
        else .stuck
      | none => .stuck
    | _ => .stuck
def evO : Eo → Sl → Hl → R (Option Int)
  | .none, _, h => .ok none h
  | .some e, σ, h => (evE e σ h).bind fun x h => match x with
    | .int i => .ok (some i) h
    | _ => .stuck
def evEs : Es → Sl → Hl → R (List T)
  | .nil, _, h => .ok [] h
  | .cons e es, σ, h => (evE e σ h).bind fun x h => (evEs es σ h).bind fun xs h => .ok (x :: xs) h
def evA : A → Sl → Hl → R C
  | .lst es, σ, h => (evEs es σ h).bind fun vs h => if vs.all plainT && decide (vs.length ≤ maxLen) then .ok (.lst vs) h else .stuck
  | .lc it tg own c e, σ, h0 => (evI it σ h0).bind fun xs h => if xs.length ≤ maxLen then
      (lcC (gdI it σ h0) (fun σ h => (evC c σ h).bind fun b h => if b then (evE e σ h).bind fun y h => .ok (some y) h else .ok none h) tg (wipeT σ own) xs h).bind fun ys h => .ok (.lst ys) h
    else .stuck
  | .lof e, σ, h => (evE e σ h).bind fun x h => match seqOf x h with
    | some xs => .ok (.lst xs) h
    | none => .stuck
  | .sl a lo hi, σ, h => (evE a σ h).bind fun x h => (evO lo σ h).bind fun l h => (evO hi σ h).bind fun u h => match lstOf x h with
    | some xs => .ok (.lst (cutT xs l u)) h
    | none => .stuck
  | .cat a b, σ, h => (evE a σ h).bind fun x h => (evE b σ h).bind fun y h => match lstOf' x h, lstOf' y h with
    | some a, some b => if a.length + b.length ≤ maxLen then .ok (.lst (a ++ b)) h else .stuck
    | _, _ => .stuck
  | .rep a b, σ, h => (evE a σ h).bind fun x h => (evE b σ h).bind fun y h => match lstOf' x h, y with
    | some a, .int j => if repOk a.length j then .ok (.lst (List.replicate j.toNat a).flatten) h else .stuck
    | _, _ => .stuck
  | .srt e, σ, h => (evE e σ h).bind fun x h => match (seqOf x h).bind allInts with
    | some ns => .ok (.lst ((srtI ns).map T.int)) h
    | none => match (lstOf x h).bind allStrs with
      | some ns => if ns.length < 64 then .ok (.lst ((srtS ns).map T.str)) h else .stuck
      | none => match (lstOf x h).bind allPrs with
        | some ps => .ok (.lst ((srtP ps).map prT)) h
        | none => .stuck
  | .rev e, σ, h => (evE e σ h).bind fun x h => match lstOf x h with
    | some xs => .ok (.lst xs.reverse) h
    | none => .stuck
  | .lrg e, σ, h => (evE e σ h).bind fun x h => match x with
    | .int i => if i.natAbs ≤ maxLen then .ok (.lst (rngT 0 i)) h else .stuck
    | _ => .stuck
  | .dct ks es, σ, h => (evEs es σ h).bind fun vs h => if ks.all keyT && vs.all plainT && decide (vs.length = ks.length) && decide (ks.length ≤ 15) then .ok (.dct ((ks.zip vs).foldl (fun d p => dput d p.1 p.2) [])) h else .stuck
  | .dc it tg own c k v, σ, h0 => (evI it σ h0).bind fun xs h => if xs.length ≤ maxLen then
      (dcC (gdI it σ h0) (fun σ h => (evC c σ h).bind fun b h => if b then (evE k σ h).bind fun x h => (evE v σ h).bind fun y h => .ok (some (x, y)) h else .ok none h) tg (wipeT σ own) xs h).bind fun ys h => .ok (.dct ys) h
    else .stuck
/-- a comprehension's test -/
def evC : Eo → Sl → Hl → R Bool
  | .none, _, h => .ok true h
  | .some e, σ, h => (evE e σ h).bind tru
def evI : It → Sl → Hl → R (List T)
  | .e e, σ, h => (evE e σ h).bind fun x h => match wk (isVarE' e) x h with
    | some xs => .ok xs h
    | none => match keysT x with
      | some xs => .ok xs h
      | none => match (if isFV e = true then cellL x h else none) with
        | some xs => .ok xs h
        | none => .stuck
  | .rng1 a, σ, h => (evE a σ h).bind fun x h => match x with
    | .int n => if rngOk n then .ok (rngT 0 n) h else .stuck
    | _ => .stuck
  | .rng2 a b, σ, h => (evE a σ h).bind fun x h => (evE b σ h).bind fun y h => match x, y with
    | .int m, .int n => if rngOk m && rngOk n then .ok (rngT m n) h else .stuck
    | _, _ => .stuck
  | .rng3 a b c, σ, h => (evE a σ h).bind fun x h => (evE b σ h).bind fun y h => (evE c σ h).bind fun z h => match x, y, z with
    | .int m, .int n, .int s => if rngOk m && rngOk n && decide (s ≠ 0) && decide (s.natAbs < 1000000) then .ok (rngS m s (rngN m n s)) h else .stuck
    | _, _, _ => .stuck
  | .enum a, σ, h => (evE a σ h).bind fun x h => match wk (isVarE' a) x h with
    | some xs => .ok (numT 0 xs) h
    | none => .stuck
  | .zip a b, σ, h => (evE a σ h).bind fun x h => (evE b σ h).bind fun y h => match wk (isVarE' a && isVarE' b) x h, wk (isVarE' a && isVarE' b) y h with
    | some xs, some ys => .ok ((xs.zip ys).map fun p => T.tup [p.1, p.2]) h
    | _, _ => .stuck
end
/-- as a test -/
def evT (e : E) (σ : Sl) (h : Hl) : R Bool := (evE P call e σ h).bind tru
/-- a change of the list at o -/
def onL (o : E) (σ : Sl) (t : T) (h : Hl) (f : List T → Option (T × List T)) : Option (T × Sl × Hl) := match t with
  | .rf n => match h[n]? with
    | some (.lst xs) => (f xs).map fun r => (r.1, σ, h.set n (.lst r.2))
    | _ => none
  | .bL xs => match o with
    | .var i => (f xs).map fun r => (r.1, σ.set i (some (.bL r.2)), h)
    | _ => none
  | _ => none
def putI (o : E) (σ : Sl) (t i v : T) (h : Hl) : Option (Sl × Hl) := match t with
  | .rf n => match h[n]? with
    | some (.lst xs) => match i with
      | .int k => (ixN xs.length k).map fun j => (σ, h.set n (.lst (xs.set j v)))
      | _ => none
    | _ => none
  | .bL xs => match o, i with
    | .var q, .int k => (ixN xs.length k).map fun j => (σ.set q (some (.bL (xs.set j v))), h)
    | _, _ => none
  | _ => none
/-- a store into a dict -/
def putD (o : E) (σ : Sl) (t i v : T) (h : Hl) : Option (Sl × Hl) := match t with
  | .rf n => match h[n]? with
    | some (.dct kvs) => if keyT i && decide (kvs.length < maxLen) then some (σ, h.set n (.dct (dput kvs i v))) else none
    | _ => none
  | .bD kvs => match o with
    | .var q => if keyT i && decide (kvs.length < maxLen) then some (σ.set q (some (.bD (dput kvs i v))), h) else none
    | _ => none
  | _ => none
/-- a slot that may be overwritten -/
def freeS (σ : Sl) (i : Nat) : Bool := match σ[i]? with
  | some (some (.bI _ _)) => false
  | some _ => true
  | none => false
def freeTg (σ : Sl) (tg : List Nat) : Bool := tg.all (freeS σ)
def stF (o : E) (σ : Sl) (t : T) (f : Nat) (v : T) (h : Hl) : Option (Sl × Hl) := match t with
  | .rf n => match h[n]? with
    | some (.ins c fs) => if fs.length < 900 then some (σ, h.set n (.ins c (putF f v fs))) else none
    | _ => none
  | .bI c fs => match o with
    | .var i => if fs.length < 900 then some (σ.set i (some (.bI c (putF f v fs))), h) else none
    | _ => none
  | _ => none
/-- a loop over items -/
def forG (f : Sl → Hl → RS) (tg : List Nat) : List T → Sl → Hl → RS
  | [], σ, h => .nx σ h
  | x :: xs, σ, h => if freeTg σ tg then match setT tg x σ with
    | none => .stuck
    | some σ' => match f σ' h with
      | .nx σ h => forG f tg xs σ h
      | .ct σ h => forG f tg xs σ h
      | .bk σ h => .nx σ h
      | r => r
    else .stuck
def forC (gs : List (Nat × List T)) (f : Sl → Hl → RS) (tg : List Nat) (xs : List T) (σ : Sl) (h : Hl) : RS := match gs with
  | [] => forG f tg xs σ h
  | g :: gs => if chk (g :: gs) h then forG (fun σ h => ckS (g :: gs) (f σ h)) tg xs σ h else .stuck
/-- a while -/
def whlG (c : Sl → Hl → R Bool) (f : Sl → Hl → RS) : Nat → Sl → Hl → RS
  | 0, _, _ => .stuck
  | n + 1, σ, h => (c σ h).toS σ fun b h => if b then match f σ h with
      | .nx σ h => whlG c f n σ h
      | .ct σ h => whlG c f n σ h
      | .bk σ h => .nx σ h
      | r => r
    else .nx σ h
mutual
def exS : S → Sl → Hl → RS
  | .asg i e, σ, h => (evE P call e σ h).toS σ fun v h => if plainT v && freeS σ i then .nx (σ.set i (some v)) h else .stuck
  | .own i a, σ, h => (evA P call a σ h).toS σ fun c h => if freeS σ i then match c with
      | .lst xs => .nx (σ.set i (some (.bL xs))) h
      | .dct kvs => .nx (σ.set i (some (.bD kvs))) h
      | _ => .stuck
    else .stuck
  | .asgT is e, σ, h => (evE P call e σ h).toS σ fun v h => if plainT v && freeTg σ is then match setT is v σ with
      | some σ => .nx σ h
      | none => .stuck
    else .stuck
  | .par i j a b, σ, h => (evE P call a σ h).toS σ fun x h => (evE P call b σ h).toS σ fun y h => if plainT x && plainT y && freeS σ i && freeS σ j then .nx ((σ.set i (some x)).set j (some y)) h else .stuck
  | .aug i o e, σ, h => match σ[i]? with
    | some (some (.int a)) => (evE P call e σ h).toS σ fun v h => match v with
      | .int b => match o with
        | .add => .nx (σ.set i (some (.int (a + b)))) h
        | .sub => .nx (σ.set i (some (.int (a - b)))) h
        | _ => .stuck
      | _ => .stuck
    | some (some (.str a)) => (evE P call e σ h).toS σ fun v h => match o, v with
      | .add, .str b => if a.length + b.length ≤ maxLen then .nx (σ.set i (some (.str (a ++ b)))) h else .stuck
      | _, _ => .stuck
    | _ => .stuck
  | .setF o f e, σ, h => (evE P call e σ h).toS σ fun v h => (evE P call o σ h).toS σ fun t h => if plainT v then match stF o σ t f v h with
      | some (σ, h) => .nx σ h
      | none => .stuck
    else .stuck
  | .augF o f b e, σ, h => (evE P call o σ h).toS σ fun t h => match t with
    | .rf n => match h[n]? with
      | some (.ins c fs) => match lkF f fs with
        | some (.int i) => (evE P call e σ h).toS σ fun v h => match v with
          | .int j => match h[n]? with
            | some (.ins c' fs') => if c' = c ∧ fs'.length < 900 then match b with
                | .add => .nx σ (h.set n (.ins c' (putF f (.int (i + j)) fs')))
                | .sub => .nx σ (h.set n (.ins c' (putF f (.int (i - j)) fs')))
                | _ => .stuck
              else .stuck
            | _ => .stuck
          | _ => .stuck
        | _ => .stuck
      | _ => .stuck
    | _ => .stuck
  | .setI o i e, σ, h => (evE P call e σ h).toS σ fun v h => (evE P call o σ h).toS σ fun t h => (evE P call i σ h).toS σ fun k h => if plainT v then match putI o σ t k v h with
      | some (σ, h) => .nx σ h
      | none => .stuck
    else .stuck
  | .setD o i e, σ, h => (evE P call e σ h).toS σ fun v h => (evE P call o σ h).toS σ fun t h => (evE P call i σ h).toS σ fun k h => if plainT v then match putD o σ t k v h with
      | some (σ, h) => .nx σ h
      | none => .stuck
    else .stuck
  | .augI o i b e, σ, h => (evE P call o σ h).toS σ fun t h => (evE P call i σ h).toS σ fun k h => match k with
    | .int k => if 0 ≤ k then match (lstOf' t h).bind (fun xs => atI xs k) with
        | some (.int x) => (evE P call e σ h).toS σ fun y h => match y with
          | .int y => match (match b with | .add => some (x + y) | .sub => some (x - y) | _ => none) with
            | some z => match putI o σ t (.int k) (.int z) h with
              | some (σ, h) => .nx σ h
              | none => .stuck
            | none => .stuck
          | _ => .stuck
        | _ => .stuck
      else .stuck
    | _ => .stuck
  | .mb b o es, σ, h => (evE P call o σ h).toS σ fun t h => if (lstOf' t h).isSome then (evEs P call es σ h).toS σ fun vs h => match onL o σ t h (fun xs => mbT b xs vs h) with
      | some (_, σ, h) => .nx σ h
      | none => .stuck
    else .stuck
  | .mbA i b o es, σ, h => (evE P call o σ h).toS σ fun t h => if (lstOf' t h).isSome then (evEs P call es σ h).toS σ fun vs h => match onL o σ t h (fun xs => mbT b xs vs h) with
      | some (v, σ, h) => if freeS σ i && plainT v then .nx (σ.set i (some v)) h else .stuck
      | none => .stuck
    else .stuck
  | .ex e, σ, h => (evE P call e σ h).toS σ fun _ h => .nx σ h
  | .ret e, σ, h => (evE P call e σ h).toS σ fun v h => if plainT v then .rt v h else .stuck
  | .retN, σ, h => .rt .non h
  | .ite c a b, σ, h => (evT P call c σ h).toS σ fun t h => if t then exB a σ h else exB b σ h
  | .forS tg it b, σ, h0 => (evI P call it σ h0).toS σ fun xs h => forC (gdI it σ h0) (fun σ h => exB b σ h) tg xs σ h
  | .whl c b, σ, h => whlG (fun σ h => evT P call c σ h) (fun σ h => exB b σ h) W σ h
  | .brk, σ, h => .bk σ h
  | .cont, σ, h => .ct σ h
  | .pass, σ, h => .nx σ h
  | .rais c es, σ, h => (evEs P call es σ h).toS σ fun vs h => match P.cls[c]? with
    | some k => if k.mode = 2 && vs.all plainT && vs.length = k.efs.length then .err c (k.efs.zip vs).reverse σ h else .stuck
    | none => .stuck
  | .tryS b hs, σ, h => match exB b σ h with
    | .err c fs σ h => exH hs c fs σ h
    | r => r
  | .tryN b, σ, h => match exB b σ h with
    | .err _ _ _ _ => .stuck
    | r => r
  | .frz i, σ, h => match σ[i]? with
    | some (some (.bL xs)) => .nx (σ.set i (some (.lst xs))) h
    | some (some (.bD xs)) => .nx (σ.set i (some (.dct xs))) h
    | _ => .stuck
def exB : B → Sl → Hl → RS
  | .nil, σ, h => .nx σ h
  | .cons s b, σ, h => (exS s σ h).thn fun σ h => exB b σ h
def exH : Hs → Nat → List (Nat × T) → Sl → Hl → RS
  | .nil, c, fs, σ, h => .err c fs σ h
  | .cons d i b r, c, fs, σ, h => match P.cls[c]? with
      | some k => if k.mode = 2 then if c == d || k.sup.contains d then match exB b (match i with
            | some i => σ.set i (some (.exc c fs))
            | none => σ) h with
          | .rt t h => .rt t h
          | _ => .stuck
        else exH r c fs σ h
      else .stuck
      | none => .stuck
end
end
/-- slots at a def's start -/
def startT (np ns : Nat) (vs : List T) : Sl := vs.map some ++ List.replicate (ns - np) none
/-- a def's end; an __init__ of a class whose instances do not change hands its instance back -/
def fin (σ : Sl) (h : Hl) (vs : List T) : R T := match vs with
  | .bI _ _ :: _ => match σ with
    | some (.bI c fs) :: _ => .ok (.bI c fs) h
    | _ => .stuck
  | _ => .ok .non h
/-- a def called: by depth -/
def run (P : Prog) (W : Nat) : Nat → Nat → List T → Hl → R T
  | 0, _, _, _ => .stuck
  | d + 1, f, vs, h => match P.defs[f]? with
    | none => .stuck
    | some k => if vs.length = k.np then match exB P (run P W d) W k.body (startT k.np k.ns vs) h with
        | .nx σ h => fin σ h vs
        | .rt t h => match vs with
          | .bI _ _ :: _ => .stuck
          | _ => .ok t h
        | .err c fs σ h => if P.exc then .err c fs h else .stuck
        | _ => .stuck
      else .stuck
end Kb
end
end
section
set_option Elab.async false
set_option linter.all false
set_option maxRecDepth 100000
set_option maxHeartbeats 4000000
set_option autoImplicit false
/-! Kb1: how the trees and cells stand in the layer's heap; what holds behind an expression. -/
namespace Kb
open PySem L2
abbrev Vv := L2.V
abbrev Hp := L2.Hp
def Ex (H H' : Hp) : Prop := ∀ a o, H a = some o → H' a = some o
theorem Ex.refl (H : Hp) : Ex H H := fun _ _ h => h
theorem Ex.trans {H H1 H2 : Hp} (a : Ex H H1) (b : Ex H1 H2) : Ex H H2 := fun x o h => b x o (a x o h)
theorem Ex.sq {K : PySem.W.Frag} {H H' : Hp} {a : Addr} {xs : List Vv} (e : Ex H H') (h : SqL K H a xs) : SqL K H' a xs := by
  rcases h with (h | ⟨o, h⟩) | h
  · exact .inl (.inl (e _ _ h))
  · exact .inl (.inr ⟨o, e _ _ h⟩)
  · exact .inr h
theorem Ex.st {K : PySem.W.Frag} {H H' : Hp} {a : Addr} {xs : List Vv} (e : Ex H H') (h : SqT K H a xs) : SqT K H' a xs := by
  rcases h with (h | ⟨o, h⟩) | h
  · exact .inl (.inl (e _ _ h))
  · exact .inl (.inr ⟨o, e _ _ h⟩)
  · exact .inr h
theorem Ex.new {H : Hp} {p : Addr} {o : HO} (h : H p = none) : Ex H (upd H p o) := fun a u e => by
  rw [upd_ne (ne_of_none e h)]; exact e
/-- the text's tables: the written part, where the classes stand, the names of attributes -/
structure Gm where
  K : PySem.W.Frag
  ca : Nat → Addr
  nm : List Str
  /-- the classes of instances -/
  cok : Nat → Prop
def strV (s : List Nat) : Str := ⟨s.toArray⟩
theorem strV_len (s : List Nat) : (strV s).length = s.length := by simp [strV, Str.length]
theorem strV_list (s : List Nat) : (strV s).cps.toList = s := by simp [strV]
theorem strV_inj {s t : List Nat} (h : strV s = strV t) : s = t := by
  have := congrArg (fun z : Str => z.cps.toList) h
  simpa [strV] using this
mutual
inductive Rep (G : Gm) (ρ : List Addr) (Hf : Hp) : T → Vv → Prop
  | non : Rep G ρ Hf .non .non
  | bl (b : Bool) : Rep G ρ Hf (.bl b) (.bl b)
  | int (i : Int) : Rep G ρ Hf (.int i) (.int i)
  | str (s : List Nat) : Rep G ρ Hf (.str s) (.str (strV s))
  | lst {a : Addr} {xs : List T} {vs : List Vv} (h : Hf a = some (.lst vs)) (r : Reps G ρ Hf xs vs) : Rep G ρ Hf (.lst xs) (.ref a)
  | tup {a : Addr} {xs : List T} {vs : List Vv} (h : SqT G.K Hf a vs) (r : Reps G ρ Hf xs vs) : Rep G ρ Hf (.tup xs) (.ref a)
  | ins {a dx : Addr} {c : Nat} {fs : List (Nat × T)} {gs : List (Str × Vv)} (k : G.cok c) (h : Hf a = some (.ins (G.ca c) dx gs)) (r : RepF G ρ Hf fs gs) : Rep G ρ Hf (.ins c fs) (.ref a)
  | dct {a : Addr} {o : PySem.Obj} {kvs : List (T × T)} {gs : List (L2.Key × Vv)} (h : Hf a = some (.frz o (.dK gs))) (r : RepK G ρ Hf kvs gs) : Rep G ρ Hf (.dct kvs) (.ref a)
  | rf {n : Nat} {a : Addr} (h : ρ[n]? = some a) : Rep G ρ Hf (.rf n) (.ref a)
  | kl {a : Addr} {ns : List Int} (h : SqL G.K Hf a (ns.map L2.V.int)) : Rep G ρ Hf (.kl ns) (.ref a)
inductive Reps (G : Gm) (ρ : List Addr) (Hf : Hp) : List T → List Vv → Prop
  | nil : Reps G ρ Hf [] []
  | cons {t : T} {v : Vv} {ts : List T} {vs : List Vv} (h : Rep G ρ Hf t v) (r : Reps G ρ Hf ts vs) : Reps G ρ Hf (t :: ts) (v :: vs)
inductive RepF (G : Gm) (ρ : List Addr) (Hf : Hp) : List (Nat × T) → List (Str × Vv) → Prop
  | nil : RepF G ρ Hf [] []
  | cons {f : Nat} {x : Str} {t : T} {v : Vv} {ts : List (Nat × T)} {vs : List (Str × Vv)} (n : G.nm[f]? = some x) (h : Rep G ρ Hf t v) (r : RepF G ρ Hf ts vs) : RepF G ρ Hf ((f, t) :: ts) ((x, v) :: vs)
inductive RepK (G : Gm) (ρ : List Addr) (Hf : Hp) : List (T × T) → List (L2.Key × Vv) → Prop
  | nil : RepK G ρ Hf [] []
  | consI {i : Int} {t : T} {v : Vv} {ts : List (T × T)} {vs : List (L2.Key × Vv)} (h : Rep G ρ Hf t v) (r : RepK G ρ Hf ts vs) : RepK G ρ Hf ((.int i, t) :: ts) ((Sum.inl i, v) :: vs)
  | consS {s : List Nat} {t : T} {v : Vv} {ts : List (T × T)} {vs : List (L2.Key × Vv)} (h : Rep G ρ Hf t v) (r : RepK G ρ Hf ts vs) : RepK G ρ Hf ((.str s, t) :: ts) ((Sum.inr (strV s), v) :: vs)
end
section
variable {G : Gm} {ρ ρ' : List Addr} {Hf Hf' : Hp}
mutual
theorem Rep.mono (hp : ∃ l, ρ' = ρ ++ l) (e : Ex Hf Hf') {t : T} {v : Vv} : Rep G ρ Hf t v → Rep G ρ' Hf' t v
  | .non => .non
  | .bl b => .bl b
  | .int i => .int i
  | .str s => .str s
  | .lst h r => .lst (e _ _ h) (Reps.mono hp e r)
  | .tup h r => .tup (e.st h) (Reps.mono hp e r)
  | .ins k h r => .ins k (e _ _ h) (RepF.mono hp e r)
  | .dct h r => .dct (e _ _ h) (RepK.mono hp e r)
  | .rf h => .rf (by
    obtain ⟨l, rfl⟩ := hp
    rw [List.getElem?_append_left (List.getElem?_eq_some_iff.mp h).1]
    exact h)
  | .kl h => .kl (e.sq h)
theorem Reps.mono (hp : ∃ l, ρ' = ρ ++ l) (e : Ex Hf Hf') {ts : List T} {vs : List Vv} : Reps G ρ Hf ts vs → Reps G ρ' Hf' ts vs
  | .nil => .nil
  | .cons h r => .cons (Rep.mono hp e h) (Reps.mono hp e r)
theorem RepF.mono (hp : ∃ l, ρ' = ρ ++ l) (e : Ex Hf Hf') {ts : List (Nat × T)} {vs : List (Str × Vv)} : RepF G ρ Hf ts vs → RepF G ρ' Hf' ts vs
  | .nil => .nil
  | .cons n h r => .cons n (Rep.mono hp e h) (RepF.mono hp e r)
theorem RepK.mono (hp : ∃ l, ρ' = ρ ++ l) (e : Ex Hf Hf') {ts : List (T × T)} {vs : List (L2.Key × Vv)} : RepK G ρ Hf ts vs → RepK G ρ' Hf' ts vs
  | .nil => .nil
  | .consI h r => .consI (Rep.mono hp e h) (RepK.mono hp e r)
  | .consS h r => .consS (Rep.mono hp e h) (RepK.mono hp e r)
end
theorem Reps.length : ∀ {ts : List T} {vs : List Vv}, Reps G ρ Hf ts vs → ts.length = vs.length
  | _, _, .nil => rfl
  | _, _, .cons _ r => by rw [List.length_cons, List.length_cons, Reps.length r]
theorem Reps.get : ∀ {ts : List T} {vs : List Vv} {i : Nat} {t : T}, Reps G ρ Hf ts vs → ts[i]? = some t → ∃ v, vs[i]? = some v ∧ Rep G ρ Hf t v
  | _, _, _, _, .nil, e => by simp at e
  | _, _, 0, _, .cons h _, e => by simp at e; subst e; exact ⟨_, rfl, h⟩
  | _, _, i + 1, t, .cons _ r, e => by
    obtain ⟨v, h1, h2⟩ := Reps.get (i := i) (t := t) r (by simpa using e)
    exact ⟨v, by simpa using h1, h2⟩
theorem Reps.get' : ∀ {ts : List T} {vs : List Vv} {i : Nat} {v : Vv}, Reps G ρ Hf ts vs → vs[i]? = some v → ∃ t, ts[i]? = some t ∧ Rep G ρ Hf t v
  | _, _, _, _, .nil, e => by simp at e
  | _, _, 0, _, .cons h _, e => by simp at e; subst e; exact ⟨_, rfl, h⟩
  | _, _, i + 1, t, .cons _ r, e => by
    obtain ⟨v, h1, h2⟩ := Reps.get' (i := i) (v := t) r (by simpa using e)
    exact ⟨v, by simpa using h1, h2⟩
theorem Reps.append : ∀ {ts us : List T} {vs ws : List Vv}, Reps G ρ Hf ts vs → Reps G ρ Hf us ws → Reps G ρ Hf (ts ++ us) (vs ++ ws)
  | _, _, _, _, .nil, s => s
  | _, _, _, _, .cons h r, s => .cons h (Reps.append r s)
theorem Reps.take : ∀ {ts : List T} {vs : List Vv} (n : Nat), Reps G ρ Hf ts vs → Reps G ρ Hf (ts.take n) (vs.take n)
  | _, _, 0, _ => .nil
  | _, _, _ + 1, .nil => .nil
  | _, _, n + 1, .cons h r => .cons h (Reps.take n r)
theorem Reps.drop : ∀ {ts : List T} {vs : List Vv} (n : Nat), Reps G ρ Hf ts vs → Reps G ρ Hf (ts.drop n) (vs.drop n)
  | _, _, 0, r => r
  | _, _, _ + 1, .nil => .nil
  | _, _, n + 1, .cons _ r => Reps.drop n r
theorem Reps.set {t : T} {v : Vv} (h : Rep G ρ Hf t v) : ∀ {ts : List T} {vs : List Vv} (n : Nat), Reps G ρ Hf ts vs → Reps G ρ Hf (ts.set n t) (vs.set n v)
  | _, _, _, .nil => .nil
  | _, _, 0, .cons _ r => .cons h r
  | _, _, n + 1, .cons q r => .cons q (Reps.set h n r)
theorem Reps.rev {ts : List T} {vs : List Vv} (r : Reps G ρ Hf ts vs) : Reps G ρ Hf ts.reverse vs.reverse := by
  induction ts generalizing vs with
  | nil => cases r; exact .nil
  | cons t ts ih =>
    cases r with
    | cons h r =>
      rw [List.reverse_cons, List.reverse_cons]
      exact Reps.append (ih r) (.cons h .nil)
theorem Reps.rep {ts : List T} {vs : List Vv} (r : Reps G ρ Hf ts vs) : ∀ k : Nat, Reps G ρ Hf (List.replicate k ts).flatten (List.replicate k vs).flatten
  | 0 => .nil
  | k + 1 => by
    rw [List.replicate_succ, List.replicate_succ, List.flatten_cons, List.flatten_cons]
    exact Reps.append r (Reps.rep r k)
theorem Reps.dropLast {ts : List T} {vs : List Vv} (r : Reps G ρ Hf ts vs) : Reps G ρ Hf ts.dropLast vs.dropLast := by
  rw [List.dropLast_eq_take, List.dropLast_eq_take, r.length]
  exact r.take _
theorem Reps.eraseIdx : ∀ {ts : List T} {vs : List Vv} (n : Nat), Reps G ρ Hf ts vs → Reps G ρ Hf (ts.eraseIdx n) (vs.eraseIdx n)
  | _, _, _, .nil => .nil
  | _, _, 0, .cons _ r => r
  | _, _, n + 1, .cons q r => .cons q (Reps.eraseIdx n r)
theorem Reps.ints : ∀ {ns : List Int} {vs : List Vv}, Reps G ρ Hf (ns.map T.int) vs → vs = ns.map L2.V.int
  | [], _, .nil => rfl
  | n :: ns, _, .cons h r => by
    cases h
    rw [Reps.ints r]; rfl
theorem reps_ints : ∀ (ns : List Int), Reps G ρ Hf (ns.map T.int) (ns.map L2.V.int)
  | [] => .nil
  | n :: ns => .cons (.int n) (reps_ints ns)
theorem RepF.look (hn : G.nm.Nodup) {f : Nat} {x : Str} (hx : G.nm[f]? = some x) : ∀ {fs : List (Nat × T)} {gs : List (Str × Vv)}, RepF G ρ Hf fs gs →
    (∀ t, lkF f fs = some t → ∃ v, gs.lookup x = some v ∧ Rep G ρ Hf t v) ∧ (lkF f fs = none → gs.lookup x = none)
  | _, _, .nil => ⟨fun t h => by simp [lkF] at h, fun _ => rfl⟩
  | _, _, .cons (f := g) (x := y) (t := u) (v := w) (ts := ts) (vs := vs) n h r => by
    obtain ⟨i1, i2⟩ := RepF.look hn hx r
    by_cases e : g = f
    · subst e
      rw [hx] at n; cases n
      refine ⟨fun t ht => ⟨w, by simp [List.lookup], ?_⟩, fun ht => ?_⟩
      · simp [lkF] at ht; subst ht; exact h
      · simp [lkF] at ht
    · have nx : ¬ x = y := fun z => by
        subst z
        exact e ((List.getElem_inj hn).mp ((List.getElem?_eq_some_iff.mp n).2.trans (List.getElem?_eq_some_iff.mp hx).2.symm))
      have nb : (x == y) = false := by simpa using nx
      refine ⟨fun t ht => ?_, fun ht => ?_⟩
      · simp only [lkF, if_neg e] at ht
        obtain ⟨v, h1, h2⟩ := i1 t ht
        exact ⟨v, by simp only [List.lookup, nb]; exact h1, h2⟩
      · simp only [lkF, if_neg e] at ht
        simp only [List.lookup, nb]; exact i2 ht
theorem RepF.put (hn : G.nm.Nodup) {f : Nat} {x : Str} (hx : G.nm[f]? = some x) {t : T} {v : Vv} (ht : Rep G ρ Hf t v) : ∀ {fs : List (Nat × T)} {gs : List (Str × Vv)}, RepF G ρ Hf fs gs →
    RepF G ρ Hf (putF f t fs) (L2.putF x v gs)
  | _, _, .nil => .cons hx ht .nil
  | _, _, .cons (f := g) (x := y) (t := u) (v := w) (ts := ts) (vs := vs) n h r => by
    by_cases e : g = f
    · subst e
      rw [hx] at n; cases n
      simp only [putF, L2.putF, if_pos rfl]
      exact .cons hx ht r
    · have nx : ¬ y = x := fun z => by
        subst z
        exact e ((List.getElem_inj hn).mp ((List.getElem?_eq_some_iff.mp n).2.trans (List.getElem?_eq_some_iff.mp hx).2.symm))
      simp only [putF, L2.putF, if_neg e, if_neg nx]
      exact .cons n h (RepF.put hn hx ht r)
theorem RepF.len : ∀ {fs : List (Nat × T)} {gs : List (Str × Vv)}, RepF G ρ Hf fs gs → fs.length = gs.length
  | _, _, .nil => rfl
  | _, _, .cons _ _ r => by rw [List.length_cons, List.length_cons, RepF.len r]
end
/-! ### cells, owned things -/
def CellR (G : Gm) (ρ : List Addr) (Hf H : Hp) (a : Addr) : C → Prop
  | .lst xs => ∃ vs, H a = some (.lst vs) ∧ Reps G ρ Hf xs vs
  | .ins c fs => ∃ dx gs, H a = some (.ins (G.ca c) dx gs) ∧ RepF G ρ Hf fs gs ∧ G.cok c
  | .dct kvs => ∃ gs, H a = some (.dK gs) ∧ RepK G ρ Hf kvs gs
theorem CellR.there {G : Gm} {ρ : List Addr} {Hf H : Hp} {a : Addr} {c : C} (h : CellR G ρ Hf H a c) : ∃ o, H a = some o := by
  cases c with
  | lst xs => obtain ⟨vs, h, _⟩ := h; exact ⟨_, h⟩
  | ins c fs => obtain ⟨dx, gs, h, _⟩ := h; exact ⟨_, h⟩
  | dct kvs => obtain ⟨gs, h, _⟩ := h; exact ⟨_, h⟩
theorem CellR.mono {G : Gm} {ρ ρ' : List Addr} {Hf Hf' H H' : Hp} {a : Addr} {c : C} (hp : ∃ l, ρ' = ρ ++ l) (e : Ex Hf Hf') (ha : ∀ o, H a = some o → H' a = some o) (h : CellR G ρ Hf H a c) : CellR G ρ' Hf' H' a c := by
  cases c with
  | lst xs => obtain ⟨vs, h, r⟩ := h; exact ⟨vs, ha _ h, r.mono hp e⟩
  | ins c fs => obtain ⟨dx, gs, h, r, k⟩ := h; exact ⟨dx, gs, ha _ h, r.mono hp e, k⟩
  | dct kvs => obtain ⟨gs, h, r⟩ := h; exact ⟨gs, ha _ h, r.mono hp e⟩
/-- heaps: Z what stood at the def's entry; Hf what stands for ever; ρ where the cells are -/
structure Sto (G : Gm) (Z : Hp) (ρ : List Addr) (Hf : Hp) (hp : Hl) (H : Hp) : Prop where
  ex : Ex Hf H
  len : ρ.length = hp.length
  nd : ρ.Nodup
  cell : ∀ (n : Nat) (a : Addr) (c : C), ρ[n]? = some a → hp[n]? = some c → CellR G ρ Hf H a c ∧ Hf a = none
  dom : ∀ a o, Z a = some o → ∃ o', H a = some o'
theorem Sto.at {G : Gm} {Z : Hp} {ρ : List Addr} {Hf H : Hp} {hp : Hl} (S : Sto G Z ρ Hf hp H) {n : Nat} {c : C} (h : hp[n]? = some c) : ∃ a, ρ[n]? = some a ∧ CellR G ρ Hf H a c ∧ Hf a = none := by
  have hl := (List.getElem?_eq_some_iff.mp h).1
  rw [← S.len] at hl
  exact ⟨ρ[n], List.getElem?_eq_getElem hl, S.cell n _ c (List.getElem?_eq_getElem hl) h⟩
theorem Sto.mem {G : Gm} {Z : Hp} {ρ : List Addr} {Hf H : Hp} {hp : Hl} (S : Sto G Z ρ Hf hp H) {a : Addr} (h : a ∈ ρ) : ∃ (n : Nat) (c : C), ρ[n]? = some a ∧ hp[n]? = some c ∧ CellR G ρ Hf H a c ∧ Hf a = none := by
  obtain ⟨n, hn, rfl⟩ := List.getElem_of_mem h
  have hl : n < hp.length := by rw [← S.len]; exact hn
  obtain ⟨c1, c2⟩ := S.cell n _ hp[n] (List.getElem?_eq_getElem hn) (List.getElem?_eq_getElem hl)
  exact ⟨n, hp[n], List.getElem?_eq_getElem hn, List.getElem?_eq_getElem hl, c1, c2⟩
theorem Sto.ofZ {G : Gm} {Z Z' : Hp} {ρ : List Addr} {Hf H : Hp} {hp : Hl} (S : Sto G Z ρ Hf hp H) (h : ∀ a o, Z' a = some o → ∃ o', H a = some o') : Sto G Z' ρ Hf hp H := ⟨S.ex, S.len, S.nd, S.cell, h⟩
/-- what an expression (or a call) does to the heaps; x: an object that it may change all the same -/
structure Nxt (x : Option Addr) (ρ : List Addr) (Hf H : Hp) (ρ' : List Addr) (Hf' H' : Hp) : Prop where
  pre : ∃ l, ρ' = ρ ++ l
  hf : Ex Hf Hf'
  fr : ∀ a o, H a = some o → a ∉ ρ → x ≠ some a → H' a = some o
  nw : ∀ a, a ∈ ρ' → a ∉ ρ → H a = none
  hn : ∀ a o, Hf' a = some o → Hf a = none → H a = none
theorem Nxt.refl {x : Option Addr} {ρ : List Addr} {Hf H : Hp} : Nxt x ρ Hf H ρ Hf H :=
  ⟨⟨[], by simp⟩, Ex.refl _, fun _ _ h _ _ => h, fun _ h n => (n h).elim, fun a o h n => by rw [n] at h; cases h⟩
theorem Nxt.trans {G : Gm} {Z : Hp} {hp : Hl} {x : Option Addr} {ρ ρ1 ρ2 : List Addr} {Hf H Hf1 H1 Hf2 H2 : Hp} (S1 : Sto G Z ρ1 Hf1 hp H1) (A : Nxt x ρ Hf H ρ1 Hf1 H1) (B : Nxt x ρ1 Hf1 H1 ρ2 Hf2 H2) (hx : ∀ a, x = some a → ∃ o, H1 a = some o := by intro a h; cases h) : Nxt x ρ Hf H ρ2 Hf2 H2 := by
  obtain ⟨l, e1⟩ := A.pre
  obtain ⟨m, e2⟩ := B.pre
  have sub : ∀ a, a ∈ ρ → a ∈ ρ1 := fun a h => by rw [e1]; exact List.mem_append_left _ h
  have known : ∀ a o, H a = some o → ∃ o', H1 a = some o' := fun a o h => by
    by_cases ha : a ∈ ρ
    · obtain ⟨_, _, _, _, c, _⟩ := S1.mem (sub a ha)
      exact c.there
    · by_cases hxa : x = some a
      · exact hx a hxa
      · exact ⟨o, A.fr a o h ha hxa⟩
  have fresh : ∀ a, H1 a = none → H a = none := fun a h => by
    cases q : H a with
    | none => rfl
    | some o =>
      obtain ⟨o', h'⟩ := known a o q
      rw [h] at h'; cases h'
  refine ⟨⟨l ++ m, by rw [e2, e1, List.append_assoc]⟩, A.hf.trans B.hf, fun a o h na hxa => ?_, fun a h na => ?_, fun a o h na => ?_⟩
  · have n1 : a ∉ ρ1 := fun z => by
      have := A.nw a z na
      rw [h] at this; cases this
    exact B.fr a o (A.fr a o h na hxa) n1 hxa
  · by_cases h1 : a ∈ ρ1
    · exact A.nw a h1 na
    · exact fresh a (B.nw a h h1)
  · cases q : Hf1 a with
    | some u => exact A.hn a u q na
    | none => exact fresh a (B.hn a o h q)
theorem Nxt.wide {x : Option Addr} {ρ ρ1 : List Addr} {Hf H Hf1 H1 : Hp} (A : Nxt none ρ Hf H ρ1 Hf1 H1) : Nxt x ρ Hf H ρ1 Hf1 H1 := ⟨A.pre, A.hf, fun a o h n _ => A.fr a o h n (by simp), A.nw, A.hn⟩
theorem Ex.free0 {Hf H : Hp} (e : Ex Hf H) {p : Addr} (h : H p = none) : Hf p = none := by
  cases q : Hf p with
  | none => rfl
  | some o => rw [e p o q] at h; cases h
/-- a new object that stands for ever -/
theorem Nxt.new {ρ : List Addr} {Hf H : Hp} {p : Addr} {o : HO} (ex : Ex Hf H) (h : H p = none) : Nxt none ρ Hf H ρ (upd Hf p o) (upd H p o) where
  pre := ⟨[], by simp⟩
  hf := Ex.new (ex.free0 h)
  fr := fun a u e _ _ => by rw [upd_ne (ne_of_none e h)]; exact e
  nw := fun _ h n => (n h).elim
  hn := fun a u e n => by
    by_cases z : a = p
    · subst z; exact h
    · rw [upd_ne z, n] at e; cases e
theorem Ex.upd2 {Hf H : Hp} (e : Ex Hf H) {p : Addr} {o : HO} : Ex (upd Hf p o) (upd H p o) := fun a u h => by
  by_cases z : a = p
  · subst z; rw [upd_same] at h ⊢; exact h
  · rw [upd_ne z] at h ⊢; exact e a u h
theorem Ex.updR {Hf H : Hp} (e : Ex Hf H) {p : Addr} {o : HO} (n : Hf p = none) : Ex Hf (upd H p o) := fun a u h => by
  rw [upd_ne (ne_of_none h n)]; exact e a u h
theorem Sto.new {G : Gm} {Z : Hp} {ρ : List Addr} {Hf H : Hp} {hp : Hl} (S : Sto G Z ρ Hf hp H) {p : Addr} {o : HO} (h : H p = none) : Sto G Z ρ (upd Hf p o) hp (upd H p o) where
  ex := S.ex.upd2
  len := S.len
  nd := S.nd
  cell := fun n a c h1 h2 => by
    obtain ⟨c1, c2⟩ := S.cell n a c h1 h2
    obtain ⟨u, hu⟩ := c1.there
    have ne : a ≠ p := ne_of_none hu h
    exact ⟨c1.mono ⟨[], by simp⟩ (Ex.new (S.ex.free0 h)) fun o q => by rw [upd_ne ne]; exact q, by rw [upd_ne ne]; exact c2⟩
  dom := fun a u e => by
    obtain ⟨u', h'⟩ := S.dom a u e
    exact ⟨u', by rw [upd_ne (ne_of_none h' h)]; exact h'⟩
/-- a new object that is no one's yet -/
theorem Sto.newB {G : Gm} {Z : Hp} {ρ : List Addr} {Hf H : Hp} {hp : Hl} (S : Sto G Z ρ Hf hp H) {p : Addr} {o : HO} (h : H p = none) : Sto G Z ρ Hf hp (upd H p o) where
  ex := S.ex.updR (S.ex.free0 h)
  len := S.len
  nd := S.nd
  cell := fun n a c h1 h2 => by
    obtain ⟨c1, c2⟩ := S.cell n a c h1 h2
    obtain ⟨u, hu⟩ := c1.there
    exact ⟨c1.mono ⟨[], by simp⟩ (Ex.refl _) fun o q => by rw [upd_ne (ne_of_none hu h)]; exact q, c2⟩
  dom := fun a u e => by
    obtain ⟨u', h'⟩ := S.dom a u e
    exact ⟨u', by rw [upd_ne (ne_of_none h' h)]; exact h'⟩
theorem Nxt.newB {ρ : List Addr} {Hf H : Hp} {p : Addr} {o : HO} (h : H p = none) : Nxt none ρ Hf H ρ Hf (upd H p o) where
  pre := ⟨[], by simp⟩
  hf := Ex.refl _
  fr := fun a u e _ _ => by rw [upd_ne (ne_of_none e h)]; exact e
  nw := fun _ h n => (n h).elim
  hn := fun a u e n => by rw [n] at e; cases e
/-! ### values of expressions: also what a slot holds -/
def RepB (G : Gm) (ρ : List Addr) (Hf H : Hp) : T → Vv → Prop
  | .bL xs, v => ∃ a vs, v = .ref a ∧ H a = some (.lst vs) ∧ Reps G ρ Hf xs vs ∧ Hf a = none ∧ a ∉ ρ
  | .bD kvs, v => ∃ a gs, v = .ref a ∧ H a = some (.dK gs) ∧ RepK G ρ Hf kvs gs ∧ Hf a = none ∧ a ∉ ρ
  | .bI c fs, v => ∃ a dx gs, v = .ref a ∧ H a = some (.ins (G.ca c) dx gs) ∧ RepF G ρ Hf fs gs ∧ Hf a = none ∧ a ∉ ρ ∧ G.cok c
  | .exc c fs, v => v = .ref (G.ca 1000000) ∧ G.ca 1000003 = 1 ∧ G.ca c = G.ca 1000002 ∧ ∃ gs, Hf (G.ca 1000001) = some (.xd gs) ∧ RepF G ρ Hf fs gs
  | t, v => Rep G ρ Hf t v
theorem Rep.toB {G : Gm} {ρ : List Addr} {Hf H : Hp} {t : T} {v : Vv} (r : Rep G ρ Hf t v) : RepB G ρ Hf H t v := by
  cases r with
  | non => exact .non
  | bl b => exact .bl b
  | int i => exact .int i
  | str s => exact .str s
  | lst h r => exact .lst h r
  | tup h r => exact .tup h r
  | ins k h r => exact .ins k h r
  | dct h r => exact .dct h r
  | rf h => exact .rf h
  | kl h => exact .kl h
theorem RepB.plain {G : Gm} {ρ : List Addr} {Hf H : Hp} {t : T} {v : Vv} (p : plainT t = true) (r : RepB G ρ Hf H t v) : Rep G ρ Hf t v := by
  cases t <;> first | exact r | (simp [plainT, isBor, isExc] at p)
inductive RepBs (G : Gm) (ρ : List Addr) (Hf H : Hp) : List T → List Vv → Prop
  | nil : RepBs G ρ Hf H [] []
  | cons {t : T} {v : Vv} {ts : List T} {vs : List Vv} (h : RepB G ρ Hf H t v) (r : RepBs G ρ Hf H ts vs) : RepBs G ρ Hf H (t :: ts) (v :: vs)
theorem RepBs.plain {G : Gm} {ρ : List Addr} {Hf H : Hp} : ∀ {ts : List T} {vs : List Vv}, ts.all plainT = true → RepBs G ρ Hf H ts vs → Reps G ρ Hf ts vs
  | _, _, _, .nil => .nil
  | _, _, p, .cons h r => by
    simp only [List.all_cons, Bool.and_eq_true] at p
    exact .cons (h.plain p.1) (RepBs.plain p.2 r)
/-- carried on -/
theorem RepB.nxt {G : Gm} {Z : Hp} {ρ ρ' : List Addr} {Hf H Hf' H' : Hp} {t : T} {v : Vv} (N : Nxt none ρ Hf H ρ' Hf' H') (r : RepB G ρ Hf H t v) : RepB G ρ' Hf' H' t v := by
  have new : ∀ {a : Addr} {o : HO}, H a = some o → Hf a = none → a ∉ ρ → Hf' a = none ∧ a ∉ ρ' := fun {a o} h n m => by
    refine ⟨?_, fun z => ?_⟩
    · cases q : Hf' a with
      | none => rfl
      | some u =>
        have e := N.hn a u q n
        rw [h] at e; cases e
    · have e := N.nw a z m
      rw [h] at e; cases e
  cases t with
  | bL xs =>
    obtain ⟨a, vs, e, h, q, n, m⟩ := r
    obtain ⟨n', m'⟩ := new h n m
    exact ⟨a, vs, e, N.fr a _ h m (by simp), q.mono N.pre N.hf, n', m'⟩
  | bD xs =>
    obtain ⟨a, vs, e, h, q, n, m⟩ := r
    obtain ⟨n', m'⟩ := new h n m
    exact ⟨a, vs, e, N.fr a _ h m (by simp), q.mono N.pre N.hf, n', m'⟩
  | bI c fs =>
    obtain ⟨a, dx, vs, e, h, q, n, m, k⟩ := r
    obtain ⟨n', m'⟩ := new h n m
    exact ⟨a, dx, vs, e, N.fr a _ h m (by simp), q.mono N.pre N.hf, n', m', k⟩
  | exc c fs =>
    obtain ⟨e1, e0, e2, gs, e3, q⟩ := r
    exact ⟨e1, e0, e2, gs, N.hf _ _ e3, q.mono N.pre N.hf⟩
  | _ => exact Rep.toB (Rep.mono N.pre N.hf r)
theorem RepBs.nxt {G : Gm} {Z : Hp} {ρ ρ' : List Addr} {Hf H Hf' H' : Hp} (N : Nxt none ρ Hf H ρ' Hf' H') : ∀ {ts : List T} {vs : List Vv}, RepBs G ρ Hf H ts vs → RepBs G ρ' Hf' H' ts vs
  | _, _, .nil => .nil
  | _, _, .cons h r => .cons (RepB.nxt (Z := Z) N h) (RepBs.nxt (Z := Z) N r)
/-- slots -/
structure Slots (G : Gm) (ρ : List Addr) (Hf H : Hp) (lσ : Sl) (σ : L2.St) : Prop where
  len : lσ.length ≤ σ.length
  slot : ∀ (i : Nat) (t : T), lσ[i]? = some (some t) → ∃ v, σ[i]? = some (some v) ∧ RepB G ρ Hf H t v
  sep : ∀ (i j : Nat) (t u : T) (a : Addr), i ≠ j → lσ[i]? = some (some t) → lσ[j]? = some (some u) → isBor t = true → isBor u = true → σ[i]? = some (some (.ref a)) → σ[j]? = some (some (.ref a)) → False
theorem Slots.nxt {G : Gm} {ρ ρ' : List Addr} {Hf H Hf' H' : Hp} {lσ : Sl} {σ : L2.St} (N : Nxt none ρ Hf H ρ' Hf' H') (L : Slots G ρ Hf H lσ σ) : Slots G ρ' Hf' H' lσ σ :=
  ⟨L.len, fun i t h => let ⟨v, h1, h2⟩ := L.slot i t h; ⟨v, h1, RepB.nxt (Z := Hf) N h2⟩, L.sep⟩
/-! ### what is wanted behind an expression -/
section
variable (G : Gm) (Z : Hp) (W : L2.WX) (σ : L2.St)
/-- the way out by an error -/
def PErr (ρ : List Addr) (Hf H : Hp) (c : Nat) (fs : List (Nat × T)) (h' : Hl) : Prop :=
  ∀ ρ' Hf' H' d gs, Nxt none ρ Hf H ρ' Hf' H' → Sto G Z ρ' Hf' h' H' → Hf' d = some (.xd gs) → RepF G ρ' Hf' fs gs → W (.ref (G.ca c)) (some d) σ H'
def Post {α β : Type} (RR : List Addr → Hp → Hp → α → β → Prop) (ρ : List Addr) (Hf H : Hp) (Q : β → Hp → Prop) : R α → Prop
  | .ok t h' => ∀ ρ' Hf' H' v, Nxt none ρ Hf H ρ' Hf' H' → Sto G Z ρ' Hf' h' H' → RR ρ' Hf' H' t v → Q v H'
  | .err c fs h' => PErr G Z W σ ρ Hf H c fs h'
  | .stuck => False
end
section
variable {G : Gm} {Z : Hp} {W : L2.WX} {σ : L2.St} {α β γ δ : Type} {RR : List Addr → Hp → Hp → α → β → Prop} {RS : List Addr → Hp → Hp → γ → δ → Prop} {ρ ρ1 : List Addr} {Hf H Hf1 H1 : Hp} {Q : β → Hp → Prop} {hp : Hl}
theorem PErr.from {c : Nat} {fs : List (Nat × T)} {h' : Hl} (S1 : Sto G Z ρ1 Hf1 hp H1) (N : Nxt none ρ Hf H ρ1 Hf1 H1) (p : PErr G Z W σ ρ Hf H c fs h') : PErr G Z W σ ρ1 Hf1 H1 c fs h' :=
  fun ρ' Hf' H' d gs N' S' => p ρ' Hf' H' d gs (N.trans S1 N') S'
theorem Post.from {x : R α} (S1 : Sto G Z ρ1 Hf1 hp H1) (N : Nxt none ρ Hf H ρ1 Hf1 H1) (p : Post G Z W σ RR ρ Hf H Q x) : Post G Z W σ RR ρ1 Hf1 H1 Q x := by
  cases x with
  | ok t h' => exact fun ρ' Hf' H' v N' S' => p ρ' Hf' H' v (N.trans S1 N') S'
  | err c fs h' => exact PErr.from S1 N p
  | stuck => exact p
theorem Post.imp {Q' : β → Hp → Prop} {x : R α} (p : Post G Z W σ RR ρ Hf H Q x) (h : ∀ b H', Q b H' → Q' b H') : Post G Z W σ RR ρ Hf H Q' x := by
  cases x with
  | ok t h' => exact fun ρ' Hf' H' v N' S' r => h _ _ (p ρ' Hf' H' v N' S' r)
  | err c fs h' => exact p
  | stuck => exact p
/-- in a row -/
theorem Post.bind {Q : δ → Hp → Prop} {x : R α} {f : α → Hl → R γ} (h : Post G Z W σ RS ρ Hf H Q (x.bind f)) (RR : List Addr → Hp → Hp → α → β → Prop) :
    Post G Z W σ RR ρ Hf H (fun b H' => ∃ a h' ρ' Hf', x = .ok a h' ∧ Nxt none ρ Hf H ρ' Hf' H' ∧ Sto G Z ρ' Hf' h' H' ∧ RR ρ' Hf' H' a b ∧ Post G Z W σ RS ρ' Hf' H' Q (f a h')) x := by
  cases x with
  | ok a h' => exact fun ρ' Hf' H' v N' S' r => ⟨a, h', ρ', Hf', rfl, N', S', r, Post.from S' N' h⟩
  | err c fs h' => exact h
  | stuck => exact h
theorem Post.ret {t : α} {h' : Hl} {v : β} (p : Post G Z W σ RR ρ Hf H Q (.ok t h')) (S : Sto G Z ρ Hf h' H) (r : RR ρ Hf H t v) : Q v H := p ρ Hf H v .refl S r
end
section
variable (P : Prog) (call : Nat → List T → Hl → R T) (G : Gm) (W : L2.WX)
/-- an expression's reading by the interpreter -/
def tE (e : E) : TE := fun σ H Q => ∃ Z ρ Hf lσ hp, Sto G Z ρ Hf hp H ∧ Slots G ρ Hf H lσ σ ∧ Post G Z W σ (RepB G) ρ Hf H Q (evE P call e lσ hp)
def tTe (e : E) : TT := fun σ H Q => ∃ Z ρ Hf lσ hp, Sto G Z ρ Hf hp H ∧ Slots G ρ Hf H lσ σ ∧ Post G Z W σ (fun _ _ _ (a b : Bool) => a = b) ρ Hf H Q (evT P call e lσ hp)
def tEs (es : Es) : TA := fun σ H Q => ∃ Z ρ Hf lσ hp, Sto G Z ρ Hf hp H ∧ Slots G ρ Hf H lσ σ ∧ Post G Z W σ (RepBs G) ρ Hf H Q (evEs P call es lσ hp)
def tO (e : Eo) : L2.TO := fun σ H Q => ∃ Z ρ Hf lσ hp, Sto G Z ρ Hf hp H ∧ Slots G ρ Hf H lσ σ ∧ Post G Z W σ (fun _ _ _ (a b : Option Int) => a = b) ρ Hf H Q (evO P call e lσ hp)
/-- a new list or dict, as it lies -/
def AllocR (G : Gm) (Z : Hp) (ρ : List Addr) (Hf H : Hp) (c : C) (v : Vv) : Prop := ∃ a, v = .ref a ∧ CellR G ρ Hf H a c ∧ Hf a = none ∧ a ∉ ρ ∧ Z a = none ∧ ∀ b gs, c = .ins b gs → False
def tA (a : A) : TE := fun σ H Q => ∃ Z ρ Hf lσ hp, Sto G Z ρ Hf hp H ∧ Slots G ρ Hf H lσ σ ∧ Post G Z W σ (AllocR G Z) ρ Hf H Q (evA P call a lσ hp)
end
end Kb
end
section
set_option Elab.async false
set_option linter.all false
set_option maxRecDepth 100000
set_option maxHeartbeats 4000000
set_option autoImplicit false
/-! Kb2: operations by values. -/
namespace Kb
open PySem L2
theorem maxLen_eq : maxLen = sizeLine := by rw [sizeLine_eq]; rfl
section
variable {G : Gm} {Z : Hp} {W : L2.WX} {σ : L2.St} {ρ : List Addr} {Hf H : Hp} {hp : Hl} {Q : L2.VK}
theorem B_int {i : Int} {v : Vv} (r : RepB G ρ Hf H (.int i) v) : v = .int i := by cases (show Rep G ρ Hf (.int i) v from r); rfl
theorem B_bl {i : Bool} {v : Vv} (r : RepB G ρ Hf H (.bl i) v) : v = .bl i := by cases (show Rep G ρ Hf (.bl i) v from r); rfl
theorem B_str {i : List Nat} {v : Vv} (r : RepB G ρ Hf H (.str i) v) : v = .str (strV i) := by cases (show Rep G ρ Hf (.str i) v from r); rfl
theorem B_non {v : Vv} (r : RepB G ρ Hf H .non v) : v = .non := by cases (show Rep G ρ Hf .non v from r); rfl
theorem B_tup {xs : List T} {v : Vv} (r : RepB G ρ Hf H (.tup xs) v) : ∃ a vs, v = .ref a ∧ SqT G.K Hf a vs ∧ Reps G ρ Hf xs vs := by
  cases (show Rep G ρ Hf (.tup xs) v from r) with
  | tup h q => exact ⟨_, _, rfl, h, q⟩
theorem B_lst {xs : List T} {v : Vv} (r : RepB G ρ Hf H (.lst xs) v) : ∃ a vs, v = .ref a ∧ Hf a = some (.lst vs) ∧ Reps G ρ Hf xs vs := by
  cases (show Rep G ρ Hf (.lst xs) v from r) with
  | lst h q => exact ⟨_, _, rfl, h, q⟩
theorem B_rf {n : Nat} {v : Vv} (r : RepB G ρ Hf H (.rf n) v) : ∃ a, v = .ref a ∧ ρ[n]? = some a := by
  cases (show Rep G ρ Hf (.rf n) v from r) with
  | rf h => exact ⟨_, rfl, h⟩
theorem B_kl {xs : List Int} {v : Vv} (r : RepB G ρ Hf H (.kl xs) v) : ∃ a, v = .ref a ∧ SqL G.K Hf a (xs.map L2.V.int) := by
  cases (show Rep G ρ Hf (.kl xs) v from r) with
  | kl h => exact ⟨_, rfl, h⟩
theorem lst'_at (S : Sto G Z ρ Hf hp H) {t : T} {xs : List T} {v : Vv} (e : lstOf' t hp = some xs) (r : RepB G ρ Hf H t v) : ∃ a vs, v = .ref a ∧ H a = some (.lst vs) ∧ Reps G ρ Hf xs vs := by
  cases t with
  | lst ys =>
    simp only [lstOf', seqOf] at e; cases e
    obtain ⟨a, vs, h1, h2, h3⟩ := B_lst r
    exact ⟨a, vs, h1, S.ex _ _ h2, h3⟩
  | bL ys =>
    simp only [lstOf', seqOf] at e; cases e
    obtain ⟨a, vs, h1, h2, h3, _⟩ := r
    exact ⟨a, vs, h1, h2, h3⟩
  | rf n =>
    obtain ⟨a, h1, h2⟩ := B_rf r
    simp only [lstOf', seqOf] at e
    split at e
    · rename_i ys hn
      cases e
      obtain ⟨⟨vs, h3, h4⟩, _⟩ := S.cell n a _ h2 hn
      exact ⟨a, vs, h1, h3, h4⟩
    · cases e
  | _ => simp [lstOf', seqOf] at e
theorem lst_at (S : Sto G Z ρ Hf hp H) {t : T} {xs : List T} {v : Vv} (e : lstOf t hp = some xs) (r : RepB G ρ Hf H t v) : ∃ a vs, v = .ref a ∧ SqL G.K H a vs ∧ Reps G ρ Hf xs vs := by
  cases t with
  | kl ys =>
    simp only [lstOf, seqOf] at e; cases e
    obtain ⟨a, h1, h2⟩ := B_kl r
    exact ⟨a, _, h1, S.ex.sq h2, reps_ints ys⟩
  | tup ys => simp [lstOf] at e
  | _ =>
    obtain ⟨a, vs, h1, h2, h3⟩ := lst'_at S (by first | exact e | (simp [lstOf, seqOf] at e)) r
    exact ⟨a, vs, h1, SqL.of h2, h3⟩
theorem seq_at (S : Sto G Z ρ Hf hp H) {t : T} {xs : List T} {v : Vv} (e : seqOf t hp = some xs) (r : RepB G ρ Hf H t v) : ∃ a vs, v = .ref a ∧ (SqL G.K H a vs ∨ SqT G.K H a vs) ∧ Reps G ρ Hf xs vs := by
  cases t with
  | tup ys =>
    simp only [seqOf] at e; cases e
    obtain ⟨a, vs, h1, h2, h3⟩ := B_tup r
    exact ⟨a, vs, h1, .inr (S.ex.st h2), h3⟩
  | _ =>
    obtain ⟨a, vs, h1, h2, h3⟩ := lst_at S (by first | exact e | (simp [lstOf, seqOf] at e)) r
    exact ⟨a, vs, h1, .inl h2, h3⟩
theorem ins_at (S : Sto G Z ρ Hf hp H) {t : T} {c : Nat} {fs : List (Nat × T)} {v : Vv} (e : insOf t hp = some (c, fs)) (r : RepB G ρ Hf H t v) : ∃ a dx gs, v = .ref a ∧ H a = some (.ins (G.ca c) dx gs) ∧ RepF G ρ Hf fs gs ∧ G.cok c := by
  cases t with
  | ins c' fs' =>
    simp only [insOf] at e; cases e
    cases (show Rep G ρ Hf (.ins c fs) v from r) with
    | ins k h q => exact ⟨_, _, _, rfl, S.ex _ _ h, q, k⟩
  | bI c' fs' =>
    simp only [insOf] at e; cases e
    obtain ⟨a, dx, gs, h1, h2, h3, _, _, k⟩ := r
    exact ⟨a, dx, gs, h1, h2, h3, k⟩
  | rf n =>
    obtain ⟨a, h1, h2⟩ := B_rf r
    simp only [insOf] at e
    split at e
    · rename_i ys hn
      cases e
      obtain ⟨⟨dx, gs, h3, h4, k⟩, _⟩ := S.cell n a _ h2 hn
      exact ⟨a, dx, gs, h1, h3, h4, k⟩
    · cases e
  | _ => simp [insOf] at e
theorem dct_at (S : Sto G Z ρ Hf hp H) {t : T} {kvs : List (T × T)} {v : Vv} (e : dctOf t hp = some kvs) (r : RepB G ρ Hf H t v) : ∃ a gs, v = .ref a ∧ Rd H a (.dK gs) ∧ RepK G ρ Hf kvs gs := by
  cases t with
  | dct ys =>
    simp only [dctOf] at e; cases e
    cases (show Rep G ρ Hf (.dct kvs) v from r) with
    | dct h q => exact ⟨_, _, rfl, .inr ⟨_, S.ex _ _ h⟩, q⟩
  | bD ys =>
    simp only [dctOf] at e; cases e
    obtain ⟨a, gs, h1, h2, h3, _⟩ := r
    exact ⟨a, gs, h1, .inl h2, h3⟩
  | rf n =>
    obtain ⟨a, h1, h2⟩ := B_rf r
    simp only [dctOf] at e
    split at e
    · rename_i ys hn
      cases e
      obtain ⟨⟨gs, h3, h4⟩, _⟩ := S.cell n a _ h2 hn
      exact ⟨a, gs, h1, .inl h3, h4⟩
    · cases e
  | _ => simp [dctOf] at e
/-! ### ways back -/
theorem P_int (S : Sto G Z ρ Hf hp H) {i : Int} (p : Post G Z W σ (RepB G) ρ Hf H Q (.ok (.int i) hp)) : Q (.int i) H := p.ret S (Rep.int i)
theorem P_bl (S : Sto G Z ρ Hf hp H) {i : Bool} (p : Post G Z W σ (RepB G) ρ Hf H Q (.ok (.bl i) hp)) : Q (.bl i) H := p.ret S (Rep.bl i)
theorem P_str (S : Sto G Z ρ Hf hp H) {i : List Nat} (p : Post G Z W σ (RepB G) ρ Hf H Q (.ok (.str i) hp)) : Q (.str (strV i)) H := p.ret S (Rep.str i)
theorem P_lst (S : Sto G Z ρ Hf hp H) {xs : List T} {vs : List Vv} (r : Reps G ρ Hf xs vs) (p : Post G Z W σ (RepB G) ρ Hf H Q (.ok (.lst xs) hp)) : ∀ q, H q = none → Q (.ref q) (upd H q (.lst vs)) := fun q hq =>
  p ρ _ _ (.ref q) (Nxt.new S.ex hq) (S.new hq) (Rep.lst upd_same (r.mono ⟨[], by simp⟩ (Ex.new (S.ex.free0 hq))))
theorem P_tup (S : Sto G Z ρ Hf hp H) {xs : List T} {vs : List Vv} (r : Reps G ρ Hf xs vs) (p : Post G Z W σ (RepB G) ρ Hf H Q (.ok (.tup xs) hp)) : ∀ q, H q = none → Q (.ref q) (upd H q (.tup vs)) := fun q hq =>
  p ρ _ _ (.ref q) (Nxt.new S.ex hq) (S.new hq) (Rep.tup (SqT.of upd_same) (r.mono ⟨[], by simp⟩ (Ex.new (S.ex.free0 hq))))
theorem P_tupS (S : Sto G Z ρ Hf hp H) {xs : List T} {vs : List Vv} {a : Addr} (r : Reps G ρ Hf xs vs) (h : SqT G.K Hf a vs) (p : Post G Z W σ (RepB G) ρ Hf H Q (.ok (.tup xs) hp)) : Q (.ref a) H := p.ret S (Rep.tup h r)
/-- a value that stood already -/
theorem P_rep (S : Sto G Z ρ Hf hp H) {t : T} {v : Vv} (r : Rep G ρ Hf t v) (p : Post G Z W σ (RepB G) ρ Hf H Q (.ok t hp)) : Q v H := p.ret S r.toB
end
/-- two values, their operation's end -/
def rV (G : Gm) (f : T → T → Hl → R T) : R2 := fun v u H Q => ∃ Z W σ ρ Hf hp x y, Sto G Z ρ Hf hp H ∧ RepB G ρ Hf H x v ∧ RepB G ρ Hf H y u ∧ Post G Z W σ (RepB G) ρ Hf H Q (f x y hp)
section
variable {X : Cx} {G : Gm}
theorem strV_app (a b : List Nat) : strV (a ++ b) = strV a ++ strV b := by
  show (⟨(a ++ b).toArray⟩ : Str) = ⟨a.toArray ++ b.toArray⟩
  simp
theorem op_addT (hK : X.K = G.K) : OpR X (binaryOp .Add) (rV G addT) := by
  intro pins s σ H v u vv uu Q I rv ru h
  obtain ⟨Z, W, σ', ρ, Hf, hp, x, y, S, rx, ry, h⟩ := h
  unfold addT at h
  split at h
  · obtain rfl := B_int rx; obtain rfl := B_int ry
    exact op_add pins s σ H _ _ vv uu Q I rv ru ⟨_, _, rfl, rfl, P_int S h⟩
  · obtain rfl := B_str rx; obtain rfl := B_str ry
    split at h
    · rename_i hl
      exact op_add_str pins s σ H _ _ vv uu Q I rv ru ⟨_, _, rfl, rfl, by rw [strV_len, strV_len, ← maxLen_eq]; exact hl, by rw [← strV_app]; exact P_str S h⟩
    · exact h.elim
  · obtain ⟨a, vs, rfl, h1, r1⟩ := B_tup rx
    obtain ⟨b, ws, rfl, h2, r2⟩ := B_tup ry
    split at h
    · rename_i hl
      refine op_catA pins s σ H _ _ vv uu Q I rv ru ⟨a, b, vs, ws, rfl, rfl, by rw [hK]; exact S.ex.st h1, by rw [hK]; exact S.ex.st h2, by rw [← r1.length, ← r2.length, ← maxLen_eq]; exact hl, fun e => ?_, fun _ e => ?_, fun _ _ => P_tup S (r1.append r2) h⟩
      · subst e; cases r1; exact P_tupS S r2 h2 h
      · subst e; cases r2; rw [List.append_nil] at h; exact P_tupS S r1 h1 h
    · exact h.elim
  · split at h
    · rename_i a b ea eb
      split at h
      · rename_i hl
        obtain ⟨p, vs, rfl, h1, r1⟩ := lst'_at S ea rx
        obtain ⟨q, ws, rfl, h2, r2⟩ := lst'_at S eb ry
        exact op_cat pins s σ H _ _ vv uu Q I rv ru ⟨p, q, vs, ws, rfl, rfl, h1, h2, by rw [← r1.length, ← r2.length, ← maxLen_eq]; exact hl, P_lst S (r1.append r2) h⟩
      · exact h.elim
    · exact h.elim
theorem op_intT (o : BOp) (op : Operator) (ho : (o, op) ∈ [(BOp.sub, Operator.Sub), (.fdiv, .FloorDiv), (.mod, .Mod), (.pow, .Pow), (.shl, .LShift), (.shr, .RShift), (.band, .BitAnd)]) :
    OpR X (binaryOp op) (rV G fun x y h => match x, y with | .int i, .int j => intT o i j h | _, _ => .stuck) := by
  intro pins s σ H v u vv uu Q I rv ru h
  obtain ⟨Z, W, σ', ρ, Hf, hp, x, y, S, rx, ry, h⟩ := h
  dsimp only at h
  split at h
  case h_2 => exact h.elim
  rename_i i j
  obtain rfl := B_int rx; obtain rfl := B_int ry
  simp only [List.mem_cons, Prod.mk.injEq, List.not_mem_nil, or_false] at ho
  rcases ho with ⟨rfl, rfl⟩ | ⟨rfl, rfl⟩ | ⟨rfl, rfl⟩ | ⟨rfl, rfl⟩ | ⟨rfl, rfl⟩ | ⟨rfl, rfl⟩ | ⟨rfl, rfl⟩
  · exact op_sub pins s σ H _ _ vv uu Q I rv ru ⟨_, _, rfl, rfl, P_int S h⟩
  · simp only [intT] at h
    split at h
    · rename_i c
      simp only [divOk, Bool.and_eq_true, decide_eq_true_eq] at c
      have q := P_int S h
      obtain ⟨t, rfl⟩ := rv
      obtain ⟨t', rfl⟩ := ru
      refine PyProof.Rows.floordiv_int c.1 ⟨.int _, H, I.tok _, ⟨_, rfl⟩, ?_⟩ (.inl (PyProof.noPylong_of_log2 c.2))
      unfold fdivI at q
      split at q
      · rw [Int.fdiv_eq_ediv_of_nonneg i (by omega)]; exact q
      · exact q
    · exact h.elim
  · simp only [intT] at h
    split at h
    · rename_i c
      simp only [decide_eq_true_eq] at c
      have q := P_int S h
      refine op_modN pins s σ H _ _ vv uu Q I rv ru ⟨_, _, rfl, rfl, c, ?_⟩
      unfold fmodI at q
      split at q
      · show Q (.int (i.fmod j)) H
        rw [Int.fmod_eq_emod_of_nonneg i (by omega)]; exact q
      · exact q
    · exact h.elim
  · simp only [intT] at h
    split at h
    · rename_i c
      simp only [powOk, Bool.and_eq_true, decide_eq_true_eq] at c
      exact op_pow pins s σ H _ _ vv uu Q I rv ru ⟨_, _, rfl, rfl, ⟨c.1.1, by omega, c.2⟩, P_int S h⟩
    · exact h.elim
  · simp only [intT] at h
    split at h
    · rename_i c
      simp only [shlOk, Bool.and_eq_true, decide_eq_true_eq] at c
      refine op_shlW pins s σ H _ _ vv uu Q I rv ru ⟨_, _, rfl, rfl, ⟨c.1.1, ?_⟩, P_int S h⟩
      have : Builtin.Int.intBits i ≤ i.natAbs.log2 + 1 := by
        unfold Builtin.Int.intBits
        split <;> omega
      omega
    · exact h.elim
  · simp only [intT] at h
    split at h
    · rename_i c
      simp only [decide_eq_true_eq] at c
      exact op_shr pins s σ H _ _ vv uu Q I rv ru ⟨_, _, rfl, rfl, c, P_int S h⟩
    · exact h.elim
  · simp only [intT] at h
    split at h
    · rename_i c
      simp only [Bool.and_eq_true, decide_eq_true_eq] at c
      refine op_and pins s σ H _ _ vv uu Q I rv ru ⟨_, _, rfl, rfl, ?_⟩
      show Q (.int (Builtin.bitAnd i j)) H
      rw [show Builtin.bitAnd i j = ((i.toNat &&& j.toNat : Nat) : Int) from by simp [Builtin.bitAnd, c.1, c.2]]
      exact P_int S h
    · exact h.elim
theorem foldA (x : List Nat) : ∀ (k : Nat) (acc : List Nat), (List.replicate k x.toArray).foldl (· ++ ·) acc.toArray = (acc ++ (List.replicate k x).flatten).toArray := by
  intro k
  induction k with
  | zero => intro acc; simp
  | succ k ih =>
    intro acc
    rw [List.replicate_succ, List.foldl_cons, List.replicate_succ, List.flatten_cons]
    have e : acc.toArray ++ x.toArray = (acc ++ x).toArray := by simp
    rw [e, ih, List.append_assoc]
theorem op_repS : OpR X (binaryOp .Mult) (fun v u H Q => ∃ (s : List Nat) (j : Int), v = .str (strV s) ∧ u = .int j ∧ s.length * j.toNat ≤ maxLen ∧ -9223372036854775808 ≤ j ∧ j < 9223372036854775808 ∧ Q (.str (strV (List.replicate j.toNat s).flatten)) H) := by
  intro pins s σ H v u vv uu Q I rv ru h
  obtain ⟨a, j, rfl, rfl, hl, h1, h2, q⟩ := h
  obtain ⟨t, rfl⟩ := rv
  obtain ⟨t', rfl⟩ := ru
  have hl' : a.length * j.toNat ≤ 16777216 := hl
  refine PySem.P.mul_str (by rw [decide_eq_false (by omega), decide_eq_false (by omega)]; rfl) (fun hn hz => ?_) (fun hn hz => ?_) ?_
  · rw [strV_len]
    have hz' : a.length ≠ 0 := by
      rw [strV_len] at hz
      intro e; rw [e] at hz; simp at hz
    intro hc
    have h3 : (a.length : Int) * j ≤ 16777216 := by
      have : ((a.length * j.toNat : Nat) : Int) ≤ 16777216 := by omega
      rw [Int.natCast_mul, Int.toNat_of_nonneg (by omega)] at this
      exact this
    have h4 : (2 ^ 63 - 1) / j < (a.length : Int) := hc
    have h5 := Int.lt_mul_of_ediv_lt (by omega : 0 < j) h4
    omega
  · rw [strV_len]
    unfold Builtin.Str.tooLong
    first
      | (rw [decide_eq_false]; have := sizeLine_eq; omega)
      | (simp; have := sizeLine_eq; omega)
  · by_cases c1 : j < 1
    · rw [if_pos c1]
      have e : j.toNat = 0 := by omega
      rw [e] at q
      refine ⟨by decide, ?_⟩
      exact ⟨.str (strV []), H, I.tok _, ⟨_, rfl⟩, q⟩
    · rw [if_neg c1]
      by_cases c2 : (j == 1 || (strV a).length == 0) = true
      · rw [if_pos c2]
        have e : (List.replicate j.toNat a).flatten = a := by
          simp only [Bool.or_eq_true, beq_iff_eq] at c2
          rcases c2 with c2 | c2
          · rw [c2]; simp
          · rw [strV_len] at c2
            have : a = [] := List.eq_nil_of_length_eq_zero c2
            rw [this]; simp
        rw [e] at q
        exact ⟨.str (strV a), H, I, ⟨_, rfl⟩, q⟩
      · rw [if_neg c2]
        have e : (List.replicate j.toNat (strV a).cps).foldl (fun x1 x2 => x1 ++ x2) #[] = ((List.replicate j.toNat a).flatten).toArray := by
          have := foldA a j.toNat []
          simpa [strV] using this
        refine ⟨?_, ?_⟩
        · rw [show (⟨(List.replicate j.toNat (strV a).cps).foldl (fun x1 x2 => x1 ++ x2) #[]⟩ : Str) = strV (List.replicate j.toNat a).flatten from by rw [e]; rfl]
          rw [strV_len, PyProof.Rows.lm_len_rep_flat]
          have := sizeLine_eq
          rw [Nat.mul_comm] at hl'
          omega
        · rw [e]
          exact ⟨.str (strV (List.replicate j.toNat a).flatten), H, I.tok _, ⟨_, rfl⟩, q⟩
/-- a tuple times 0, 1, or more -/
theorem tuple_mul1 (l : Addr) (items : Array Value) (n : Nat) (dd : Option Addr) (sl : Array (Option Value)) (u : Tok) :
    Meets (Builtin.«tuple.__mul__» ⟨[.ref l, .int 1 u], []⟩) (fun _ R s => s.heap.get? l = some { cls := .type "tuple", dict := dd, data := .seq items n, slots := sl } ∧ R (.ok (.ret (.ref l))) s) :=
  .of_wp fun prog w A R s h => by
    obtain ⟨hp, g, d, tk, os⟩ := s
    obtain ⟨hl, h⟩ := h
    have f1 := AutoSeq1.idx_int
    wp_walk using wpAny_loadPart' hl
    exact ⟨_, rfl, h⟩
theorem op_repT1 : OpR X (binaryOp .Mult) (fun x y H Q => ∃ l xs, x = .ref l ∧ y = .int 1 ∧ SqT X.K H l xs ∧ Q (.ref l) H) := by
  intro pins s σ H x y v u Q I rx ry h
  obtain ⟨l, xs, rfl, rfl, hT, q⟩ := h
  cases rx
  obtain ⟨t, rfl⟩ := ry
  obtain ⟨its, r, ⟨⟨cls, dd, data, sl⟩, ho, hc, n, hd⟩, hs⟩ := I.tuple hT
  simp only at hc hd
  subst hc hd
  refine wpAny_binaryOp_repeat_ref (T := "tuple") (U := "int") (by decide) ⟨_, ho, rfl⟩ (fun s' => typeIs_int s' 1 t) noFill_tuple_mul F.fills_int_mul F.slot_int_rmul repeat_tuple F.slot_int_index.lookup
    (call_meets F.slot_int_rmul (typeIs_int s 1 t) F.entry_int_rmul (F.args_int_rmul_2 _ _) (int_rmul_tuple 1 t l its.toArray n dd sl)
      ⟨ho, rfl, ⟨_, ho, rfl⟩, call_meets F.slot_tuple_mul ⟨_, ho, rfl⟩ F.entry_tuple_mul (F.args_tuple_mul_2 _ _) (tuple_mul1 l its.toArray n dd sl t) ⟨ho, ?_⟩⟩)
  exact ⟨.ref l, H, I, rfl, q⟩
theorem op_mulT (hK : X.K = G.K) : OpR X (binaryOp .Mult) (rV G mulT) := by
  intro pins s σ H v u vv uu Q I rv ru h
  obtain ⟨Z, W, σ', ρ, Hf, hp, x, y, S, rx, ry, h⟩ := h
  unfold mulT at h
  split at h
  case h_2 => exact h.elim
  rename_i j
  obtain rfl := B_int ry
  split at h
  · obtain rfl := B_int rx
    split at h
    · rename_i i c
      simp only [mulOk, decide_eq_true_eq] at c
      exact op_mulW pins s σ H _ _ vv uu Q I rv ru ⟨_, _, rfl, rfl, c, P_int S h⟩
    · exact h.elim
  · obtain rfl := B_str rx
    split at h
    · rename_i a c
      simp only [repOk, Bool.and_eq_true, decide_eq_true_eq] at c
      exact op_repS pins s σ H _ _ vv uu Q I rv ru ⟨_, _, rfl, rfl, c.1, by omega, by omega, P_str S h⟩
    · exact h.elim
  · obtain ⟨a, vs, rfl, h1, r1⟩ := B_tup rx
    split at h
    · rename_i xs c
      simp only [Bool.and_eq_true, decide_eq_true_eq] at c
      by_cases j1 : j = 1
      · subst j1
        rw [show (List.replicate (1 : Int).toNat xs).flatten = xs by simp] at h
        refine op_repT1 pins s σ H _ _ vv uu Q I rv ru ⟨a, vs, rfl, rfl, by rw [hK]; exact S.ex.st h1, ?_⟩
        exact P_tupS S r1 h1 h
      · refine op_repT pins s σ H _ _ vv uu Q I rv ru ⟨a, j, vs, rfl, rfl, by rw [hK]; exact S.ex.st h1, ?_, by have := c.2.1.2; omega, c.2.2, by rw [← r1.length]; exact c.1, P_tup S (r1.rep _) h⟩
        intro e
        subst e
        cases r1
        simp at c
    · exact h.elim
  · split at h
    · rename_i a ea
      split at h
      · rename_i c
        simp only [repOk, Bool.and_eq_true, decide_eq_true_eq] at c
        obtain ⟨p, vs, rfl, h1, r1⟩ := lst'_at S ea rx
        exact op_rep pins s σ H _ _ vv uu Q I rv ru ⟨p, j, vs, rfl, rfl, h1, by omega, by omega, by rw [← r1.length, ← maxLen_eq]; exact c.1, P_lst S (r1.rep _) h⟩
      · exact h.elim
    · exact h.elim
theorem opO : ∀ o : BOp, ∃ op : Operator, True := fun _ => ⟨.Add, trivial⟩
/-- the operator's name -/
def opN : BOp → Operator
  | .add => .Add | .sub => .Sub | .mul => .Mult | .fdiv => .FloorDiv | .mod => .Mod | .pow => .Pow | .shl => .LShift | .shr => .RShift | .band => .BitAnd
theorem OpR.imp {f : Value → Value → Sem Value} {r r' : R2} (h : OpR X f r) (hr : ∀ x y H Q, r' x y H Q → r x y H Q) : OpR X f r' := fun pins s σ H x y v u Q I rx ry q => h pins s σ H x y v u Q I rx ry (hr x y H Q q)
theorem op_binT (hK : X.K = G.K) (o : BOp) : OpR X (binaryOp (opN o)) (rV G (binT o)) := by
  cases o with
  | add => exact op_addT hK
  | mul => exact op_mulT hK
  | sub => exact op_intT .sub .Sub (by simp)
  | fdiv => exact op_intT .fdiv .FloorDiv (by simp)
  | mod => exact op_intT .mod .Mod (by simp)
  | pow => exact op_intT .pow .Pow (by simp)
  | shl => exact op_intT .shl .LShift (by simp)
  | shr => exact op_intT .shr .RShift (by simp)
  | band => exact op_intT .band .BitAnd (by simp)
/-! ### data -/
mutual
def toPy : D → PyData
  | .non => .none | .bl b => .bool b | .int i => .int i | .str s => .str (strV s) | .lst xs => .list (toPys xs) | .tup xs => .tuple (toPys xs)
def toPys : List D → List PyData
  | [] => []
  | x :: xs => toPy x :: toPys xs
end
mutual
theorem eqD_py : ∀ d e : D, PyData.eqv (toPy d) (toPy e) = eqD d e
  | .non, e => by cases e <;> simp [toPy, PyData.eqv, eqD]
  | .bl a, e => by cases e <;> simp [toPy, PyData.eqv, eqD]
  | .int a, e => by cases e <;> simp [toPy, PyData.eqv, eqD]
  | .str a, e => by
    cases e with
    | str b =>
      simp only [toPy, PyData.eqv, eqD]
      rw [Bool.eq_iff_iff]
      simp only [beq_iff_eq]
      exact ⟨strV_inj, fun e => by rw [e]⟩
    | _ => simp [toPy, PyData.eqv, eqD]
  | .lst xs, e => by
    cases e with
    | lst ys => simp only [toPy, PyData.eqv, eqD]; exact eqDs_py xs ys
    | _ => simp [toPy, PyData.eqv, eqD]
  | .tup xs, e => by
    cases e with
    | tup ys => simp only [toPy, PyData.eqv, eqD]; exact eqDs_py xs ys
    | _ => simp [toPy, PyData.eqv, eqD]
theorem eqDs_py : ∀ d e : List D, PyData.eqvAll (toPys d) (toPys e) = eqDs d e
  | [], [] => by simp [toPys, PyData.eqvAll, eqDs]
  | [], _ :: _ => by simp [toPys, PyData.eqvAll, eqDs]
  | _ :: _, [] => by simp [toPys, PyData.eqvAll, eqDs]
  | x :: xs, y :: ys => by
    simp only [toPys, PyData.eqvAll, eqDs]
    rw [eqD_py x y, eqDs_py xs ys]
end
theorem toPys_ints (xs : List Int) : toPys (xs.map D.int) = xs.map PyData.int := by
  induction xs with
  | nil => rfl
  | cons a r ih => rw [List.map_cons, List.map_cons, toPys, toPy, ih]
theorem dpAll_ints {K : PySem.W.Frag} {H : Hp} (xs : List Int) : DpAll K H (xs.map L2.V.int) (xs.map PyData.int) := by
  induction xs with
  | nil => exact .nil
  | cons a r ih => exact .cons (.int a) ih
theorem lay_ints (xs : List Int) : PyData.canLayAll0 (xs.map PyData.int) = true ∧ PyData.depthAll (xs.map PyData.int) = 0 := by
  induction xs with
  | nil => exact ⟨rfl, rfl⟩
  | cons a r ih =>
    refine ⟨?_, ?_⟩
    · simp only [List.map_cons, PyData.canLayAll0, PyData.canLay0, ih.1, Bool.and_self]
    · simp only [List.map_cons, PyData.depthAll, PyData.depth, ih.2, Nat.max_self]
def Dok (n : Nat) (d : D) : Prop := PyData.canLay0 (toPy d) = true ∧ PyData.depth (toPy d) ≤ n
def Doks (n : Nat) (ds : List D) : Prop := PyData.canLayAll0 (toPys ds) = true ∧ PyData.depthAll (toPys ds) ≤ n
theorem datS_at {Z : Hp} {ρ : List Addr} {Hf H : Hp} {s : List Nat} {n : Nat} {d : D} {v : Vv} (e : datS s = some d) (r : RepB G ρ Hf H (.str s) v) : Dp G.K H v (toPy d) ∧ Dok n d := by
  unfold datS at e
  split at e
  · rename_i c
    cases e
    obtain rfl := B_str r
    refine ⟨.str _, ?_, Nat.zero_le _⟩
    show PyData.strOk (strV s) = true
    unfold PyData.strOk strV
    simp only [List.all_eq_true, decide_eq_true_eq] at c
    simp only [List.all_toArray, List.all_eq_true, decide_eq_true_eq]
    exact c
  · cases e
theorem mapO_at {f : T → Option D} {n : Nat} {ρ : List Addr} {Hf H : Hp} (hf : ∀ t d v, f t = some d → RepB G ρ Hf H t v → Dp G.K H v (toPy d) ∧ Dok n d) : ∀ (ts : List T) (ds : List D) (vs : List Vv), mapO f ts = some ds → Reps G ρ Hf ts vs → DpAll G.K H vs (toPys ds) ∧ Doks n ds
  | [], ds, vs, e, r => by
    simp only [mapO] at e
    cases e; cases r
    exact ⟨.nil, rfl, Nat.zero_le _⟩
  | t :: ts, ds, vs, e, r => by
    simp only [mapO] at e
    split at e
    · rename_i d e1
      split at e
      · rename_i ds' e2
        cases e
        cases r with
        | cons h q =>
          obtain ⟨a1, a2, a3⟩ := hf t d _ e1 h.toB
          obtain ⟨b1, b2, b3⟩ := mapO_at hf ts ds' _ e2 q
          refine ⟨.cons a1 b1, ?_, ?_⟩
          · simp only [toPys, PyData.canLayAll0, a2, b2, Bool.and_self]
          · simp only [toPys, PyData.depthAll]; exact Nat.max_le.mpr ⟨a3, b3⟩
      · cases e
    · cases e
theorem dat_at {Z : Hp} {ρ : List Addr} {Hf H : Hp} {hp : Hl} (S : Sto G Z ρ Hf hp H) : ∀ (n : Nat) (t : T) (d : D) (v : Vv), dat hp n t = some d → RepB G ρ Hf H t v → Dp G.K H v (toPy d) ∧ Dok n d := by
  intro n
  induction n with
  | zero =>
    intro t d v e r
    cases t <;> simp only [dat] at e
    case non => cases e; obtain rfl := B_non r; exact ⟨.non, rfl, Nat.zero_le _⟩
    case bl => cases e; obtain rfl := B_bl r; exact ⟨.bl _, rfl, Nat.zero_le _⟩
    case int => cases e; obtain rfl := B_int r; exact ⟨.int _, rfl, Nat.zero_le _⟩
    case str => exact datS_at (Z := Z) e r
    all_goals cases e
  | succ n ih =>
    intro t d v e r
    cases t <;> simp only [dat] at e
    case non => cases e; obtain rfl := B_non r; exact ⟨.non, rfl, Nat.zero_le _⟩
    case bl => cases e; obtain rfl := B_bl r; exact ⟨.bl _, rfl, Nat.zero_le _⟩
    case int => cases e; obtain rfl := B_int r; exact ⟨.int _, rfl, Nat.zero_le _⟩
    case str => exact datS_at (Z := Z) e r
    case lst xs =>
      simp only [Option.map_eq_some_iff] at e
      obtain ⟨ds, e1, rfl⟩ := e
      obtain ⟨a, vs, rfl, h1, r1⟩ := B_lst r
      obtain ⟨h2, h3, h4⟩ := mapO_at ih xs ds vs e1 r1
      exact ⟨.lst (SqL.of (S.ex _ _ h1)) h2, h3, Nat.succ_le_succ h4⟩
    case tup xs =>
      simp only [Option.map_eq_some_iff] at e
      obtain ⟨ds, e1, rfl⟩ := e
      obtain ⟨a, vs, rfl, h1, r1⟩ := B_tup r
      obtain ⟨h2, h3, h4⟩ := mapO_at ih xs ds vs e1 r1
      exact ⟨.tup (S.ex.st h1) h2, h3, Nat.succ_le_succ h4⟩
    case bL xs =>
      simp only [Option.map_eq_some_iff] at e
      obtain ⟨ds, e1, rfl⟩ := e
      obtain ⟨a, vs, rfl, h1, r1, _⟩ := r
      obtain ⟨h2, h3, h4⟩ := mapO_at ih xs ds vs e1 r1
      exact ⟨.lst (SqL.of h1) h2, h3, Nat.succ_le_succ h4⟩
    case rf k =>
      split at e
      · rename_i xs hk
        simp only [Option.map_eq_some_iff] at e
        obtain ⟨ds, e1, rfl⟩ := e
        obtain ⟨a, rfl, ha⟩ := B_rf r
        obtain ⟨⟨vs, h1, r1⟩, _⟩ := S.cell k a _ ha hk
        obtain ⟨h2, h3, h4⟩ := mapO_at ih xs ds vs e1 r1
        exact ⟨.lst (SqL.of h1) h2, h3, Nat.succ_le_succ h4⟩
      · cases e
    case kl xs =>
      cases e
      obtain ⟨a, rfl, h1⟩ := B_kl r
      refine ⟨?_, ?_, ?_⟩
      · show Dp G.K H (.ref a) (.list (toPys (xs.map D.int)))
        rw [toPys_ints]
        exact .lst (S.ex.sq h1) (dpAll_ints xs)
      · show PyData.canLayAll0 (toPys (xs.map D.int)) = true
        rw [toPys_ints]; exact (lay_ints xs).1
      · show PyData.depthAll (toPys (xs.map D.int)) + 1 ≤ n + 1
        rw [toPys_ints, (lay_ints xs).2]; omega
    all_goals cases e
theorem shaped_ok {n : Nat} {d : D} (h : Dok n d) (hn : n ≤ 64) : SeqAt.shaped (toPy d) = true := by
  unfold SeqAt.shaped
  rw [h.1, decide_eq_true (Nat.le_trans h.2 hn)]; rfl
theorem op_eqT (hK : X.K = G.K) (hu : X.A.units + 64 < cLine) : OpR X (compareOp .Eq) (rV G fun x y h => oR (eqT h x y) h) := by
  intro pins s σ H v u vv uu Q I rv ru h
  obtain ⟨Z, W, σ', ρ, Hf, hp, x, y, S, rx, ry, h⟩ := h
  dsimp only at h
  unfold eqT at h
  split at h
  · rename_i d e h1 h2
    obtain ⟨a1, a2⟩ := dat_at S 60 x d v h1 rx
    obtain ⟨b1, b2⟩ := dat_at S 60 y e u h2 ry
    refine op_eqD hu pins s σ H _ _ vv uu Q I rv ru ⟨_, _, by rw [hK]; exact a1, by rw [hK]; exact b1, shaped_ok a2 (by decide), shaped_ok b2 (by decide), ?_⟩
    rw [eqD_py]
    exact P_bl S h
  · exact h.elim
theorem op_neT (hK : X.K = G.K) (hu : X.A.units + 64 < cLine) : OpR X (compareOp .NotEq) (rV G fun x y h => oR ((eqT h x y).map (!·)) h) := by
  intro pins s σ H v u vv uu Q I rv ru h
  obtain ⟨Z, W, σ', ρ, Hf, hp, x, y, S, rx, ry, h⟩ := h
  dsimp only at h
  unfold eqT at h
  split at h
  · rename_i d e h1 h2
    obtain ⟨a1, a2⟩ := dat_at S 60 x d v h1 rx
    obtain ⟨b1, b2⟩ := dat_at S 60 y e u h2 ry
    refine op_neD hu pins s σ H _ _ vv uu Q I rv ru ⟨_, _, by rw [hK]; exact a1, by rw [hK]; exact b1, shaped_ok a2 (by decide), shaped_ok b2 (by decide), ?_⟩
    rw [eqD_py]
    exact P_bl S h
  · exact h.elim
end
end Kb
end
section
set_option Elab.async false
set_option linter.all false
set_option maxRecDepth 100000
set_option maxHeartbeats 4000000
set_option autoImplicit false
/-! Kb3: comparisons, subscripts, slices, fields, truth, built-ins by values. -/
namespace Kb
open PySem PySem.Spec PyProof.Rows L2
section
variable {X : Cx} {G : Gm}
/-! ### is, <, in -/
theorem op_icmp (hK : X.K = G.K) (o : COp) (op : CmpOp) (ho : (o, op) ∈ [(COp.lt, CmpOp.Lt), (.le, .LtE), (.gt, .Gt), (.ge, .GtE)]) :
    OpR X (compareOp op) (rV G fun x y h => match x, y with | .int i, .int j => oR (icmp o i j) h | _, _ => .stuck) := by
  intro pins s σ H v u vv uu Q I rv ru h
  obtain ⟨Z, W, σ', ρ, Hf, hp, x, y, S, rx, ry, h⟩ := h
  dsimp only at h
  split at h
  case h_2 => exact h.elim
  rename_i i j
  obtain rfl := B_int rx; obtain rfl := B_int ry
  simp only [List.mem_cons, Prod.mk.injEq, List.not_mem_nil, or_false] at ho
  rcases ho with ⟨rfl, rfl⟩ | ⟨rfl, rfl⟩ | ⟨rfl, rfl⟩ | ⟨rfl, rfl⟩
  · exact op_lt pins s σ H _ _ vv uu Q I rv ru ⟨_, _, rfl, rfl, P_bl S h⟩
  · exact op_le pins s σ H _ _ vv uu Q I rv ru ⟨_, _, rfl, rfl, P_bl S h⟩
  · exact op_gt pins s σ H _ _ vv uu Q I rv ru ⟨_, _, rfl, rfl, P_bl S h⟩
  · exact op_ge pins s σ H _ _ vv uu Q I rv ru ⟨_, _, rfl, rfl, P_bl S h⟩
theorem ref_of {ρ : List Addr} {Hf H : Hp} {t : T} {v : Vv} (r : RepB G ρ Hf H t v) : (∃ a, v = .ref a) ∨ t = .non ∨ (∃ b, t = .bl b) ∨ (∃ b, t = .int b) ∨ ∃ b, t = .str b := by
  cases t with
  | non => exact .inr (.inl rfl)
  | bl b => exact .inr (.inr (.inl ⟨b, rfl⟩))
  | int b => exact .inr (.inr (.inr (.inl ⟨b, rfl⟩)))
  | str b => exact .inr (.inr (.inr (.inr ⟨b, rfl⟩)))
  | bL xs => obtain ⟨a, _, h, _⟩ := r; exact .inl ⟨a, h⟩
  | bD xs => obtain ⟨a, _, h, _⟩ := r; exact .inl ⟨a, h⟩
  | bI c xs => obtain ⟨a, _, _, h, _⟩ := r; exact .inl ⟨a, h⟩
  | exc c xs => exact .inl ⟨_, r.1⟩
  | _ =>
    cases (show Rep G ρ Hf _ v from r)
    all_goals exact .inl ⟨_, rfl⟩
theorem isNon_at {ρ : List Addr} {Hf H : Hp} {t : T} {v : Vv} (r : RepB G ρ Hf H t v) : decide (v = .non) = isNon t := by
  rcases ref_of r with ⟨a, rfl⟩ | rfl | ⟨b, rfl⟩ | ⟨b, rfl⟩ | ⟨b, rfl⟩
  · have e : isNon t = false := by
      cases t <;> first | rfl | (cases B_non r)
    rw [e]; rfl
  · obtain rfl := B_non r; rfl
  · obtain rfl := B_bl r; rfl
  · obtain rfl := B_int r; rfl
  · obtain rfl := B_str r; rfl
theorem relV_nb {v : Vv} {u : Value} (r : RelV v u) (id : String) : u ≠ .builtin id := by
  cases v <;> first
    | (cases r; intro z; cases z; done)
    | (obtain ⟨t, rfl⟩ := r; intro z; cases z; done)
theorem is_bool_gen {M : Model} {A : Around} {E : Value → Shared → Prop} {s : Shared} {Q : Value → Shared → Prop} {v : Value} {d : Bool} (hb : ∀ id, v ≠ .builtin id) (h : Q (.bool (v == .bool d)) s) : wpAny M A (compareOp .Is v (.bool d)) Q E s := by
  cases v <;> first | exact wpAny_pure h | exact absurd rfl (hb _)
theorem isnot_bool_gen {M : Model} {A : Around} {E : Value → Shared → Prop} {s : Shared} {Q : Value → Shared → Prop} {v : Value} {d : Bool} (hb : ∀ id, v ≠ .builtin id) (h : Q (.bool (!(v == .bool d))) s) : wpAny M A (compareOp .IsNot v (.bool d)) Q E s := by
  cases v <;> first | exact wpAny_pure h | exact absurd rfl (hb _)
theorem isBl_at {ρ : List Addr} {Hf H : Hp} {t : T} {v : Vv} {b : Bool} {vv : Value} (r : RepB G ρ Hf H t v) (rv : RelV v vv) : (vv == Value.bool b) = isBlv b t := by
  rcases ref_of r with ⟨a, rfl⟩ | rfl | ⟨c, rfl⟩ | ⟨c, rfl⟩ | ⟨c, rfl⟩
  · have e : isBlv b t = false := by
      cases t <;> first | rfl | (cases B_bl r)
    cases rv
    rw [e]; rfl
  · obtain rfl := B_non r; cases rv; rfl
  · obtain rfl := B_bl r; cases rv
    show (Value.bool c == Value.bool b) = (c == b)
    cases c <;> cases b <;> rfl
  · obtain rfl := B_int r; obtain ⟨t, rfl⟩ := rv; rfl
  · obtain rfl := B_str r; obtain ⟨t, rfl⟩ := rv; rfl
theorem op_isT (hK : X.K = G.K) : OpR X (compareOp .Is) (rV G fun x y h => oR (isT x y) h) := by
  intro pins s σ H v u vv uu Q I rv ru h
  obtain ⟨Z, W, σ', ρ, Hf, hp, x, y, S, rx, ry, h⟩ := h
  dsimp only at h
  unfold isT at h
  split at h
  · exact h.elim
  · split at h
    · obtain rfl := B_non ry
      exact op_isN pins s σ H _ _ vv uu Q I rv ru ⟨rfl, by rw [isNon_at rx]; exact P_bl S h⟩
    · obtain rfl := B_bl ry
      cases ru
      refine is_bool_gen (relV_nb rv) ?_
      rw [isBl_at rx rv]
      exact ⟨.bl _, H, I, rfl, P_bl S h⟩
    · exact h.elim
theorem op_isNotT (hK : X.K = G.K) : OpR X (compareOp .IsNot) (rV G fun x y h => oR ((isT x y).map (!·)) h) := by
  intro pins s σ H v u vv uu Q I rv ru h
  obtain ⟨Z, W, σ', ρ, Hf, hp, x, y, S, rx, ry, h⟩ := h
  dsimp only at h
  unfold isT at h
  split at h
  · exact h.elim
  · split at h
    · obtain rfl := B_non ry
      exact op_notN pins s σ H _ _ vv uu Q I rv ru ⟨rfl, by rw [isNon_at rx]; exact P_bl S h⟩
    · obtain rfl := B_bl ry
      cases ru
      refine isnot_bool_gen (relV_nb rv) ?_
      rw [isBl_at rx rv]
      exact ⟨.bl _, H, I, rfl, P_bl S h⟩
    · exact h.elim
/-! ### in -/
theorem B_flat {ρ : List Addr} {Hf H : Hp} {t : T} {v : Vv} (f : flatT t = true) (r : RepB G ρ Hf H t v) : flatV v = true := by
  cases t <;> first
    | (obtain rfl := B_non r; rfl)
    | (obtain rfl := B_bl r; rfl)
    | (obtain rfl := B_int r; rfl)
    | (obtain rfl := B_str r; rfl)
    | (simp [flatT] at f)
theorem eqF_V {ρ : List Addr} {Hf H : Hp} {t u : T} {v w : Vv} (f : flatT t = true) (g : flatT u = true) (r : RepB G ρ Hf H t v) (q : RepB G ρ Hf H u w) : eqV v w = eqF t u := by
  cases t <;> first
    | (obtain rfl := B_non r)
    | (obtain rfl := B_bl r)
    | (obtain rfl := B_int r)
    | (obtain rfl := B_str r)
    | (simp [flatT] at f)
  all_goals cases u <;> first
    | (obtain rfl := B_non q; rfl)
    | (obtain rfl := B_bl q; rfl)
    | (obtain rfl := B_int q; rfl)
    | (obtain rfl := B_str q; first | rfl | (simp only [eqV, eqF]; rw [Bool.eq_iff_iff]; simp only [beq_iff_eq]; exact ⟨strV_inj, fun e => by rw [e]⟩))
    | (simp [flatT] at g)
theorem inF_V {ρ : List Addr} {Hf H : Hp} {x : T} {v : Vv} (f : flatT x = true) (r : RepB G ρ Hf H x v) : ∀ {xs : List T} {vs : List Vv}, xs.all flatT = true → Reps G ρ Hf xs vs → inV v vs = inF x xs ∧ vs.all flatV = true := by
  intro xs
  induction xs with
  | nil => intro vs _ q; cases q; exact ⟨rfl, rfl⟩
  | cons t ts ih =>
    intro vs g q
    cases q with
    | @cons _ w _ vs h q =>
      simp only [List.all_cons, Bool.and_eq_true] at g
      obtain ⟨i1, i2⟩ := ih g.2 q
      refine ⟨?_, ?_⟩
      · show (eqV w v || inV v vs) = (eqF t x || inF x ts)
        rw [i1, eqF_V g.1 f h.toB r]
      · simp only [List.all_cons, i2, Bool.and_true]
        exact B_flat g.1 (H := H) h.toB
theorem key_kV {ρ : List Addr} {Hf H : Hp} {t : T} {v : Vv} (f : keyT t = true) (r : RepB G ρ Hf H t v) : ∃ k : L2.Key, v = kV k ∧ ∀ kvs gs, RepK G ρ Hf kvs gs → ((kvs.any fun p => eqF p.1 t) = (valV gs k).isSome) ∧ (∀ u, fndK t kvs = some u → ∃ w, valV gs k = some w ∧ Rep G ρ Hf u w) ∧ (fndK t kvs = none → valV gs k = none) := by
  cases t with
  | int i =>
    obtain rfl := B_int r
    refine ⟨Sum.inl i, rfl, ?_⟩
    intro kvs
    induction kvs with
    | nil => intro gs q; cases q; exact ⟨rfl, fun u e => by simp [fndK] at e, fun _ => rfl⟩
    | cons p ps ih =>
      intro gs q
      cases q with
      | @consI j u w ts vs h q =>
        obtain ⟨a1, a2, a3⟩ := ih _ q
        by_cases e : j = i
        · subst e
          have hf : eqF (.int j) (.int j) = true := by simp [eqF]
          rw [valV_pos (p := ((Sum.inl j : L2.Key), w)) rfl]
          refine ⟨by simp [hf], fun z ez => ?_, fun z => ?_⟩
          · simp only [fndK, List.find?_cons, hf, Option.map_some, Option.some.injEq] at ez
            subst ez; exact ⟨w, rfl, h⟩
          · simp [fndK, List.find?_cons, hf] at z
        · have hf : eqF (.int j) (.int i) = false := by simpa [eqF] using e
          rw [valV_neg (p := ((Sum.inl j : L2.Key), w)) (fun z => e (Sum.inl.inj z))]
          refine ⟨by simp only [List.any_cons, hf, Bool.false_or]; exact a1, fun z ez => a2 z ?_, fun z => a3 ?_⟩
          · simpa only [fndK, List.find?_cons, hf] using ez
          · simpa only [fndK, List.find?_cons, hf] using z
      | @consS s u w ts vs h q =>
        obtain ⟨a1, a2, a3⟩ := ih _ q
        have hf : eqF (.str s) (.int i) = false := rfl
        rw [valV_neg (p := ((Sum.inr (strV s) : L2.Key), w)) (k := (Sum.inl i : L2.Key)) (by intro z; cases z)]
        refine ⟨by simp only [List.any_cons, hf, Bool.false_or]; exact a1, fun z ez => a2 z ?_, fun z => a3 ?_⟩
        · simpa only [fndK, List.find?_cons, hf] using ez
        · simpa only [fndK, List.find?_cons, hf] using z
  | str i =>
    obtain rfl := B_str r
    refine ⟨Sum.inr (strV i), rfl, ?_⟩
    intro kvs
    induction kvs with
    | nil => intro gs q; cases q; exact ⟨rfl, fun u e => by simp [fndK] at e, fun _ => rfl⟩
    | cons p ps ih =>
      intro gs q
      cases q with
      | @consI j u w ts vs h q =>
        obtain ⟨a1, a2, a3⟩ := ih _ q
        have hf : eqF (.int j) (.str i) = false := rfl
        rw [valV_neg (p := ((Sum.inl j : L2.Key), w)) (k := (Sum.inr (strV i) : L2.Key)) (by intro z; cases z)]
        refine ⟨by simp only [List.any_cons, hf, Bool.false_or]; exact a1, fun z ez => a2 z ?_, fun z => a3 ?_⟩
        · simpa only [fndK, List.find?_cons, hf] using ez
        · simpa only [fndK, List.find?_cons, hf] using z
      | @consS s u w ts vs h q =>
        obtain ⟨a1, a2, a3⟩ := ih _ q
        by_cases e : s = i
        · subst e
          have hf : eqF (.str s) (.str s) = true := by simp [eqF]
          rw [valV_pos (p := ((Sum.inr (strV s) : L2.Key), w)) rfl]
          refine ⟨by simp [hf], fun z ez => ?_, fun z => ?_⟩
          · simp only [fndK, List.find?_cons, hf, Option.map_some, Option.some.injEq] at ez
            subst ez; exact ⟨w, rfl, h⟩
          · simp [fndK, List.find?_cons, hf] at z
        · have hf : eqF (.str s) (.str i) = false := by simpa [eqF] using e
          rw [valV_neg (p := ((Sum.inr (strV s) : L2.Key), w)) (fun z => e (strV_inj (Sum.inr.inj z)))]
          refine ⟨by simp only [List.any_cons, hf, Bool.false_or]; exact a1, fun z ez => a2 z ?_, fun z => a3 ?_⟩
          · simpa only [fndK, List.find?_cons, hf] using ez
          · simpa only [fndK, List.find?_cons, hf] using z
  | _ => simp [keyT] at f
/-- y in d, by values -/
theorem op_inD' (hu : X.A.units + 1 < cLine) : OpR X (compareOp .In) (fun v u H Q => ∃ a o, u = .ref a ∧ DGet H a v o ∧ Q (.bl o.isSome) H) := by
  intro pins s σ H v u vv uu Q I rv ru h
  obtain ⟨a, o, rfl, g, q⟩ := h
  cases ru
  exact d_in hu I g rv fun s3 I3 => ⟨.bl o.isSome, H, I3, rfl, q⟩
theorem op_notInD' (hu : X.A.units + 1 < cLine) : OpR X (compareOp .NotIn) (fun v u H Q => ∃ a o, u = .ref a ∧ DGet H a v o ∧ Q (.bl (!o.isSome)) H) := by
  intro pins s σ H v u vv uu Q I rv ru h
  obtain ⟨a, o, rfl, g, q⟩ := h
  cases ru
  exact d_notIn hu I g rv fun s3 I3 => ⟨.bl (!o.isSome), H, I3, rfl, q⟩
/-- what in says of the values -/
theorem in_at {Z : Hp} {ρ : List Addr} {Hf H : Hp} {hp : Hl} (S : Sto G Z ρ Hf hp H) {x y : T} {v u : Vv} {b : Bool} (e : inT x y hp = some b) (rx : RepB G ρ Hf H x v) (ry : RepB G ρ Hf H y u) :
    (∃ c s, v = .str ⟨#[c]⟩ ∧ u = .str (strV s) ∧ b = decide (c ∈ (strV s).cps.toList)) ∨ (∃ a vs, u = .ref a ∧ (SqL G.K H a vs ∨ SqT G.K H a vs) ∧ flatV v = true ∧ vs.all flatV = true ∧ b = inV v vs) ∨ (∃ a o, u = .ref a ∧ DGet H a v o ∧ b = o.isSome) := by
  have dc : ∀ {kvs a gs}, u = .ref a → Rd H a (.dK gs) → RepK G ρ Hf kvs gs → inDc x kvs = some b → ∃ a o, u = .ref a ∧ DGet H a v o ∧ b = o.isSome := fun {kvs a gs} e1 e2 e3 e4 => by
    unfold inDc at e4
    split at e4
    · rename_i f
      cases e4
      obtain ⟨k, rfl, hk⟩ := key_kV f rx
      exact ⟨a, _, e1, (.inl ⟨_, _, e2, rfl, rfl⟩), (hk kvs gs e3).1⟩
    · cases e4
  have sq : ∀ {xs}, seqOf y hp = some xs → inSq x xs = some b → ∃ a vs, u = .ref a ∧ (SqL G.K H a vs ∨ SqT G.K H a vs) ∧ flatV v = true ∧ vs.all flatV = true ∧ b = inV v vs := fun {xs} e1 e2 => by
    unfold inSq at e2
    split at e2
    · rename_i f
      cases e2
      simp only [Bool.and_eq_true] at f
      obtain ⟨a, vs, h1, h2, h3⟩ := seq_at S e1 ry
      obtain ⟨i1, i2⟩ := inF_V f.1 rx f.2 h3
      exact ⟨a, vs, h1, h2, B_flat f.1 rx, i2, i1.symm⟩
    · cases e2
  cases y with
  | str t =>
    simp only [inT] at e
    split at e
    · rename_i c
      cases e
      refine .inl ⟨c, t, ?_, B_str ry, ?_⟩
      · rw [B_str rx]; rfl
      · rw [strV_list]
    · cases e
  | dct kvs =>
    obtain ⟨a, gs, h1, h2, h3⟩ := dct_at S (t := .dct kvs) rfl ry
    exact .inr (.inr (dc h1 h2 h3 e))
  | bD kvs =>
    obtain ⟨a, gs, h1, h2, h3⟩ := dct_at S (t := .bD kvs) rfl ry
    exact .inr (.inr (dc h1 h2 h3 e))
  | rf n =>
    simp only [inT] at e
    split at e
    · rename_i kvs hn
      obtain ⟨a, gs, h1, h2, h3⟩ := dct_at S (t := .rf n) (kvs := kvs) (by simp only [dctOf, hn]) ry
      exact .inr (.inr (dc h1 h2 h3 e))
    · rename_i xs hn
      exact .inr (.inl (sq (xs := xs) (by simp only [seqOf, hn]) e))
    · cases e
  | lst xs => exact .inr (.inl (sq (xs := xs) rfl e))
  | tup xs => exact .inr (.inl (sq (xs := xs) rfl e))
  | bL xs => exact .inr (.inl (sq (xs := xs) rfl e))
  | kl xs => exact .inr (.inl (sq (xs := xs.map T.int) rfl e))
  | _ => simp [inT, seqOf] at e
theorem op_inT (hK : X.K = G.K) (hu : X.A.units + 1 < cLine) : OpR X (compareOp .In) (rV G fun x y h => oR (inT x y h) h) := by
  intro pins s σ H v u vv uu Q I rv ru h
  obtain ⟨Z, W, σ', ρ, Hf, hp, x, y, S, rx, ry, h⟩ := h
  dsimp only at h
  cases e : inT x y hp with
  | none => rw [e] at h; exact h.elim
  | some b =>
    rw [e] at h
    have q := P_bl S h
    rcases in_at S e rx ry with ⟨c, z, rfl, rfl, rfl⟩ | ⟨a, vs, rfl, h1, h2, h3, rfl⟩ | ⟨a, o, rfl, h1, rfl⟩
    · exact op_in_sign pins s σ H _ _ vv uu Q I rv ru ⟨c, _, rfl, rfl, q⟩
    · exact op_in_seq pins s σ H _ _ vv uu Q I rv ru ⟨a, vs, rfl, by rw [hK]; exact h1, h2, h3, q⟩
    · exact op_inD' hu pins s σ H _ _ vv uu Q I rv ru ⟨a, o, rfl, h1, q⟩
theorem op_notInT (hK : X.K = G.K) (hu : X.A.units + 1 < cLine) : OpR X (compareOp .NotIn) (rV G fun x y h => oR ((inT x y h).map (!·)) h) := by
  intro pins s σ H v u vv uu Q I rv ru h
  obtain ⟨Z, W, σ', ρ, Hf, hp, x, y, S, rx, ry, h⟩ := h
  dsimp only at h
  cases e : inT x y hp with
  | none => rw [e] at h; exact h.elim
  | some b =>
    rw [e] at h
    have q := P_bl S h
    rcases in_at S e rx ry with ⟨c, z, rfl, rfl, rfl⟩ | ⟨a, vs, rfl, h1, h2, h3, rfl⟩ | ⟨a, o, rfl, h1, rfl⟩
    · exact op_notIn_sign pins s σ H _ _ vv uu Q I rv ru ⟨c, _, rfl, rfl, q⟩
    · exact op_notIn_seq pins s σ H _ _ vv uu Q I rv ru ⟨a, vs, rfl, by rw [hK]; exact h1, h2, h3, q⟩
    · exact op_notInD' hu pins s σ H _ _ vv uu Q I rv ru ⟨a, o, rfl, h1, q⟩
/-- a comparison by values -/
def copN : COp → CmpOp
  | .eq => .Eq | .ne => .NotEq | .lt => .Lt | .le => .LtE | .gt => .Gt | .ge => .GtE | .is => .Is | .isNot => .IsNot | .isIn => .In | .notIn => .NotIn
theorem op_cmpT (hK : X.K = G.K) (hu : X.A.units + 64 < cLine) (o : COp) : OpR X (compareOp (copN o)) (rV G (cmpT o)) := by
  have hu1 : X.A.units + 1 < cLine := by omega
  cases o with
  | eq => exact op_eqT hK hu
  | ne => exact op_neT hK hu
  | is => exact op_isT hK
  | isNot => exact op_isNotT hK
  | isIn => exact op_inT hK hu1
  | notIn => exact op_notInT hK hu1
  | lt => exact op_icmp hK .lt .Lt (by simp)
  | le => exact op_icmp hK .le .LtE (by simp)
  | gt => exact op_icmp hK .gt .Gt (by simp)
  | ge => exact op_icmp hK .ge .GtE (by simp)
/-! ### subscripts -/
theorem atI_at {ρ : List Addr} {Hf : Hp} {xs : List T} {vs : List Vv} {i : Int} {t : T} (r : Reps G ρ Hf xs vs) (e : Kb.atI xs i = some t) : ∃ w, L2.atI vs i = some w ∧ Rep G ρ Hf t w := by
  unfold Kb.atI at e
  unfold L2.atI
  have hl : Kb.ixN xs.length i = L2.ixN vs.length i := by rw [r.length]; rfl
  rw [hl] at e
  cases q : L2.ixN vs.length i with
  | none => rw [q] at e; cases e
  | some j =>
    rw [q] at e
    exact r.get e
theorem ix_dct (hu : X.A.units + 1 < cLine) : IxR X (fun v u H Q => ∃ a w, v = .ref a ∧ DGet H a u (some w) ∧ Q w H) := by
  intro value slice pins s σ H x y v u Q I rx ry h hs
  obtain ⟨a, w, rfl, g, q⟩ := h
  cases rx
  have hT := dict_typeIs I g
  unfold subscriptTail
  refine wpAny_bind ?_
  rw [getitemInPython_of_ne hT.not_modules]
  refine wpAny_bind (wpAny_specialOf hT PySem.F.slot_dict_getitem.lookup ?_)
  have fin : wpAny (model X.prog X.w) X.A (subscripted slice false (.ref a) u) (fun r s₃ => wpAny (model X.prog X.w) X.A (letTemporaryGo value (.ref a) r >>= fun _ => pure r) (EP X pins σ Q) X.xe s₃) X.xe s := by
    rw [hs]
    exact wpAny_operating (wpAny_mono (d_getItem hu I g ry fun w' s3 I3 rw' => (⟨w, H, I3, rw', q⟩ : EP X pins σ Q w' s3)) (fun r s₃ h₃ => wpAny_bind (wpAny_letTemporaryGo (wpAny_pure h₃))) fun _ _ x => x)
  first
    | exact wpAny_pure (wpAny_bind fin)
    | exact wpAny_bind (wpAny_pure (wpAny_bind fin))
    | exact wpAny_bind fin
theorem ix_T (hK : X.K = G.K) (hu : X.A.units + 1 < cLine) : IxR X (rV G idxT) := by
  intro value slice pins s σ H v u vv uu Q I rv ru h hs
  obtain ⟨Z, W, σ', ρ, Hf, hp, x, y, S, rx, ry, h⟩ := h
  have dc : ∀ {kvs a gs}, v = .ref a → Rd H a (.dK gs) → RepK G ρ Hf kvs gs → Post G Z W σ' (RepB G) ρ Hf H Q (idxDc kvs y hp) → wpAny (model X.prog X.w) X.A (subscriptTail value slice vv uu) (EP X pins σ Q) X.xe s := fun {kvs a gs} e1 e2 e3 h => by
    unfold idxDc at h
    split at h
    · rename_i f
      obtain ⟨k, rfl, hk⟩ := key_kV f ry
      split at h
      · rename_i t ht
        obtain ⟨w, h1, h2⟩ := (hk kvs gs e3).2.1 t ht
        refine ix_dct hu value slice pins s σ H _ _ vv uu Q I rv ru ⟨a, w, e1, ?_, P_rep S h2 h⟩ hs
        rw [← h1]; exact (.inl ⟨_, _, e2, rfl, rfl⟩)
      · exact h.elim
    · exact h.elim
  have sq : ∀ {xs}, seqOf x hp = some xs → Post G Z W σ' (RepB G) ρ Hf H Q (idxSq xs y hp) → wpAny (model X.prog X.w) X.A (subscriptTail value slice vv uu) (EP X pins σ Q) X.xe s := fun {xs} e1 h => by
    cases y with
    | int i =>
      simp only [idxSq] at h
      obtain rfl := B_int ry
      split at h
      · rename_i t ht
        obtain ⟨a, vs, rfl, h2, h3⟩ := seq_at S e1 rx
        obtain ⟨w, h4, h5⟩ := atI_at h3 ht
        rcases h2 with h2 | h2
        · exact ix_list value slice pins s σ H _ _ vv uu Q I rv ru ⟨a, vs, i, w, rfl, rfl, by rw [hK]; exact h2, h4, P_rep S h5 h⟩ hs
        · exact ix_tup value slice pins s σ H _ _ vv uu Q I rv ru ⟨a, vs, i, w, rfl, rfl, by rw [hK]; exact h2, h4, P_rep S h5 h⟩ hs
      · exact h.elim
    | _ => exact (show False from h).elim
  unfold idxT at h
  split at h
  · split at h
    · obtain rfl := B_str rx; obtain rfl := B_int ry
      split at h
      · rename_i hl
        split at h
        · rename_i c hc
          refine ix_str value slice pins s σ H _ _ vv uu Q I rv ru ⟨_, _, c, rfl, rfl, by rw [strV_len, ← maxLen_eq]; exact hl, ?_, ?_⟩ hs
          · rw [strV_list]; exact hc
          · exact P_str S h
        · exact h.elim
      · exact h.elim
    · exact h.elim
  · obtain ⟨a, gs, h1, h2, h3⟩ := dct_at S (t := .dct _) rfl rx
    exact dc h1 h2 h3 h
  · obtain ⟨a, gs, h1, h2, h3⟩ := dct_at S (t := .bD _) rfl rx
    exact dc h1 h2 h3 h
  · rename_i n
    split at h
    · rename_i kvs hn
      obtain ⟨a, gs, h1, h2, h3⟩ := dct_at S (t := .rf n) (kvs := kvs) (by simp only [dctOf, hn]) rx
      exact dc h1 h2 h3 h
    · rename_i xs hn
      exact sq (by simp only [seqOf, hn]) h
    · exact h.elim
  · split at h
    · rename_i xs hx
      exact sq hx h
    · exact h.elim
end
end Kb
end
section
set_option Elab.async false
set_option linter.all false
set_option maxRecDepth 100000
set_option maxHeartbeats 4000000
set_option autoImplicit false
/-! Kb4: slices, truth, built-in functions and methods by values, isinstance. -/
namespace Kb
open PySem PySem.Spec PyProof.Rows L2
section
variable {X : Cx} {G : Gm}
/-! ### slices -/
theorem sIx_eq (n d : Nat) (o : Option Int) : Kb.sIx n d o = HT.sIx n d o := by
  unfold Kb.sIx HT.sIx
  rfl
theorem cut_at {ρ : List Addr} {Hf : Hp} {xs : List T} {vs : List Vv} (r : Reps G ρ Hf xs vs) (lo hi : Option Int) : Reps G ρ Hf (cutT xs lo hi) (cutV vs lo hi) := by
  unfold cutT cutV
  rw [sIx_eq, sIx_eq, r.length]
  exact (r.drop _).take _
def rSl (G : Gm) : Vv → Option Int → Option Int → Hp → L2.VK → Prop := fun v lo hi H Q => ∃ Z W σ ρ Hf hp x, Sto G Z ρ Hf hp H ∧ RepB G ρ Hf H x v ∧ Post G Z W σ (RepB G) ρ Hf H Q (slT x lo hi hp)
theorem cutStr (s : List Nat) (lo hi : Option Int) : cutS (strV s) lo hi = strV (cutT s lo hi) := by
  unfold cutS cutT
  rw [strV_list, sIx_eq, sIx_eq, strV_len]; rfl
theorem sl_strR : SlR X (fun x lo hi H Q => ∃ z, x = .str z ∧ z.length ≤ sizeLine ∧ Q (.str (cutS z lo hi)) H) := by
  first
    | exact sl_str
    | (intro pins s σ H x v vl vu lo hi sl Q I rx hs pl pu h
       exact sl_str pins s σ H x v vl vu lo hi sl Q I rx hs pl pu h)
theorem sl_T (hK : X.K = G.K) : SlR X (rSl G) := by
  intro pins s σ H v vv vl vu lo hi sl Q I rv hs pl pu h
  obtain ⟨Z, W, σ', ρ, Hf, hp, x, S, rx, h⟩ := h
  have ls : ∀ {xs}, lstOf x hp = some xs → Post G Z W σ' (RepB G) ρ Hf H Q (.ok (.lst (cutT xs lo hi)) hp) → rSlL X.K v lo hi H Q := fun {xs} e h => by
    obtain ⟨a, vs, e1, h2, h3⟩ := lst_at S e rx
    exact ⟨a, vs, e1, by rw [hK]; exact h2, P_lst S (cut_at h3 lo hi) h⟩
  have go : rSlL X.K v lo hi H Q → _ := sl_list pins s σ H v vv vl vu lo hi sl Q I rv hs pl pu
  cases x with
  | str z =>
    simp only [slT] at h
    split at h
    · rename_i hl
      obtain rfl := B_str rx
      exact sl_strR pins s σ H _ vv vl vu lo hi sl Q I rv hs pl pu ⟨_, rfl, by rw [strV_len, ← maxLen_eq]; exact hl, by rw [cutStr]; exact P_str S h⟩
    · exact h.elim
  | tup xs =>
    simp only [slT] at h
    obtain ⟨a, vs, rfl, h1, r1⟩ := B_tup rx
    refine sl_tupA pins s σ H _ vv vl vu lo hi sl Q I rv hs pl pu ⟨a, vs, rfl, by rw [hK]; exact S.ex.st h1, fun e => ?_, fun _ => P_tup S (cut_at r1 lo hi) h⟩
    have e2 : cutT xs lo hi = xs := by
      unfold cutT
      rw [sIx_eq, sIx_eq, r1.length, e.1, e.2, List.drop_zero, Nat.sub_zero, ← r1.length, List.take_length]
    rw [e2] at h
    exact P_tupS S r1 h1 h
  | lst xs => exact go (ls (xs := xs) rfl h)
  | bL xs => exact go (ls (xs := xs) rfl h)
  | kl xs => exact go (ls (xs := xs.map T.int) rfl h)
  | rf n =>
    simp only [slT] at h
    split at h
    · rename_i xs hx; exact go (ls hx h)
    · exact h.elim
  | _ => simp [slT, lstOf, seqOf] at h; exact h.elim
/-! ### truth -/
theorem tru_at {Z : Hp} {ρ : List Addr} {Hf H : Hp} {hp : Hl} (S : Sto G Z ρ Hf hp H) (hK : X.K = G.K) {t : T} {v : Vv} {b : Bool} (e : truT t hp = some b) (r : RepB G ρ Hf H t v) : TruV X.K v H b := by
  have sq : ∀ {xs}, seqOf t hp = some xs → b = (!xs.isEmpty) → TruV X.K v H b := fun {xs} e1 e2 => by
    obtain ⟨a, vs, rfl, h2, h3⟩ := seq_at S e1 r
    have e3 : xs.isEmpty = vs.isEmpty := by
      cases h3 <;> rfl
    rw [e3] at e2
    rw [hK]
    rcases h2 with h2 | h2
    · exact .inl ⟨vs, h2, e2⟩
    · exact .inr (.inl ⟨vs, h2, e2⟩)
  have gen : (seqOf t hp).map (fun xs => !xs.isEmpty) = some b → TruV X.K v H b := fun e => by
    obtain ⟨xs, e1, e2⟩ := Option.map_eq_some_iff.mp e
    exact sq e1 e2.symm
  cases t with
  | non => simp only [truT] at e; cases e; obtain rfl := B_non r; rfl
  | bl c => simp only [truT] at e; cases e; obtain rfl := B_bl r; rfl
  | int c => simp only [truT] at e; cases e; obtain rfl := B_int r; rfl
  | str c =>
    simp only [truT] at e
    split at e
    · rename_i hl
      cases e
      obtain rfl := B_str r
      refine ⟨by rw [strV_len, ← maxLen_eq]; exact hl, ?_⟩
      rw [strV_len]
      cases c with
      | nil => rfl
      | cons a c =>
        show true = _
        symm
        simp only [List.length_cons, bne_iff_ne, ne_eq]
        omega
    · cases e
  | _ => exact gen e
theorem tru_T (hK : X.K = G.K) : TruR X (fun v H Q => ∃ Z W σ ρ Hf hp x, Sto G Z ρ Hf hp H ∧ RepB G ρ Hf H x v ∧ Post G Z W σ (fun _ _ _ (a b : Bool) => a = b) ρ Hf H Q (tru x hp)) := by
  intro pins s σ H v vv Q I rv h
  obtain ⟨Z, W, σ', ρ, Hf, hp, x, S, rx, h⟩ := h
  unfold tru at h
  split at h
  · rename_i b e
    exact tru_ok pins s σ H v vv Q I rv ⟨b, tru_at S hK e rx, h.ret S rfl⟩
  · exact h.elim
/-! ### built-in functions -/
def rF (G : Gm) (f : List T → Hl → R T) : List Vv → Hp → L2.VK → Prop := fun vs H Q => ∃ Z W σ ρ Hf hp xs, Sto G Z ρ Hf hp H ∧ RepBs G ρ Hf H xs vs ∧ Post G Z W σ (RepB G) ρ Hf H Q (f xs hp)
theorem allInts_at {ρ : List Addr} {Hf : Hp} : ∀ {xs : List T} {ns : List Int} {vs : List Vv}, allInts xs = some ns → Reps G ρ Hf xs vs → vs = ns.map L2.V.int := by
  intro xs
  induction xs with
  | nil => intro ns vs e r; simp only [allInts] at e; cases e; cases r; rfl
  | cons t ts ih =>
    intro ns vs e r
    cases t with
    | int i =>
      simp only [allInts, Option.map_eq_some_iff] at e
      obtain ⟨ms, e1, rfl⟩ := e
      cases r with
      | cons h q =>
        cases h
        rw [ih e1 q]; rfl
    | _ => simp [allInts] at e
theorem allBls_at {ρ : List Addr} {Hf : Hp} : ∀ {xs : List T} {ns : List Bool} {vs : List Vv}, allBls xs = some ns → Reps G ρ Hf xs vs → vs = ns.map L2.V.bl := by
  intro xs
  induction xs with
  | nil => intro ns vs e r; simp only [allBls] at e; cases e; cases r; rfl
  | cons t ts ih =>
    intro ns vs e r
    cases t with
    | bl i =>
      simp only [allBls, Option.map_eq_some_iff] at e
      obtain ⟨ms, e1, rfl⟩ := e
      cases r with
      | cons h q =>
        cases h
        rw [ih e1 q]; rfl
    | _ => simp [allBls] at e
theorem allStrs_at {ρ : List Addr} {Hf : Hp} : ∀ {xs : List T} {ns : List (List Nat)} {vs : List Vv}, allStrs xs = some ns → Reps G ρ Hf xs vs → vs = (ns.map strV).map L2.V.str := by
  intro xs
  induction xs with
  | nil => intro ns vs e r; simp only [allStrs] at e; cases e; cases r; rfl
  | cons t ts ih =>
    intro ns vs e r
    cases t with
    | str i =>
      simp only [allStrs, Option.map_eq_some_iff] at e
      obtain ⟨ms, e1, rfl⟩ := e
      cases r with
      | cons h q =>
        cases h
        rw [ih e1 q]; rfl
    | _ => simp [allStrs] at e
theorem one_of {ρ : List Addr} {Hf H : Hp} {x : T} {vs : List Vv} (r : RepBs G ρ Hf H [x] vs) : ∃ v, vs = [v] ∧ RepB G ρ Hf H x v := by
  cases r with
  | cons h q => cases q; exact ⟨_, rfl, h⟩
theorem two_of {ρ : List Addr} {Hf H : Hp} {x y : T} {vs : List Vv} (r : RepBs G ρ Hf H [x, y] vs) : ∃ v u, vs = [v, u] ∧ RepB G ρ Hf H x v ∧ RepB G ρ Hf H y u := by
  cases r with
  | cons h q =>
    obtain ⟨u, rfl, h2⟩ := one_of q
    exact ⟨_, _, rfl, h, h2⟩
theorem digI_text {s : List Nat} {i : Int} (h : digI s = some i) : PySem.intText? (strV s) = some i ∧ s.length = 1 := by
  unfold digI at h
  split at h
  · rename_i c
    split at h
    · rename_i hc
      cases h
      simp only [Bool.and_eq_true, decide_eq_true_eq] at hc
      refine ⟨?_, rfl⟩
      have key : ∀ d : Nat, d < 10 → PySem.intText? (strV [48 + d]) = some (((48 + d : Nat) : Int) - 48) := by decide +kernel
      have := key (c - 48) (by omega)
      rw [show 48 + (c - 48) = c by omega] at this
      exact this
    · cases h
  · cases h
theorem maxI_spec : ∀ (ns : List Int) (n : Int), (maxI n ns = n ∨ maxI n ns ∈ ns) ∧ n ≤ maxI n ns ∧ ∀ y ∈ ns, y ≤ maxI n ns := by
  intro ns
  induction ns with
  | nil => intro n; exact ⟨.inl rfl, Int.le_refl _, fun y h => nomatch h⟩
  | cons a r ih =>
    intro n
    obtain ⟨h1, h2, h3⟩ := ih (if a > n then a else n)
    have hm : n ≤ (if a > n then a else n) ∧ a ≤ (if a > n then a else n) := by split <;> omega
    refine ⟨?_, Int.le_trans hm.1 h2, fun y hy => ?_⟩
    · rcases h1 with h1 | h1
      · show maxI (if a > n then a else n) r = n ∨ maxI (if a > n then a else n) r ∈ a :: r
        rw [h1]
        by_cases c : a > n
        · rw [if_pos c]; exact .inr List.mem_cons_self
        · rw [if_neg c]; exact .inl rfl
      · exact .inr (List.mem_cons_of_mem _ h1)
    · rcases List.mem_cons.mp hy with rfl | hy
      · exact Int.le_trans hm.2 h2
      · exact h3 y hy
theorem minI_spec : ∀ (ns : List Int) (n : Int), (minI n ns = n ∨ minI n ns ∈ ns) ∧ minI n ns ≤ n ∧ ∀ y ∈ ns, minI n ns ≤ y := by
  intro ns
  induction ns with
  | nil => intro n; exact ⟨.inl rfl, Int.le_refl _, fun y h => nomatch h⟩
  | cons a r ih =>
    intro n
    obtain ⟨h1, h2, h3⟩ := ih (if a < n then a else n)
    have hm : (if a < n then a else n) ≤ n ∧ (if a < n then a else n) ≤ a := by split <;> omega
    refine ⟨?_, Int.le_trans h2 hm.1, fun y hy => ?_⟩
    · rcases h1 with h1 | h1
      · show minI (if a < n then a else n) r = n ∨ minI (if a < n then a else n) r ∈ a :: r
        rw [h1]
        by_cases c : a < n
        · rw [if_pos c]; exact .inr List.mem_cons_self
        · rw [if_neg c]; exact .inl rfl
      · exact .inr (List.mem_cons_of_mem _ h1)
    · rcases List.mem_cons.mp hy with rfl | hy
      · exact Int.le_trans h2 hm.2
      · exact h3 y hy
theorem maxI_eq {n : Int} {ns : List Int} {m : Int} (hm : m ∈ n :: ns) (hle : ∀ y, y ∈ n :: ns → y ≤ m) : m = maxI n ns := by
  obtain ⟨h1, h2, h3⟩ := maxI_spec ns n
  have a1 : maxI n ns ≤ m := by
    rcases h1 with h1 | h1
    · rw [h1]; exact hle n List.mem_cons_self
    · exact hle _ (List.mem_cons_of_mem _ h1)
  have a2 : m ≤ maxI n ns := by
    rcases List.mem_cons.mp hm with rfl | hm
    · exact h2
    · exact h3 m hm
  omega
theorem minI_eq {n : Int} {ns : List Int} {m : Int} (hm : m ∈ n :: ns) (hle : ∀ y, y ∈ n :: ns → m ≤ y) : m = minI n ns := by
  obtain ⟨h1, h2, h3⟩ := minI_spec ns n
  have a1 : m ≤ minI n ns := by
    rcases h1 with h1 | h1
    · rw [h1]; exact hle n List.mem_cons_self
    · exact hle _ (List.mem_cons_of_mem _ h1)
  have a2 : minI n ns ≤ m := by
    rcases List.mem_cons.mp hm with rfl | hm
    · exact h2
    · exact h3 m hm
  omega
theorem call_lenT (hK : X.K = G.K) : CallR X (.builtin "len") (rF G lenF) := by
  intro pins s σ H vs us Q I rv h
  obtain ⟨Z, W, σ', ρ, Hf, hp, xs, S, rx, h⟩ := h
  unfold lenF at h
  split at h
  case h_2 => exact h.elim
  case h_1 x =>
      obtain ⟨v, rfl, r1⟩ := one_of rx
      split at h
      · rename_i n e
        have sq : ∀ {xs}, seqOf x hp = some xs → n = xs.length → LenV X.K v H n := fun {xs} e1 e2 => by
          obtain ⟨a, vs, rfl, h2, h3⟩ := seq_at S e1 r1
          rw [hK]
          rcases h2 with h2 | h2
          · exact .inl ⟨vs, h2, by rw [e2, h3.length]⟩
          · exact .inr ⟨vs, h2, by rw [e2, h3.length]⟩
        have fin : LenV X.K v H n → wpAny (model X.prog X.w) X.A (call (.builtin "len") us) (EP X pins σ Q) X.xe s := fun l => call_len pins s σ H _ us Q I rv ⟨v, n, rfl, l, P_int S h⟩
        have dc : ∀ {a gs}, v = .ref a → Rd H a (.dK gs) → n = gs.length → wpAny (model X.prog X.w) X.A (call (.builtin "len") us) (EP X pins σ Q) X.xe s := fun {a gs} e1 e2 e3 => by
          subst e1
          obtain ⟨u, rfl, ru⟩ := vals1 rv
          cases ru
          subst e3
          exact d_len I e2 fun t s' I' => ⟨.int _, H, I', ⟨_, rfl⟩, P_int S h⟩
        have rk : ∀ {kvs : List (T × T)} {gs : List (L2.Key × Vv)}, RepK G ρ Hf kvs gs → kvs.length = gs.length := by
          intro kvs
          induction kvs with
          | nil => intro gs q; cases q; rfl
          | cons p ps ih =>
            intro gs q
            cases q with
            | consI h q => rw [List.length_cons, List.length_cons, ih q]
            | consS h q => rw [List.length_cons, List.length_cons, ih q]
        cases x with
        | str z =>
          simp only [lenT] at e
          split at e
          · rename_i hl
            cases e
            obtain rfl := B_str r1
            exact fin ⟨by rw [strV_len, ← maxLen_eq]; exact hl, by rw [strV_len]⟩
          · cases e
        | dct kvs =>
          simp only [lenT] at e; cases e
          obtain ⟨a, gs, h1, h2, h3⟩ := dct_at S (t := .dct kvs) rfl r1
          exact dc h1 h2 (rk h3)
        | bD kvs =>
          simp only [lenT] at e; cases e
          obtain ⟨a, gs, h1, h2, h3⟩ := dct_at S (t := .bD kvs) rfl r1
          exact dc h1 h2 (rk h3)
        | rf m =>
          simp only [lenT] at e
          split at e
          · rename_i kvs hn
            cases e
            obtain ⟨a, gs, h1, h2, h3⟩ := dct_at S (t := .rf m) (kvs := kvs) (by simp only [dctOf, hn]) r1
            exact dc h1 h2 (rk h3)
          · rename_i ys hn
            cases e
            exact fin (sq (xs := ys) (by simp only [seqOf, hn]) rfl)
          · cases e
        | lst ys => simp only [lenT, seqOf, Option.map_some] at e; cases e; exact fin (sq (xs := ys) rfl rfl)
        | tup ys => simp only [lenT, seqOf, Option.map_some] at e; cases e; exact fin (sq (xs := ys) rfl rfl)
        | bL ys => simp only [lenT, seqOf, Option.map_some] at e; cases e; exact fin (sq (xs := ys) rfl rfl)
        | kl ys => simp only [lenT, seqOf, Option.map_some] at e; cases e; exact fin (sq (xs := ys.map T.int) rfl rfl)
        | _ => simp [lenT, seqOf] at e
      · exact h.elim
theorem call_absT : CallR X (.builtin "abs") (rF G absF) := by
  intro pins s σ H vs us Q I rv h
  obtain ⟨Z, W, σ', ρ, Hf, hp, xs, S, rx, h⟩ := h
  unfold absF at h
  split at h
  · obtain ⟨v, rfl, r1⟩ := one_of rx
    obtain rfl := B_int r1
    exact call_abs pins s σ H _ us Q I rv ⟨_, rfl, P_int S h⟩
  · exact h.elim
/-! a text of bits, read in base two -/
section
open PySem.NumText PySem.Calls
def IsB (c : Nat) : Prop := c = 48 ∨ c = 49
theorem IsB.hex {c : Nat} (h : IsB c) : Hx.IsHex c := .inl (by unfold IsB at h; omega)
theorem IsB.hv {c : Nat} (h : IsB c) : Hx.hv c = c - 48 := by
  unfold IsB at h
  unfold Hx.hv
  rw [if_pos (by omega)]
theorem stepB {ds : Array Nat} {b : Bool} {c : Nat} (h : IsB c) : PySem.NumText.step 2 (ds, b) c = some (ds.push (c - 48), true) := by
  have hr := Hx.hex_rng h.hex
  have hd := Hx.digit_hex h.hex
  have lt : c - 48 < 2 := by unfold IsB at h; omega
  rw [h.hv] at hd
  unfold PySem.NumText.step
  rw [if_neg (by rw [beq_iff_eq]; exact hr.2.2), hd]
  exact if_pos lt
theorem foldlB : ∀ (cs : List Nat) (ds : Array Nat) (z : Bool), (∀ c ∈ cs, IsB c) → ∃ z', (cs.foldlM (PySem.NumText.step 2) (ds, z)) = some (cs.foldl (fun acc c => acc.push (c - 48)) ds, z') ∧ (cs ≠ [] → z' = true)
  | [], _, z, _ => ⟨z, rfl, fun h => (h rfl).elim⟩
  | c :: cs, ds, z, h => by
    obtain ⟨z', e, q⟩ := foldlB cs (ds.push (c - 48)) true fun d hd => h d (List.mem_cons_of_mem _ hd)
    refine ⟨z', ?_, fun _ => ?_⟩
    · rw [List.foldlM_cons, stepB (h c List.mem_cons_self)]
      exact e
    · cases cs with
      | nil =>
        rw [List.foldlM_nil] at e
        have e := Option.some.inj e
        exact (Prod.mk.inj e).2.symm
      | cons d cs => exact q (by simp)
theorem digitsB {cs : List Nat} (h : ∀ c ∈ cs, IsB c) (hne : cs ≠ []) : digits? 2 cs = some (cs.foldl (fun acc c => acc.push (c - 48)) #[]) := by
  obtain ⟨z, e, q⟩ := foldlB cs #[] false h
  have z1 := q hne
  subst z1
  unfold digits?
  rw [e]; rfl
theorem sumB : ∀ (cs : List Nat) (ds : Array Nat), (cs.foldl (fun acc c => acc.push (c - 48)) ds).foldl (fun acc d => acc * 2 + d) 0 = cs.foldl (fun a c => a * 2 + (c - 48)) (ds.foldl (fun acc d => acc * 2 + d) 0)
  | [], _ => rfl
  | c :: cs, ds => by
    rw [List.foldl_cons, sumB cs (ds.push (c - 48)), List.foldl_cons, Array.foldl_push]
theorem basedB {cs : List Nat} (h : ∀ c ∈ cs, IsB c) : based 2 cs = (2, false, cs) := by
  match cs, h with
  | [], _ => rfl
  | [a], h =>
    have ha : IsB a := h a List.mem_cons_self
    unfold IsB at ha
    rcases ha with rfl | rfl <;> rfl
  | a :: c :: r, h =>
    have ha : IsB a := h a List.mem_cons_self
    have hc : IsB c := h c (List.mem_cons_of_mem _ List.mem_cons_self)
    unfold IsB at ha hc
    rcases ha with rfl | rfl <;> rcases hc with rfl | rfl <;> rfl
theorem readB {cs : List Nat} (h : ∀ c ∈ cs, IsB c) (hne : cs ≠ []) : (int_private% "readNumeral") 0 2 cs = (int_private% "Numeral.value") ((binN cs : Nat) : Int) := by
  have hx : ∀ c ∈ cs, Hx.IsHex c := fun c m => (h c m).hex
  have hr : ∀ c ∈ cs.reverse, Hx.IsHex c := fun c m => hx c (List.mem_reverse.mp m)
  refine (readNumeral_eq 0 2 cs).trans ?_
  rw [Hx.dropB hx, Hx.signH hx]
  show judge 0 false (based 2 cs).1 (based 2 cs).2.1 (digits? (based 2 cs).1 (((based 2 cs).2.2.reverse.dropWhile blank).reverse)) = _
  rw [basedB h]
  show judge 0 false 2 false (digits? 2 ((cs.reverse.dropWhile blank).reverse)) = _
  rw [Hx.dropB hr, List.reverse_reverse, digitsB h hne]
  show (int_private% "Numeral.value") (((cs.foldl (fun acc c => acc.push (c - 48)) (#[] : Array Nat)).foldl (fun acc d => acc * 2 + d) 0 : Nat) : Int) = _
  rw [sumB]; rfl
set_option maxHeartbeats 4000000 in
theorem givesB {x : PySem.Str} {u t : Tok} (hl : x.length ≤ 640) (h : ∀ c ∈ x.cps.toList, IsB c) (hne : x.cps.toList ≠ []) : Gives (Builtin.«int.__new__» ⟨[.type "int", .str x u, .int 2 t], []⟩) (.int ((binN x.cps.toList : Nat) : Int)) :=
  .of_wp fun M A E s Q hQ => by
    obtain ⟨hp, g, d, tk, os⟩ := s
    have f1 := F.conv_sub_int
    have f2 := F.madeHere_int
    have f6 : typeOf (.str x u) = pure (.type "str") := rfl
    obtain ⟨e1, e2⟩ := Hx.seen_hex fun c m => (h c m).hex
    have hk := Hx.Hid.mk (And.intro (show (numSeenOf x).length ≤ 640 by rw [e2, Array.length_toList]; exact hl) (And.intro (show (int_private% "readNumeral") 0 2 (numSeenOf x) = (int_private% "Numeral.value") ((binN x.cps.toList : Nat) : Int) by rw [e2]; exact readB h hne) (show ((numSeenOf x).length == (numTextOf x).length) = true by rw [e1, e2]; exact beq_self_eq_true _)))
    clear e1 e2 hl hne h
    repeat (any_goals (first
      | assumption
      | ((with_reducible show wpAny _ _ ((int_private% "intFromText") _ _ _) _ _ _); refine Hx.wp_textB hk.out.1 hk.out.2.1 hk.out.2.2 ?_)
      | wp_step))
    all_goals first | exact ⟨_, rfl, hQ⟩ | skip
theorem wpB {prog : Program} {w : World} {A : Around} {E : Value → Shared → Prop} {s : Shared} {Q : Value → Shared → Prop} {x : PySem.Str} {u t : Tok} (hl : x.length ≤ 640) (h : ∀ c ∈ x.cps.toList, IsB c) (hne : x.cps.toList ≠ []) (hQ : Q (.int ((binN x.cps.toList : Nat) : Int) s.toks) { s with toks := s.toks + 1 }) : wpAny (model prog w) A (call (.type "int") [.str x u, .int 2 t]) Q E s :=
  callType_new F.called_int F.newNe_int (Hx.typeCall_int_2 _ _) (Hx.newCall_int_2 _ _) (fun obj => F.initArgs_range_2 obj _ _) F.entry_int_new (givesB hl h hne).meets (show (Made.int ((binN x.cps.toList : Nat) : Int)).post _ s from ⟨rfl, hQ⟩)
end
theorem call_intT : CallR X (.type "int") (rF G intF) := by
  intro pins s σ H vs us Q I rv h
  obtain ⟨Z, W, σ', ρ, Hf, hp, xs, S, rx, h⟩ := h
  unfold intF at h
  split at h
  · obtain ⟨v, rfl, r1⟩ := one_of rx
    obtain rfl := B_int r1
    exact call_int1 pins s σ H _ us Q I rv (.inl ⟨_, rfl, P_int S h⟩)
  · obtain ⟨v, rfl, r1⟩ := one_of rx
    obtain rfl := B_bl r1
    exact call_int1 pins s σ H _ us Q I rv (.inr ⟨_, rfl, P_int S h⟩)
  · obtain ⟨v, rfl, r1⟩ := one_of rx
    obtain rfl := B_str r1
    split at h
    · rename_i i e
      obtain ⟨h1, h2⟩ := digI_text e
      exact call_int_str pins s σ H _ us Q I rv ⟨_, i, rfl, h1, by rw [strV_len, h2]; decide, P_int S h⟩
    · exact h.elim
  · rename_i t
    obtain ⟨v1, v2, rfl, q1, q2⟩ := two_of rx
    obtain rfl := B_str q1
    obtain rfl := B_int q2
    split at h
    · rename_i ok
      simp only [Bool.and_eq_true, decide_eq_true_eq, List.all_eq_true, Bool.not_eq_true', List.isEmpty_eq_false_iff] at ok
      obtain ⟨u1, u2, rfl, w1, w2⟩ := vals2 rv
      obtain ⟨t1, rfl⟩ := w1
      obtain ⟨t2, rfl⟩ := w2
      have tl : (strV t).cps.toList = t := by simp [strV]
      refine wpB (by rw [strV_len]; exact ok.2) (by rw [tl]; intro c m; have := ok.1.1 c m; unfold IsB; simpa using this) (by rw [tl]; exact ok.1.2) ?_
      rw [tl]
      exact ⟨.int ((binN t : Nat) : Int), H, I.tok _, ⟨_, rfl⟩, P_int S h⟩
    · exact h.elim
  · exact h.elim
theorem strV_neg (s : List Nat) : strV (45 :: s) = strV [45] ++ strV s := by rw [← strV_app]; rfl
theorem intS_str (i : Int) : strV (intS i) = Str.ofString (toString i) := by
  apply TL.ext_tl
  rw [show TL.tl (strV (intS i)) = intS i from strV_list _]
  cases i with
  | ofNat n =>
    have h := TL.tl_num n
    show intS (n : Int) = TL.tl (Str.ofString (toString ((n : Nat) : Int)))
    rw [h]
    unfold intS
    rw [if_neg (by omega)]
    rfl
  | negSucc n =>
    have e : toString (Int.negSucc n) = "-" ++ toString (n + 1) := rfl
    rw [TL.tl_ofString, e]
    unfold intS
    rw [if_pos (Int.negSucc_lt_zero n)]
    have h := TL.tl_num (n + 1)
    rw [TL.tl_ofString] at h
    have e2 : toString (((n + 1 : Nat) : Int)) = toString (n + 1) := rfl
    rw [e2] at h
    rw [String.toList_append, List.map_append, h]
    rfl
theorem call_strT : CallR X (.type "str") (rF G strF) := by
  intro pins s σ H vs us Q I rv h
  obtain ⟨Z, W, σ', ρ, Hf, hp, xs, S, rx, h⟩ := h
  unfold strF at h
  split at h
  · obtain ⟨v, rfl, r1⟩ := one_of rx
    obtain rfl := B_int r1
    split at h
    · rename_i i c
      refine call_str_int pins s σ H _ us Q I rv ⟨i, rfl, c, ?_⟩
      rw [← intS_str]
      exact P_str S h
    · exact h.elim
  · exact h.elim
theorem call_sumT (hK : X.K = G.K) (hc : X.calm = true) : CallR X (.builtin "sum") (rF G sumF) := by
  intro pins s σ H vs us Q I rv h
  obtain ⟨Z, W, σ', ρ, Hf, hp, xs, S, rx, h⟩ := h
  unfold sumF at h
  split at h
  · obtain ⟨v, rfl, r1⟩ := one_of rx
    split at h
    · rename_i ns e
      obtain ⟨ys, e1, e2⟩ := Option.bind_eq_some_iff.mp e
      obtain ⟨a, ws, rfl, h2, h3⟩ := lst_at S e1 r1
      obtain rfl := allInts_at e2 h3
      exact cr_sum hc pins s σ H _ us Q I rv ⟨a, ns, rfl, by rw [hK]; exact h2, P_int S h⟩
    · exact h.elim
  · exact h.elim
theorem call_allT (hK : X.K = G.K) (hc : X.calm = true) : CallR X (.builtin "all") (rF G allF) := by
  intro pins s σ H vs us Q I rv h
  obtain ⟨Z, W, σ', ρ, Hf, hp, xs, S, rx, h⟩ := h
  unfold allF at h
  split at h
  · obtain ⟨v, rfl, r1⟩ := one_of rx
    split at h
    · rename_i ns e
      obtain ⟨ys, e1, e2⟩ := Option.bind_eq_some_iff.mp e
      obtain ⟨a, ws, rfl, h2, h3⟩ := lst_at S e1 r1
      obtain rfl := allBls_at e2 h3
      exact cr_all hc pins s σ H _ us Q I rv ⟨a, ns, rfl, by rw [hK]; exact h2, P_bl S h⟩
    · exact h.elim
  · exact h.elim
theorem call_anyT (hK : X.K = G.K) (hc : X.calm = true) : CallR X (.builtin "any") (rF G anyF) := by
  intro pins s σ H vs us Q I rv h
  obtain ⟨Z, W, σ', ρ, Hf, hp, xs, S, rx, h⟩ := h
  unfold anyF at h
  split at h
  · obtain ⟨v, rfl, r1⟩ := one_of rx
    split at h
    · rename_i ns e
      obtain ⟨ys, e1, e2⟩ := Option.bind_eq_some_iff.mp e
      obtain ⟨a, ws, rfl, h2, h3⟩ := lst_at S e1 r1
      obtain rfl := allBls_at e2 h3
      exact cr_any hc pins s σ H _ us Q I rv ⟨a, ns, rfl, by rw [hK]; exact h2, P_bl S h⟩
    · exact h.elim
  · exact h.elim
theorem call_gcdT : CallR X (.builtin "math.gcd") (rF G gcdF) := by
  intro pins s σ H vs us Q I rv h
  obtain ⟨Z, W, σ', ρ, Hf, hp, xs, S, rx, h⟩ := h
  unfold gcdF at h
  split at h
  · obtain ⟨v, u, rfl, r1, r2⟩ := two_of rx
    obtain rfl := B_int r1; obtain rfl := B_int r2
    exact cr_gcd pins s σ H _ us Q I rv ⟨_, _, rfl, P_int S h⟩
  · exact h.elim
theorem call_max2T (hc : X.calm = true) : CallR X (.builtin "max") (rF G max2F) := by
  intro pins s σ H vs us Q I rv h
  obtain ⟨Z, W, σ', ρ, Hf, hp, xs, S, rx, h⟩ := h
  unfold max2F at h
  split at h
  · obtain ⟨v, u, rfl, r1, r2⟩ := two_of rx
    obtain rfl := B_int r1; obtain rfl := B_int r2
    exact call_max2 hc pins s σ H _ us Q I rv ⟨_, _, rfl, P_int S h⟩
  · exact h.elim
theorem call_min2T (hc : X.calm = true) : CallR X (.builtin "min") (rF G min2F) := by
  intro pins s σ H vs us Q I rv h
  obtain ⟨Z, W, σ', ρ, Hf, hp, xs, S, rx, h⟩ := h
  unfold min2F at h
  split at h
  · obtain ⟨v, u, rfl, r1, r2⟩ := two_of rx
    obtain rfl := B_int r1; obtain rfl := B_int r2
    exact call_min2 hc pins s σ H _ us Q I rv ⟨_, _, rfl, P_int S h⟩
  · exact h.elim
theorem maxOf_I : ∀ (ms : List Int) (n : Int), PySem.W.maxOf n ms = maxI n ms := by
  intro ms
  induction ms with
  | nil => intro n; rfl
  | cons m ms ih =>
    intro n
    show PySem.W.maxOf (if PySem.W.DatumOrd.lt n m = true then m else n) ms = maxI (if m > n then m else n) ms
    rw [ih]
    congr 1
    have : (PySem.W.DatumOrd.lt n m = true) = (m > n) := by
      show (decide (n < m) = true) = _
      simp
    simp only [this]
theorem minOf_I : ∀ (ms : List Int) (n : Int), PySem.W.minOf n ms = minI n ms := by
  intro ms
  induction ms with
  | nil => intro n; rfl
  | cons m ms ih =>
    intro n
    show PySem.W.minOf (if PySem.W.DatumOrd.lt m n = true then m else n) ms = minI (if m < n then m else n) ms
    rw [ih]
    congr 1
    have : (PySem.W.DatumOrd.lt m n = true) = (m < n) := by
      show (decide (m < n) = true) = _
      simp
    simp only [this]
theorem hold_int {h : Heap} {v : Value} {i : Int} (H : PySem.W.Holds h v i) : ∃ t, v = .int i t := by
  obtain ⟨as, r⟩ := H
  have r : Reads h v (.int i) as := r
  cases r
  exact ⟨_, rfl⟩
theorem call_maxT (hK : X.K = G.K) (hc : X.calm = true) (hu : X.A.units + 64 < cLine) : CallR X (.builtin "max") (rF G maxF) := by
  intro pins s σ H vs us Q I rv h
  obtain ⟨Z, W, σ', ρ, Hf, hp, xs, S, rx, h⟩ := h
  unfold maxF at h
  split at h
  · obtain ⟨v, rfl, r1⟩ := one_of rx
    split at h
    · rename_i n ns e
      obtain ⟨ys, e1, e2⟩ := Option.bind_eq_some_iff.mp e
      obtain ⟨a, ws, rfl, h2, h3⟩ := seq_at S e1 r1
      obtain rfl := allInts_at e2 h3
      rcases h2 with h2 | h2
      · refine cr_max hc pins s σ H _ us Q I rv ⟨a, n :: ns, rfl, by rw [hK]; exact h2, Nat.zero_lt_succ _, fun m hm hle => ?_⟩
        rw [maxI_eq hm hle]
        exact P_int S h
      · obtain rfl := Vals.ref1 rv
        obtain ⟨its, rw', hl, _⟩ := I.tuple (by rw [hK]; exact h2)
        refine PySem.W.max_tuple_datum (α := Int) (I.ok.hd hc) hl (PySem.W.HoldAll.of_ints rw'.ints) (show X.A.units + 1 + 0 < cLine by omega) fun i v h' tk _ hh k => ?_
        rw [maxOf_I] at hh
        obtain ⟨t', rfl⟩ := hold_int hh
        exact ⟨.int _, H, I.kept k, ⟨_, rfl⟩, P_int S h⟩
    · exact h.elim
  · exact h.elim
theorem call_minT (hK : X.K = G.K) (hc : X.calm = true) (hu : X.A.units + 64 < cLine) : CallR X (.builtin "min") (rF G minF) := by
  intro pins s σ H vs us Q I rv h
  obtain ⟨Z, W, σ', ρ, Hf, hp, xs, S, rx, h⟩ := h
  unfold minF at h
  split at h
  · obtain ⟨v, rfl, r1⟩ := one_of rx
    split at h
    · rename_i n ns e
      obtain ⟨ys, e1, e2⟩ := Option.bind_eq_some_iff.mp e
      obtain ⟨a, ws, rfl, h2, h3⟩ := seq_at S e1 r1
      obtain rfl := allInts_at e2 h3
      rcases h2 with h2 | h2
      · refine cr_min hc pins s σ H _ us Q I rv ⟨a, n :: ns, rfl, by rw [hK]; exact h2, Nat.zero_lt_succ _, fun m hm hle => ?_⟩
        rw [minI_eq hm hle]
        exact P_int S h
      · obtain rfl := Vals.ref1 rv
        obtain ⟨its, rw', hl, _⟩ := I.tuple (by rw [hK]; exact h2)
        refine PySem.W.min_tuple_datum (α := Int) (I.ok.hd hc) hl (PySem.W.HoldAll.of_ints rw'.ints) (show X.A.units + 1 + 0 < cLine by omega) fun i v h' tk _ hh k => ?_
        rw [minOf_I] at hh
        obtain ⟨t', rfl⟩ := hold_int hh
        exact ⟨.int _, H, I.kept k, ⟨_, rfl⟩, P_int S h⟩
    · exact h.elim
  · exact h.elim
theorem call_tupT (hK : X.K = G.K) : CallR X (.type "tuple") (rF G tupF) := by
  intro pins s σ H vs us Q I rv h
  obtain ⟨Z, W, σ', ρ, Hf, hp, xs, S, rx, h⟩ := h
  unfold tupF at h
  split at h
  · rename_i x
    obtain ⟨v, rfl, r1⟩ := one_of rx
    split at h
    · rename_i ys e
      by_cases hx : ∃ zs, x = .tup zs
      · obtain ⟨zs, rfl⟩ := hx
        simp only [seqOf] at e; cases e
        obtain ⟨a, ws, rfl, h2, h3⟩ := B_tup r1
        exact call_tuple_of pins s σ H _ us Q I rv ⟨a, ws, rfl, .inr ⟨by rw [hK]; exact S.ex.st h2, P_tupS S h3 h2 h⟩⟩
      · obtain ⟨a, ws, rfl, h2, h3⟩ := lst_at S (by
          cases x <;> first | exact e | exact absurd ⟨_, rfl⟩ hx | (simp [lstOf, seqOf] at e)) r1
        exact call_tuple_of pins s σ H _ us Q I rv ⟨a, ws, rfl, .inl ⟨by rw [hK]; exact h2, P_tup S h3 h⟩⟩
    · exact h.elim
  · exact h.elim
/-! ### methods that read -/
def rM (G : Gm) (f : T → List T → Hl → R T) : Vv → List Vv → Hp → L2.VK → Prop := fun v vs H Q => ∃ Z W σ ρ Hf hp x xs, Sto G Z ρ Hf hp H ∧ RepB G ρ Hf H x v ∧ RepBs G ρ Hf H xs vs ∧ Post G Z W σ (RepB G) ρ Hf H Q (f x xs hp)
theorem isPre_eq : ∀ (t s : List Nat), isPre t s = t.isPrefixOf s := by
  intro t
  induction t with
  | nil => intro s; cases s <;> rfl
  | cons a t ih =>
    intro s
    cases s with
    | nil => rfl
    | cons b s => show (a == b && isPre t s) = (a == b && t.isPrefixOf s); rw [ih]
theorem sw_eq (s t : List Nat) : Txt.startswith (strV s) (strV t) = isPre t s := by
  rw [isPre_eq]
  unfold Txt.startswith
  rw [PySem.StrLaws.subAt_eq, strV_list, strV_list, strV_len, strV_len, List.drop_zero]
  rw [Bool.eq_iff_iff]
  simp only [Bool.and_eq_true, decide_eq_true_eq, beq_iff_eq, List.isPrefixOf_iff_prefix, Nat.zero_add]
  constructor
  · rintro ⟨h1, h2⟩
    rw [← h2]; exact List.take_prefix _ _
  · intro h
    exact ⟨h.length_le, (List.prefix_iff_eq_take.mp h).symm⟩
theorem joinS_eq (y : List Nat) : ∀ ss : List (List Nat), joinS y ss = TL.joinL y ss
  | [] => rfl
  | [_] => rfl
  | x :: z :: r => by
    show x ++ y ++ joinS y (z :: r) = x ++ (y ++ TL.joinL y (z :: r))
    rw [joinS_eq y (z :: r), List.append_assoc]
theorem mt_swT : MtR X "str.startswith" (rM G swF) := by
  intro pins s σ H v vs vv us Q I rv rvs h
  obtain ⟨Z, W, σ', ρ, Hf, hp, x, xs, S, rx, rxs, h⟩ := h
  unfold swF at h
  split at h
  · obtain rfl := B_str rx
    obtain ⟨v, rfl, r1⟩ := one_of rxs
    obtain rfl := B_str r1
    exact mt_startswith pins s σ H _ _ vv us Q I rv rvs ⟨_, _, rfl, rfl, by rw [sw_eq]; exact P_bl S h⟩
  · exact h.elim
theorem mt_joinT (hK : X.K = G.K) : MtR X "str.join" (rM G joinF) := by
  intro pins s σ H v vs vv us Q I rv rvs h
  obtain ⟨Z, W, σ', ρ, Hf, hp, x, xs, S, rx, rxs, h⟩ := h
  unfold joinF at h
  split at h
  · rename_i z y
    obtain rfl := B_str rx
    obtain ⟨v, rfl, r1⟩ := one_of rxs
    split at h
    · rename_i ss e
      split at h
      · rename_i hl
        obtain ⟨ys, e1, e2⟩ := Option.bind_eq_some_iff.mp e
        obtain ⟨a, ws, rfl, h2, h3⟩ := seq_at S e1 r1
        obtain rfl := allStrs_at e2 h3
        refine mt_join pins s σ H _ _ vv us Q I rv rvs ⟨_, a, ss.map strV, rfl, rfl, by rw [hK]; exact h2, ?_, ?_⟩
        · rw [List.map_map, strV_len, List.length_map, Nat.mul_comm]
          have : ss.map ((fun x : Str => x.length) ∘ strV) = ss.map List.length := List.map_congr_left fun a _ => strV_len a
          rw [this]; exact hl
        · rw [TL.join_eq]
          have e3 : Str.join (strV z) (ss.map strV) = strV (joinS z ss) := by
            apply TL.ext_tl
            rw [TL.tl_join, show TL.tl (strV (joinS z ss)) = joinS z ss from strV_list _, show TL.tl (strV z) = z from strV_list _, joinS_eq, List.map_map]
            have : ss.map (TL.tl ∘ strV) = ss := by
              have e4 : ss.map (TL.tl ∘ strV) = ss.map id := List.map_congr_left fun a _ => strV_list a
              rw [e4, List.map_id]
            rw [this]
          rw [e3]
          exact P_str S h
      · exact h.elim
    · exact h.elim
  · exact h.elim
/-! ### isinstance -/
/-- the kinds as classes -/
def kdV (G : Gm) : Kd → Value
  | .int => .type "int" | .bool => .type "bool" | .str => .type "str" | .tuple => .type "tuple" | .list => .type "list" | .cls c => .ref (G.ca c)
/-- what isinstance knows of the own classes -/
structure KdOk (G : Gm) : Prop where
  ty : ∀ c, G.cok c → (L2.Cls G.K (G.ca c)) ∧ PySem.W.findIn G.K (.ref (G.ca c)) "__class__" = some (some (.builtin "object.__class__")) ∧ PySem.W.mroIn G.K (G.ca c) (.type "object") = some true
  sp : PySem.W.specialIn G.K (.builtin "object.__class__") "__get__" = some (some (.builtin "getset_descriptor.__get__")) ∧ PySem.W.takesIn G.K (.builtin "object.__class__") = some true
  own : ∀ c k, G.cok c → (∀ d, k = .cls d → G.cok d) → PySem.W.kitOne G.K (.ref (G.ca c)) (kdV G k) = some (decide (k = .cls c))
  blt : ∀ (n : String) c, n ∈ ["NoneType", "bool", "int", "str", "tuple", "list"] → G.cok c → PySem.W.kitOne G.K (.type n) (.ref (G.ca c)) = some false
theorem tup_ty {H : Hp} {K : PySem.W.Frag} {a : Addr} {vs : List Vv} (h : SqT K H a vs) : TyX K H (.ref a) (.type "tuple") := by
  rcases h with (h | ⟨o, h⟩) | ⟨o, its, n, h1, h2, _⟩
  · exact .base (.tup h)
  · exact .fTuple h
  · exact .kTuple h1 h2
theorem tyD {K : PySem.W.Frag} {H : Hp} {a : Addr} {gs : List (L2.Key × Vv)} (h : Rd H a (.dK gs)) : TyX K H (.ref a) (.type "dict") := by
  rcases h with h | ⟨o, h⟩
  · exact .base (.dK h)
  · exact .fDict h
theorem lst_ty {H : Hp} {K : PySem.W.Frag} {a : Addr} {vs : List Vv} (h : SqL K H a vs) : TyX K H (.ref a) (.type "list") := by
  rcases h with (h | ⟨o, h⟩) | ⟨o, its, n, h1, h2, _⟩
  · exact .base (.lst h)
  · exact .base (.frz h)
  · exact .kList h1 h2
theorem kd_at (O : KdOk G) {Z : Hp} {ρ : List Addr} {Hf H : Hp} {hp : Hl} (S : Sto G Z ρ Hf hp H) {x : T} {v : Vv} (r : RepB G ρ Hf H x v) {ks : List Kd} {b : Bool} (e : kdAny x hp ks = some b) (hk : ∀ k ∈ ks, ∀ d, k = .cls d → G.cok d) (hne : ks.isEmpty = false) :
    ∃ t, TyX G.K H v t ∧ PySem.W.kitAny G.K t (ks.map (kdV G)) = some b ∧ ∀ (k : Kd), ks = [k] → PySem.W.kitOne G.K t (kdV G k) = some b := by
  -- the value's type, and what each kind says
  have key : ∀ (k0 : Kd), (∃ k b, k ∈ ks ∧ kdOf k x hp = some b) ∨ ks = [] → ∃ t, TyX G.K H v t ∧ ∀ k ∈ ks, ∀ b, kdOf k x hp = some b → PySem.W.kitOne G.K t (kdV G k) = some b := by
    intro k0 hk0
    have blt : ∀ (n : String) (k : Kd) (b : Bool), n ∈ ["NoneType", "bool", "int", "str", "tuple", "list"] → (∀ d, k = .cls d → G.cok d) → some b = (match k with | .cls _ => some false | k => kitB n (match k with | .int => "int" | .bool => "bool" | .str => "str" | .tuple => "tuple" | .list => "list" | .cls _ => "")) → PySem.W.kitOne G.K (.type n) (kdV G k) = some b := by
      intro n k b hn hc hb
      cases k with
      | cls c => cases hb; exact O.blt n c hn (hc c rfl)
      | int => exact kit_ty hb.symm
      | bool => exact kit_ty hb.symm
      | str => exact kit_ty hb.symm
      | tuple => exact kit_ty hb.symm
      | list => exact kit_ty hb.symm
    have own : ∀ c (k : Kd) (b : Bool), G.cok c → (∀ d, k = .cls d → G.cok d) → some b = some (decide (k = .cls c)) → PySem.W.kitOne G.K (.ref (G.ca c)) (kdV G k) = some b := by
      intro c k b h1 h2 h3
      cases h3
      exact O.own c k h1 h2
    have insT : ∀ {a dx : Addr} {c : Nat} {gs : List (Str × Vv)}, H a = some (.ins (G.ca c) dx gs) → G.cok c → TyX G.K H (.ref a) (.ref (G.ca c)) := fun {a dx c gs} h k =>
      .base (.ins h (O.ty c k).1 (O.ty c k).2.1 O.sp.1 O.sp.2 (O.ty c k).2.2)
    cases x with
    | non =>
      obtain rfl := B_non r
      refine ⟨_, .base .non, fun k m b hb => blt "NoneType" k b (by simp) (hk k m) ?_⟩
      simp only [kdOf] at hb
      rw [← hb]
      cases k <;> first | rfl | (symm; decide +kernel)
    | bl c =>
      obtain rfl := B_bl r
      refine ⟨_, .base (.bl c), fun k m b hb => blt "bool" k b (by simp) (hk k m) ?_⟩
      simp only [kdOf] at hb
      rw [← hb]
      cases k <;> first | rfl | (symm; decide +kernel)
    | int c =>
      obtain rfl := B_int r
      refine ⟨_, .base (.int c), fun k m b hb => blt "int" k b (by simp) (hk k m) ?_⟩
      simp only [kdOf] at hb
      rw [← hb]
      cases k <;> first | rfl | (symm; decide +kernel)
    | str c =>
      obtain rfl := B_str r
      refine ⟨_, .base (.str _), fun k m b hb => blt "str" k b (by simp) (hk k m) ?_⟩
      simp only [kdOf] at hb
      rw [← hb]
      cases k <;> first | rfl | (symm; decide +kernel)
    | tup c =>
      obtain ⟨a, vs, rfl, h1, _⟩ := B_tup r
      refine ⟨_, tup_ty (S.ex.st h1), fun k m b hb => blt "tuple" k b (by simp) (hk k m) ?_⟩
      simp only [kdOf] at hb
      rw [← hb]
      cases k <;> first | rfl | (symm; decide +kernel)
    | lst c =>
      obtain ⟨a, vs, rfl, h1, _⟩ := lst_at S (t := .lst c) (xs := c) rfl r
      refine ⟨_, lst_ty h1, fun k m b hb => blt "list" k b (by simp) (hk k m) ?_⟩
      simp only [kdOf] at hb
      rw [← hb]
      cases k <;> first | rfl | (symm; decide +kernel)
    | bL c =>
      obtain ⟨a, vs, rfl, h1, _⟩ := lst_at S (t := .bL c) (xs := c) rfl r
      refine ⟨_, lst_ty h1, fun k m b hb => blt "list" k b (by simp) (hk k m) ?_⟩
      simp only [kdOf] at hb
      rw [← hb]
      cases k <;> first | rfl | (symm; decide +kernel)
    | kl c =>
      obtain ⟨a, vs, rfl, h1, _⟩ := lst_at S (t := .kl c) (xs := c.map T.int) rfl r
      refine ⟨_, lst_ty h1, fun k m b hb => blt "list" k b (by simp) (hk k m) ?_⟩
      simp only [kdOf] at hb
      rw [← hb]
      cases k <;> first | rfl | (symm; decide +kernel)
    | ins c fs =>
      obtain ⟨a, dx, gs, rfl, h1, _, h2⟩ := ins_at S (t := .ins c fs) rfl r
      exact ⟨_, insT h1 h2, fun k m b hb => own c k b h2 (hk k m) hb.symm⟩
    | bI c fs =>
      obtain ⟨a, dx, gs, rfl, h1, _, h2⟩ := ins_at S (t := .bI c fs) rfl r
      exact ⟨_, insT h1 h2, fun k m b hb => own c k b h2 (hk k m) hb.symm⟩
    | rf n =>
      cases hn : hp[n]? with
      | none =>
        obtain ⟨a, rfl, ha⟩ := B_rf r
        have h1 := (List.getElem?_eq_some_iff.mp ha).1
        rw [S.len] at h1
        rw [List.getElem?_eq_none_iff] at hn
        omega
      | some c =>
        cases c with
        | lst xs =>
          obtain ⟨a, vs, rfl, h1, _⟩ := lst_at S (t := .rf n) (xs := xs) (by simp only [lstOf, seqOf, hn]) r
          refine ⟨_, lst_ty h1, fun k m b hb => blt "list" k b (by simp) (hk k m) ?_⟩
          simp only [kdOf, hn] at hb
          rw [← hb]
          cases k <;> first | rfl | (symm; decide +kernel)
        | ins c fs =>
          obtain ⟨a, dx, gs, rfl, h1, _, h2⟩ := ins_at S (t := .rf n) (c := c) (fs := fs) (by simp only [insOf, hn]) r
          refine ⟨_, insT h1 h2, fun k m b hb => own c k b h2 (hk k m) ?_⟩
          simp only [kdOf, hn] at hb
          exact hb.symm
        | dct kvs =>
          obtain ⟨a, gs, rfl, h1, _⟩ := dct_at S (t := .rf n) (kvs := kvs) (by simp only [dctOf, hn]) r
          refine ⟨_, tyD h1, fun k m b hb => ?_⟩
          simp only [kdOf, hn] at hb
          cases hb
    | dct kvs =>
      obtain ⟨a, gs, rfl, h1, _⟩ := dct_at S (t := .dct kvs) rfl r
      refine ⟨_, tyD h1, fun k m b hb => ?_⟩
      simp only [kdOf] at hb
      cases hb
    | bD kvs =>
      obtain ⟨a, gs, rfl, h1, _⟩ := dct_at S (t := .bD kvs) rfl r
      refine ⟨_, tyD h1, fun k m b hb => ?_⟩
      simp only [kdOf] at hb
      cases hb
    | exc c fs =>
      rcases hk0 with ⟨k, b, _, z⟩ | z
      · simp only [kdOf] at z
        cases z
      · rw [z] at hne; cases hne
  have hk0 : (∃ k b, k ∈ ks ∧ kdOf k x hp = some b) ∨ ks = [] := by
    cases ks with
    | nil => exact .inr rfl
    | cons k ks =>
      left
      simp only [kdAny] at e
      split at e
      · rename_i a b' e1 e2
        exact ⟨k, a, List.mem_cons_self, e1⟩
      · cases e
  obtain ⟨t, h1, h2⟩ := key .int hk0
  refine ⟨t, h1, ?_, ?_⟩
  · clear hk0 key hk hne
    induction ks generalizing b with
    | nil => simp only [kdAny] at e; cases e; rfl
    | cons k ks ih =>
      simp only [kdAny] at e
      split at e
      · rename_i a b' e1 e2
        cases e
        refine kitAny_cons (h2 k List.mem_cons_self a e1) (fun z => ?_) (fun z => by rw [z]; rfl)
        rw [z, Bool.false_or]
        exact ih e2 fun k m => h2 k (List.mem_cons_of_mem _ m)
      · cases e
  · intro k z
    subst z
    simp only [kdAny] at e
    split at e
    · rename_i a b' e1 e2
      cases e2
      cases e
      rw [Bool.or_false]
      exact h2 k List.mem_cons_self a e1
    · cases e
end
end Kb
end
section
set_option Elab.async false
set_option linter.all false
set_option maxRecDepth 100000
set_option maxHeartbeats 4000000
set_option autoImplicit false
/-! KbS: calls and new instances whose errors are let out at the slots as they stand there. -/
namespace Kb
open PySem PySem.Spec PyProof.Rows L2
section
variable {X : Cx} {CX : CXT} {k n : Nat} {f Cl : Addr} {fd : FuncData} {ps ks : List Str} {sp : Sp} {E : XK} {x : Str} {p pos : Pos} {e : Expr} {es : List Expr} {kws : List Keyword} {t tk : TA}
variable {pins : List (Addr × Obj)} {σ : L2.St} {H : Hp} {s : Shared} {Q : VK} {us ws gs : List Value} {vs zs : List V} {kv : List (Str × Value)}
/-- a def called with what binds so -/
theorem sRun (F : FnOk X.prog X.w X.K X.mg X.base CX k f fd ps sp) (room : Room k X.A) (out : PassesAt CX X σ E) (I : Inv X pins σ H s) (bnd : BindsTo s fd ⟨us, kv⟩ (ps.zip gs)) (rel : Vals vs gs) (want : sp vs H Q E) :
    wpAny (model X.prog X.w) X.A (call (.ref f) us kv) (EP X pins σ Q) X.xe s := by
  have main := F.run X.A X.stack s H ⟨us, kv⟩ gs vs Q E room I.env0 bnd rel want
  refine wpAny_call (codeAny_mono main fun res st got => ?_)
  match res, got with
  | .error er, got => exact out pins H s er st I got
  | .ok (.ret u), got => exact I.after got
  | .ok .next, got => exact got.elim
  | .ok .brk, got => exact got.elim
  | .ok .cont, got => exact got.elim
/-- a new instance, its __init__ called with what binds so -/
theorem sMake {gA : Addr → List Value} {vA : Addr → List V} (M : Mk X.K Cl f) (F : FnOk X.prog X.w X.K X.mg X.base CX k f fd ps sp) (room : Room (k + 1) X.A) (out : PassesAt CX X σ E) (I : Inv X pins σ H s)
    (bnd : ∀ a s', X.K.In s'.heap → BindsTo s' fd ⟨.ref a :: us, kv⟩ (ps.zip (gA a))) (rel : ∀ a, Vals (vA a) (gA a))
    (want : ∀ a dx, H a = none → H dx = none → dx ≠ a → sp (vA a) (upd (upd H dx (.own a)) a (.ins Cl dx [])) (fun v H2 => v = .non ∧ Q (.ref a) H2) E) :
    wpAny (model X.prog X.w) X.A (call (.ref Cl) us kv) (EP X pins σ Q) X.xe s := by
  have J := Inv.made (C := Cl) I
  have here := want _ _ (I.hok.fresh (Nat.le_succ s.heap.objs.size)) (I.hok.fresh (Nat.le_refl s.heap.objs.size)) (Nat.ne_of_lt (Nat.lt_succ_self _))
  have main := F.run _ X.stack _ _ ⟨.ref (s.heap.objs.size + 1) :: us, kv⟩ _ _ _ E (room.make Cl us kv) (J.env0.make Cl us kv) (bnd _ _ J.kIn) (rel _) here
  refine wpAny_call (make_map (f := f) I.kIn M.makes M.init (beq_iff_eq.mp M.fn) (codeAny_mono main fun res st got => ?_))
  match res, got with
  | .error er, got => exact out pins _ _ er st J got
  | .ok (.ret u), got =>
    obtain ⟨v, H', I3, rv, ev, q3⟩ := J.after got
    subst ev
    exact ⟨rv, ⟨V.ref (s.heap.objs.size + 1), H', I3, rfl, q3⟩⟩
  | .ok .next, got => exact got.elim
  | .ok .brk, got => exact got.elim
  | .ok .cont, got => exact got.elim
theorem bnd_of (hb : Binds X.K fd ps []) {s' : Shared} (hk : X.K.In s'.heap) (hl : us.length = ps.length) : BindsTo s' fd ⟨us, []⟩ (ps.zip us) := by
  have b := hb s' us hk (by rw [List.append_nil]; exact hl)
  rw [List.append_nil] at b
  exact b
/-- f(e, ..), f() -/
theorem sCall (F : FnOk X.prog X.w X.K X.mg X.base CX k f fd ps sp) (room : Room k X.A) (hg : Gl X x) (hm : X.mg x = some (.ref f)) (hk : PySem.W.keepIn X.K (.ref f) = true) (hb : Binds X.K fd ps []) (out : PassesAt CX X σ E) (ha : PA X (e :: es) t) (hdb : (x == ("__debug__" : Str)) = false)
    (he : starEach (e :: es) X.env = (false, eval e X.env) :: starEach es X.env) (hpl : (backTo pos (starEach es X.env)).any (·.1) = false) (I : Inv X pins σ H s) (want : t σ H fun vs H1 => sp vs H1 Q E) :
    wpAny (model X.prog X.w) X.A (eval (.Call (.Name x p) (e :: es) [] pos) X.env) (EP X pins σ Q) X.xe s := by
  refine wpAny_Call_Name_kw (ld_glob I hg hm ?_ hdb)
  refine PySem.W.callWith_K (h₀ := X.base) I.ok.mod.kin hk (thn (ha.run pos pins s σ H _ I want) fun us s1 got => ?_) he hpl
  obtain ⟨vs, H1, I1, rel, q⟩ := got
  exact ⟨I1.kIn, sRun (us := us) F room out I1 (bnd_of hb I1.kIn (by rw [← rel.length]; exact F.len _ _ _ _ q)) rel q⟩
theorem sCall0 (F : FnOk X.prog X.w X.K X.mg X.base CX k f fd ps sp) (room : Room k X.A) (hg : Gl X x) (hm : X.mg x = some (.ref f)) (hk : PySem.W.keepIn X.K (.ref f) = true) (hb : Binds X.K fd ps []) (out : PassesAt CX X σ E) (hdb : (x == ("__debug__" : Str)) = false) (I : Inv X pins σ H s) (want : sp [] H Q E) :
    wpAny (model X.prog X.w) X.A (eval (.Call (.Name x p) [] [] pos) X.env) (EP X pins σ Q) X.xe s := by
  refine wpAny_Call_Name_kw (ld_glob I hg hm ?_ hdb)
  exact PySem.W.callWith_K0 I.kIn hk (sRun (us := []) F room out I (bnd_of hb I.kIn (F.len _ _ _ _ want)) .nil want)
/-- f(e, .., k = v, ..) -/
theorem sCallN {g : List Value → List Value → List Value} {gV : List V → List V → List V} (F : FnOk X.prog X.w X.K X.mg X.base CX k f fd ps sp) (room : Room k X.A) (hg : Gl X x) (hm : X.mg x = some (.ref f)) (hk : PySem.W.keepIn X.K (.ref f) = true) (hb : KBn X.K fd ps n ks g gV) (out : PassesAt CX X σ E) (ha : PA X (e :: es) t) (hkw : PK X kws tk)
    (hall : (backToKw pos (keywordEach kws X.env)).all (·.1.isSome) = true) (hks : (backToKw pos (keywordEach kws X.env)).filterMap (·.1) = ks) (hdb : (x == ("__debug__" : Str)) = false)
    (he : starEach (e :: es) X.env = (false, eval e X.env) :: starEach es X.env) (hpl : ((backTo pos (starEach (e :: es) X.env)).any (·.1) || (backToKw pos (keywordEach kws X.env)).any (·.1.isNone)) = false) (I : Inv X pins σ H s)
    (want : t σ H fun vs H1 => tk σ H1 fun zs H2 => vs.length = n ∧ zs.length = ks.length ∧ sp (gV vs zs) H2 Q E) :
    wpAny (model X.prog X.w) X.A (eval (.Call (.Name x p) (e :: es) kws pos) X.env) (EP X pins σ Q) X.xe s := by
  refine wpAny_Call_Name_kw (ld_glob I hg hm ?_ hdb)
  refine PySem.W.callWith_KW (h₀ := X.base) I.ok.mod.kin hk hall (thn (ha.run pos pins s σ H _ I want) fun us s1 got => ?_) hpl he
  obtain ⟨vs, H1, I1, rel, q⟩ := got
  refine thn (hkw.run pos pins s1 σ H1 _ I1 q) fun ws s2 got => ?_
  obtain ⟨zs, H2, I2, relz, l1, l2, q2⟩ := got
  rw [hks]
  exact ⟨I2.kIn, sRun (us := us) F room out I2 (hb.to s2 us ws I2.kIn (rel.length.symm.trans l1) (relz.length.symm.trans l2)) (hb.rel rel relz) q2⟩
/-- C(e, ..) -/
theorem sNew (M : Mk X.K Cl f) (F : FnOk X.prog X.w X.K X.mg X.base CX k f fd ps sp) (room : Room (k + 1) X.A) (hg : Gl X x) (hm : X.mg x = some (.ref Cl)) (hb : Binds X.K fd ps []) (out : PassesAt CX X σ E) (ha : PA X (e :: es) t) (hdb : (x == ("__debug__" : Str)) = false)
    (he : starEach (e :: es) X.env = (false, eval e X.env) :: starEach es X.env) (hpl : (backTo pos (starEach es X.env)).any (·.1) = false) (I : Inv X pins σ H s)
    (want : t σ H fun vs H1 => ∀ a dx, H1 a = none → H1 dx = none → dx ≠ a → sp (.ref a :: vs) (upd (upd H1 dx (.own a)) a (.ins Cl dx [])) (fun v H2 => v = .non ∧ Q (.ref a) H2) E) :
    wpAny (model X.prog X.w) X.A (eval (.Call (.Name x p) (e :: es) [] pos) X.env) (EP X pins σ Q) X.xe s := by
  refine wpAny_Call_Name_kw (ld_glob I hg hm ?_ hdb)
  refine PySem.W.callWith_K (h₀ := X.base) I.ok.mod.kin M.kp (thn (ha.run pos pins s σ H _ I want) fun us s1 got => ?_) he hpl
  obtain ⟨vs, H1, I1, rel, q⟩ := got
  have hl : us.length + 1 = ps.length := by
    have := F.len _ _ _ _ (q _ _ (I1.hok.fresh (Nat.le_succ s1.heap.objs.size)) (I1.hok.fresh (Nat.le_refl s1.heap.objs.size)) (Nat.ne_of_lt (Nat.lt_succ_self _)))
    rw [List.length_cons, rel.length] at this
    exact this
  exact ⟨I1.kIn, sMake (us := us) (gA := fun a => .ref a :: us) (vA := fun a => .ref a :: vs) M F room out I1 (fun a s' k => bnd_of hb k hl) (fun a => .cons rfl rel) q⟩
/-- C(k = v, ..) -/
theorem sNewK0 {g : List Value → List Value → List Value} {gV : List V → List V → List V} (M : Mk X.K Cl f) (F : FnOk X.prog X.w X.K X.mg X.base CX k f fd ps sp) (room : Room (k + 1) X.A) (hg : Gl X x) (hm : X.mg x = some (.ref Cl)) (hb : KBn X.K fd ps 1 ks g gV) (out : PassesAt CX X σ E) (hkw : PK X kws tk)
    (hall : (backToKw pos (keywordEach kws X.env)).all (·.1.isSome) = true) (hks : (backToKw pos (keywordEach kws X.env)).filterMap (·.1) = ks) (hdb : (x == ("__debug__" : Str)) = false)
    (hpl : ((backTo pos (starEach [] X.env)).any (·.1) || (backToKw pos (keywordEach kws X.env)).any (·.1.isNone)) = false) (I : Inv X pins σ H s)
    (want : tk σ H fun zs H2 => zs.length = ks.length ∧ ∀ a dx, H2 a = none → H2 dx = none → dx ≠ a → sp (gV [.ref a] zs) (upd (upd H2 dx (.own a)) a (.ins Cl dx [])) (fun v H3 => v = .non ∧ Q (.ref a) H3) E) :
    wpAny (model X.prog X.w) X.A (eval (.Call (.Name x p) [] kws pos) X.env) (EP X pins σ Q) X.xe s := by
  refine wpAny_Call_Name_kw (ld_glob I hg hm ?_ hdb)
  refine PySem.W.callWith_KW0 (h₀ := X.base) I.ok.mod.kin M.kp hall ?_ hpl
  refine thn (hkw.run pos pins s σ H _ I want) fun ws s2 got => ?_
  obtain ⟨zs, H2, I2, relz, l2, q2⟩ := got
  rw [hks]
  exact ⟨I2.kIn, sMake (us := []) (gA := fun a => g [.ref a] ws) (vA := fun a => gV [.ref a] zs) M F room out I2 (fun a s' k => hb.to s' [.ref a] ws k rfl (relz.length.symm.trans l2)) (fun a => hb.rel (.cons rfl .nil) relz) q2⟩
/-- C(e, .., k = v, ..) -/
theorem sNewK {g : List Value → List Value → List Value} {gV : List V → List V → List V} (M : Mk X.K Cl f) (F : FnOk X.prog X.w X.K X.mg X.base CX k f fd ps sp) (room : Room (k + 1) X.A) (hg : Gl X x) (hm : X.mg x = some (.ref Cl)) (hb : KBn X.K fd ps (n + 1) ks g gV) (out : PassesAt CX X σ E) (ha : PA X (e :: es) t) (hkw : PK X kws tk)
    (hall : (backToKw pos (keywordEach kws X.env)).all (·.1.isSome) = true) (hks : (backToKw pos (keywordEach kws X.env)).filterMap (·.1) = ks) (hdb : (x == ("__debug__" : Str)) = false)
    (he : starEach (e :: es) X.env = (false, eval e X.env) :: starEach es X.env) (hpl : ((backTo pos (starEach (e :: es) X.env)).any (·.1) || (backToKw pos (keywordEach kws X.env)).any (·.1.isNone)) = false) (I : Inv X pins σ H s)
    (want : t σ H fun vs H1 => tk σ H1 fun zs H2 => vs.length = n ∧ zs.length = ks.length ∧ ∀ a dx, H2 a = none → H2 dx = none → dx ≠ a → sp (gV (.ref a :: vs) zs) (upd (upd H2 dx (.own a)) a (.ins Cl dx [])) (fun v H3 => v = .non ∧ Q (.ref a) H3) E) :
    wpAny (model X.prog X.w) X.A (eval (.Call (.Name x p) (e :: es) kws pos) X.env) (EP X pins σ Q) X.xe s := by
  refine wpAny_Call_Name_kw (ld_glob I hg hm ?_ hdb)
  refine PySem.W.callWith_KW (h₀ := X.base) I.ok.mod.kin M.kp hall (thn (ha.run pos pins s σ H _ I want) fun us s1 got => ?_) hpl he
  obtain ⟨vs, H1, I1, rel, q⟩ := got
  refine thn (hkw.run pos pins s1 σ H1 _ I1 q) fun ws s2 got => ?_
  obtain ⟨zs, H2, I2, relz, l1, l2, q2⟩ := got
  rw [hks]
  exact ⟨I2.kIn, sMake (us := us) (gA := fun a => g (.ref a :: us) ws) (vA := fun a => gV (.ref a :: vs) zs) M F room out I2 (fun a s' k => hb.to s' (.ref a :: us) ws k (by rw [List.length_cons, ← rel.length, l1]) (relz.length.symm.trans l2)) (fun a => hb.rel (.cons rfl rel) relz) q2⟩
end
end Kb
end
section
set_option Elab.async false
set_option linter.all false
set_option maxRecDepth 100000
set_option maxHeartbeats 4000000
set_option autoImplicit false
/-! KbN: `!=` over an own __eq__ (object.__ne__ over a class's own == in K's words). -/
namespace Kb
open PySem PySem.W PyProof.Rows PySem.Spec PySem.Calls
section
variable {prog : Program} {w : World} {M : Model} {A : Around} {E : Value → Shared → Prop} {s : Shared} {K : Frag} {x C L f : Addr} {h₀ : Heap} {m : Str → Option Value} {ox : Obj} {od : Option Obj} {b tb : Value}
theorem ifBoundB_K {name : Str} {id : String} {args : List Value} {Q : Option Value → Shared → Prop} (X : K.In s.heap) (I : InstAt s.heap x ox C od) (hs : findIn K (.ref C) name = some (some (.builtin id)))
    (hb : ∀ self, bindSpecial (.builtin id) self = pure (.builtin id, [self])) (h : wpAny M A (call (.builtin id) (.ref x :: args)) (fun v => Q (some v)) E s) : wpAny M A (callSpecialIfBound? (.ref x) name args) Q E s := by
  simp only [callSpecialIfBound?, bindSpecialIfBound?]
  refine wpAny_holding (wpAny_bind (wpAny_bind (wpAny_bind (I.type.here ((looks_findIn X hs).here ?_)))))
  refine wpAny_bind (wpAny_askSetting (wpAny_ite ?_))
  have fin : wpAny M A (call (.builtin id) ([.ref x] ++ args) >>= fun v => pure (some v)) Q E s := wpAny_bind (wpAny_mono h (fun v s' h' => wpAny_pure h') fun _ _ h' => h')
  split
  · exact wpAny_bind ((Looks.of_pure (hb _)).here (wpAny_pure (by exact fin)))
  · exact wpAny_tryCatch (wpAny_bind ((Looks.of_pure (hb _)).here (wpAny_pure (by exact fin))))
open Builtin in
theorem objne_K (hu : A.in1.units < cLine) (X : K.In s.heap) (I : InstAt s.heap x ox C od) (hm : mroIn K C (.type "object") = some true) (hr : findIn K (.ref C) "__eq__" = some (some (.ref f))) (hf : isFn K (.ref f) = true) {Q : Value → Shared → Prop}
    (h : wpAny (model prog w) A.in1 (call (.ref f) [.ref x, b]) (fun v s' => ∃ c, v = .bool c ∧ Q (.bool (!c)) s') E s) : wpAny (model prog w) A (call (.builtin "object.__ne__") [.ref x, b]) Q E s := by
  refine wpAny_call (codeAny_call_builtin PySem.F.slot_object_ne.plain PySem.F.cmpEntry_ne (check_slot (i := "object.__ne__") (owner := "object") (n := "__ne__") (by decide +kernel) (by decide +kernel) (I.type.andThen (looks_mroIn X hm)) (PySem.F.cmpArgs_ne _ _) ?_))
  unfold Builtin.«object.__ne__»
  refine wpAny_bind (m := slotArgs "__ne__" 1 _) (wpAny_pure ?_)
  refine wpAny_bind (m := cRoomFor _ _) (wpAny_cRoomFor hu ?_)
  refine wpAny_bind (m := callSpecialIfBound? (.ref x) (Str.ofString "__eq__") _) (ifBound_K X I hr hf (wpAny_mono h (fun r s' hq => ?_) fun _ _ y => y))
  obtain ⟨c, rfl, hq⟩ := hq
  refine wpAny_bind (m := truthy (.bool c)) (wpAny_truthy_bool ?_)
  exact wpAny_pure hq
theorem ne_K {Q : Value → Shared → Prop} (hu : A.units < cLine) (hu1 : A.in1.units < cLine) (F : Fr h₀ L s.heap m) (X₀ : K.In h₀) (I : InstAt s.heap x ox C od) (hb : Looks (model prog w) s.heap (typeOf b) tb) (hn : notFirst K C tb = true)
    (hs : findIn K (.ref C) "__ne__" = some (some (.builtin "object.__ne__"))) (hm : mroIn K C (.type "object") = some true) (hr : findIn K (.ref C) "__eq__" = some (some (.ref f))) (hf : isFn K (.ref f) = true)
    (h : wpAny (model prog w) A.in1 (call (.ref f) [.ref x, b]) (fun v s' => ∃ c, v = .bool c ∧ Q (.bool (!c)) s') E s) : wpAny (model prog w) A (richCompare .NotEq (.ref x) b) Q E s := by
  have X := X₀.keeps F.keep
  have one : wpAny (model prog w) A (tryCompare (.ref x) "__ne__" b) (fun r s' => ∃ v, r = some v ∧ Q v s') E s := by
    unfold tryCompare
    refine wpAny_bind (ifBoundB_K X I hs PySem.F.slot_object_ne.bind (objne_K hu1 X I hm hr hf (wpAny_mono h (fun v s' hv => ?_) fun _ _ e => e)))
    obtain ⟨c, rfl, hq⟩ := hv
    exact ⟨c, rfl, wpAny_pure ⟨_, rfl, hq⟩⟩
  unfold richCompare
  simp only [oneThing_ref]
  refine wpAny_holding (wpAny_bind (wpAny_cRoomFor hu ?_))
  refine wpAny_bind (I.type.here (wpAny_bind (hb.here ?_)))
  split
  · rename_i q
    have e : subIn K tb (.ref C) = some false := by
      rcases Bool.or_eq_true_iff.mp hn with e | e
      · rw [beq_iff_eq.mp e] at q; simp at q
      · exact beq_iff_eq.mp e
    refine wpAny_bind ((looks_subIn X e).here ?_)
    simp only [Bool.false_eq_true, if_false]
    refine wpAny_bind (wpAny_mono one (fun r s' z => ?_) fun _ _ e => e)
    obtain ⟨v, rfl, hq⟩ := z
    exact wpAny_pure hq
  · refine wpAny_bind (wpAny_pure ?_)
    simp only [Bool.false_eq_true, if_false]
    refine wpAny_bind (wpAny_mono one (fun r s' z => ?_) fun _ _ e => e)
    obtain ⟨v, rfl, hq⟩ := z
    exact wpAny_pure hq
theorem nf_ty {n : String} {l : List Value} (h : fastBuiltinMro n = some l) (hl : l.all (fun v => match v with
  | .type _ => true
  | _ => false) = true) : notFirst K C (.type n) = true := by
  unfold notFirst
  have : subIn K (.type n) (.ref C) = some false := by
    show (fastBuiltinMro n).map (·.contains (.ref C)) = _
    rw [h]
    show some (l.contains (.ref C)) = _
    have : l.contains (.ref C) = false := by
      cases q : l.contains (.ref C) with
      | false => rfl
      | true =>
        rw [List.contains_iff_mem] at q
        have := List.all_eq_true.mp hl _ q
        cases this
    rw [this]
  rw [this]
  simp
theorem nf_int : notFirst K C (.type "int") = true := nf_ty (l := [.type "int", .type "object"]) (by decide +kernel) rfl
theorem nf_bool : notFirst K C (.type "bool") = true := nf_ty (l := [.type "bool", .type "int", .type "object"]) (by decide +kernel) rfl
theorem nf_str : notFirst K C (.type "str") = true := nf_ty (l := [.type "str", .type "object"]) (by decide +kernel) rfl
theorem nf_non : notFirst K C (.type "NoneType") = true := nf_ty (l := [.type "NoneType", .type "object"]) (by decide +kernel) rfl
theorem nf_lst : notFirst K C (.type "list") = true := nf_ty (l := [.type "list", .type "object"]) (by decide +kernel) rfl
theorem nf_tup : notFirst K C (.type "tuple") = true := nf_ty (l := [.type "tuple", .type "object"]) (by decide +kernel) rfl
end
end Kb
end
section
set_option Elab.async false
set_option linter.all false
set_option maxRecDepth 100000
set_option maxHeartbeats 4000000
set_option autoImplicit false
/-! Kb5: expressions. One lemma a form: the text's expression reads as the interpreter reads the form. -/
namespace Kb
open PySem PySem.Spec PyProof.Rows L2
theorem PEimp {X : Cx} {e : Expr} {t t' : TE} (h : PE X e t) (f : ∀ σ H Q, t' σ H Q → t σ H Q) : PE X e t' := ⟨fun pins s σ H Q I q => h.run pins s σ H Q I (f σ H Q q)⟩
theorem PTimp {X : Cx} {e : Expr} {t t' : TT} (h : PT X e t) (f : ∀ σ H Q, t' σ H Q → t σ H Q) : PT X e t' := ⟨fun pins s σ H Q I q => h.run pins s σ H Q I (f σ H Q q)⟩
theorem PWimp {X : Cx} {e : Expr} {t t' : TT} (h : PW X e t) (f : ∀ σ H Q, t' σ H Q → t σ H Q) : PW X e t' := ⟨fun wh pins s σ H Q I q => h.run wh pins s σ H Q I (f σ H Q q)⟩
theorem PAimp {X : Cx} {e : List Expr} {t t' : TA} (h : PA X e t) (f : ∀ σ H Q, t' σ H Q → t σ H Q) : PA X e t' := ⟨fun pos pins s σ H Q I q => h.run pos pins s σ H Q I (f σ H Q q)⟩
theorem POimp {X : Cx} {e : Option Expr} {t t' : L2.TO} (h : PO X e t) (f : ∀ σ H Q, t' σ H Q → t σ H Q) : PO X e t' := ⟨fun pins s σ H Q I q => h.run pins s σ H Q I (f σ H Q q)⟩
/-! ### what a def promises -/
def sp (G : Gm) (call : Nat → List T → Hl → R T) (f : Nat) : Sp := fun vs H Q E => ∃ Z ρ Hf hp ts, Sto G Z ρ Hf hp H ∧ Reps G ρ Hf ts vs ∧ Post G Z (fun c d _ H => E c d H) [] (RepB G) ρ Hf H Q (call f ts hp)
/-- of a def that is called while an error is handled -/
def spH (G : Gm) (call : Nat → List T → Hl → R T) (f : Nat) : Sp := fun vs H Q _ => ∃ Z ρ Hf hp ts, Sto G Z ρ Hf hp H ∧ Reps G ρ Hf ts vs ∧ Post G Z (fun _ _ _ _ => False) [] (RepB G) ρ Hf H Q ((call f ts hp).noErr)
/-- of an __init__ whose instance is no cell -/
def PostI (G : Gm) (Z : Hp) (E : XK) (a : Addr) (ρ : List Addr) (Hf H : Hp) (Q : VK) : R T → Prop
  | .ok t h' => ∀ ρ' Hf' H' c fs, t = .bI c fs → Nxt (some a) ρ Hf H ρ' Hf' H' → Sto G Z ρ' Hf' h' H' → RepB G ρ' Hf' H' (.bI c fs) (.ref a) → Q .non H'
  | .err c fs h' => ∀ ρ' Hf' H' d gs, Nxt (some a) ρ Hf H ρ' Hf' H' → Sto G Z ρ' Hf' h' H' → Hf' d = some (.xd gs) → RepF G ρ' Hf' fs gs → E (.ref (G.ca c)) (some d) H'
  | .stuck => False
def spI (G : Gm) (call : Nat → List T → Hl → R T) (c f : Nat) : Sp := fun vs H Q E => ∃ Z ρ Hf hp ts a dx ws, vs = .ref a :: ws ∧ Sto G Z ρ Hf hp H ∧ Reps G ρ Hf ts ws ∧ H a = some (.ins (G.ca c) dx []) ∧ Hf a = none ∧ a ∉ ρ ∧ G.cok c ∧
  PostI G Z E a ρ Hf H Q (call f (.bI c [] :: ts) hp)
/-- the names: of the defs, of the classes; which attributes are fields -/
structure Tab where
  fn : List (Option Str)
  cn : List (Option Str)
  fld : List Bool
  /-- the defs with parameters that are named alone -/
  kw : List Nat
  /-- the defs that are called while an error is handled -/
  hf : List (Option Str)
/-- while an error is handled -/
def Tab.hot (T : Tab) : Tab := ⟨[], [], T.fld, [], T.hf⟩
theorem fn_ne {T : Tab} {f : Nat} {o : Option Str} (h : T.fn[f]? = some o) : T.fn.isEmpty = false := by
  cases e : T.fn with
  | nil => rw [e] at h; cases h
  | cons _ _ => rfl
/-- where the defs stand -/
structure Dat where
  ad : Nat → Addr
  fd : Nat → FuncData
  ps : Nat → List Str
  lv : Nat
structure KCx (X : Cx) (P : Prog) (call : Nat → List T → Hl → R T) (G : Gm) (W : WX) (CX : CXT) (D : Dat) (T : Tab) : Prop where
  hK : X.K = G.K
  calm : T.fn.isEmpty = false → X.calm = true
  room : T.fn.isEmpty = false → Room (D.lv + 1) X.A
  rmH : L2H.RoomH (D.lv + 1) X.A
  hot : T.fn.isEmpty = true → L2H.HotC X
  hfn : ∀ (f : Nat) (x : Str), T.hf[f]? = some (some x) → L2H.FnH X.prog X.w X.K X.mg X.base CX0 D.lv (D.ad f) (D.fd f) (D.ps f) (spH G call f) ∧ X.mg x = some (.ref (D.ad f)) ∧ PySem.W.keepIn X.K (.ref (D.ad f)) = true ∧ Binds X.K (D.fd f) (D.ps f) []
  nm : G.nm.Nodup
  kd : KdOk G
  pas : ∀ σ, PassesAt CX X σ (fun c d H => W c d σ H)
  nil : ∀ outer H s u s', CX outer H s (fun _ _ _ => False) u s' → False
  nN : X.N.Nodup
  own : PassesOwn (model X.prog X.w) X.A X.env X.xe
  fn : ∀ (f : Nat) (x : Str), T.fn[f]? = some (some x) → FnOk X.prog X.w X.K X.mg X.base CX D.lv (D.ad f) (D.fd f) (D.ps f) (sp G call f) ∧ X.mg x = some (.ref (D.ad f)) ∧ PySem.W.keepIn X.K (.ref (D.ad f)) = true ∧ (T.kw.contains f = false → Binds X.K (D.fd f) (D.ps f) [])
  mt : T.fn.isEmpty = false → ∀ (c : Nat) (kc : Kb.Cls) (m f : Nat) (x : Str), P.cls[c]? = some kc → lkN m kc.meths = some f → G.nm[m]? = some x → G.cok c → FnOk X.prog X.w X.K X.mg X.base CX D.lv (D.ad f) (D.fd f) (D.ps f) (sp G call f) ∧ Meth X.K (G.ca c) x (D.ad f) ∧ Binds X.K (D.fd f) (D.ps f) []
  ini : ∀ (c : Nat) (kc : Kb.Cls) (f : Nat) (x : Str), P.cls[c]? = some kc → kc.init = some f → T.cn[c]? = some (some x) → FnOk X.prog X.w X.K X.mg X.base CX D.lv (D.ad f) (D.fd f) (D.ps f) (if kc.mode = 0 then sp G call f else spI G call c f) ∧ Mk X.K (G.ca c) (D.ad f) ∧ X.mg x = some (.ref (G.ca c)) ∧ G.cok c ∧ (T.kw.contains f = false → Binds X.K (D.fd f) (D.ps f) []) ∧ T.fn.isEmpty = false
  cl : ∀ c, G.cok c → L2.Cls X.K (G.ca c)
  na : ∀ (c f : Nat) (x : Str), G.cok c → T.fld[f]? = some true → G.nm[f]? = some x → NoAttr X.K (G.ca c) x
  sf : ∀ c, G.cok c → PySem.W.selfFirst X.K (G.ca c) = true
  nq : ∀ c, G.cok c → PySem.W.findIn X.K (.ref (G.ca c)) "__ne__" = some (some (.builtin "object.__ne__")) ∧ PySem.W.mroIn X.K (G.ca c) (.type "object") = some true
  tk : L2N.Takes X W
section
variable {X : Cx} {P : Prog} {call : Nat → List T → Hl → R T} {G : Gm} {W : WX} {CX : CXT} {D : Dat} {T0 : Tab}
variable {Z : Hp} {ρ : List Addr} {Hf H : Hp} {lσ : Sl} {σ : L2.St} {hp : Hl} {α β : Type} {RR : List Addr → Hp → Hp → α → β → Prop} {Q : β → Hp → Prop}
theorem KCx.no (C : KCx X P call G W CX D T0) : Passes CX X (fun _ _ _ => False) := fun _ _ _ _ _ _ _ h => (C.nil _ _ _ _ _ h).elim
theorem post_noErr {x : R T} {Q : VK} {σ : L2.St} (h : Post G Z W σ (RepB G) ρ Hf H Q x.noErr) : Post G Z (fun _ _ _ _ => False) [] (RepB G) ρ Hf H Q x := by
  cases x with
  | ok t h' => exact h
  | err c fs h' => exact h.elim
  | stuck => exact h
theorem KCx.un (C : KCx X P call G W CX D T0) : X.A.units + 64 < cLine := by have := C.rmH.un; omega
theorem KCx.un1 (C : KCx X P call G W CX D T0) : X.A.units + 1 < cLine := by have := C.un; omega
theorem go_E (S : Sto G Z ρ Hf hp H) (L : Slots G ρ Hf H lσ σ) {e : E} {f : T → Hl → R α} {R : VK} (h : Post G Z W σ RR ρ Hf H Q ((evE P call e lσ hp).bind f))
    (k : ∀ a h' ρ' Hf' v H', Nxt none ρ Hf H ρ' Hf' H' → Sto G Z ρ' Hf' h' H' → Slots G ρ' Hf' H' lσ σ → RepB G ρ' Hf' H' a v → Post G Z W σ RR ρ' Hf' H' Q (f a h') → R v H') : tE P call G W e σ H R :=
  ⟨Z, ρ, Hf, lσ, hp, S, L, (Post.bind h (RepB G)).imp fun v H' ⟨a, h', ρ', Hf', _, N, S', r, p⟩ => k a h' ρ' Hf' v H' N S' (L.nxt N) r p⟩
theorem go_T (S : Sto G Z ρ Hf hp H) (L : Slots G ρ Hf H lσ σ) {e : E} {f : Bool → Hl → R α} {R : Bool → Hp → Prop} (h : Post G Z W σ RR ρ Hf H Q ((evT P call e lσ hp).bind f))
    (k : ∀ a h' ρ' Hf' H', Nxt none ρ Hf H ρ' Hf' H' → Sto G Z ρ' Hf' h' H' → Slots G ρ' Hf' H' lσ σ → Post G Z W σ RR ρ' Hf' H' Q (f a h') → R a H') : tTe P call G W e σ H R :=
  ⟨Z, ρ, Hf, lσ, hp, S, L, (Post.bind h (fun _ _ _ (a b : Bool) => a = b)).imp fun v H' ⟨a, h', ρ', Hf', _, N, S', r, p⟩ => by subst r; exact k a h' ρ' Hf' H' N S' (L.nxt N) p⟩
theorem go_Es (S : Sto G Z ρ Hf hp H) (L : Slots G ρ Hf H lσ σ) {es : Es} {f : List T → Hl → R α} {R : List V → Hp → Prop} (h : Post G Z W σ RR ρ Hf H Q ((evEs P call es lσ hp).bind f))
    (k : ∀ a h' ρ' Hf' v H', Nxt none ρ Hf H ρ' Hf' H' → Sto G Z ρ' Hf' h' H' → Slots G ρ' Hf' H' lσ σ → RepBs G ρ' Hf' H' a v → Post G Z W σ RR ρ' Hf' H' Q (f a h') → R v H') : tEs P call G W es σ H R :=
  ⟨Z, ρ, Hf, lσ, hp, S, L, (Post.bind h (RepBs G)).imp fun v H' ⟨a, h', ρ', Hf', _, N, S', r, p⟩ => k a h' ρ' Hf' v H' N S' (L.nxt N) r p⟩
theorem go_O (S : Sto G Z ρ Hf hp H) (L : Slots G ρ Hf H lσ σ) {e : Eo} {f : Option Int → Hl → R α} {R : Option Int → Hp → Prop} (h : Post G Z W σ RR ρ Hf H Q ((evO P call e lσ hp).bind f))
    (k : ∀ a h' ρ' Hf' H', Nxt none ρ Hf H ρ' Hf' H' → Sto G Z ρ' Hf' h' H' → Slots G ρ' Hf' H' lσ σ → Post G Z W σ RR ρ' Hf' H' Q (f a h') → R a H') : tO P call G W e σ H R :=
  ⟨Z, ρ, Hf, lσ, hp, S, L, (Post.bind h (fun _ _ _ (a b : Option Int) => a = b)).imp fun v H' ⟨a, h', ρ', Hf', _, N, S', r, p⟩ => by subst r; exact k a h' ρ' Hf' H' N S' (L.nxt N) p⟩
theorem RepB.nx {t : T} {v : Vv} {ρ' : List Addr} {Hf' H' : Hp} (N : Nxt none ρ Hf H ρ' Hf' H') (r : RepB G ρ Hf H t v) : RepB G ρ' Hf' H' t v := RepB.nxt (Z := Hf) N r
theorem RepBs.nx {ts : List T} {vs : List Vv} {ρ' : List Addr} {Hf' H' : Hp} (N : Nxt none ρ Hf H ρ' Hf' H') (r : RepBs G ρ Hf H ts vs) : RepBs G ρ' Hf' H' ts vs := RepBs.nxt (Z := Hf) N r
def Es.len : Es → Nat
  | .nil => 0
  | .cons _ es => Es.len es + 1
/-! ### names, constants -/
def visC (sc : Scope) (x : Str) : Bool := match sc.names.lookup x with
  | some .local => true | some .cell => true | some .free => true | _ => false
theorem vis_of {sc : Scope} {x : Str} (h : visC sc x = true) : Vis sc x := by
  unfold visC at h
  unfold Vis
  split at h
  · rename_i e; exact .inl e
  · rename_i e; exact .inr (.inl e)
  · rename_i e; exact .inr (.inr e)
  · cases h
theorem k_var {i : Nat} {x : Str} {pos : Pos} (hN : X.N[i]? = some x) (hv : visC X.env.scope x = true) (hd : (x == ("__debug__" : Str)) = false := by decide +kernel) (hcd : (x == ("__classdict__" : Str)) = false := by decide +kernel) :
    PE X (.Name x pos) (tE P call G W (.var i)) := by
  refine PEimp (pe_var hN (vis_of hv) hd hcd) fun σ H Q h => ?_
  obtain ⟨Z, ρ, Hf, lσ, hp, S, L, h⟩ := h
  simp only [evE] at h
  split at h
  · rename_i t e
    obtain ⟨v, h1, h2⟩ := L.slot i t e
    exact ⟨v, h1, h.ret S h2⟩
  · exact h.elim
theorem k_int {i : Int} {j pos} : PE X (.Constant (.int i) j pos) (tE P call G W (.cst (.int i))) := PEimp pe_int fun σ H Q ⟨Z, ρ, Hf, lσ, hp, S, L, h⟩ => P_int S h
theorem k_bl {i : Bool} {j pos} : PE X (.Constant (.bool i) j pos) (tE P call G W (.cst (.bl i))) := PEimp pe_bl fun σ H Q ⟨Z, ρ, Hf, lσ, hp, S, L, h⟩ => P_bl S h
theorem k_non {j pos} : PE X (.Constant .none j pos) (tE P call G W (.cst .non)) := PEimp pe_non fun σ H Q ⟨Z, ρ, Hf, lσ, hp, S, L, h⟩ => h.ret S (Rep.non)
theorem k_str {x : Str} {z : List Nat} {j pos} (hx : x = strV z := by decide +kernel) : PE X (.Constant (.str x) j pos) (tE P call G W (.cst (.str z))) := by
  subst hx
  exact PEimp pe_str fun σ H Q ⟨Z, ρ, Hf, lσ, hp, S, L, h⟩ => P_str S h
/-! ### operators -/
theorem ni_of {z : V} {w : Value} (rz : L2.RelV z w) : w ≠ Value.notImplemented := by
  intro q
  subst q
  cases z <;> first | (cases rz; done) | (obtain ⟨t, e⟩ := rz; cases e; done) | exact rz.elim
theorem op_own (C : KCx X P call G W CX D T0) (hT : T0.fn.isEmpty = false) (σ0 : L2.St) {m : Nat} {op : Operator} (hm : G.nm[m]? = some (PySem.dunder op.info.2)) :
    OpR X (binaryOp op) (fun v u H Q => ∃ Z ρ Hf hp x y, Sto G Z ρ Hf hp H ∧ RepB G ρ Hf H x v ∧ RepB G ρ Hf H y u ∧ Post G Z W σ0 (RepB G) ρ Hf H Q (ownM P call m x y hp)) := by
  intro pins s σ H v u vv uv Q I rv ru h
  obtain ⟨Z, ρ, Hf, hp, x, y, S, rx, ry, h⟩ := h
  unfold ownM at h
  split at h
  · rename_i c fs c' fs' e1 e2
    split at h
    · rename_i ec
      subst ec
      split at h
      · rename_i kc ek
        split at h
        · rename_i f ef
          split at h
          · rename_i hp2
            simp only [Bool.and_eq_true] at hp2
            obtain ⟨a, dx, gs, rfl, ha, _, hc⟩ := ins_at S e1 rx
            obtain ⟨b, dy, gs', rfl, hb, _, _⟩ := ins_at S e2 ry
            cases (show vv = Value.ref a from rv)
            cases (show uv = Value.ref b from ru)
            obtain ⟨F, M, B⟩ := C.mt hT c kc m f _ ek ef hm hc
            obtain ⟨_, O, _⟩ := ins_get I.hok ha
            obtain ⟨_, J, _⟩ := O.look
            obtain ⟨_, O', _⟩ := ins_get I.hok hb
            obtain ⟨_, J', _⟩ := O'.look
            obtain ⟨m', hF⟩ := I.fr
            refine PySem.W.binop_K hF I.ok.mod.kin J J'.type (C.sf c hc) M.at_ M.fn ?_
            refine wpAny_mono (run_fn (E := fun _ _ _ => False) (us := [.ref a, .ref b]) (vs := [.ref a, .ref b]) F ((C.room hT).mono (Nat.le_succ _)) B .nil C.no I (.cons rfl (.cons rfl .nil)) ⟨Z, ρ, Hf, hp, [x, y], S, .cons (rx.plain hp2.1) (.cons (ry.plain hp2.2) .nil), post_noErr h⟩) (fun w s' z => ?_) fun _ _ x => x
            obtain ⟨z', H', I', rz, qz⟩ := z
            have : w ≠ Value.notImplemented := ni_of rz
            unfold PySem.W.CmpBack
            split
            · exact absurd rfl this
            · exact ⟨z', H', I', rz, qz⟩
          · exact h.elim
        · exact h.elim
      · exact h.elim
    · exact h.elim
  · exact h.elim
theorem run_fnA {X : Cx} {CX : CXT} {k : Nat} {f : Addr} {fd : FuncData} {ps : List Str} {sp : Sp} {ds : List Value} {dvs : List V} {E : XK} {A : Around} {pins : List (Addr × PySem.Obj)} {σ : L2.St} {H : Hp} {s : Shared} {Q : VK} {us : List Value} {vs : List V} (F : FnOk X.prog X.w X.K X.mg X.base CX k f fd ps sp) (hr : Room k A) (hf : A.frames = X.A.frames) (hb : Binds X.K fd ps ds) (hd : Vals dvs ds) (hx : Passes CX X E)
    (I : Inv X pins σ H s) (r : Vals vs us) (h : sp (vs ++ dvs) H Q E) : wpAny (model X.prog X.w) A (PySem.call (.ref f) us) (EP X pins σ Q) X.xe s := by
  have r2 : Vals (vs ++ dvs) (us ++ ds) := r.append hd
  have hl : (us ++ ds).length = ps.length := by rw [← r2.length]; exact F.len _ _ _ _ h
  have e0 : Env0 X.prog X.w X.K X.mg X.base A X.stack s H := by
    have e := I.env0
    exact ⟨by rw [hf]; exact e.frames, e.mod, e.bs, e.bsz, e.funs, e.frf, e.hok, e.bare⟩
  refine wpAny_call (codeAny_mono (F.run A X.stack s H ⟨us, []⟩ (us ++ ds) (vs ++ dvs) Q E hr e0 (hb s us I.kIn hl) r2 h) fun r s' hq => ?_)
  cases r with
  | error e => exact hx pins σ H s e s' I hq
  | ok fl =>
    cases fl with
    | ret u => exact I.after hq
    | next => exact False.elim hq
    | brk => exact False.elim hq
    | cont => exact False.elim hq
theorem strg_ty {pins : List (Addr × PySem.Obj)} {s : Shared} {y : T} {u : Vv} {uv : Value} (hK : X.K = G.K) (I : Inv X pins σ H s) (S : Sto G Z ρ Hf hp H) (r : RepB G ρ Hf H y u) (ru : L2.RelV u uv) (g : strgT y = true) :
    ∃ n, PySem.W.Looks (model X.prog X.w) s.heap (typeOf uv) (.type n) ∧ ∀ K C, PySem.W.notFirst K C (.type n) = true := by
  cases y with
  | non =>
    cases (show Rep G ρ Hf .non u from r)
    cases (show uv = Value.none from ru)
    exact ⟨"NoneType", .of_pure rfl, fun _ _ => nf_non⟩
  | bl b =>
    cases (show Rep G ρ Hf (.bl b) u from r)
    cases (show uv = Value.bool b from ru)
    exact ⟨"bool", .of_pure rfl, fun _ _ => nf_bool⟩
  | int i =>
    cases (show Rep G ρ Hf (.int i) u from r)
    obtain ⟨t, rfl⟩ := (show ∃ t, uv = Value.int i t from ru)
    exact ⟨"int", .of_pure rfl, fun _ _ => nf_int⟩
  | str x =>
    cases (show Rep G ρ Hf (.str x) u from r)
    obtain ⟨t, rfl⟩ := (show ∃ t, uv = Value.str (strV x) t from ru)
    exact ⟨"str", .of_pure rfl, fun _ _ => nf_str⟩
  | lst xs =>
    cases (show Rep G ρ Hf (.lst xs) u from r) with
    | lst h q =>
      rename_i a vs
      cases (show uv = Value.ref a from ru)
      obtain ⟨z, its, k, r2, e⟩ := I.hok a _ (S.ex _ _ h)
      exact ⟨"list", fun _ _ _ _ k q => wpAny_typeOf_ref (k _ _ e) q, fun _ _ => nf_lst⟩
  | tup xs =>
    cases (show Rep G ρ Hf (.tup xs) u from r) with
    | tup h q =>
      rename_i a vs
      cases (show uv = Value.ref a from ru)
      rw [← hK] at h
      obtain ⟨its, _, ⟨o, e, hc, _⟩, _⟩ := I.tuple (h.elim (fun h => .inl (h.elim (fun h => .inl (S.ex _ _ h)) fun ⟨o, h⟩ => .inr ⟨o, S.ex _ _ h⟩)) fun h => .inr h)
      exact ⟨"tuple", fun _ _ _ _ k q => wpAny_typeOf_ref (k _ _ e) (by rw [hc]; exact q), fun _ _ => nf_tup⟩
  | _ => cases g
theorem cmp_ownQ (C : KCx X P call G W CX D T0) (hT : T0.fn.isEmpty = false) (σ0 : L2.St) {o : COp} (ho : o = .eq ∨ o = .ne) (hm : G.nm[P.mEq]? = some (cmpInfo .Eq).2.1) :
    OpR X (compareOp (copN o)) (fun v u H Q => ∃ Z ρ Hf hp x y, Sto G Z ρ Hf hp H ∧ RepB G ρ Hf H x v ∧ RepB G ρ Hf H y u ∧ Post G Z W σ0 (RepB G) ρ Hf H Q ((ownQ P call x y hp).bind fun v h => match v with
      | .bl b => .ok (.bl (if o = .ne then !b else b)) h
      | _ => .stuck)) := by
  intro pins s σ H v u vv uv Q I rv ru h
  obtain ⟨Z, ρ, Hf, hp, x, y, S, rx, ry, h⟩ := h
  unfold ownQ at h
  split at h
  · rename_i c fs e1
    split at h
    · rename_i sc
      split at h
      · rename_i kc ek
        split at h
        · rename_i f ef
          split at h
          · rename_i hp2
            simp only [Bool.and_eq_true] at hp2
            obtain ⟨a, dx, gs, rfl, ha, _, hc⟩ := ins_at S e1 rx
            cases (show vv = Value.ref a from rv)
            obtain ⟨F, M, B⟩ := C.mt hT c kc _ f _ ek ef hm hc
            obtain ⟨_, O, _⟩ := ins_get I.hok ha
            obtain ⟨_, J, _⟩ := O.look
            obtain ⟨m', hF⟩ := I.fr
            have ty : ∃ tb, PySem.W.Looks (model X.prog X.w) s.heap (typeOf uv) tb ∧ PySem.W.notFirst X.K (G.ca c) tb = true := by
              unfold samC at sc
              split at sc
              · rename_i c' fs' e2
                have ec : c' = c := of_decide_eq_true sc
                subst ec
                obtain ⟨b, dy, gs', rfl, hb, _, _⟩ := ins_at S e2 ry
                cases (show uv = Value.ref b from ru)
                obtain ⟨_, O', _⟩ := ins_get I.hok hb
                obtain ⟨_, J', _⟩ := O'.look
                exact ⟨_, J'.type, by unfold PySem.W.notFirst; simp⟩
              · obtain ⟨n, l, q⟩ := strg_ty C.hK I S ry ru sc
                exact ⟨_, l, q _ _⟩
            obtain ⟨tb, lt, nf⟩ := ty
            generalize hr : (call f [x, y] hp).noErr = r at h
            have hr2 : ∀ (Q' : VK), Post G Z (fun _ _ _ _ => False) [] (RepB G) ρ Hf H Q' (call f [x, y] hp) → sp G call f ([.ref a, u] ++ []) H Q' (fun _ _ _ => False) := fun Q' q => ⟨Z, ρ, Hf, hp, [x, y], S, .cons (rx.plain hp2.1) (.cons (ry.plain hp2.2) .nil), q⟩
            cases r with
            | err c fs h1 =>
              exfalso
              cases q : call f [x, y] hp with
              | ok t h2 => rw [q] at hr; cases hr
              | err c fs h2 => rw [q] at hr; cases hr
              | stuck => rw [q] at hr; cases hr
            | stuck => exact h.elim
            | ok t h1 =>
              have he : call f [x, y] hp = .ok t h1 := by
                cases q : call f [x, y] hp with
                | ok t h2 => rw [q] at hr; exact hr
                | err c fs h2 => rw [q] at hr; cases hr
                | stuck => rw [q] at hr; cases hr
              simp only [R.bind_ok] at h
              cases t with
              | bl b =>
                rcases ho with rfl | rfl
                · show wpAny _ _ (richCompare .Eq _ _) _ _ _
                  refine PySem.W.cmp_K (op := .Eq) (tb := tb) (C.room hT).units0 hF I.ok.mod.kin J lt nf M.at_ M.fn ?_
                  refine wpAny_mono (run_fn (E := fun _ _ _ => False) (us := [.ref a, uv]) (vs := [.ref a, u]) F ((C.room hT).mono (Nat.le_succ _)) B .nil C.no I (.cons rfl (.cons ru .nil)) (hr2 Q (by rw [he]; exact h))) (fun w s' z => ?_) fun _ _ x => x
                  obtain ⟨z', H', I', rz, qz⟩ := z
                  have : w ≠ Value.notImplemented := ni_of rz
                  unfold PySem.W.CmpBack
                  split
                  · exact absurd rfl this
                  · exact ⟨z', H', I', rz, qz⟩
                · show wpAny _ _ (richCompare .NotEq _ _) _ _ _
                  refine ne_K (tb := tb) (C.room hT).units0 (C.room hT).in1.units0 hF I.ok.mod.kin J lt nf (C.nq c hc).1 (C.nq c hc).2 M.at_ M.fn ?_
                  have q2 : Post G Z (fun _ _ _ _ => False) [] (RepB G) ρ Hf H (fun (z : L2.V) H' => z = L2.V.bl b ∧ Q (.bl (!b)) H') (call f [x, y] hp) := by
                    rw [he]
                    intro ρ' Hf' H' v N S r
                    cases (show Rep G ρ' Hf' (.bl b) v from r)
                    exact ⟨rfl, h ρ' Hf' H' (.bl (!b)) N S (.bl _)⟩
                  refine wpAny_mono (run_fnA (E := fun _ _ _ => False) (A := X.A.in1) (us := [.ref a, uv]) (vs := [.ref a, u]) F (C.room hT).in1 rfl B .nil C.no I (.cons rfl (.cons ru .nil)) (hr2 _ q2)) (fun w s' z => ?_) fun _ _ x => x
                  obtain ⟨z', H', I', rz, rfl, qz⟩ := z
                  cases (show w = Value.bool b from rz)
                  exact ⟨b, rfl, .bl (!b), H', I', rfl, qz⟩
              | _ => exact h.elim
          · exact h.elim
        · exact h.elim
      · exact h.elim
    · exact h.elim
  · exact h.elim
/-- the ids of the methods behind operators -/
structure OpNm (P : Prog) (G : Gm) : Prop where
  add : P.mAdd < 1000 → G.nm[P.mAdd]? = some (PySem.dunder (Operator.info .Add).2)
  sub : P.mSub < 1000 → G.nm[P.mSub]? = some (PySem.dunder (Operator.info .Sub).2)
  mul : P.mMul < 1000 → G.nm[P.mMul]? = some (PySem.dunder (Operator.info .Mult).2)
  eq : P.mEq < 1000 → G.nm[P.mEq]? = some (cmpInfo .Eq).2.1
  no : ∀ (c : Nat) (k : Kb.Cls), P.cls[c]? = some k → ∀ m, 1000 ≤ m → lkN m k.meths = none
theorem ownM_no {P : Prog} {call : Nat → List T → Hl → R T} (O : OpNm P G) {m : Nat} (hm : 1000 ≤ m) (x y : T) (h : Hl) : ownM P call m x y h = .stuck := by
  unfold ownM
  split
  · split
    · split
      · rename_i k ek
        rw [O.no _ _ ek m hm]
      · rfl
    · rfl
  · rfl
theorem ownQ_no {P : Prog} {call : Nat → List T → Hl → R T} (O : OpNm P G) (hm : 1000 ≤ P.mEq) (x y : T) (h : Hl) : ownQ P call x y h = .stuck := by
  unfold ownQ
  split
  · split
    · split
      · rename_i k ek
        rw [O.no _ _ ek _ hm]
      · rfl
    · rfl
  · rfl
theorem op_ownE (C : KCx X P call G W CX D T0) (hT : T0.fn.isEmpty = false) (σ0 : L2.St) {m : Nat} {op : Operator} (O : OpNm P G) (hm : m < 1000 → G.nm[m]? = some (PySem.dunder op.info.2)) :
    OpR X (binaryOp op) (fun v u H Q => ∃ Z ρ Hf hp x y, Sto G Z ρ Hf hp H ∧ RepB G ρ Hf H x v ∧ RepB G ρ Hf H y u ∧ Post G Z W σ0 (RepB G) ρ Hf H Q (ownM P call m x y hp)) := by
  by_cases q : m < 1000
  · exact op_own C hT σ0 (hm q)
  · intro pins s σ H v u vv uv Q I rv ru h
    obtain ⟨Z, ρ, Hf, hp, x, y, S, rx, ry, h⟩ := h
    rw [ownM_no O (Nat.le_of_not_lt q)] at h
    exact h.elim
theorem op_binE (C : KCx X P call G W CX D T0) (hT : T0.fn.isEmpty = false) (O : OpNm P G) (σ0 : L2.St) (o : BOp) :
    OpR X (binaryOp (opN o)) (fun v u H Q => ∃ Z ρ Hf hp x y, Sto G Z ρ Hf hp H ∧ RepB G ρ Hf H x v ∧ RepB G ρ Hf H y u ∧ Post G Z W σ0 (RepB G) ρ Hf H Q (binE P call o x y hp)) := by
  intro pins s σ H v u vv uv Q I rv ru h
  obtain ⟨Z, ρ, Hf, hp, x, y, S, rx, ry, h⟩ := h
  unfold binE at h
  split at h
  · cases o with
    | add => exact op_ownE C hT σ0 O O.add pins s σ H v u vv uv Q I rv ru ⟨Z, ρ, Hf, hp, x, y, S, rx, ry, h⟩
    | sub => exact op_ownE C hT σ0 O O.sub pins s σ H v u vv uv Q I rv ru ⟨Z, ρ, Hf, hp, x, y, S, rx, ry, h⟩
    | mul => exact op_ownE C hT σ0 O O.mul pins s σ H v u vv uv Q I rv ru ⟨Z, ρ, Hf, hp, x, y, S, rx, ry, h⟩
    | _ => exact h.elim
  · exact op_binT C.hK o pins s σ H v u vv uv Q I rv ru ⟨Z, W, σ0, ρ, Hf, hp, x, y, S, rx, ry, h⟩
theorem k_bin (C : KCx X P call G W CX D T0) (O : OpNm P G) {o : BOp} {op : Operator} {a b : Expr} {ea eb : E} {pos : Pos} (ha : PE X a (tE P call G W ea)) (hb : PE X b (tE P call G W eb)) (hop : opN o = op := by rfl) (hT : T0.fn.isEmpty = false := by first | assumption | rfl) :
    PE X (.BinOp a op b pos) (tE P call G W (.bin o ea eb)) := by
  subst hop
  refine ⟨fun pins s σ H Q I h => (pe_op (op_binE C hT O σ o) ha hb).run pins s σ H Q I ?_⟩
  obtain ⟨Z, ρ, Hf, lσ, hp, S, L, h⟩ := h
  simp only [evE] at h
  refine go_E S L h fun x h1 ρ1 Hf1 v H1 N1 S1 L1 r1 h => ?_
  refine go_E S1 L1 h fun y h2 ρ2 Hf2 u H2 N2 S2 L2 r2 h => ?_
  exact ⟨Z, ρ2, Hf2, h2, x, y, S2, r1.nx N2, r2, h⟩
theorem oR_cmpT {o : COp} {x y : T} {h : Hl} : (∃ b, cmpT o x y h = .ok (.bl b) h) ∨ cmpT o x y h = .stuck := by
  have key : ∀ (b : Option Bool), (∃ c, oR b h = .ok (.bl c) h) ∨ oR b h = .stuck := fun b => by
    cases b with
    | none => exact .inr rfl
    | some c => exact .inl ⟨c, rfl⟩
  cases o <;> simp only [cmpT] <;> first | exact key _ | (split <;> first | exact key _ | exact .inr rfl)
theorem op_cmpE (C : KCx X P call G W CX D T0) (hT : T0.fn.isEmpty = false) (O : OpNm P G) (σ0 : L2.St) (o : COp) :
    OpR X (compareOp (copN o)) (fun v u H Q => ∃ Z ρ Hf hp x y, Sto G Z ρ Hf hp H ∧ RepB G ρ Hf H x v ∧ RepB G ρ Hf H y u ∧ Post G Z W σ0 (RepB G) ρ Hf H Q (cmpE P call o x y hp)) := by
  intro pins s σ H v u vv uv Q I rv ru h
  obtain ⟨Z, ρ, Hf, hp, x, y, S, rx, ry, h⟩ := h
  unfold cmpE at h
  split at h
  · rename_i q
    simp only [Bool.and_eq_true, Bool.or_eq_true, decide_eq_true_eq] at q
    obtain ⟨_, ho⟩ := q
    by_cases q : P.mEq < 1000
    · exact cmp_ownQ C hT σ0 ho (O.eq q) pins s σ H v u vv uv Q I rv ru ⟨Z, ρ, Hf, hp, x, y, S, rx, ry, h⟩
    · rw [ownQ_no O (Nat.le_of_not_lt q)] at h
      exact h.elim
  · exact op_cmpT C.hK C.un o pins s σ H v u vv uv Q I rv ru ⟨Z, W, σ0, ρ, Hf, hp, x, y, S, rx, ry, h⟩
theorem k_cmp (C : KCx X P call G W CX D T0) (O : OpNm P G) {o : COp} {op : CmpOp} {a b : Expr} {ea eb : E} {pos : Pos} (ha : PE X a (tE P call G W ea)) (hb : PE X b (tE P call G W eb)) (hop : copN o = op := by rfl) (hm : behindInMarks op b = false := by rfl) (hT : T0.fn.isEmpty = false := by first | assumption | rfl) :
    PE X (.Compare a [op] [b] pos) (tE P call G W (.cmp o ea eb)) := by
  subst hop
  refine ⟨fun pins s σ H Q I h => (pe_cmpR (op_cmpE C hT O σ o) ha hb hm).run pins s σ H Q I ?_⟩
  obtain ⟨Z, ρ, Hf, lσ, hp, S, L, h⟩ := h
  simp only [evE] at h
  refine go_E S L h fun x h1 ρ1 Hf1 v H1 N1 S1 L1 r1 h => ?_
  refine go_E S1 L1 h fun y h2 ρ2 Hf2 u H2 N2 S2 L2 r2 h => ?_
  exact ⟨Z, ρ2, Hf2, h2, x, y, S2, r1.nx N2, r2, h⟩
/-- a result that is a bool, as a test -/
theorem post_bl {W : WX} {x : R T} {Q : Bool → Hp → Prop} (hb : ∀ t h, x = .ok t h → ∃ b, t = .bl b) (h : Post G Z W σ (fun _ _ _ (a b : Bool) => a = b) ρ Hf H Q (x.bind tru)) :
    Post G Z W σ (RepB G) ρ Hf H (fun v H' => ∃ k, v = .bl k ∧ Q k H') x := by
  cases x with
  | ok t h' =>
    obtain ⟨b, rfl⟩ := hb _ _ rfl
    intro ρ' Hf' H' v N S r
    cases (show Rep G ρ' Hf' (.bl b) v from r)
    exact ⟨b, rfl, h ρ' Hf' H' b N S rfl⟩
  | err c fs h' => exact h
  | stuck => exact h
theorem cmpE_bl {o : COp} {x y t : T} {h h' : Hl} (e : cmpE P call o x y h = .ok t h') : ∃ b, t = .bl b := by
  unfold cmpE at e
  split at e
  · generalize ownQ P call x y h = r at e
    cases r with
    | ok u h1 =>
      simp only [R.bind_ok] at e
      cases u <;> first | (cases e; exact ⟨_, rfl⟩) | cases e
    | err c fs h1 => cases e
    | stuck => cases e
  · rcases oR_cmpT (o := o) (x := x) (y := y) (h := h) with ⟨b, q⟩ | q
    · rw [q] at e; cases e; exact ⟨b, rfl⟩
    · rw [q] at e; cases e
theorem R.bind_assoc {α β γ : Type} (x : R α) (f : α → Hl → R β) (g : β → Hl → R γ) : (x.bind f).bind g = x.bind fun a h => (f a h).bind g := by cases x <;> rfl
theorem kt_cmp (C : KCx X P call G W CX D T0) (O : OpNm P G) {o : COp} {op : CmpOp} {a b : Expr} {ea eb : E} {pos : Pos} (ha : PE X a (tE P call G W ea)) (hb : PE X b (tE P call G W eb)) (hop : copN o = op := by rfl) (hm : behindInMarks op b = false := by rfl) (hT : T0.fn.isEmpty = false := by first | assumption | rfl) :
    PT X (.Compare a [op] [b] pos) (tTe P call G W (.cmp o ea eb)) := by
  subst hop
  refine ⟨fun pins s σ H Q I h => (pt_cmpR (op_cmpE C hT O σ o) ha hb hm).run pins s σ H Q I ?_⟩
  obtain ⟨Z, ρ, Hf, lσ, hp, S, L, h⟩ := h
  simp only [evT, evE, R.bind_assoc] at h
  refine go_E S L h fun x h1 ρ1 Hf1 v H1 N1 S1 L1 r1 h => ?_
  refine go_E S1 L1 h fun y h2 ρ2 Hf2 u H2 N2 S2 L2 r2 h => ?_
  exact ⟨Z, ρ2, Hf2, h2, x, y, S2, r1.nx N2, r2, post_bl (fun t h e => cmpE_bl e) h⟩
theorem k_neg {a : Expr} {ea : E} {pos : Pos} (ha : PE X a (tE P call G W ea)) : PE X (.UnaryOp .USub a pos) (tE P call G W (.neg ea)) := by
  refine PEimp (pe_un un_neg ha) fun σ H Q h => ?_
  obtain ⟨Z, ρ, Hf, lσ, hp, S, L, h⟩ := h
  simp only [evE] at h
  refine go_E S L h fun x h1 ρ1 Hf1 v H1 N1 S1 L1 r1 h => ?_
  cases x with
  | int i => exact ⟨i, B_int r1, P_int S1 h⟩
  | _ => exact h.elim
/-! ### truth -/
/-- the value's truth behind it -/
theorem post_tru (hK : X.K = G.K) (S : Sto G Z ρ Hf hp H) {x : T} {v : Vv} (r : RepB G ρ Hf H x v) {f : Bool → Hl → R α} (h : Post G Z W σ RR ρ Hf H Q ((tru x hp).bind f)) : ∃ k, TruV X.K v H k ∧ Post G Z W σ RR ρ Hf H Q (f k hp) := by
  unfold tru at h
  cases e : truT x hp with
  | none => rw [e] at h; exact h.elim
  | some b =>
    rw [e] at h
    exact ⟨b, tru_at S hK e r, h⟩
theorem R.bind_id {α : Type} (x : R α) : x.bind (fun a h => .ok a h) = x := by cases x <;> rfl
theorem kt_val (C : KCx X P call G W CX D T0) {a : Expr} {ea : E} (ha : PE X a (tE P call G W ea)) (he : ∀ whole, isTrue a X.env whole = (do let v ← whole; standAt a.pos; holding [v] (truthy v)) := by intro _; rfl) : PT X a (tTe P call G W ea) := by
  refine PTimp (pt_truth ha he) fun σ H Q h => ?_
  obtain ⟨Z, ρ, Hf, lσ, hp, S, L, h⟩ := h
  simp only [evT] at h
  refine go_E S L h fun x h1 ρ1 Hf1 v H1 N1 S1 L1 r1 h => ?_
  rw [← R.bind_id (tru x h1)] at h
  obtain ⟨k, hk, h⟩ := post_tru C.hK S1 r1 h
  exact ⟨k, hk, h.ret S1 rfl⟩
theorem kt_not {a : Expr} {ea : E} {pos : Pos} (ha : PT X a (tTe P call G W ea)) : PT X (.UnaryOp .Not a pos) (tTe P call G W (.not ea)) := by
  refine PTimp (pt_not ha) fun σ H Q h => ?_
  obtain ⟨Z, ρ, Hf, lσ, hp, S, L, h⟩ := h
  have e : evT P call (.not ea) lσ hp = (evT P call ea lσ hp).bind fun b h => .ok (!b) h := by
    simp only [evT, evE, R.bind_assoc]; rfl
  rw [e] at h
  exact go_T S L h fun k h1 ρ1 Hf1 H1 N1 S1 L1 h => h.ret S1 rfl
theorem evT_and {ea eb : E} {lσ : Sl} {hp : Hl} : evT P call (.and ea eb) lσ hp = (evT P call ea lσ hp).bind fun b h => if b then evT P call eb lσ h else .ok false h := by
  simp only [evT, evE, R.bind_assoc]
  congr 1
  funext x h
  unfold tru
  cases e : truT x h with
  | none => rfl
  | some b =>
    cases b with
    | true => rfl
    | false => show tru x h = _; unfold tru; rw [e]; rfl
theorem evT_or {ea eb : E} {lσ : Sl} {hp : Hl} : evT P call (.or ea eb) lσ hp = (evT P call ea lσ hp).bind fun b h => if b then .ok true h else evT P call eb lσ h := by
  simp only [evT, evE, R.bind_assoc]
  congr 1
  funext x h
  unfold tru
  cases e : truT x h with
  | none => rfl
  | some b =>
    cases b with
    | true => show tru x h = _; unfold tru; rw [e]; rfl
    | false => rfl
theorem kw_and1 {a : Expr} {ea : E} {pos : Pos} (ha : PT X a (tTe P call G W ea)) : PW X (.BoolOp .And [a] pos) (tTe P call G W ea) := pw_and1 ha
theorem kw_or1 {a : Expr} {ea : E} {pos : Pos} (ha : PT X a (tTe P call G W ea)) : PW X (.BoolOp .Or [a] pos) (tTe P call G W ea) := pw_or1 ha
theorem kw_and {a b : Expr} {rest : List Expr} {ea eb : E} {pos : Pos} (ha : PT X a (tTe P call G W ea)) (hb : PW X (.BoolOp .And (b :: rest) pos) (tTe P call G W eb)) : PW X (.BoolOp .And (a :: b :: rest) pos) (tTe P call G W (.and ea eb)) := by
  refine PWimp (pw_and ha hb) fun σ H Q h => ?_
  obtain ⟨Z, ρ, Hf, lσ, hp, S, L, h⟩ := h
  rw [evT_and] at h
  refine go_T S L h fun k h1 ρ1 Hf1 H1 N1 S1 L1 h => ?_
  cases k with
  | true => exact ⟨Z, ρ1, Hf1, lσ, h1, S1, L1, h⟩
  | false => exact h.ret S1 rfl
theorem kw_or {a b : Expr} {rest : List Expr} {ea eb : E} {pos : Pos} (ha : PT X a (tTe P call G W ea)) (hb : PW X (.BoolOp .Or (b :: rest) pos) (tTe P call G W eb)) : PW X (.BoolOp .Or (a :: b :: rest) pos) (tTe P call G W (.or ea eb)) := by
  refine PWimp (pw_or ha hb) fun σ H Q h => ?_
  obtain ⟨Z, ρ, Hf, lσ, hp, S, L, h⟩ := h
  rw [evT_or] at h
  refine go_T S L h fun k h1 ρ1 Hf1 H1 N1 S1 L1 h => ?_
  cases k with
  | true => exact h.ret S1 rfl
  | false => exact ⟨Z, ρ1, Hf1, lσ, h1, S1, L1, h⟩
theorem k_not (C : KCx X P call G W CX D T0) {a : Expr} {ea : E} {pos : Pos} (ha : PE X a (tE P call G W ea)) : PE X (.UnaryOp .Not a pos) (tE P call G W (.not ea)) := by
  refine PEimp (pe_notT ha) fun σ H Q h => ?_
  obtain ⟨Z, ρ, Hf, lσ, hp, S, L, h⟩ := h
  simp only [evE] at h
  refine go_E S L h fun x h1 ρ1 Hf1 v H1 N1 S1 L1 r1 h => ?_
  obtain ⟨k, hk, h⟩ := post_tru C.hK S1 r1 h
  exact ⟨k, hk, P_bl S1 h⟩
theorem k_one {op} {a : Expr} {ea : E} {pos : Pos} (ha : PE X a (tE P call G W ea)) : PE X (.BoolOp op [a] pos) (tE P call G W ea) := pe_one ha
theorem k_and (C : KCx X P call G W CX D T0) {a b : Expr} {rest : List Expr} {ea eb : E} {pos : Pos} (ha : PE X a (tE P call G W ea)) (hb : PE X (.BoolOp .And (b :: rest) pos) (tE P call G W eb)) : PE X (.BoolOp .And (a :: b :: rest) pos) (tE P call G W (.and ea eb)) := by
  refine PEimp (pe_andT ha hb) fun σ H Q h => ?_
  obtain ⟨Z, ρ, Hf, lσ, hp, S, L, h⟩ := h
  simp only [evE] at h
  refine go_E S L h fun x h1 ρ1 Hf1 v H1 N1 S1 L1 r1 h => ?_
  obtain ⟨k, hk, h⟩ := post_tru C.hK S1 r1 h
  refine ⟨k, hk, ?_⟩
  cases k with
  | true => exact ⟨Z, ρ1, Hf1, lσ, h1, S1, L1, h⟩
  | false => exact h.ret S1 r1
theorem k_or (C : KCx X P call G W CX D T0) {a b : Expr} {rest : List Expr} {ea eb : E} {pos : Pos} (ha : PE X a (tE P call G W ea)) (hb : PE X (.BoolOp .Or (b :: rest) pos) (tE P call G W eb)) : PE X (.BoolOp .Or (a :: b :: rest) pos) (tE P call G W (.or ea eb)) := by
  refine PEimp (pe_orT ha hb) fun σ H Q h => ?_
  obtain ⟨Z, ρ, Hf, lσ, hp, S, L, h⟩ := h
  simp only [evE] at h
  refine go_E S L h fun x h1 ρ1 Hf1 v H1 N1 S1 L1 r1 h => ?_
  obtain ⟨k, hk, h⟩ := post_tru C.hK S1 r1 h
  refine ⟨k, hk, ?_⟩
  cases k with
  | true => exact h.ret S1 r1
  | false => exact ⟨Z, ρ1, Hf1, lσ, h1, S1, L1, h⟩
theorem k_ife {c a b : Expr} {ec ea eb : E} {pos : Pos} (hc : PT X c (tTe P call G W ec)) (ha : PE X a (tE P call G W ea)) (hb : PE X b (tE P call G W eb)) : PE X (.IfExp c a b pos) (tE P call G W (.ife ec ea eb)) := by
  refine PEimp (pe_ifExp hc ha hb) fun σ H Q h => ?_
  obtain ⟨Z, ρ, Hf, lσ, hp, S, L, h⟩ := h
  have e : evE P call (.ife ec ea eb) lσ hp = (evT P call ec lσ hp).bind fun t h => if t then evE P call ea lσ h else evE P call eb lσ h := by
    simp only [evT, evE, R.bind_assoc]
  rw [e] at h
  refine go_T S L h fun k h1 ρ1 Hf1 H1 N1 S1 L1 h => ?_
  cases k with
  | true => exact ⟨Z, ρ1, Hf1, lσ, h1, S1, L1, h⟩
  | false => exact ⟨Z, ρ1, Hf1, lσ, h1, S1, L1, h⟩
/-! ### argument lists, displays -/
theorem ka_nil : PA X [] (tEs P call G W .nil) := PAimp pa_nil fun σ H Q ⟨Z, ρ, Hf, lσ, hp, S, L, h⟩ => h.ret S .nil
theorem ka_cons {e : Expr} {es : List Expr} {ie : E} {ies : Es} (ha : PE X e (tE P call G W ie)) (hr : PA X es (tEs P call G W ies)) (hs : starEach (e :: es) X.env = (false, eval e X.env) :: starEach es X.env := by rfl) : PA X (e :: es) (tEs P call G W (.cons ie ies)) := by
  refine PAimp (pa_cons ha hr hs) fun σ H Q h => ?_
  obtain ⟨Z, ρ, Hf, lσ, hp, S, L, h⟩ := h
  simp only [evEs] at h
  refine go_E S L h fun x h1 ρ1 Hf1 v H1 N1 S1 L1 r1 h => ?_
  refine go_Es S1 L1 h fun xs h2 ρ2 Hf2 vs H2 N2 S2 L2 r2 h => ?_
  exact h.ret S2 (.cons (r1.nx N2) r2)
theorem k_tup {es : List Expr} {ies : Es} {x1} {pos : Pos} (ha : PA X es (tEs P call G W ies)) : PE X (.Tuple es x1 pos) (tE P call G W (.tup ies)) := by
  refine PEimp (pe_tup ha) fun σ H Q h => ?_
  obtain ⟨Z, ρ, Hf, lσ, hp, S, L, h⟩ := h
  simp only [evE] at h
  refine go_Es S L h fun xs h1 ρ1 Hf1 vs H1 N1 S1 L1 r1 h => ?_
  split at h
  · rename_i hp2
    simp only [Bool.and_eq_true, decide_eq_true_eq] at hp2
    have r := r1.plain hp2.1
    exact ⟨by rw [← r.length, ← maxLen_eq]; exact hp2.2, P_tup S1 r h⟩
  · exact h.elim
/-! ### subscripts, fields -/
theorem k_idx (C : KCx X P call G W CX D T0) {a b : Expr} {ea eb : E} {pos : Pos} (ha : PE X a (tE P call G W ea)) (hb : PE X b (tE P call G W eb)) (hs : PlainIx b := by intro _ _; rfl) : PE X (.Subscript a b pos) (tE P call G W (.idx ea eb)) := by
  refine PEimp (pe_ix (ix_T C.hK C.un1) ha hb hs) fun σ H Q h => ?_
  obtain ⟨Z, ρ, Hf, lσ, hp, S, L, h⟩ := h
  simp only [evE] at h
  refine go_E S L h fun x h1 ρ1 Hf1 v H1 N1 S1 L1 r1 h => ?_
  refine go_E S1 L1 h fun y h2 ρ2 Hf2 u H2 N2 S2 L2 r2 h => ?_
  exact ⟨Z, W, σ, ρ2, Hf2, h2, x, y, S2, r1.nx N2, r2, h⟩
theorem ko_none : PO X none (tO P call G W .none) := POimp po_none fun σ H Q ⟨Z, ρ, Hf, lσ, hp, S, L, h⟩ => h.ret S rfl
theorem ko_some {e : Expr} {ie : E} (ha : PE X e (tE P call G W ie)) : PO X (some e) (tO P call G W (.some ie)) := by
  refine POimp (po_some ha) fun σ H Q h => ?_
  obtain ⟨Z, ρ, Hf, lσ, hp, S, L, h⟩ := h
  simp only [evO] at h
  refine go_E S L h fun x h1 ρ1 Hf1 v H1 N1 S1 L1 r1 h => ?_
  cases x with
  | int i => exact ⟨i, B_int r1, h.ret S1 rfl⟩
  | _ => exact h.elim
theorem k_sl (C : KCx X P call G W CX D T0) {a : Expr} {lo hi : Option Expr} {ea : E} {el eh : Eo} {pos p2 : Pos} (ha : PE X a (tE P call G W ea)) (hl : PO X lo (tO P call G W el)) (hh : PO X hi (tO P call G W eh)) : PE X (.Subscript a (.Slice lo hi none p2) pos) (tE P call G W (.sl ea el eh)) := by
  refine PEimp (pe_slice (sl_T C.hK) ha hl hh) fun σ H Q h => ?_
  obtain ⟨Z, ρ, Hf, lσ, hp, S, L, h⟩ := h
  simp only [evE] at h
  refine go_E S L h fun x h1 ρ1 Hf1 v H1 N1 S1 L1 r1 h => ?_
  refine go_O S1 L1 h fun l h2 ρ2 Hf2 H2 N2 S2 L2 h => ?_
  refine go_O S2 L2 h fun u h3 ρ3 Hf3 H3 N3 S3 L3 h => ?_
  exact ⟨Z, W, σ, ρ3, Hf3, h3, x, S3, (r1.nx N2).nx N3, h⟩
theorem k_fld (C : KCx X P call G W CX D T0) {a : Expr} {ea : E} {x : Str} {f : Nat} {pos : Pos} (ha : PE X a (tE P call G W ea)) (hx : G.nm[f]? = some x) (hf : T0.fld[f]? = some true) (hb : attributeBase a x X.env (eval a X.env) = eval a X.env := by rfl) : PE X (.Attribute a x pos) (tE P call G W (.fld ea f)) := by
  refine PEimp (pe_fld ha hb) fun σ H Q h => ?_
  obtain ⟨Z, ρ, Hf, lσ, hp, S, L, h⟩ := h
  simp only [evE] at h
  refine go_E S L h fun t h1 ρ1 Hf1 v H1 N1 S1 L1 r1 h => ?_
  have main : ∀ {c fs u}, insOf t h1 = some (c, fs) → lkF f fs = some u → Post G Z W σ (RepB G) ρ1 Hf1 H1 Q (.ok u h1) → ∃ a Cc dx gs w, v = .ref a ∧ H1 a = some (.ins Cc dx gs) ∧ L2.Cls X.K Cc ∧ NoAttr X.K Cc x ∧ gs.lookup x = some w ∧ Q w H1 := fun {c fs u} e1 e2 h => by
    obtain ⟨a, dx, gs, rfl, h2, h3, h4⟩ := ins_at S1 e1 r1
    obtain ⟨w, h5, h6⟩ := (h3.look C.nm hx).1 u e2
    exact ⟨a, _, dx, gs, w, rfl, h2, C.cl c h4, C.na c f x h4 hf hx, h5, h.ret S1 h6.toB⟩
  unfold fldT at h
  split at h
  · exact h.elim
  · split at h
    · rename_i c fs e1
      split at h
      · rename_i u e2
        exact main e1 e2 h
      · exact h.elim
    · exact h.elim
/-! ### calls -/
theorem k_call (C : KCx X P call G W CX D T0) {f : Nat} {x : Str} {e : Expr} {es : List Expr} {ies : Es} {p pos : Pos} (hx : T0.fn[f]? = some (some x)) (hg : Gl X x) (ha : PA X (e :: es) (tEs P call G W ies)) (hdb : (x == ("__debug__" : Str)) = false := by decide +kernel)
    (he : starEach (e :: es) X.env = (false, eval e X.env) :: starEach es X.env := by rfl) (hpl : (backTo pos (starEach es X.env)).any (·.1) = false := by rfl) (hkw : T0.kw.contains f = false := by rfl) : PE X (.Call (.Name x p) (e :: es) [] pos) (tE P call G W (.call f ies)) := by
  obtain ⟨F, hm, hk, hb⟩ := C.fn f x hx
  refine ⟨fun pins s σ H Q I h => sCall F ((C.room (fn_ne hx)).mono (Nat.le_succ _)) hg hm hk (hb hkw) (C.pas σ) ha hdb he hpl I ?_⟩
  obtain ⟨Z, ρ, Hf, lσ, hp, S, L, h⟩ := h
  simp only [evE] at h
  refine go_Es S L h fun vs h1 ρ1 Hf1 us H1 N1 S1 L1 r1 h => ?_
  split at h
  · rename_i hp2
    exact ⟨Z, ρ1, Hf1, h1, vs, S1, r1.plain hp2, h⟩
  · exact h.elim
theorem k_call0 (C : KCx X P call G W CX D T0) {f : Nat} {x : Str} {p pos : Pos} (hx : T0.fn[f]? = some (some x)) (hg : Gl X x) (hdb : (x == ("__debug__" : Str)) = false := by decide +kernel) (hkw : T0.kw.contains f = false := by rfl) : PE X (.Call (.Name x p) [] [] pos) (tE P call G W (.call f .nil)) := by
  obtain ⟨F, hm, hk, hb⟩ := C.fn f x hx
  refine ⟨fun pins s σ H Q I h => sCall0 F ((C.room (fn_ne hx)).mono (Nat.le_succ _)) hg hm hk (hb hkw) (C.pas σ) hdb I ?_⟩
  obtain ⟨Z, ρ, Hf, lσ, hp, S, L, h⟩ := h
  simp only [evE, evEs, R.bind_ok] at h
  exact ⟨Z, ρ, Hf, hp, [], S, .nil, h⟩
/-- keywords: the values in the parameters' order -/
def arrV (vs : List V) : List (Nat ⊕ T) → List V
  | [] => []
  | .inl i :: r => (vs[i]?).getD .non :: arrV vs r
  | .inr _ :: r => .non :: arrV vs r
def arrW (vs : List Value) : List (Nat ⊕ T) → List Value
  | [] => []
  | .inl i :: r => (vs[i]?).getD .none :: arrW vs r
  | .inr _ :: r => .none :: arrW vs r
theorem arr_rel {vs : List V} {us : List Value} (r : Vals vs us) : ∀ arr : List (Nat ⊕ T), Vals (arrV vs arr) (arrW us arr)
  | [] => .nil
  | .inl i :: q => by
    refine .cons ?_ (arr_rel r q)
    cases e : vs[i]? with
    | none => rw [r.none_of e]; rfl
    | some v =>
      obtain ⟨u, h1, h2⟩ := r.get e
      rw [h1]; exact h2
  | .inr _ :: q => .cons rfl (arr_rel r q)
theorem arr_at {ts us : List T} {vs : List V} (r : Reps G ρ Hf ts vs) : ∀ {arr : List (Nat ⊕ T)}, (∀ t, Sum.inr t ∈ arr → isNon t = true) → arrT ts arr = some us → Reps G ρ Hf us (arrV vs arr) := by
  intro arr
  induction arr generalizing us with
  | nil => intro _ e; simp only [arrT] at e; cases e; exact .nil
  | cons x xs ih =>
    intro hf e
    cases x with
    | inl i =>
      simp only [arrT] at e
      split at e
      · rename_i t ts' e1 e2
        cases e
        obtain ⟨v, h1, h2⟩ := r.get e1
        simp only [arrV, h1, Option.getD_some]
        exact .cons h2 (ih (fun t h => hf t (List.mem_cons_of_mem _ h)) e2)
      · cases e
    | inr t =>
      simp only [arrT, Option.map_eq_some_iff] at e
      obtain ⟨ts', e1, rfl⟩ := e
      have h1 := hf t List.mem_cons_self
      simp only [arrV]
      refine .cons ?_ (ih (fun t h => hf t (List.mem_cons_of_mem _ h)) e1)
      cases t <;> first | (simp [isNon] at h1; done) | exact .non
/-- how a call with keywords binds: no defaults -/
theorem kbn_of {K : PySem.W.Frag} {x qual : Str} {st : Stmt} {f : Addr} {fd : FuncData} {ps ks : List Str} {n : Nat} {arr : List (Nat ⊕ T)} (F : Fun K x qual st f fd)
    (h : ∀ (kV doc pm : Value) (an : Option Addr) (cdv ct : Value) (us ws : List Value), us.length = n → ws.length = ks.length → bindArgs (PySem.W.fnOf x qual (defArgs st) (defBody st) (defScope st) .none kV doc pm an cdv ct) ⟨us, ks.zip ws⟩ = pure (ps.zip (arrW (us ++ ws) arr))) :
    KBn K fd ps n ks (fun us ws => arrW (us ++ ws) arr) (fun vs zs => arrV (vs ++ zs) arr) := by
  obtain ⟨oc, od, kV, doc, pm, an, cdv, ct, osl, rfl, lk, hcd⟩ := F.ex
  exact ⟨fun s us ws _ l1 l2 => .of_eq (h kV doc pm an cdv ct us ws l1 l2), fun r q => arr_rel (r.append q) arr⟩
theorem evEs_len : ∀ {es : Es} {lσ : Sl} {h h' : Hl} {vs : List T}, evEs P call es lσ h = .ok vs h' → vs.length = Es.len es
  | .nil, lσ, h, h', vs, e => by simp only [evEs] at e; cases e; rfl
  | .cons e es, lσ, h, h', vs, q => by
    simp only [evEs] at q
    cases e1 : evE P call e lσ h with
    | ok x h1 =>
      rw [e1] at q; simp only [R.bind_ok] at q
      cases e2 : evEs P call es lσ h1 with
      | ok xs h2 =>
        rw [e2] at q; simp only [R.bind_ok] at q
        cases q
        rw [List.length_cons, evEs_len e2]; rfl
      | err c fs h2 => rw [e2] at q; cases q
      | stuck => rw [e2] at q; cases q
    | err c fs h1 => rw [e1] at q; cases q
    | stuck => rw [e1] at q; cases q
theorem RepBs.length : ∀ {ts : List T} {vs : List Vv}, RepBs G ρ Hf H ts vs → ts.length = vs.length
  | _, _, .nil => rfl
  | _, _, .cons _ r => by rw [List.length_cons, List.length_cons, RepBs.length r]
theorem go_EsL (S : Sto G Z ρ Hf hp H) (L : Slots G ρ Hf H lσ σ) {es : Es} {f : List T → Hl → R α} {R : List V → Hp → Prop} (h : Post G Z W σ RR ρ Hf H Q ((evEs P call es lσ hp).bind f))
    (k : ∀ a h' ρ' Hf' v H', Nxt none ρ Hf H ρ' Hf' H' → Sto G Z ρ' Hf' h' H' → Slots G ρ' Hf' H' lσ σ → RepBs G ρ' Hf' H' a v → v.length = Es.len es → Post G Z W σ RR ρ' Hf' H' Q (f a h') → R v H') : tEs P call G W es σ H R :=
  ⟨Z, ρ, Hf, lσ, hp, S, L, (Post.bind h (RepBs G)).imp fun v H' ⟨a, h', ρ', Hf', e, N, S', r, p⟩ => k a h' ρ' Hf' v H' N S' (L.nxt N) r (r.length.symm.trans (evEs_len e)) p⟩
theorem RepBs.append {us : List T} {ws : List Vv} (q : RepBs G ρ Hf H us ws) : ∀ {ts : List T} {vs : List Vv}, RepBs G ρ Hf H ts vs → RepBs G ρ Hf H (ts ++ us) (vs ++ ws)
  | _, _, .nil => q
  | _, _, .cons h r => .cons h (RepBs.append q r)
/-- what an __init__ is asked, behind its values -/
theorem new_core (C : KCx X P call G W CX D T0) {c f : Nat} {kc : Kb.Cls} (hk : P.cls[c]? = some kc) (hi : kc.init = some f) (ok : G.cok c) {h1 : Hl} {ρ1 : List Addr} {Hf1 H1 : Hp} {vs : List T} {us : List V} {σ : L2.St} {Q : VK} (S1 : Sto G Z ρ1 Hf1 h1 H1) (r1 : RepBs G ρ1 Hf1 H1 vs us)
    (h : Post G Z W σ (RepB G) ρ1 Hf1 H1 Q (newT P call c vs h1)) (a dx : Addr) (na : H1 a = none) (nd : H1 dx = none) (hne : dx ≠ a) :
    (if kc.mode = 0 then sp G call f else spI G call c f) (.ref a :: us) (upd (upd H1 dx (.own a)) a (.ins (G.ca c) dx [])) (fun v H2 => v = .non ∧ Q (.ref a) H2) (fun c d H => W c d σ H) := by
  unfold newT at h
  simp only [hk, hi] at h
  split at h
  · rename_i hp2
    have rs := r1.plain hp2
    -- the heap with the new instance
    have nD : Nxt none ρ1 Hf1 H1 ρ1 Hf1 (upd H1 dx (.own a)) := .newB nd
    have SD : Sto G Z ρ1 Hf1 h1 (upd H1 dx (.own a)) := S1.newB nd
    have na' : upd H1 dx (.own a) a = none := by rw [upd_ne hne.symm]; exact na
    have nA : Nxt none ρ1 Hf1 (upd H1 dx (.own a)) ρ1 Hf1 (upd (upd H1 dx (.own a)) a (.ins (G.ca c) dx [])) := .newB na'
    have SA : Sto G Z ρ1 Hf1 h1 (upd (upd H1 dx (.own a)) a (.ins (G.ca c) dx [])) := SD.newB na'
    have fa : Hf1 a = none := S1.ex.free0 na
    have aρ : a ∉ ρ1 := fun z => by
      obtain ⟨_, _, _, _, q, _⟩ := S1.mem z
      obtain ⟨o, ho⟩ := q.there
      rw [na] at ho; cases ho
    split at h
    · -- a cell
      rename_i hmode
      rw [if_pos hmode]
      have SN : Sto G Z (ρ1 ++ [a]) Hf1 (h1 ++ [.ins c []]) (upd (upd H1 dx (.own a)) a (.ins (G.ca c) dx [])) := by
        refine ⟨SA.ex, by rw [List.length_append, List.length_append, S1.len]; rfl, ?_, fun n b cc e1 e2 => ?_, SA.dom⟩
        · rw [List.nodup_append]
          exact ⟨S1.nd, by simp, fun b hb d hd => by simp at hd; subst hd; exact fun z => aρ (z ▸ hb)⟩
        · by_cases hn : n < ρ1.length
          · rw [List.getElem?_append_left hn] at e1
            rw [List.getElem?_append_left (by rw [← S1.len]; exact hn)] at e2
            obtain ⟨q1, q2⟩ := SA.cell n b cc e1 e2
            exact ⟨q1.mono ⟨[a], rfl⟩ (Ex.refl _) fun o z => z, q2⟩
          · have hl := (List.getElem?_eq_some_iff.mp e1).1
            rw [List.length_append, List.length_singleton] at hl
            have en : n = ρ1.length := by omega
            subst en
            rw [List.getElem?_append_right (Nat.le_refl _), Nat.sub_self] at e1
            rw [S1.len, List.getElem?_append_right (Nat.le_refl _), Nat.sub_self] at e2
            cases e1; cases e2
            exact ⟨⟨dx, [], upd_same, .nil, ok⟩, fa⟩
      have NN : Nxt none ρ1 Hf1 H1 (ρ1 ++ [a]) Hf1 (upd (upd H1 dx (.own a)) a (.ins (G.ca c) dx [])) := by
        refine ⟨⟨[a], rfl⟩, Ex.refl _, fun b o e nb hxx => ?_, fun b hb nb => ?_, fun b o e n => by rw [n] at e; cases e⟩
        · rw [upd_ne (ne_of_none e na), upd_ne (ne_of_none e nd)]; exact e
        · rcases List.mem_append.mp hb with hb | hb
          · exact (nb hb).elim
          · simp at hb; subst hb; exact na
      refine ⟨Z, ρ1 ++ [a], Hf1, h1 ++ [.ins c []], .rf h1.length :: vs, SN, .cons (.rf (by rw [← S1.len, List.getElem?_append_right (Nat.le_refl _), Nat.sub_self]; rfl)) (rs.mono ⟨[a], rfl⟩ (Ex.refl _)), ?_⟩
      generalize call f (.rf h1.length :: vs) (h1 ++ [.ins c []]) = r at h
      cases r with
      | ok t h2 =>
        simp only [R.bind_ok] at h
        cases t with
        | non =>
          intro ρ2 Hf2 H2 v N2 S2 r2
          cases (show Rep G ρ2 Hf2 .non v from r2)
          refine ⟨rfl, h ρ2 Hf2 H2 _ (NN.trans SN N2) S2 (Rep.rf ?_)⟩
          obtain ⟨l, rfl⟩ := N2.pre
          rw [List.append_assoc, ← S1.len, List.getElem?_append_right (Nat.le_refl _), Nat.sub_self]; rfl
        | _ => exact h.elim
      | err cc fs h2 => exact fun ρ2 Hf2 H2 d gs N2 S2 e1 e2 => h ρ2 Hf2 H2 d gs (NN.trans SN N2) S2 e1 e2
      | stuck => exact h
    · rename_i hmode
      rw [if_neg hmode]
      split at h
      · -- no cell
        refine ⟨Z, ρ1, Hf1, h1, vs, a, dx, us, rfl, SA, rs, upd_same, fa, aρ, ok, ?_⟩
        have dead : ∀ {b o}, H1 b = some o → b ∉ ρ1 → ∀ {ρ2 Hf2 H2}, Nxt (some a) ρ1 Hf1 (upd (upd H1 dx (.own a)) a (.ins (G.ca c) dx [])) ρ2 Hf2 H2 → H2 b = some o := fun {b o} e nb {ρ2 Hf2 H2} N2 =>
          N2.fr b o (by rw [upd_ne (ne_of_none e na), upd_ne (ne_of_none e nd)]; exact e) nb (fun z => (ne_of_none e na) (Option.some.inj z).symm)
        have old : ∀ {b}, upd (upd H1 dx (.own a)) a (.ins (G.ca c) dx []) b = none → H1 b = none := fun {b} e => by
          cases q : H1 b with
          | none => rfl
          | some o => rw [upd_ne (ne_of_none q na), upd_ne (ne_of_none q nd), q] at e; cases e
        generalize call f (.bI c [] :: vs) h1 = r at h
        cases r with
        | ok t h2 =>
          simp only [R.bind_ok] at h
          intro ρ2 Hf2 H2 c' fs et N2 S2 r2
          subst et
          simp only at h
          split at h
          · rename_i ec
            subst ec
            refine ⟨rfl, ?_⟩
            obtain ⟨a', dx', gs, ea, ha', rF, f2, m2, _⟩ := r2
            cases ea
            have S3 : Sto G Z ρ2 (upd Hf2 a (.ins (G.ca c') dx' gs)) h2 H2 := by
              refine ⟨fun b o e => ?_, S2.len, S2.nd, fun n b cc e1 e2 => ?_, S2.dom⟩
              · by_cases z : b = a
                · subst z; rw [upd_same] at e; cases e; exact ha'
                · rw [upd_ne z] at e; exact S2.ex b o e
              · obtain ⟨q1, q2⟩ := S2.cell n b cc e1 e2
                have nb : b ≠ a := fun z => m2 (z ▸ (List.mem_of_getElem? e1))
                exact ⟨q1.mono ⟨[], by simp⟩ (Ex.new f2) fun o z => z, by rw [upd_ne nb]; exact q2⟩
            have N3 : Nxt none ρ1 Hf1 H1 ρ2 (upd Hf2 a (.ins (G.ca c') dx' gs)) H2 := by
              refine ⟨N2.pre, N2.hf.trans (Ex.new f2), fun b o e nb _ => dead e nb N2, fun b hb nb => old (N2.nw b hb nb), fun b o e n => ?_⟩
              by_cases z : b = a
              · subst z; exact na
              · rw [upd_ne z] at e; exact old (N2.hn b o e n)
            exact h ρ2 _ H2 _ N3 S3 (Rep.ins ok upd_same (rF.mono ⟨[], by simp⟩ (Ex.new f2)))
          · exact h.elim
        | err cc fs h2 =>
          intro ρ2 Hf2 H2 d gs N2 S2 e1 e2
          refine h ρ2 Hf2 H2 d gs ⟨N2.pre, N2.hf, fun b o e nb _ => dead e nb N2, fun b hb nb => old (N2.nw b hb nb), fun b o e n => old (N2.hn b o e n)⟩ S2 e1 e2
        | stuck => exact h
      · exact h.elim
  · exact h.elim
theorem k_new1 (C : KCx X P call G W CX D T0) {c f : Nat} {kc : Kb.Cls} {x : Str} {e : Expr} {es : List Expr} {ies : Es} {p pos : Pos} (hk : P.cls[c]? = some kc) (hi : kc.init = some f) (hx : T0.cn[c]? = some (some x)) (hg : Gl X x) (ha : PA X (e :: es) (tEs P call G W ies))
    (hdb : (x == ("__debug__" : Str)) = false := by decide +kernel) (he : starEach (e :: es) X.env = (false, eval e X.env) :: starEach es X.env := by rfl) (hpl : (backTo pos (starEach es X.env)).any (·.1) = false := by rfl) (hkw : T0.kw.contains f = false := by rfl) : PE X (.Call (.Name x p) (e :: es) [] pos) (tE P call G W (.new c ies)) := by
  obtain ⟨F, M, hm, ok, hb, hT⟩ := C.ini c kc f x hk hi hx
  refine ⟨fun pins s σ H Q I h => sNew M F (C.room hT) hg hm (hb hkw) (C.pas σ) ha hdb he hpl I ?_⟩
  obtain ⟨Z, ρ, Hf, lσ, hp, S, L, h⟩ := h
  simp only [evE] at h
  refine go_Es S L h fun vs h1 ρ1 Hf1 us H1 N1 S1 L1 r1 h => ?_
  intro a dx na nd hne
  exact new_core C hk hi ok S1 r1 h a dx na nd hne
/-- a call of a built-in function -/
theorem k_bf {id : String} {b : BF} {x : Str} {e : Expr} {es : List Expr} {ies : Es} {p pos : Pos} (hc : CallR X (.builtin id) (rF G (bfT b))) (hg : Gl X x) (hm : X.mg x = none) (hv : bootBuiltins x = some (.builtin id)) (ha : PA X (e :: es) (tEs P call G W ies)) (hn : x ≠ "__name__" := by decide +kernel) (hdb : (x == ("__debug__" : Str)) = false := by decide +kernel)
    (he : starEach (e :: es) X.env = (false, eval e X.env) :: starEach es X.env := by rfl) (hpl : (backTo pos (starEach es X.env)).any (·.1) = false := by rfl) : PE X (.Call (.Name x p) (e :: es) [] pos) (tE P call G W (.bf b ies)) := by
  refine PEimp (pe_callB hc hg hm hv ha hn hdb he hpl) fun σ H Q h => ?_
  obtain ⟨Z, ρ, Hf, lσ, hp, S, L, h⟩ := h
  simp only [evE] at h
  refine go_Es S L h fun vs h1 ρ1 Hf1 us H1 N1 S1 L1 r1 h => ?_
  exact ⟨Z, W, σ, ρ1, Hf1, h1, vs, S1, r1, h⟩
theorem k_bty {id : String} {b : BF} {x : Str} {e : Expr} {es : List Expr} {ies : Es} {p pos : Pos} (hc : CallR X (.type id) (rF G (bfT b))) (hg : Gl X x) (hm : X.mg x = none) (hv : bootBuiltins x = some (.type id)) (ha : PA X (e :: es) (tEs P call G W ies)) (hn : x ≠ "__name__" := by decide +kernel) (hdb : (x == ("__debug__" : Str)) = false := by decide +kernel)
    (he : starEach (e :: es) X.env = (false, eval e X.env) :: starEach es X.env := by rfl) (hpl : (backTo pos (starEach es X.env)).any (·.1) = false := by rfl) : PE X (.Call (.Name x p) (e :: es) [] pos) (tE P call G W (.bf b ies)) := by
  refine PEimp (pe_callTy hc hg hm hv ha hn hdb he hpl) fun σ H Q h => ?_
  obtain ⟨Z, ρ, Hf, lσ, hp, S, L, h⟩ := h
  simp only [evE] at h
  refine go_Es S L h fun vs h1 ρ1 Hf1 us H1 N1 S1 L1 r1 h => ?_
  exact ⟨Z, W, σ, ρ1, Hf1, h1, vs, S1, r1, h⟩
theorem k_bfun {id : String} {b : BF} {x : Str} {e : Expr} {es : List Expr} {ies : Es} {p pos : Pos} (hc : CallR X (.builtin id) (rF G (bfT b))) (hg : Gl X x) (hm : X.mg x = some (.builtin id)) (ha : PA X (e :: es) (tEs P call G W ies)) (hdb : (x == ("__debug__" : Str)) = false := by decide +kernel)
    (he : starEach (e :: es) X.env = (false, eval e X.env) :: starEach es X.env := by rfl) (hpl : (backTo pos (starEach es X.env)).any (·.1) = false := by rfl) : PE X (.Call (.Name x p) (e :: es) [] pos) (tE P call G W (.bf b ies)) := by
  refine PEimp (pe_callBfun hc hg hm ha hdb he hpl) fun σ H Q h => ?_
  obtain ⟨Z, ρ, Hf, lσ, hp, S, L, h⟩ := h
  simp only [evE] at h
  refine go_Es S L h fun vs h1 ρ1 Hf1 us H1 N1 S1 L1 r1 h => ?_
  exact ⟨Z, W, σ, ρ1, Hf1, h1, vs, S1, r1, h⟩
end
end Kb
end
section
set_option Elab.async false
set_option linter.all false
set_option maxRecDepth 100000
set_option maxHeartbeats 4000000
set_option autoImplicit false
/-! Kb6: new lists, comprehensions, what is walked, isinstance, methods. -/
namespace Kb
open PySem PySem.Spec PyProof.Rows L2
section
variable {X : Cx} {P : Prog} {call : Nat → List T → Hl → R T} {G : Gm} {W : WX} {CX : CXT} {D : Dat} {T0 : Tab}
variable {Z : Hp} {ρ : List Addr} {Hf H : Hp} {lσ : Sl} {σ : L2.St} {hp : Hl} {α β : Type} {RR : List Addr → Hp → Hp → α → β → Prop} {Q : β → Hp → Prop}
/-! ### new things -/
theorem Sto.free (S : Sto G Z ρ Hf hp H) {a : Addr} (h : H a = none) : Hf a = none ∧ a ∉ ρ ∧ Z a = none := by
  refine ⟨S.ex.free0 h, fun z => ?_, ?_⟩
  · obtain ⟨_, _, _, _, q, _⟩ := S.mem z
    obtain ⟨o, ho⟩ := q.there
    rw [h] at ho; cases ho
  · cases q : Z a with
    | none => rfl
    | some o =>
      obtain ⟨o', h'⟩ := S.dom a o q
      rw [h] at h'; cases h'
theorem Sto.frz (S : Sto G Z ρ Hf hp H) {a : Addr} {o : HO} (h : H a = some o) (f : Hf a = none) (m : a ∉ ρ) : Sto G Z ρ (upd Hf a o) hp H := by
  refine ⟨fun b u e => ?_, S.len, S.nd, fun n b cc e1 e2 => ?_, S.dom⟩
  · by_cases z : b = a
    · subst z; rw [upd_same] at e; cases e; exact h
    · rw [upd_ne z] at e; exact S.ex b u e
  · obtain ⟨q1, q2⟩ := S.cell n b cc e1 e2
    have nb : b ≠ a := fun z => m (z ▸ (List.mem_of_getElem? e1))
    exact ⟨q1.mono ⟨[], by simp⟩ (Ex.new f) fun o z => z, by rw [upd_ne nb]; exact q2⟩
theorem Sto.cellN (S : Sto G Z ρ Hf hp H) {a : Addr} {c : C} (h : CellR G ρ Hf H a c) (f : Hf a = none) (m : a ∉ ρ) : Sto G Z (ρ ++ [a]) Hf (hp ++ [c]) H := by
  refine ⟨S.ex, by rw [List.length_append, List.length_append, S.len]; rfl, ?_, fun n b cc e1 e2 => ?_, S.dom⟩
  · rw [List.nodup_append]
    exact ⟨S.nd, by simp, fun b hb d hd => by simp at hd; subst hd; exact fun z => m (z ▸ hb)⟩
  · by_cases hn : n < ρ.length
    · rw [List.getElem?_append_left hn] at e1
      rw [List.getElem?_append_left (by rw [← S.len]; exact hn)] at e2
      obtain ⟨q1, q2⟩ := S.cell n b cc e1 e2
      exact ⟨q1.mono ⟨[a], rfl⟩ (Ex.refl _) fun o z => z, q2⟩
    · have hl := (List.getElem?_eq_some_iff.mp e1).1
      rw [List.length_append, List.length_singleton] at hl
      have en : n = ρ.length := by omega
      subst en
      rw [List.getElem?_append_right (Nat.le_refl _), Nat.sub_self] at e1
      rw [S.len, List.getElem?_append_right (Nat.le_refl _), Nat.sub_self] at e2
      cases e1; cases e2
      exact ⟨h.mono ⟨[a], rfl⟩ (Ex.refl _) fun o z => z, f⟩
theorem P_al (S : Sto G Z ρ Hf hp H) {Q : VK} {xs : List T} {vs : List Vv} (r : Reps G ρ Hf xs vs) (p : Post G Z W σ (AllocR G Z) ρ Hf H Q (.ok (.lst xs) hp)) : ∀ q, H q = none → Q (.ref q) (upd H q (.lst vs)) := fun q hq => by
  obtain ⟨f, m, z⟩ := S.free hq
  exact p ρ Hf _ (.ref q) (.newB hq) (S.newB hq) ⟨q, rfl, ⟨vs, upd_same, r⟩, f, m, z, fun _ _ e => nomatch e⟩
theorem Sto.setX (S : Sto G Z ρ Hf hp H) {d : Addr} {o : HO} (f : Hf d = none) (m : d ∉ ρ) : Sto G Z ρ Hf hp (upd H d o) := by
  refine ⟨S.ex.updR f, S.len, S.nd, fun n a c h1 h2 => ?_, fun a u e => ?_⟩
  · obtain ⟨q1, q2⟩ := S.cell n a c h1 h2
    have na : a ≠ d := fun z => m (z ▸ List.mem_of_getElem? h1)
    exact ⟨q1.mono ⟨[], by simp⟩ (Ex.refl _) fun o z => by rw [upd_ne na]; exact z, q2⟩
  · by_cases z : a = d
    · subst z; exact ⟨_, upd_same⟩
    · obtain ⟨u', h'⟩ := S.dom a u e
      exact ⟨u', by rw [upd_ne z]; exact h'⟩
/-- .. or it stands for ever from now on -/
def QL (Q : VK) : VK := fun v H => Q v H ∨ ∃ d u, H d = some u ∧ Mut (some u) ∧ ∀ od, Q v (upd H d (.frz od u))
theorem pe_lockD {e : Expr} {t : TE} (h : PE X e t) : PE X e (fun σ H Q => t σ H (QL Q)) := by
  refine ⟨fun pins s σ H Q I hw => ?_⟩
  refine thn (h.run pins s σ H _ I hw) fun v s1 ⟨x, H1, I1, r, q⟩ => ?_
  rcases q with q | ⟨d, u, e2, mu, q⟩
  · exact ⟨x, H1, I1, r, q⟩
  · obtain ⟨od, I2⟩ := I1.lock e2 mu
    exact ⟨x, _, I2, r, q od⟩
theorem ps_lockA {s : Stmt} {te : TE} {i : Nat} (h : PS X s (tAsg te (gName i))) : PS X s (tAsg (fun σ H Q => te σ H (QL Q)) (gName i)) := by
  refine ⟨fun pins s1 σ H D I hw => ?_⟩
  refine thn (h.run pins s1 σ H ⟨fun σ' H' => D.nx σ' H' ∨ ∃ d u, H' d = some u ∧ Mut (some u) ∧ ∀ od, D.nx σ' (upd H' d (.frz od u)), D.rt, D.bk, D.ct⟩ I hw) fun f s2 q => ?_
  cases f with
  | next =>
    obtain ⟨σ', H', I2, q⟩ := q
    rcases q with q | ⟨d, u, e2, mu, q⟩
    · exact ⟨σ', H', I2, q⟩
    · obtain ⟨od, I3⟩ := I2.lock e2 mu
      exact ⟨σ', _, I3, q od⟩
  | brk => exact q
  | cont => exact q
  | ret v => exact q
theorem pss_lock {b : List Stmt} {t : TS} (h : PSs X b t) : PSs X b (fun D σ H => t D σ H ∨ ∃ d u, H d = some u ∧ Mut (some u) ∧ ∀ od, t D σ (upd H d (.frz od u))) := by
  refine ⟨fun pins s σ H D I hw => ?_⟩
  rcases hw with hw | ⟨d, u, e, mu, hw⟩
  · exact h.run pins s σ H D I hw
  · obtain ⟨od, I2⟩ := I.lock e mu
    exact h.run pins s σ _ D I2 (hw od)
theorem al0_imp (a : A) (σ : L2.St) (H : Hp) (Q : VK) : tE P call G W (.al false a) σ H Q → tA P call G W a σ H (QL Q) := by
  refine fun ⟨Z, ρ, Hf, lσ, hp, S, L, h⟩ => ⟨H, ρ, Hf, lσ, hp, S.ofZ (fun a o e => ⟨o, e⟩), L, ?_⟩
  simp only [evE] at h
  generalize evA P call a lσ hp = r at h
  cases r with
  | ok c h' =>
    intro ρ' Hf' H' v N S' ⟨b, ev, hc, f1, m1, z1, _⟩
    subst ev
    have back : ∀ {o}, H' b = some o → Sto G Z ρ' (upd Hf' b o) h' H' := fun {o} e => (S'.frz e f1 m1).ofZ fun d o e => let ⟨o1, h1⟩ := S.dom d o e; S'.dom d o1 h1
    have NN : ∀ {o}, H' b = some o → Nxt none ρ Hf H ρ' (upd Hf' b o) H' := fun {o} e => ⟨N.pre, N.hf.trans (Ex.new f1), N.fr, N.nw, fun d u e n => by
      by_cases z : d = b
      · subst z; exact z1
      · rw [upd_ne z] at e; exact N.hn d u e n⟩
    simp only [R.bind_ok, Bool.false_eq_true, if_false] at h
    cases c with
    | lst xs =>
      obtain ⟨vs, h1, h2⟩ := hc
      exact .inl <| h ρ' _ H' _ (NN h1) (back h1) (Rep.lst upd_same (h2.mono ⟨[], by simp⟩ (Ex.new f1)))
    | dct kvs =>
      obtain ⟨gs, h1, h2⟩ := hc
      refine .inr ⟨b, _, h1, trivial, fun od => ?_⟩
      have back2 : Sto G Z ρ' (upd Hf' b (.frz od (.dK gs))) h' (upd H' b (.frz od (.dK gs))) := ((S'.setX f1 m1).frz upd_same f1 m1).ofZ fun d o e => by
        obtain ⟨o1, e1⟩ := S.dom d o e
        exact (S'.setX f1 m1).dom d o1 e1
      have NN2 : Nxt none ρ Hf H ρ' (upd Hf' b (.frz od (.dK gs))) (upd H' b (.frz od (.dK gs))) := ⟨N.pre, N.hf.trans (Ex.new f1), fun d u e n x => by
        rw [upd_ne (ne_of_none e z1)]; exact N.fr d u e n x, N.nw, fun d u e n => by
        by_cases z : d = b
        · subst z; exact z1
        · rw [upd_ne z] at e; exact N.hn d u e n⟩
      exact h ρ' _ _ _ NN2 back2 (Rep.dct upd_same (h2.mono ⟨[], by simp⟩ (Ex.new f1)))
    | ins c fs => exact h.elim
  | err c fs h' =>
    exact fun ρ' Hf' H' d gs N S' e1 e2 => h ρ' Hf' H' d gs N (S'.ofZ fun d o e => let ⟨o1, h1⟩ := S.dom d o e; S'.dom d o1 h1) e1 e2
  | stuck => exact h
theorem al1_imp (a : A) (σ : L2.St) (H : Hp) (Q : VK) : tE P call G W (.al true a) σ H Q → tA P call G W a σ H Q := by
  refine fun ⟨Z, ρ, Hf, lσ, hp, S, L, h⟩ => ⟨H, ρ, Hf, lσ, hp, S.ofZ (fun a o e => ⟨o, e⟩), L, ?_⟩
  simp only [evE] at h
  generalize evA P call a lσ hp = r at h
  cases r with
  | ok c h' =>
    intro ρ' Hf' H' v N S' ⟨b, ev, hc, f1, m1, z1, _⟩
    subst ev
    simp only [R.bind_ok, if_true] at h
    have S2 : Sto G Z (ρ' ++ [b]) Hf' (h' ++ [c]) H' := (S'.cellN hc f1 m1).ofZ fun d o e => let ⟨o1, h1⟩ := S.dom d o e; S'.dom d o1 h1
    refine h (ρ' ++ [b]) Hf' H' _ ⟨?_, N.hf, fun a o e n x => N.fr a o e n x, fun d hd n => ?_, N.hn⟩ S2 (Rep.rf (by rw [← S'.len, List.getElem?_append_right (Nat.le_refl _), Nat.sub_self]; rfl))
    · obtain ⟨l, rfl⟩ := N.pre
      exact ⟨l ++ [b], by rw [List.append_assoc]⟩
    · rcases List.mem_append.mp hd with hd | hd
      · exact N.nw d hd n
      · simp at hd; subst hd; exact z1
  | err c fs h' =>
    exact fun ρ' Hf' H' d gs N S' e1 e2 => h ρ' Hf' H' d gs N (S'.ofZ fun d o e => let ⟨o1, h1⟩ := S.dom d o e; S'.dom d o1 h1) e1 e2
  | stuck => exact h
theorem k_al0 {e : Expr} {a : A} (ha : PE X e (tA P call G W a)) : PE X e (tE P call G W (.al false a)) := PEimp (pe_lockD ha) (al0_imp a)
theorem k_al1 {e : Expr} {a : A} (ha : PE X e (tA P call G W a)) : PE X e (tE P call G W (.al true a)) := PEimp ha (al1_imp a)
theorem ka_lst {es : List Expr} {ies : Es} {pos : Pos} (ha : PA X es (tEs P call G W ies)) : PE X (.List es pos) (tA P call G W (.lst ies)) := by
  refine PEimp (pe_lst ha) fun σ H Q h => ?_
  obtain ⟨Z, ρ, Hf, lσ, hp, S, L, h⟩ := h
  simp only [evA] at h
  refine go_Es S L h fun xs h1 ρ1 Hf1 vs H1 N1 S1 L1 r1 h => ?_
  split at h
  · rename_i hp2
    simp only [Bool.and_eq_true, decide_eq_true_eq] at hp2
    have r := r1.plain hp2.1
    exact ⟨by rw [← r.length, ← maxLen_eq]; exact hp2.2, P_al S1 r h⟩
  · exact h.elim
theorem ka_lof (C : KCx X P call G W CX D T0) {a : Expr} {ea : E} {p pos : Pos} (hg : Gl X "list") (hm : X.mg "list" = none) (hv : bootBuiltins "list" = some (.type "list")) (ha : PE X a (tE P call G W ea))
    (he : starEach [a] X.env = (false, eval a X.env) :: starEach [] X.env := by rfl) : PE X (.Call (.Name "list" p) [a] [] pos) (tA P call G W (.lof ea)) := by
  refine PEimp (pe_callTy (T := "list") call_list_of hg hm hv (pa_cons ha pa_nil he) (by decide +kernel) (by decide +kernel) he rfl) fun σ H Q h => ?_
  obtain ⟨Z, ρ, Hf, lσ, hp, S, L, h⟩ := h
  simp only [evA] at h
  refine go_E S L h fun x h1 ρ1 Hf1 v H1 N1 S1 L1 r1 h => ?_
  split at h
  · rename_i xs e
    obtain ⟨b, vs, rfl, h2, h3⟩ := seq_at S1 e r1
    exact ⟨b, vs, rfl, by rw [C.hK]; exact h2, P_al S1 h3 h⟩
  · exact h.elim
theorem ka_sl (C : KCx X P call G W CX D T0) {a : Expr} {lo hi : Option Expr} {ea : E} {el eh : Eo} {pos p2 : Pos} (ha : PE X a (tE P call G W ea)) (hl : PO X lo (tO P call G W el)) (hh : PO X hi (tO P call G W eh)) : PE X (.Subscript a (.Slice lo hi none p2) pos) (tA P call G W (.sl ea el eh)) := by
  refine PEimp (pe_slice sl_list ha hl hh) fun σ H Q h => ?_
  obtain ⟨Z, ρ, Hf, lσ, hp, S, L, h⟩ := h
  simp only [evA] at h
  refine go_E S L h fun x h1 ρ1 Hf1 v H1 N1 S1 L1 r1 h => ?_
  refine go_O S1 L1 h fun l h2 ρ2 Hf2 H2 N2 S2 L2 h => ?_
  refine go_O S2 L2 h fun u h3 ρ3 Hf3 H3 N3 S3 L3 h => ?_
  split at h
  · rename_i xs e
    obtain ⟨b, vs, e1, h4, h5⟩ := lst_at S3 e ((r1.nx N2).nx N3)
    exact ⟨b, vs, e1, by rw [C.hK]; exact h4, P_al S3 (cut_at h5 l u) h⟩
  · exact h.elim
/-! ### isinstance -/
inductive KdX (X : Cx) (G : Gm) : List Expr → List Kd → Prop
  | nil : KdX X G [] []
  | ty {x : Str} {p : Pos} {k : Kd} {es : List Expr} {ks : List Kd} {n : String} (hk : kdV G k = .type n) (hg : Gl X x) (hm : X.mg x = none) (hv : bootBuiltins x = some (.type n)) (r : KdX X G es ks) (hn : x ≠ "__name__" := by decide +kernel) (hd : (x == ("__debug__" : Str)) = false := by decide +kernel) : KdX X G (.Name x p :: es) (k :: ks)
  | cls {x : Str} {p : Pos} {c : Nat} {es : List Expr} {ks : List Kd} (hg : Gl X x) (hm : X.mg x = some (.ref (G.ca c))) (hc : G.cok c) (r : KdX X G es ks) (hd : (x == ("__debug__" : Str)) = false := by decide +kernel) : KdX X G (.Name x p :: es) (.cls c :: ks)
/-- the classes as values -/
def kdVv (G : Gm) : Kd → Vv
  | .int => .ty "int" | .bool => .ty "bool" | .str => .ty "str" | .tuple => .ty "tuple" | .list => .ty "list" | .cls c => .ref (G.ca c)
theorem kd_cls (k : Kd) : ClsV (kdVv G k) (kdV G k) := by cases k <;> first | exact .ty _ | exact .own _
def tKs (G : Gm) (ks : List Kd) : TA := fun _ H Q => Q (ks.map (kdVv G)) H
theorem kdx_pa : ∀ {es : List Expr} {ks : List Kd}, KdX X G es ks → PA X es (tKs G ks)
  | _, _, .nil => pa_nil
  | _, _, .ty (k := k) (n := n) hk hg hm hv r hn hd => by
    have e : kdVv G k = .ty n := by cases k <;> first | (cases hk; rfl) | cases hk
    refine PAimp (pa_cons (pe_bltn (v := .ty n) hg hm hv rfl hn hd) (kdx_pa r) rfl) fun σ H Q h => ?_
    show Q (.ty n :: _) H
    rw [← e]; exact h
  | _, _, .cls (c := c) hg hm hc r hd => PAimp (pa_cons (pe_glob (v := .ref (G.ca c)) hg hm rfl hd) (kdx_pa r) rfl) fun σ H Q h => h
theorem kdx_cok : ∀ {es : List Expr} {ks : List Kd}, KdX X G es ks → ∀ k ∈ ks, ∀ d, k = .cls d → G.cok d
  | _, _, .nil, k, h, _, _ => nomatch h
  | _, _, .ty (k := k0) hk _ _ _ r _ _, k, h, d, e => by
    rcases List.mem_cons.mp h with rfl | h
    · subst e; cases hk
    · exact kdx_cok r k h d e
  | _, _, .cls _ _ hc r _, k, h, d, e => by
    rcases List.mem_cons.mp h with rfl | h
    · cases e; exact hc
    · exact kdx_cok r k h d e
theorem boot_isi : bootBuiltins ("isinstance" : Str) = some (.builtin "isinstance") := by first | rfl | decide +kernel
theorem k_isi1 (C : KCx X P call G W CX D T0) {a : Expr} {ea : E} {c : Expr} {k : Kd} {p pos : Pos} (hg : Gl X "isinstance") (hm : X.mg "isinstance" = none) (ha : PE X a (tE P call G W ea)) (hk : KdX X G [c] [k])
    (he : starEach [a, c] X.env = (false, eval a X.env) :: starEach [c] X.env := by rfl) (hpl : (backTo pos (starEach [c] X.env)).any (·.1) = false := by rfl) : PE X (.Call (.Name "isinstance" p) [a, c] [] pos) (tE P call G W (.isi ea [k])) := by
  refine PEimp (pe_callB (id := "isinstance") call_isi hg hm boot_isi (pa_cons ha (kdx_pa hk) he) (by decide +kernel) (by decide +kernel) he hpl) fun σ H Q h => ?_
  obtain ⟨Z, ρ, Hf, lσ, hp, S, L, h⟩ := h
  simp only [evE] at h
  refine go_E S L h fun x h1 ρ1 Hf1 v H1 N1 S1 L1 r1 h => ?_
  split at h
  · rename_i b e
    obtain ⟨t, h2, _, h3⟩ := kd_at C.kd S1 r1 e (kdx_cok hk) rfl
    exact ⟨v, kdVv G k, t, kdV G k, b, rfl, kd_cls k, by rw [C.hK]; exact h2, by rw [C.hK]; exact h3 k rfl, P_bl S1 h⟩
  · exact h.elim
theorem k_isiT (C : KCx X P call G W CX D T0) {a : Expr} {ea : E} {cs : List Expr} {ks : List Kd} {x1} {p pos pos2 : Pos} (hg : Gl X "isinstance") (hm : X.mg "isinstance" = none) (ha : PE X a (tE P call G W ea)) (hk : KdX X G cs ks) (hl : ks.length ≤ 1000)
    (he : starEach [a, .Tuple cs x1 pos2] X.env = (false, eval a X.env) :: starEach [.Tuple cs x1 pos2] X.env := by rfl) (he2 : starEach [.Tuple cs x1 pos2] X.env = (false, eval (.Tuple cs x1 pos2) X.env) :: starEach [] X.env := by rfl) (hpl : (backTo pos (starEach [.Tuple cs x1 pos2] X.env)).any (·.1) = false := by rfl)
    (hne : ks.isEmpty = false := by rfl) : PE X (.Call (.Name "isinstance" p) [a, .Tuple cs x1 pos2] [] pos) (tE P call G W (.isi ea ks)) := by
  refine PEimp (pe_callB (id := "isinstance") call_isiT hg hm boot_isi (pa_cons ha (pa_cons (pe_tup (kdx_pa hk)) pa_nil he2) he) (by decide +kernel) (by decide +kernel) he hpl) fun σ H Q h => ?_
  obtain ⟨Z, ρ, Hf, lσ, hp, S, L, h⟩ := h
  simp only [evE] at h
  refine go_E S L h fun x h1 ρ1 Hf1 v H1 N1 S1 L1 r1 h => ?_
  split at h
  · rename_i b e
    refine ⟨by rw [List.length_map, sizeLine_eq]; omega, fun q hq => ?_⟩
    have N2 : Nxt none ρ1 Hf1 H1 ρ1 Hf1 (upd H1 q (.tup (ks.map (kdVv G)))) := .newB hq
    have S2 := S1.newB (o := .tup (ks.map (kdVv G))) hq
    obtain ⟨t, h2, h3, _⟩ := kd_at C.kd S2 (r1.nx N2) e (kdx_cok hk) hne
    have pr : ∀ l : List Kd, Paired ClsV (l.map (kdVv G)) (l.map (kdV G)) := fun l => by
      induction l with
      | nil => exact .nil
      | cons k l ih => exact .cons (kd_cls k) ih
    exact ⟨v, q, ks.map (kdVv G), t, ks.map (kdV G), b, rfl, upd_same, pr ks, by rw [C.hK]; exact h2, by rw [C.hK]; exact h3, P_bl S2 (Post.from S2 N2 h)⟩
  · exact h.elim
/-! ### methods -/
theorem k_meth (C : KCx X P call G W CX D T0) {pl : Sem Bool} {o e : Expr} {es : List Expr} {io : E} {ies : Es} {m : Nat} {x : Str} {apos pos : Pos} (hx : G.nm[m]? = some x) (ho : PE X o (tE P call G W io)) (ha : PA X (e :: es) (tEs P call G W ies))
    (hst : starEach (e :: es) X.env = (false, eval e X.env) :: starEach es X.env := by rfl) (hpl : (backTo pos (starEach es X.env)).any (·.1) = false := by rfl)
    (ht : eval (.Call (.Attribute o x apos) (e :: es) [] pos) X.env = (do
      let ov ← eval o X.env
      standAt apos.atName
      let (f, first) ← holding [ov] (getMethod ov x pl)
      callWith pos f first (backTo pos (starEach (e :: es) X.env)) (backToKw pos (keywordEach [] X.env))) := by rfl) (hT : T0.fn.isEmpty = false := by first | assumption | rfl) :
    PE X (.Call (.Attribute o x apos) (e :: es) [] pos) (tE P call G W (.meth io m ies)) := by
  refine ⟨fun pins s σ H Q I h => ?_⟩
  obtain ⟨Z, ρ, Hf, lσ, hp, S, L, h⟩ := h
  simp only [evE] at h
  refine PySem.W.methodCall_KW (pl := pl) (thn (ho.run pins s σ H (fun v H1 => ∃ (c f : Nat) (kc : Kb.Cls) (a dx : Addr) (gs : List (Str × V)), v = .ref a ∧ H1 a = some (.ins (G.ca c) dx gs) ∧ gs.lookup x = none ∧ G.cok c ∧ P.cls[c]? = some kc ∧ lkN m kc.meths = some f ∧
    tEs P call G W ies σ H1 fun vs H2 => sp G call f (v :: vs) H2 Q (fun c d H => W c d σ H)) I ?_) fun u s1 ⟨v, H1, I1, rx, c, f, kc, a, dx, gs, ex, ea, l, hc, ek, ef, q⟩ => ?_) ht
  · refine go_E S L h fun t h1 ρ1 Hf1 v H1 N1 S1 L1 r1 h => ?_
    split at h
    · rename_i c fs e1
      split at h
      · rename_i kc ek
        split at h
        · rename_i f ef
          obtain ⟨a, dx, gs, rfl, h2, h3, h4⟩ := ins_at S1 e1 r1
          have en : lkF m fs = none ∧ lkN m kc.meths = some f := by
            cases q : lkF m fs with
            | none => rw [q] at ef; simp only [Option.isNone_none, if_true] at ef; exact ⟨rfl, ef⟩
            | some _ => rw [q] at ef; cases ef
          refine ⟨c, f, kc, a, dx, gs, rfl, h2, (h3.look C.nm hx).2 en.1, h4, ek, en.2, ?_⟩
          refine go_Es S1 L1 h fun vs h2 ρ2 Hf2 us H2 N2 S2 L2 r2 h => ?_
          split at h
          · rename_i hp2
            simp only [Bool.and_eq_true] at hp2
            exact ⟨Z, ρ2, Hf2, h2, t :: vs, S2, .cons ((r1.nx N2).plain hp2.1) (r2.plain hp2.2), h⟩
          · exact h.elim
        · exact h.elim
      · exact h.elim
    · exact h.elim
  · subst ex
    obtain rfl : u = Value.ref a := rx
    obtain ⟨F, M, B⟩ := C.mt hT c kc m f x ek ef hx hc
    refine getmeth_ok I1 ea (C.cl c hc) M l ?_
    refine PySem.W.callWith_K (first := [.ref a]) (h₀ := X.base) I.ok.mod.kin M.kp (thn (ha.run pos pins s1 σ H1 _ I1 q) fun us s2 ⟨vs, H2, I2, r, q2⟩ => ⟨I2.kIn, ?_⟩) hst hpl
    exact run_fnS (E := fun σ c d H => W c d σ H) (us := .ref a :: us) (vs := .ref a :: vs) F ((C.room hT).mono (Nat.le_succ _)) B (C.pas σ) I2 (.cons rfl r) q2
/-- f(e, .., k = v, ..) -/
theorem k_callK (C : KCx X P call G W CX D T0) {f : Nat} {x : Str} {e : Expr} {es : List Expr} {kws : List Keyword} {ks : List Str} {ies iks : Es} {arr : List (Nat ⊕ T)} {g : List Value → List Value → List Value} {p pos : Pos} (hx : T0.fn[f]? = some (some x)) (hg : Gl X x) (ha : PA X (e :: es) (tEs P call G W ies)) (hkw : PK X kws (tEs P call G W iks))
    (hb : KBn X.K (D.fd f) (D.ps f) (Es.len ies) ks g (fun vs zs => arrV (vs ++ zs) arr)) (hl : ks.length = Es.len iks := by rfl) (hf : ∀ t, Sum.inr t ∈ arr → isNon t = true := by intro t h; simp at h <;> (rw [h]; rfl))
    (hall : (backToKw pos (keywordEach kws X.env)).all (·.1.isSome) = true := by rfl) (hks : (backToKw pos (keywordEach kws X.env)).filterMap (·.1) = ks := by rfl)
    (hdb : (x == ("__debug__" : Str)) = false := by decide +kernel) (he : starEach (e :: es) X.env = (false, eval e X.env) :: starEach es X.env := by rfl)
    (hpl : ((backTo pos (starEach (e :: es) X.env)).any (·.1) || (backToKw pos (keywordEach kws X.env)).any (·.1.isNone)) = false := by rfl) : PE X (.Call (.Name x p) (e :: es) kws pos) (tE P call G W (.callK f ies iks arr)) := by
  obtain ⟨F, hm, hk, _⟩ := C.fn f x hx
  refine ⟨fun pins s σ H Q I h => sCallN F ((C.room (fn_ne hx)).mono (Nat.le_succ _)) hg hm hk hb (C.pas σ) ha hkw hall hks hdb he hpl I ?_⟩
  obtain ⟨Z, ρ, Hf, lσ, hp, S, L, h⟩ := h
  simp only [evE] at h
  refine go_EsL S L h fun vs h1 ρ1 Hf1 us H1 N1 S1 L1 r1 l1 h => ?_
  refine go_EsL S1 L1 h fun ws h2 ρ2 Hf2 zs H2 N2 S2 L2 r2 l2 h => ?_
  split at h
  · rename_i hp2
    split at h
    · rename_i us' e1
      exact ⟨l1, l2.trans hl.symm, Z, ρ2, Hf2, h2, us', S2, arr_at ((RepBs.append r2 (r1.nx N2)).plain hp2) hf e1, h⟩
    · exact h.elim
  · exact h.elim
/-- f(k = v, ..) -/
theorem k_callK0 (C : KCx X P call G W CX D T0) {f : Nat} {x : Str} {kws : List Keyword} {ks : List Str} {iks : Es} {arr : List (Nat ⊕ T)} {g : List Value → List Value → List Value} {p pos : Pos} (hx : T0.fn[f]? = some (some x)) (hg : Gl X x) (hkw : PK X kws (tEs P call G W iks))
    (hb : KBn X.K (D.fd f) (D.ps f) 0 ks g (fun vs zs => arrV (vs ++ zs) arr)) (hl : ks.length = Es.len iks := by rfl) (hf : ∀ t, Sum.inr t ∈ arr → isNon t = true := by intro t h; simp at h <;> (rw [h]; rfl))
    (hall : (backToKw pos (keywordEach kws X.env)).all (·.1.isSome) = true := by rfl) (hks : (backToKw pos (keywordEach kws X.env)).filterMap (·.1) = ks := by rfl)
    (hdb : (x == ("__debug__" : Str)) = false := by decide +kernel)
    (hpl : ((backTo pos (starEach [] X.env)).any (·.1) || (backToKw pos (keywordEach kws X.env)).any (·.1.isNone)) = false := by rfl) : PE X (.Call (.Name x p) [] kws pos) (tE P call G W (.callK f .nil iks arr)) := by
  obtain ⟨F, hm, hk, _⟩ := C.fn f x hx
  refine ⟨fun pins s σ H Q I h => ?_⟩
  refine wpAny_Call_Name_kw (ld_glob I hg hm ?_ hdb)
  refine PySem.W.callWith_KW0 (h₀ := X.base) I.ok.mod.kin hk hall ?_ hpl
  refine thn (hkw.run pos pins s σ H (fun zs H2 => zs.length = ks.length ∧ sp G call f (arrV zs arr) H2 Q (fun c d H => W c d σ H)) I ?_) fun ws s2 ⟨zs, H2, I2, rz, l2, q2⟩ => ⟨I2.kIn, ?_⟩
  · obtain ⟨Z, ρ, Hf, lσ, hp, S, L, h⟩ := h
    simp only [evE, evEs, R.bind_ok] at h
    refine go_EsL S L h fun ws h2 ρ2 Hf2 zs H2 N2 S2 L2 r2 l2 h => ?_
    split at h
    · rename_i hp2
      split at h
      · rename_i us' e1
        exact ⟨l2.trans hl.symm, Z, ρ2, Hf2, h2, us', S2, arr_at (r2.plain hp2) hf e1, h⟩
      · exact h.elim
    · exact h.elim
  · rw [hks]
    exact sRun (us := []) F ((C.room (fn_ne hx)).mono (Nat.le_succ _)) (C.pas σ) I2 (hb.to s2 [] ws I2.kIn rfl (rz.length.symm.trans l2)) (hb.rel .nil rz) q2
theorem kk_nil : PK X [] (tEs P call G W .nil) := ⟨fun pos pins s σ H Q I ⟨Z, ρ, Hf, lσ, hp, S, L, h⟩ => pk_nil.run pos pins s σ H Q I (h.ret S .nil)⟩
theorem kk_cons {e : Expr} {kws : List Keyword} {nm : Option Str} {kpos : Pos} {ie : E} {ies : Es} (ha : PE X e (tE P call G W ie)) (hr : PK X kws (tEs P call G W ies)) : PK X (⟨nm, e, kpos⟩ :: kws) (tEs P call G W (.cons ie ies)) := by
  refine ⟨fun pos pins s σ H Q I h => (pk_cons ha hr).run pos pins s σ H Q I ?_⟩
  obtain ⟨Z, ρ, Hf, lσ, hp, S, L, h⟩ := h
  simp only [evEs] at h
  refine go_E S L h fun x h1 ρ1 Hf1 v H1 N1 S1 L1 r1 h => ?_
  refine go_Es S1 L1 h fun xs h2 ρ2 Hf2 vs H2 N2 S2 L2 r2 h => ?_
  exact h.ret S2 (.cons (r1.nx N2) r2)
end
end Kb
end
section
set_option Elab.async false
set_option linter.all false
set_option maxRecDepth 100000
set_option maxHeartbeats 4000000
set_option autoImplicit false
/-! Kb7: what is walked, targets, list comprehensions. -/
namespace Kb
open PySem PySem.Spec PyProof.Rows L2
theorem PIimp {X : Cx} {tg e : Expr} {t t' : TI} (h : PI X tg e t) (f : ∀ σ H Q, t' σ H Q → t σ H Q) : PI X tg e t' := ⟨fun pins s σ H Q I q => h.run pins s σ H Q I (f σ H Q q)⟩
/-- an item that a walk gives: it stands, or it is a new pair -/
def ItemR (G : Gm) (ρ : List Addr) (Hf : Hp) (t : T) (x : Vv) (H H' : Hp) : Prop :=
  (H' = H ∧ Rep G ρ Hf t x) ∨ ∃ a b v w q, t = .tup [a, b] ∧ x = .ref q ∧ H q = none ∧ H' = upd H q (.tup [v, w]) ∧ Rep G ρ Hf a v ∧ Rep G ρ Hf b w
def WalksR (G : Gm) (ρ : List Addr) (Hf H : Hp) (xs : List T) (J : L2.It) : Prop :=
  ∃ Gd Y, L2.Walk J xs.length Gd Y ∧ (∀ H', Ex Hf H' → Gd H') ∧ ∀ i H' x H'', Ex Hf H' → Y i H' x H'' → ∃ t, xs[i]? = some t ∧ ItemR G ρ Hf t x H' H''
section
variable {X : Cx} {P : Prog} {call : Nat → List T → Hl → R T} {G : Gm} {W : WX} {CX : CXT} {D : Dat} {T0 : Tab}
variable {Z : Hp} {ρ : List Addr} {Hf H : Hp} {lσ : Sl} {σ : L2.St} {hp : Hl} {α β : Type} {RR : List Addr → Hp → Hp → α → β → Prop} {Q : β → Hp → Prop}
theorem ItemR.go {ρ' : List Addr} {Hf' H' : Hp} {t : T} {x : Vv} (h : ItemR G ρ Hf t x H H') (S : Sto G Z ρ' Hf' hp H) (pr : ∃ l, ρ' = ρ ++ l) (ex : Ex Hf Hf') :
    ∃ Hf'', Nxt none ρ' Hf' H ρ' Hf'' H' ∧ Sto G Z ρ' Hf'' hp H' ∧ Rep G ρ' Hf'' t x := by
  rcases h with ⟨rfl, r⟩ | ⟨a, b, v, w, q, rfl, rfl, hq, rfl, ra, rb⟩
  · exact ⟨Hf', .refl, S, r.mono pr ex⟩
  · refine ⟨upd Hf' q (.tup [v, w]), .new S.ex hq, S.new hq, ?_⟩
    have e2 := ex.trans (Ex.new (o := .tup [v, w]) (S.ex.free0 hq))
    exact .tup (.inl (.inl upd_same)) (.cons (ra.mono pr e2) (.cons (rb.mono pr e2) .nil))
/-- .. while the cells gs stand -/
def WalksC (G : Gm) (gs : List (Nat × List T)) (ρ : List Addr) (Hf H : Hp) (xs : List T) (J : L2.It) : Prop :=
  ∃ Gd Y, L2.Walk J xs.length Gd Y ∧ (∀ Z ρ' Hf' hp' H', (∃ l, ρ' = ρ ++ l) → Ex Hf Hf' → Sto G Z ρ' Hf' hp' H' → chk gs hp' → Gd H') ∧
    ∀ i Z ρ' Hf' hp' H' x H'', (∃ l, ρ' = ρ ++ l) → Ex Hf Hf' → Sto G Z ρ' Hf' hp' H' → chk gs hp' → Y i H' x H'' → ∃ t, xs[i]? = some t ∧ ItemR G ρ' Hf' t x H' H''
theorem ItemR.mono {ρ' : List Addr} {Hf' H' : Hp} {t : T} {x : Vv} (h : ItemR G ρ Hf t x H H') (pr : ∃ l, ρ' = ρ ++ l) (ex : Ex Hf Hf') : ItemR G ρ' Hf' t x H H' := by
  rcases h with ⟨e, r⟩ | ⟨a, b, v, w, q, e1, e2, hq, e3, ra, rb⟩
  · exact .inl ⟨e, r.mono pr ex⟩
  · exact .inr ⟨a, b, v, w, q, e1, e2, hq, e3, ra.mono pr ex, rb.mono pr ex⟩
theorem wc_of {gs : List (Nat × List T)} {xs : List T} {J : L2.It} (h : WalksR G ρ Hf H xs J) : WalksC G gs ρ Hf H xs J := by
  obtain ⟨Gd, Y, w, gd, yy⟩ := h
  refine ⟨Gd, Y, w, fun Z ρ' Hf' hp' H' pr ex S _ => gd H' fun a o e => S.ex a o (ex a o e), fun i Z ρ' Hf' hp' H' x H'' pr ex S _ hy => ?_⟩
  obtain ⟨t, e, r⟩ := yy i H' x H'' (fun a o e => S.ex a o (ex a o e)) hy
  exact ⟨t, e, r.mono pr ex⟩
def tI (P : Prog) (call : Nat → List T → Hl → R T) (G : Gm) (W : WX) (it : It) : TI := fun σ H R => ∃ Z ρ Hf lσ hp, Sto G Z ρ Hf hp H ∧ Slots G ρ Hf H lσ σ ∧ Post G Z W σ (WalksC G (gdI it lσ hp)) ρ Hf H R (evI P call it lσ hp)
theorem pre_get {l1 l2 : List Addr} {n : Nat} {a : Addr} (pr : ∃ l, l2 = l1 ++ l) (h : l1[n]? = some a) : l2[n]? = some a := by
  obtain ⟨l, rfl⟩ := pr
  rw [List.getElem?_append_left (List.getElem?_eq_some_iff.mp h).1]; exact h
theorem wc_cell {n : Nat} {a : Addr} {xs : List T} (ha : ρ[n]? = some a) : WalksC G [(n, xs)] ρ Hf H xs (Itl G.K a) := by
  have at_ : ∀ {Z ρ' Hf' hp' H'}, (∃ l, ρ' = ρ ++ l) → Sto G Z ρ' Hf' hp' H' → chk [(n, xs)] hp' → ∃ vs, H' a = some (.lst vs) ∧ Reps G ρ' Hf' xs vs := fun {Z ρ' Hf' hp' H'} pr S c => (S.cell n a _ (pre_get pr ha) (c (n, xs) List.mem_cons_self)).1
  refine ⟨fun H' => ∃ ws, H' a = some (.lst ws) ∧ ws.length = xs.length, fun i H' x H'' => H'' = H' ∧ ∃ ws, H' a = some (.lst ws) ∧ ws[i]? = some x, ⟨?_, ?_, ?_⟩, fun Z ρ' Hf' hp' H' pr _ S c => ?_, fun i Z ρ' Hf' hp' H' x H'' pr _ S c hy => ?_⟩
  · rintro i H' hi ⟨ws, e, l⟩
    have hi2 : i < ws.length := by omega
    exact ⟨ws, ws[i], .inl (.inl e), List.getElem?_eq_getElem hi2⟩
  · rintro H' ⟨ws, e, l⟩
    exact ⟨ws, .inl (.inl e), by omega⟩
  · rintro i H' x H'' hi ⟨ws, e, l⟩ ⟨e2, q⟩
    exact ⟨e2, ws, e, q ws (.inl (.inl e))⟩
  · obtain ⟨vs, e, r⟩ := at_ pr S c
    exact ⟨vs, e, r.length.symm⟩
  · obtain ⟨rfl, ws, e, q⟩ := hy
    obtain ⟨vs, e2, r⟩ := at_ pr S c
    rw [e2] at e
    cases e
    obtain ⟨t, h1, h2⟩ := r.get' q
    exact ⟨t, h1, .inl ⟨rfl, h2⟩⟩
theorem wr_list {a : Addr} {xs : List T} {vs : List Vv} (h : SqL G.K Hf a vs) (r : Reps G ρ Hf xs vs) : WalksR G ρ Hf H xs (Itl G.K a) := by
  refine ⟨_, _, by rw [r.length]; exact walk_list, fun H' e => e.sq h, fun i H' x H'' _ hy => ?_⟩
  obtain ⟨rfl, e⟩ := hy
  obtain ⟨t, h1, h2⟩ := r.get' e
  exact ⟨t, h1, .inl ⟨rfl, h2⟩⟩
theorem wr_tup {a : Addr} {xs : List T} {vs : List Vv} (h : SqT G.K Hf a vs) (r : Reps G ρ Hf xs vs) : WalksR G ρ Hf H xs (Itt G.K a) := by
  refine ⟨_, _, by rw [r.length]; exact walk_tup, fun H' e => e.st h, fun i H' x H'' _ hy => ?_⟩
  obtain ⟨rfl, e⟩ := hy
  obtain ⟨t, h1, h2⟩ := r.get' e
  exact ⟨t, h1, .inl ⟨rfl, h2⟩⟩
theorem wr_str (s : List Nat) : WalksR G ρ Hf H (s.map fun c => T.str [c]) (Its (strV s)) := by
  have e1 : (s.map fun c => T.str [c]).length = (strV s).cps.size := by rw [List.length_map]; simp [strV]
  refine ⟨_, _, by rw [e1]; exact walk_str, fun H' e => trivial, fun i H' x H'' _ hy => ?_⟩
  obtain ⟨rfl, c, e, rfl⟩ := hy
  refine ⟨.str [c], ?_, .inl ⟨rfl, Rep.str [c]⟩⟩
  rw [List.getElem?_map]
  have : s[i]? = some c := by simpa [strV] using e
  rw [this]; rfl
theorem lwalk_at {x : T} {xs : List T} {v : Vv} (e : lwalkOf x = some xs) (r : RepB G ρ Hf H x v) : ∃ a vs, v = .ref a ∧ SqL G.K Hf a vs ∧ Reps G ρ Hf xs vs := by
  cases x <;> simp only [lwalkOf] at e <;> cases e
  · obtain ⟨a, vs, rfl, h1, h2⟩ := B_lst r
    exact ⟨a, vs, rfl, .inl (.inl h1), h2⟩
  · rename_i ns
    obtain ⟨a, rfl, h1⟩ := B_kl r
    exact ⟨a, _, rfl, h1, reps_ints ns⟩
theorem RepK.lenE : ∀ {kvs : List (T × T)} {gs : List (L2.Key × Vv)}, RepK G ρ Hf kvs gs → kvs.length = gs.length
  | _, _, .nil => rfl
  | _, _, .consI _ r => by rw [List.length_cons, List.length_cons, RepK.lenE r]
  | _, _, .consS _ r => by rw [List.length_cons, List.length_cons, RepK.lenE r]
theorem RepK.key : ∀ {kvs : List (T × T)} {gs : List (L2.Key × Vv)}, RepK G ρ Hf kvs gs → ∀ {i : Nat} {k : L2.Key} {v : Vv}, gs[i]? = some (k, v) → ∃ t, (kvs.map (·.1))[i]? = some t ∧ Rep G ρ Hf t (kV k)
  | _, _, .nil, i, k, v, e => by simp at e
  | _, _, .consI (i := j) h r, 0, k, v, e => by simp at e; obtain ⟨rfl, rfl⟩ := e; exact ⟨_, rfl, .int j⟩
  | _, _, .consS (s := j) h r, 0, k, v, e => by simp at e; obtain ⟨rfl, rfl⟩ := e; exact ⟨_, rfl, .str j⟩
  | _, _, .consI h r, i + 1, k, v, e => RepK.key r (by simpa using e)
  | _, _, .consS h r, i + 1, k, v, e => RepK.key r (by simpa using e)
theorem wr_dct {a : Addr} {o : PySem.Obj} {kvs : List (T × T)} {gs : List (L2.Key × Vv)} (h : Hf a = some (.frz o (.dK gs))) (r : RepK G ρ Hf kvs gs) : WalksR G ρ Hf H (kvs.map (·.1)) (Itk a o gs) := by
  refine ⟨_, _, by rw [List.length_map, RepK.lenE r]; exact walk_keys, fun H' e => e _ _ h, fun i H' x H'' _ hy => ?_⟩
  obtain ⟨rfl, k, v, e, rfl⟩ := hy
  obtain ⟨t, h1, h2⟩ := RepK.key r e
  exact ⟨t, h1, .inl ⟨rfl, h2⟩⟩
theorem ki_e (C : KCx X P call G W CX D T0) {tg e : Expr} {ie : E} (he : PE X e (tE P call G W ie)) : PI X tg e (tI P call G W (.e ie)) := by
  refine ⟨fun pins s σ H R1 I ⟨Z, ρ, Hf, lσ, hp, S, L, h⟩ => ?_⟩
  simp only [evI] at h
  cases hr : evE P call ie lσ hp with
  | ok x h' =>
    rw [hr] at h
    simp only [R.bind_ok] at h
    have viaL : ∀ xs, lwalkOf x = some xs → Post G Z W σ (WalksC G (gdI (.e ie) lσ hp)) ρ Hf H R1 (.ok xs h') → wpAny (model X.prog X.w) X.A (eval e X.env) (fun v s1 => wpAny (model X.prog X.w) X.A (pyIter v) (PIE X pins σ tg R1) X.xe s1) X.xe s := fun xs e1 h =>
      (pi_list he).run pins s σ H R1 I ⟨Z, ρ, Hf, lσ, hp, S, L, by
        rw [hr]
        intro ρ' Hf' H' v N S' r
        obtain ⟨a, vs, rfl, h1, h2⟩ := lwalk_at e1 r
        refine ⟨a, rfl, ⟨vs, by rw [C.hK]; exact S'.ex.sq h1⟩, ?_⟩
        rw [C.hK]
        exact h ρ' Hf' H' _ N S' (wc_of (wr_list h1 h2))⟩
    cases x with
    | lst xs => exact viaL xs rfl h
    | kl ns => exact viaL _ rfl h
    | tup xs =>
      exact (pi_tup he).run pins s σ H R1 I ⟨Z, ρ, Hf, lσ, hp, S, L, by
        rw [hr]
        intro ρ' Hf' H' v N S' r
        obtain ⟨a, vs, rfl, h1, h2⟩ := B_tup r
        refine ⟨a, rfl, ⟨vs, by rw [C.hK]; exact S'.ex.st h1⟩, ?_⟩
        rw [C.hK]
        exact h ρ' Hf' H' _ N S' (wc_of (wr_tup h1 h2))⟩
    | str z =>
      exact (pi_str he).run pins s σ H R1 I ⟨Z, ρ, Hf, lσ, hp, S, L, by
        rw [hr]
        intro ρ' Hf' H' v N S' r
        obtain rfl := B_str r
        by_cases q : z.length ≤ maxLen
        · have e : wk (isVarE' ie) (.str z) h' = some (z.map fun c => T.str [c]) := by unfold wk; simp only [walkOf, if_pos q]
          rw [e] at h
          exact ⟨_, rfl, h ρ' Hf' H' _ N S' (wc_of (wr_str z))⟩
        · exfalso
          have e : wk (isVarE' ie) (.str z) h' = none := by
            unfold wk
            simp only [walkOf, if_neg q, cellL]
            split <;> rfl
          rw [e] at h
          revert h
          cases isFV ie <;> exact fun h => False.elim h⟩
    | dct kvs =>
      exact (pi_keys he).run pins s σ H R1 I ⟨Z, ρ, Hf, lσ, hp, S, L, by
        rw [hr]
        intro ρ' Hf' H' v N S' r
        have e : wk (isVarE' ie) (.dct kvs) h' = none := by
          unfold wk cellL
          simp only [walkOf]
          cases isVarE' ie <;> rfl
        rw [e] at h
        cases (show Rep G ρ' Hf' (.dct kvs) v from r) with
        | dct h1 h2 => exact ⟨_, _, rfl, .inl ⟨_, S'.ex _ _ h1, h ρ' Hf' H' _ N S' (wc_of (wr_dct h1 h2))⟩⟩⟩
    | rf n =>
      by_cases qF : isFV ie = true
      · obtain ⟨i, f, rfl⟩ : ∃ i f, ie = .fld (.var i) f := by
          unfold isFV at qF
          split at qF
          · exact ⟨_, _, rfl⟩
          · cases qF
        have ⟨y, e0, ef, eh⟩ : ∃ y, lσ[i]? = some (some y) ∧ fldT y f hp = .ok (.rf n) hp ∧ h' = hp := by
          simp only [evE] at hr
          cases hv : lσ[i]? with
          | none => rw [hv] at hr; cases hr
          | some o =>
            cases o with
            | none => rw [hv] at hr; cases hr
            | some y =>
              rw [hv] at hr
              simp only [R.bind_ok] at hr
              have e2 : h' = hp := by
                unfold fldT at hr
                split at hr
                · cases hr
                · split at hr
                  · split at hr
                    · cases hr; rfl
                    · cases hr
                  · cases hr
              subst e2
              exact ⟨y, rfl, hr, rfl⟩
        subst eh
        have e : wk (isVarE' (.fld (.var i) f)) (.rf n) h' = none := by unfold wk; simp only [walkOf]; rfl
        rw [e, if_pos qF] at h
        cases ec : h'[n]? with
        | none =>
          have e2 : cellL (.rf n) h' = none := by unfold cellL; simp only [ec]
          rw [e2] at h; exact False.elim h
        | some c =>
          cases c with
          | lst xs =>
            have e2 : cellL (.rf n) h' = some xs := by unfold cellL; simp only [ec]
            rw [e2] at h
            have eg : gdI (.e (.fld (.var i) f)) lσ h' = [(n, xs)] := by
              show gdF (.fld (.var i) f) lσ h' = _
              unfold gdF
              simp only [e0, ef]
              unfold gdT
              simp only [walkOf, ec]
            rw [eg] at h
            exact (pi_list he).run pins s σ H R1 I ⟨Z, ρ, Hf, lσ, h', S, L, by
              rw [hr]
              intro ρ' Hf' H' v N S' r
              obtain ⟨a, rfl, ha⟩ := B_rf r
              obtain ⟨⟨vs, h1, h2⟩, _⟩ := S'.cell n a _ ha ec
              refine ⟨a, rfl, ⟨vs, .inl (.inl h1)⟩, ?_⟩
              rw [C.hK]
              exact h ρ' Hf' H' _ N S' (wc_cell ha)⟩
          | ins c fs =>
            have e2 : cellL (.rf n) h' = none := by unfold cellL; simp only [ec]
            rw [e2] at h; exact False.elim h
          | dct kvs =>
            have e2 : cellL (.rf n) h' = none := by unfold cellL; simp only [ec]
            rw [e2] at h; exact False.elim h
      rw [if_neg qF] at h
      cases ie with
      | var i =>
        have e0 : lσ[i]? = some (some (.rf n)) ∧ h' = hp := by
          simp only [evE] at hr
          split at hr
          · rename_i t e; cases hr; exact ⟨e, rfl⟩
          · cases hr
        obtain ⟨e0, rfl⟩ := e0
        cases ec : h'[n]? with
        | none =>
          have e : wk (isVarE' (.var i)) (.rf n) h' = none := by unfold wk cellL; simp only [walkOf, ec]; rfl
          rw [e] at h; exact False.elim h
        | some c =>
          cases c with
          | lst xs =>
            have e : wk (isVarE' (.var i)) (.rf n) h' = some xs := by unfold wk cellL; simp only [walkOf, ec]; rfl
            rw [e] at h
            have eg : gdI (.e (.var i)) lσ h' = [(n, xs)] := by
              show (match lσ[i]? with
                | some (some x) => gdT x h'
                | _ => []) = _
              rw [e0]
              unfold gdT
              simp only [walkOf, ec]
            rw [eg] at h
            exact (pi_list he).run pins s σ H R1 I ⟨Z, ρ, Hf, lσ, h', S, L, by
              rw [hr]
              intro ρ' Hf' H' v N S' r
              obtain ⟨a, rfl, ha⟩ := B_rf r
              obtain ⟨⟨vs, h1, h2⟩, _⟩ := S'.cell n a _ ha ec
              refine ⟨a, rfl, ⟨vs, .inl (.inl h1)⟩, ?_⟩
              rw [C.hK]
              exact h ρ' Hf' H' _ N S' (wc_cell ha)⟩
          | ins c fs =>
            have e : wk (isVarE' (.var i)) (.rf n) h' = none := by unfold wk cellL; simp only [walkOf, ec]; rfl
            rw [e] at h; exact False.elim h
          | dct kvs =>
            have e : wk (isVarE' (.var i)) (.rf n) h' = none := by unfold wk cellL; simp only [walkOf, ec]; rfl
            rw [e] at h; exact False.elim h
      | _ => exact False.elim h
    | _ =>
      exfalso
      revert h
      unfold wk cellL
      simp only [walkOf]
      cases isVarE' ie <;> cases isFV ie <;> exact fun h => False.elim h
  | err c fs h' =>
    rw [hr] at h
    exact (pi_list he).run pins s σ H R1 I ⟨Z, ρ, Hf, lσ, hp, S, L, by rw [hr]; exact h⟩
  | stuck => rw [hr] at h; exact h.elim
theorem rng_len (lo hi : Int) : (rngT lo hi).length = (hi - lo).toNat := by simp [rngT]
theorem wr_rng (lo hi : Int) : WalksR G ρ Hf H (rngT lo hi) (Itr lo (hi - lo).toNat) := by
  refine ⟨fun _ => True, fun i H x H' => H' = H ∧ x = .int (lo + (i : Int)) ∧ i < (hi - lo).toNat, ?_, fun H' e => trivial, fun i H' x H'' _ hy => ?_⟩
  · rw [rng_len]
    exact walk_range.mono (fun _ _ => trivial) fun i H x H' hi _ hy => ⟨hy.1, hy.2, hi⟩
  obtain ⟨rfl, rfl, hi⟩ := hy
  refine ⟨.int (lo + (i : Int)), ?_, .inl ⟨rfl, .int _⟩⟩
  unfold rngT
  rw [List.getElem?_map, List.getElem?_range hi]; rfl
theorem ki_rng1 {tg a : Expr} {ea : E} {p pos : Pos} (hg : Gl X "range") (hm : X.mg "range" = none) (ha : PE X a (tE P call G W ea)) (hs : starEach [a] X.env = [(false, eval a X.env)] := by rfl) : PI X tg (.Call (.Name "range" p) [a] [] pos) (tI P call G W (.rng1 ea)) := by
  refine PIimp (pi_range1 hg hm (pa_cons ha pa_nil hs) hs) fun σ H R h => ?_
  obtain ⟨Z, ρ, Hf, lσ, hp, S, L, h⟩ := h
  simp only [evI] at h
  refine go_E S L h fun x h1 ρ1 Hf1 v H1 N1 S1 L1 r1 h => ?_
  cases x with
  | int n =>
    obtain rfl := B_int r1
    simp only at h
    split at h
    · rename_i ok
      simp only [rngOk, Bool.and_eq_true, decide_eq_true_eq] at ok
      refine ⟨n, rfl, by omega, by omega, ?_⟩
      have e := h.ret S1 (wc_of (wr_rng 0 n))
      rw [Int.sub_zero] at e
      exact e
    · exact h.elim
  | _ => exact h.elim
theorem ki_rng2 {tg a b : Expr} {ea eb : E} {p pos : Pos} (hg : Gl X "range") (hm : X.mg "range" = none) (ha : PE X a (tE P call G W ea)) (hb : PE X b (tE P call G W eb)) (hs : starEach [a, b] X.env = [(false, eval a X.env), (false, eval b X.env)] := by rfl) (hs2 : starEach [b] X.env = [(false, eval b X.env)] := by rfl) :
    PI X tg (.Call (.Name "range" p) [a, b] [] pos) (tI P call G W (.rng2 ea eb)) := by
  refine PIimp (pi_range2 hg hm (pa_cons ha (pa_cons hb pa_nil hs2) (by rw [hs, hs2])) hs hs2) fun σ H R h => ?_
  obtain ⟨Z, ρ, Hf, lσ, hp, S, L, h⟩ := h
  simp only [evI] at h
  refine go_E S L h fun x h1 ρ1 Hf1 v H1 N1 S1 L1 r1 h => ?_
  refine go_E S1 L1 h fun y h2 ρ2 Hf2 u H2 N2 S2 L2 r2 h => ?_
  cases x with
  | int m =>
    cases y with
    | int n =>
      obtain rfl := B_int r1
      obtain rfl := B_int r2
      simp only at h
      split at h
      · rename_i ok
        simp only [rngOk, Bool.and_eq_true, decide_eq_true_eq] at ok
        exact ⟨m, n, rfl, ⟨by omega, by omega, by omega, by omega⟩, h.ret S2 (wc_of (wr_rng m n))⟩
      · exact h.elim
    | _ => exact h.elim
  | _ => exact h.elim
theorem numT_get : ∀ (n : Nat) (xs : List T) (i : Nat), (numT n xs)[i]? = xs[i]?.map fun x => T.tup [.int ((n + i : Nat) : Int), x]
  | n, [], i => by simp [numT]
  | n, x :: r, 0 => by simp [numT]
  | n, x :: r, i + 1 => by
    simp only [numT, List.getElem?_cons_succ]
    rw [numT_get (n + 1) r i, show n + 1 + i = n + (i + 1) by omega]
theorem numT_len (n : Nat) (xs : List T) : (numT n xs).length = xs.length := by
  induction xs generalizing n with
  | nil => rfl
  | cons x r ih => simp only [numT, List.length_cons, ih]
/-! ### targets -/
def gS : List Nat → TGs
  | [] => gNil
  | i :: is => gCons (gName i) (gS is)
def tG (K : PySem.W.Frag) : List Nat → TG
  | [i] => gName i
  | is => fun v σ H Q => gTup K is.length (gS is) v σ H Q ∨ gUnl K is.length (gS is) v σ H Q
theorem PGimp {X : Cx} {e : Expr} {t t' : TG} (h : PG X e t) (f : ∀ v σ H Q, t' v σ H Q → t v σ H Q) : PG X e t' := ⟨fun pins s σ H v u Q I r q => h.run pins s σ H v u Q I r (f v σ H Q q)⟩
theorem Rep.nbor {t : T} {v : Vv} (r : Rep G ρ Hf t v) : isBor t = false := by cases r <;> rfl
theorem Slots.put (L : Slots G ρ Hf H lσ σ) {i : Nat} {t : T} {v : Vv} (r : Rep G ρ Hf t v) : Slots G ρ Hf H (lσ.set i (some t)) (σ.set i (some v)) := by
  refine ⟨by rw [List.length_set, List.length_set]; exact L.len, fun j u e => ?_, fun j k t1 u1 a hjk e1 e2 b1 b2 s1 s2 => ?_⟩
  · by_cases q : i = j
    · subst q
      have hl : i < lσ.length := by
        have := (List.getElem?_eq_some_iff.mp e).1
        rwa [List.length_set] at this
      rw [List.getElem?_set_self hl] at e
      cases e
      exact ⟨v, List.getElem?_set_self (Nat.lt_of_lt_of_le hl L.len), r.toB⟩
    · rw [List.getElem?_set_ne q] at e
      obtain ⟨w, h1, h2⟩ := L.slot j u e
      exact ⟨w, by rw [List.getElem?_set_ne q]; exact h1, h2⟩
  · have off : ∀ {j : Nat} {u : T}, (lσ.set i (some t))[j]? = some (some u) → isBor u = true → i ≠ j := fun {j u} e b q => by
      subst q
      have hl : i < lσ.length := by
        have := (List.getElem?_eq_some_iff.mp e).1
        rwa [List.length_set] at this
      rw [List.getElem?_set_self hl] at e
      cases e
      rw [r.nbor] at b; cases b
    have n1 := off e1 b1
    have n2 := off e2 b2
    rw [List.getElem?_set_ne n1] at e1 s1
    rw [List.getElem?_set_ne n2] at e2 s2
    exact L.sep j k t1 u1 a hjk e1 e2 b1 b2 s1 s2
theorem Slots.weak {lσ' : Sl} {σ' : L2.St} (L : Slots G ρ Hf H lσ σ) (hl : lσ'.length ≤ σ'.length) (w : ∀ (i : Nat) t, lσ'[i]? = some (some t) → lσ[i]? = some (some t) ∧ σ'[i]? = σ[i]?) : Slots G ρ Hf H lσ' σ' := by
  refine ⟨hl, fun i t e => ?_, fun j k t1 u1 a hjk e1 e2 b1 b2 s1 s2 => ?_⟩
  · obtain ⟨h1, h2⟩ := w i t e
    obtain ⟨v, h3, h4⟩ := L.slot i t h1
    exact ⟨v, h2.trans h3, h4⟩
  · obtain ⟨h1, h2⟩ := w j t1 e1
    obtain ⟨h3, h4⟩ := w k u1 e2
    exact L.sep j k t1 u1 a hjk h1 h3 b1 b2 (h2.symm.trans s1) (h4.symm.trans s2)
theorem wipeT_len (lσ : Sl) : ∀ vs : List Nat, (wipeT lσ vs).length = lσ.length
  | [] => rfl
  | v :: vs => by show ((wipeT lσ vs).set v none).length = _; rw [List.length_set, wipeT_len lσ vs]
theorem Slots.wipe (L : Slots G ρ Hf H lσ σ) (vs : List Nat) : Slots G ρ Hf H (wipeT lσ vs) (L2.wipe σ vs) := by
  refine L.weak (by rw [wipeT_len, wipe_length]; exact L.len) fun i t e => ?_
  have key : ∀ vs : List Nat, (wipeT lσ vs)[i]? = some (some t) → lσ[i]? = some (some t) ∧ i ∉ vs := fun vs => by
    induction vs with
    | nil => exact fun e => ⟨e, by simp⟩
    | cons v vs ih =>
      intro e
      have e : ((wipeT lσ vs).set v none)[i]? = some (some t) := e
      by_cases q : v = i
      · subst q
        by_cases hl : v < (wipeT lσ vs).length
        · rw [List.getElem?_set_self hl] at e; cases e
        · rw [List.getElem?_eq_none (by rw [List.length_set]; omega)] at e; cases e
      · rw [List.getElem?_set_ne q] at e
        obtain ⟨h1, h2⟩ := ih e
        exact ⟨h1, fun z => by
          rcases List.mem_cons.mp z with z | z
          · exact q z.symm
          · exact h2 z⟩
  obtain ⟨h1, h2⟩ := key vs e
  exact ⟨h1, wipe_out h2⟩
theorem wipe_set {i : Nat} {x : Option V} : ∀ {vs : List Nat} {σ : L2.St}, i ∈ vs → L2.wipe (σ.set i x) vs = L2.wipe σ vs
  | v :: vs, σ, h => by
    show (L2.wipe (σ.set i x) vs).set v none = (L2.wipe σ vs).set v none
    by_cases q : i ∈ vs
    · rw [wipe_set q]
    · rcases List.mem_cons.mp h with e | h
      · subst e
        have comm : ∀ vs : List Nat, i ∉ vs → L2.wipe (σ.set i x) vs = (L2.wipe σ vs).set i x := fun vs => by
          induction vs with
          | nil => exact fun _ => rfl
          | cons w ws ih =>
            intro hw
            simp only [List.mem_cons, not_or] at hw
            show (L2.wipe (σ.set i x) ws).set w none = ((L2.wipe σ ws).set w none).set i x
            rw [ih hw.2, List.set_comm _ _ hw.1]
        rw [comm vs q, List.set_set]
      · exact (q h).elim
def setMany (is : List Nat) (t : T) (lσ : Sl) : Option Sl := match t with
  | .tup xs => if xs.length = is.length then some ((is.zip xs).foldl (fun s p => s.set p.1 (some p.2)) lσ) else none
  | .lst xs => if xs.length = is.length then some ((is.zip xs).foldl (fun s p => s.set p.1 (some p.2)) lσ) else none
  | _ => none
/-- where a target leads -/
theorem gS_go (R : L2.St → Hp → Prop) : ∀ {is : List Nat} {ts : List T} {vs : List Vv} {lσ : Sl} {σ : L2.St}, Slots G ρ Hf H lσ σ → Reps G ρ Hf ts vs → ts.length = is.length →
    (∀ σ', Slots G ρ Hf H ((is.zip ts).foldl (fun s p => s.set p.1 (some p.2)) lσ) σ' → (∀ ws : List Nat, (∀ i ∈ is, i ∈ ws) → L2.wipe σ' ws = L2.wipe σ ws) → (∀ j, j ∉ is → σ'[j]? = σ[j]?) → σ'.length = σ.length → R σ' H) → gS is vs σ H R
  | [], [], _, lσ, σ, L, .nil, _, k => ⟨rfl, k σ L (fun _ _ => rfl) (fun _ _ => rfl) rfl⟩
  | i :: is, t :: ts, _, lσ, σ, L, .cons (v := v) (vs := vs) h r, hl, k => by
    refine ⟨v, vs, rfl, ?_⟩
    refine gS_go R (L.put (i := i) h) r (by simpa using hl) fun σ' L' w o le => k σ' L' (fun ws hw => ?_) (fun j hj => ?_) (by rw [le, List.length_set])
    · rw [w ws fun j hj => hw j (List.mem_cons_of_mem _ hj), wipe_set (hw i List.mem_cons_self)]
    · simp only [List.mem_cons, not_or] at hj
      rw [o j hj.2, List.getElem?_set_ne (fun z => hj.1 z.symm)]
theorem tG_go {K : PySem.W.Frag} (hK : K = G.K) (S : Sto G Z ρ Hf hp H) (L : Slots G ρ Hf H lσ σ) {tg : List Nat} {t : T} {v : Vv} {lσ' : Sl} (e : setT tg t lσ = some lσ') (r : Rep G ρ Hf t v) {R : L2.St → Hp → Prop}
    (k : ∀ σ', Slots G ρ Hf H lσ' σ' → (∀ ws : List Nat, (∀ i ∈ tg, i ∈ ws) → L2.wipe σ' ws = L2.wipe σ ws) → (∀ j, j ∉ tg → σ'[j]? = σ[j]?) → σ'.length = σ.length → R σ' H) : tG K tg v σ H R := by
  have many : ∀ is : List Nat, setMany is t lσ = some lσ' → (∀ σ', Slots G ρ Hf H lσ' σ' → (∀ ws : List Nat, (∀ i ∈ is, i ∈ ws) → L2.wipe σ' ws = L2.wipe σ ws) → (∀ j, j ∉ is → σ'[j]? = σ[j]?) → σ'.length = σ.length → R σ' H) → gTup K is.length (gS is) v σ H R ∨ gUnl K is.length (gS is) v σ H R := fun is e k => by
    cases t with
    | tup xs =>
      simp only [setMany] at e
      split at e
      · rename_i hl
        cases e
        obtain ⟨a, vs, rfl, h1, h2⟩ := B_tup (r.toB (H := H))
        exact .inl ⟨a, vs, rfl, by rw [hK]; exact S.ex.st h1, by rw [← h2.length]; exact hl, gS_go R L h2 hl k⟩
      · cases e
    | lst xs =>
      simp only [setMany] at e
      split at e
      · rename_i hl
        cases e
        obtain ⟨a, vs, rfl, h1, h2⟩ := B_lst (r.toB (H := H))
        exact .inr ⟨a, vs, rfl, SqL.of (S.ex _ _ h1), by rw [← h2.length]; exact hl, gS_go R L h2 hl k⟩
      · cases e
    | _ => cases e
  match tg, e, k with
  | [i], e, k =>
    simp only [setT] at e
    cases e
    exact k _ (L.put r) (fun ws hw => wipe_set (hw i List.mem_cons_self)) (fun j hj => List.getElem?_set_ne (fun z => hj (by simp [z]))) List.length_set
  | [], e, k => exact many [] e k
  | i :: j :: is, e, k => exact many (i :: j :: is) e k
theorem kg_name (hN : X.N.Nodup) {i : Nat} {x : Str} {pos : Pos} (hi : X.N[i]? = some x) (hx : X.env.scope.names.lookup x = some .local := by rfl) : PG X (.Name x pos) (tG G.K [i]) := pg_name hN hi (.inl hx) (.inr hx)
/-- in a block (its own name may be a cell) -/
theorem kg_nameC (hN : X.N.Nodup) {i : Nat} {x : Str} {pos : Pos} (hi : X.N[i]? = some x) (hx : Loc X.env.scope x) (hf : X.fn x = true ∨ X.env.scope.names.lookup x = some .local) : PG X (.Name x pos) (tG G.K [i]) := pg_name hN hi hx hf
theorem kgs_nil : PGs X [] (gS []) := pgs_nil
theorem kgs_cons {e : Expr} {es : List Expr} {i : Nat} {is : List Nat} (h : PG X e (tG G.K [i])) (r : PGs X es (gS is)) (hs : (assignEach (e :: es) X.env).map (·.2) = assign e X.env :: (assignEach es X.env).map (·.2) := by rfl) : PGs X (e :: es) (gS (i :: is)) := pgs_cons h r hs
theorem kg_tup (hK : X.K = G.K) (hc : X.calm = true) {es : List Expr} {k : Nat} {pos : Pos} {i j : Nat} {is : List Nat} (h : PGs X es (gS (i :: j :: is))) (hn : (assignEach es X.env).length = (i :: j :: is).length := by rfl) (hst : (assignEach es X.env).findIdx? (·.1) = none := by rfl) : PG X (.Tuple es k pos) (tG G.K (i :: j :: is)) := by
  rw [← hK]
  have a : PG X (.Tuple es k pos) (gTup X.K (i :: j :: is).length (gS (i :: j :: is))) := pg_tup hc h hn hst
  have b : PG X (.Tuple es k pos) (gUnl X.K (i :: j :: is).length (gS (i :: j :: is))) := pg_unl hc h hn hst
  exact ⟨fun pins s σ H v u Q I r q => q.elim (a.run pins s σ H v u Q I r) (b.run pins s σ H v u Q I r)⟩
/-! ### list comprehensions -/
/-- no exception -/
def WF : WX := fun _ _ _ _ => False
def tCd (P : Prog) (call : Nat → List T → Hl → R T) (G : Gm) (W : WX) (c : Eo) : TT := fun σ H Q => ∃ Z ρ Hf lσ hp, Sto G Z ρ Hf hp H ∧ Slots G ρ Hf H lσ σ ∧ Post G Z W σ (fun _ _ _ (a b : Bool) => a = b) ρ Hf H Q (evC P call c lσ hp)
theorem kc_none : PTs X [] (tCd P call G W .none) := ⟨fun pins s σ H Q I ⟨Z, ρ, Hf, lσ, hp, S, L, h⟩ => pts_nil.run pins s σ H Q I (h.ret S rfl)⟩
theorem kc_some {c : Expr} {ec : E} (h : PT X c (tTe P call G W ec)) : PTs X [c] (tCd P call G W (.some ec)) := ⟨fun pins s σ H Q I q => (pts_one h).run pins s σ H Q I q⟩
theorem Nxt.ofNew {d : Addr} {o : HO} {ρ' : List Addr} {Hf' H' : Hp} (hd : H d = none) (N : Nxt (some d) ρ Hf (upd H d o) ρ' Hf' H') : Nxt none ρ Hf H ρ' Hf' H' := by
  have old : ∀ {b}, upd H d o b = none → H b = none := fun {b} e => by
    cases q : H b with
    | none => rfl
    | some u => rw [upd_ne (ne_of_none q hd), q] at e; cases e
  exact ⟨N.pre, N.hf, fun a u e n _ => N.fr a u (by rw [upd_ne (ne_of_none e hd)]; exact e) n (fun z => (ne_of_none e hd) (Option.some.inj z).symm), fun a h n => old (N.nw a h n), fun a u e n => old (N.hn a u e n)⟩
theorem Nxt.setX {d : Addr} {o : HO} {ρ' : List Addr} {Hf' H' : Hp} (N : Nxt (some d) ρ Hf H ρ' Hf' H') : Nxt (some d) ρ Hf H ρ' Hf' (upd H' d o) :=
  ⟨N.pre, N.hf, fun a u e n x => by rw [upd_ne (fun z => x (by rw [z]))]; exact N.fr a u e n x, N.nw, N.hn⟩
theorem KCx.blk (C : KCx X P call G W CX D T0) (hT : T0.fn.isEmpty = false) (s : Shared) (H : Hp) (scope : Scope) (env : Env) (fp : List Addr) : KCx (X.blk s H scope env fp) P call G WF CX D T0 where
  hK := C.hK
  calm := C.calm
  room := C.room
  rmH := C.rmH
  hot := fun z => by rw [hT] at z; cases z
  hfn := C.hfn
  nm := C.nm
  kd := C.kd
  pas := fun σ pins H s e s' I h => C.nil _ _ _ _ _ h
  nil := C.nil
  nN := C.nN
  own := PassesOwn.never
  fn := C.fn
  mt := C.mt
  ini := C.ini
  cl := C.cl
  na := C.na
  sf := C.sf
  nq := C.nq
  tk := fun _ _ x => by
    obtain ⟨_, _, _, _, _, _, _, _, _, _, _, _, _, _, _, _, z⟩ := x
    exact z.elim
theorem lc_imp {own : List (Str × Nat)} {it : It} {tg : List Nat} {c : Eo} {ie : E} (hsub : tg.all (fun i => (own.map (·.2)).contains i) = true) (σ : L2.St) (H : Hp) (Q : VK) :
    tA P call G W (.lc it tg (own.map (·.2)) c ie) σ H Q → tLc (tI P call G W it) (tG G.K tg) (tCd P call G WF c) (tE P call G WF ie) (own.map (·.2)) σ H Q := by
  intro h
  obtain ⟨Z, ρ, Hf, lσ, hp, S, L, h⟩ := h
  simp only [evA] at h
  refine ⟨Z, ρ, Hf, lσ, hp, S, L, (Post.bind h (WalksC G (gdI it lσ hp))).imp fun J H1 ⟨xs, h1, ρ1, Hf1, _, N1, S1, wk, q⟩ => ?_⟩
  intro Dd hD
  split at q
  case isFalse => exact q.elim
  rename_i hlen
  obtain ⟨Gd, Y, wlk, gd, yy⟩ := wk
  generalize hgs : gdI it lσ hp = gs at q gd yy
  generalize hf : (fun σ h => (evC P call c σ h).bind fun b h => if b then (evE P call ie σ h).bind fun y h => R.ok (some y) h else R.ok none h) = f at q
  -- the items with the cells looked at
  obtain ⟨hc1, q⟩ : chk gs h1 ∧ Post G Z W σ (AllocR G Z) ρ1 Hf1 H1 Q ((lcG (fun σ h => ckR gs (f σ h)) tg (wipeT lσ (own.map (·.2))) xs h1).bind fun ys h => .ok (.lst ys) h) := by
    have nil : ∀ {α : Type} (r : R α), ckR [] r = r := fun r => by
      cases r with
      | ok a h => exact if_pos (fun p hp => by simp at hp)
      | err c fs h => rfl
      | stuck => rfl
    cases gs with
    | nil =>
      refine ⟨fun p hp => by simp at hp, ?_⟩
      have e : (fun σ h => ckR [] (f σ h)) = f := by funext σ h; exact nil _
      rw [e]; exact q
    | cons g gs =>
      simp only [lcC] at q
      split at q
      · rename_i hc; exact ⟨hc, q⟩
      · exact q.elim
  have L1 : Slots G ρ1 Hf1 H1 lσ σ := L.nxt N1
  obtain ⟨fD, mD, zD⟩ := S1.free hD
  have hf' : (fun σ h => ckR gs ((evC P call c σ h).bind fun b h => if b then (evE P call ie σ h).bind fun y h => R.ok (some y) h else R.ok none h)) = fun σ h => ckR gs (f σ h) := by rw [← hf]
  refine lc_it wlk (fun i H => ∃ ρ2 Hf2 h2 acc ws, Nxt (some Dd) ρ1 Hf1 (upd H1 Dd (.lst [])) ρ2 Hf2 H ∧ Sto G Z ρ2 Hf2 h2 H ∧ H Dd = some (.lst ws) ∧ Hf2 Dd = none ∧ Dd ∉ ρ2 ∧ Reps G ρ2 Hf2 acc ws ∧ acc.length ≤ i ∧ chk gs h2 ∧
    Post G Z W σ (AllocR G Z) ρ1 Hf1 H1 Q ((lcG (fun σ h => ckR gs (f σ h)) tg (wipeT lσ (own.map (·.2))) (xs.drop i) h2).bind fun ys h => .ok (.lst (acc ++ ys)) h)) ?_ ?_ ?_ ?_
  · exact ⟨ρ1, Hf1, h1, [], [], .refl, S1.newB hD, upd_same, fD, mD, .nil, Nat.le_refl _, hc1, q⟩
  · intro i H _ ⟨ρ2, Hf2, h2, acc, ws, N2, S2, _, _, _, _, _, c2, _⟩
    exact gd Z ρ2 Hf2 h2 H N2.pre N2.hf S2 c2
  · intro i x Hc H' hi' ⟨ρ2, Hf2, h2, acc, ws, N2, S2, hDd, fD2, mD2, rA, lA, c2, q⟩ hy
    obtain ⟨t, et, item⟩ := yy i Z ρ2 Hf2 h2 Hc x H' N2.pre N2.hf S2 c2 hy
    obtain ⟨Hf3, N3, S3, rt⟩ := item.go S2 ⟨[], by simp⟩ (Ex.refl _)
    have ed : xs.drop i = t :: xs.drop (i + 1) := by
      obtain ⟨hl, hx⟩ := List.getElem?_eq_some_iff.mp et
      rw [List.drop_eq_getElem_cons hl, hx]
    rw [ed] at q
    simp only [lcG] at q
    split at q
    · exact q.elim
    · rename_i lσ' es
      have base3 : Nxt none ρ1 Hf1 H1 ρ2 Hf3 H' := (N2.ofNew hD).trans S2 N3 (by intro a h; cases h)
      have L3 : Slots G ρ2 Hf3 H' (wipeT lσ (own.map (·.2))) (L2.wipe σ (own.map (·.2))) := (L1.nxt base3).wipe _
      refine tG_go rfl S3 L3 es rt fun σ2 L4 hw _ _ => ⟨?_, ?_⟩
      · have e1 := hw (own.map (·.2)) fun i hi => by
          have := List.all_eq_true.mp hsub i hi
          exact List.contains_iff_mem.mp this
        rw [e1]
        have idem : ∀ vs : List Nat, L2.wipe (L2.wipe σ vs) vs = L2.wipe σ vs := fun vs => by
          have key : ∀ us : List Nat, (∀ i ∈ us, i ∈ vs) → L2.wipe (L2.wipe σ us) vs = L2.wipe σ vs := fun us => by
            induction us with
            | nil => exact fun _ => rfl
            | cons u us ih =>
              intro hu
              show L2.wipe ((L2.wipe σ us).set u none) vs = _
              rw [wipe_set (hu u List.mem_cons_self), ih fun i hi => hu i (List.mem_cons_of_mem _ hi)]
          exact key vs fun _ h => h
        exact idem _
      · rw [← hf] at q
        simp only at q
        have h3D : H' Dd = some (.lst ws) := N3.fr Dd _ hDd mD2 (by simp)
        cases ec : evC P call c lσ' h2 with
        | err cc fs h3 => rw [ec] at q; exact q.elim
        | stuck => rw [ec] at q; exact q.elim
        | ok b h3 =>
          rw [ec] at q
          simp only [R.bind_ok] at q
          refine ⟨Z, ρ2, Hf3, lσ', h2, S3, L4, ?_⟩
          rw [ec]
          intro ρ4 Hf4 H4 b' N4 S4 eb
          subst eb
          have base4 : Nxt (some Dd) ρ1 Hf1 (upd H1 Dd (.lst [])) ρ4 Hf4 H4 := (N2.trans S2 N3.wide (by intro a e; cases e; exact ⟨_, hDd⟩)).trans S3 N4.wide (by intro a e; cases e; exact ⟨_, h3D⟩)
          have f3D : Hf3 Dd = none := by
            cases z : Hf3 Dd with
            | none => rfl
            | some o => have := N3.hn Dd o z fD2; rw [hDd] at this; cases this
          have f4D : Hf4 Dd = none := by
            cases z : Hf4 Dd with
            | none => rfl
            | some o => have := N4.hn Dd o z f3D; rw [h3D] at this; cases this
          have m4D : Dd ∉ ρ4 := fun z => by have := N4.nw Dd z mD2; rw [h3D] at this; cases this
          have h4D : H4 Dd = some (.lst ws) := N4.fr Dd _ h3D mD2 (by simp)
          cases b with
          | false =>
            simp only [Bool.false_eq_true, if_false] at q ⊢
            by_cases c3 : chk gs h3
            · have ek : ckR gs (R.ok (none : Option T) h3) = R.ok none h3 := if_pos c3
              rw [ek] at q
              simp only [R.noErr_ok, R.bind_ok] at q
              rw [hf'] at q
              exact ⟨ρ4, Hf4, h3, acc, ws, base4, S4, h4D, f4D, m4D, (rA.mono N3.pre N3.hf).mono N4.pre N4.hf, Nat.le_succ_of_le lA, c3, q⟩
            · have ek : ckR gs (R.ok (none : Option T) h3) = R.stuck := if_neg c3
              rw [ek] at q
              exact q.elim
          | true =>
            simp only [if_true] at q ⊢
            cases ee : evE P call ie lσ' h3 with
            | err cc fs h5 => rw [ee] at q; exact q.elim
            | stuck => rw [ee] at q; exact q.elim
            | ok y h5 =>
              rw [ee] at q
              simp only [R.bind_ok] at q
              refine ⟨Z, ρ4, Hf4, lσ', h3, S4, L4.nxt N4, ?_⟩
              rw [ee]
              intro ρ5 Hf5 H5 v N5 S5 rv
              have c5 : chk gs h5 := Classical.byContradiction fun c5 => by
                have ek : ckR gs (R.ok (some y) h5) = R.stuck := if_neg c5
                rw [ek] at q
                exact q.elim
              have ek : ckR gs (R.ok (some y) h5) = R.ok (some y) h5 := if_pos c5
              rw [ek] at q
              simp only [R.bind_ok, R.noErr_ok] at q
              split at q
              · rename_i py
                have h5D : H5 Dd = some (.lst ws) := N5.fr Dd _ h4D m4D (by simp)
                have f5D : Hf5 Dd = none := by
                  cases z : Hf5 Dd with
                  | none => rfl
                  | some o => have := N5.hn Dd o z f4D; rw [h4D] at this; cases this
                have m5D : Dd ∉ ρ5 := fun z => by have := N5.nw Dd z m4D; rw [h4D] at this; cases this
                refine ⟨ws, h5D, ?_, ρ5, Hf5, h5, acc ++ [y], ws ++ [v], (base4.trans S4 N5.wide (by intro a e; cases e; exact ⟨_, h4D⟩)).setX, S5.setX f5D m5D, upd_same, f5D, m5D, ?_, by rw [List.length_append]; exact Nat.succ_le_succ lA, c5, ?_⟩
                · rw [← rA.length, ← maxLen_eq]
                  have := (List.getElem?_eq_some_iff.mp et).1
                  omega
                · exact (((rA.mono N3.pre N3.hf).mono N4.pre N4.hf).mono N5.pre N5.hf).append (.cons (rv.plain py) .nil)
                · rw [hf', R.bind_assoc] at q
                  simp only [R.bind_ok] at q
                  have e9 : (fun ys h => R.ok (Kb.C.lst (acc ++ y :: ys)) h) = (fun ys h => R.ok (Kb.C.lst (acc ++ [y] ++ ys)) h) := by
                    funext ys h; rw [List.append_assoc]; rfl
                  rw [e9] at q
                  exact q
              · exact q.elim
  · intro H ⟨ρ2, Hf2, h2, acc, ws, N2, S2, hDd, fD2, mD2, rA, lA, _, q⟩
    rw [List.drop_eq_nil_of_le (Nat.le_refl _)] at q
    simp only [lcG, R.bind_ok, List.append_nil] at q
    exact q ρ2 Hf2 H _ (N2.ofNew hD) S2 ⟨Dd, rfl, ⟨ws, hDd, rA⟩, fD2, mD2, zD, fun _ _ e => nomatch e⟩
theorem ka_lc (C : KCx X P call G W CX D T0) {elt tgE iter : Expr} {ifs : List Expr} {scope : Scope} {own : List (Str × Nat)} {pos : Pos} {it : It} {tg : List Nat} {c : Eo} {ie : E} (hi : PI X tgE iter (tI P call G W it)) (ok : blkC X.N X.env.scope scope own = true)
    (hg : ∀ (s : Shared) (H : Hp) (Cc : Addr) (cl : List (Str × Addr)) (fp : List Addr), PG (X.blk s H scope (compEnvC scope cl Cc X.env) fp) tgE (tG G.K tg))
    (ht : ∀ (s : Shared) (H : Hp) (Cc : Addr) (cl : List (Str × Addr)) (fp : List Addr), PTs (X.blk s H scope (compEnvC scope cl Cc X.env) fp) ifs (tCd P call G WF c))
    (he : ∀ (s : Shared) (H : Hp) (Cc : Addr) (cl : List (Str × Addr)) (fp : List Addr), PE (X.blk s H scope (compEnvC scope cl Cc X.env) fp) elt (tE P call G WF ie)) (hs : ∀ x, foldedSetIterable iter X.env x = pure x := by intro _; rfl)
    (hsub : tg.all (fun i => (own.map (·.2)).contains i) = true := by rfl) (hT : T0.fn.isEmpty = false := by first | assumption | rfl) : PE X (.ListComp elt [⟨tgE, iter, ifs, 0⟩] scope pos) (tA P call G W (.lc it tg (own.map (·.2)) c ie)) := by
  exact PEimp (pe_lc (C.calm hT) C.nN hi (blkOk_by ok) hg ht he hs) (lc_imp hsub)
end
end Kb
end
section
set_option Elab.async false
set_option linter.all false
set_option maxRecDepth 100000
set_option maxHeartbeats 4000000
set_option autoImplicit false
/-! Kb8: statements. -/
namespace Kb
open PySem PySem.Spec PyProof.Rows L2
/-- where a def began: the heaps; x: the object that it may change though it stood before (an __init__'s instance) -/
structure Ent where
  x : Option Addr
  ρ : List Addr
  Hf : Hp
  H : Hp
  /-- what has stood since then (a loop's start) -/
  ρa : List Addr
  Ha : Hp
def isInsT : T → Bool
  | .bI _ _ => true | _ => false
def OwnN (En : Ent) (lσ : Sl) (σ : L2.St) : Prop := ∀ (i : Nat) (t : T) (a : Addr), lσ[i]? = some (some t) → isBor t = true → σ[i]? = some (some (.ref a)) → (En.H a = none ∧ isInsT t = false) ∨ (En.x = some a ∧ isInsT t = true)
structure StA (G : Gm) (En : Ent) (ρ : List Addr) (Hf : Hp) (lσ : Sl) (hp : Hl) (σ : L2.St) (H : Hp) : Prop where
  S : Sto G En.H ρ Hf hp H
  L : Slots G ρ Hf H lσ σ
  N : Nxt En.x En.ρ En.Hf En.H ρ Hf H
  O : OwnN En lσ σ
  x : ∀ a, En.x = some a → ∃ o, En.H a = some o
  pr : ∃ l, ρ = En.ρa ++ l
  ex : Ex En.Ha Hf
def St1 (G : Gm) (En : Ent) (lσ : Sl) (hp : Hl) (σ : L2.St) (H : Hp) : Prop := ∃ ρ Hf, StA G En ρ Hf lσ hp σ H
def PostS (G : Gm) (W : WX) (En : Ent) (D : Ends) : RS → Prop
  | .nx lσ h => ∀ σ H, St1 G En lσ h σ H → D.nx σ H
  | .bk lσ h => ∀ σ H, St1 G En lσ h σ H → D.bk σ H
  | .ct lσ h => ∀ σ H, St1 G En lσ h σ H → D.ct σ H
  | .rt t h => ∀ ρ Hf H v, Nxt En.x En.ρ En.Hf En.H ρ Hf H → Sto G En.H ρ Hf h H → Rep G ρ Hf t v → D.rt v H
  | .err c fs lσ h => ∀ σ ρ Hf H d gs, StA G En ρ Hf lσ h σ H → Hf d = some (.xd gs) → RepF G ρ Hf fs gs → W (.ref (G.ca c)) (some d) σ H
  | .stuck => False
section
variable (P : Prog) (call : Nat → List T → Hl → R T) (G : Gm) (W : WX) (Wn : Nat)
def tS (s : Kb.S) : TS := fun D σ H => ∃ En lσ hp, St1 G En lσ hp σ H ∧ PostS G W En D (exS P call Wn s lσ hp)
def tB (b : B) : TS := fun D σ H => ∃ En lσ hp, St1 G En lσ hp σ H ∧ PostS G W En D (exB P call Wn b lσ hp)
end
section
variable {X : Cx} {P : Prog} {call : Nat → List T → Hl → R T} {G : Gm} {W : WX} {CX : CXT} {D : Dat} {T0 : Tab} {Wn : Nat}
variable {En : Ent} {ρ ρ' : List Addr} {Hf H Hf' H' : Hp} {lσ : Sl} {σ : L2.St} {hp hp' : Hl} {E : Ends}
theorem PSimp {s : Stmt} {t t' : TS} (h : PS X s t) (f : ∀ E σ H, t' E σ H → t E σ H) : PS X s t' := ⟨fun pins s σ H E I q => h.run pins s σ H E I (f E σ H q)⟩
theorem PSsimp {s : List Stmt} {t t' : TS} (h : PSs X s t) (f : ∀ E σ H, t' E σ H → t E σ H) : PSs X s t' := ⟨fun pins s σ H E I q => h.run pins s σ H E I (f E σ H q)⟩
theorem StA.hx (A : StA G En ρ Hf lσ hp σ H) : ∀ a, En.x = some a → ∃ o, H a = some o := fun a e => let ⟨o, h⟩ := A.x a e; A.S.dom a o h
theorem StA.nxt (A : StA G En ρ Hf lσ hp σ H) (N : Nxt none ρ Hf H ρ' Hf' H') (S' : Sto G En.H ρ' Hf' hp' H') : StA G En ρ' Hf' lσ hp' σ H' := ⟨S', A.L.nxt N, A.N.trans A.S N.wide A.hx, A.O, A.x, (let ⟨l, e⟩ := A.pr; let ⟨m, e2⟩ := N.pre; ⟨l ++ m, by rw [e2, e, List.append_assoc]⟩), A.ex.trans N.hf⟩
theorem PostS.errv {c : Nat} {fs : List (Nat × T)} {h' : Hl} (A : StA G En ρ Hf lσ hp σ H) (h : PostS G W En E (.err c fs lσ h')) : PErr G En.H W σ ρ Hf H c fs h' := fun ρ' Hf' H' d gs N S e1 e2 => h σ ρ' Hf' H' d gs (A.nxt N S) e1 e2
theorem go_sE (A : StA G En ρ Hf lσ hp σ H) {e : Kb.E} {f : T → Hl → RS} {R : VK} (h : PostS G W En E ((evE P call e lσ hp).toS lσ f))
    (k : ∀ a h' ρ' Hf' v H', StA G En ρ' Hf' lσ h' σ H' → Nxt none ρ Hf H ρ' Hf' H' → RepB G ρ' Hf' H' a v → PostS G W En E (f a h') → R v H') : tE P call G W e σ H R := by
  refine ⟨En.H, ρ, Hf, lσ, hp, A.S, A.L, ?_⟩
  cases hr : evE P call e lσ hp with
  | ok a h' => rw [hr] at h; exact fun ρ' Hf' H' v N S' r => k a h' ρ' Hf' v H' (A.nxt N S') N r h
  | err c fs h' => rw [hr] at h; exact PostS.errv A h
  | stuck => rw [hr] at h; exact h
theorem go_sT (A : StA G En ρ Hf lσ hp σ H) {e : Kb.E} {f : Bool → Hl → RS} {R : Bool → Hp → Prop} (h : PostS G W En E ((evT P call e lσ hp).toS lσ f))
    (k : ∀ a h' ρ' Hf' H', StA G En ρ' Hf' lσ h' σ H' → Nxt none ρ Hf H ρ' Hf' H' → PostS G W En E (f a h') → R a H') : tTe P call G W e σ H R := by
  refine ⟨En.H, ρ, Hf, lσ, hp, A.S, A.L, ?_⟩
  cases hr : evT P call e lσ hp with
  | ok a h' => rw [hr] at h; exact fun ρ' Hf' H' v N S' r => by subst r; exact k a h' ρ' Hf' H' (A.nxt N S') N h
  | err c fs h' => rw [hr] at h; exact PostS.errv A h
  | stuck => rw [hr] at h; exact h
theorem go_sEs (A : StA G En ρ Hf lσ hp σ H) {e : Es} {f : List T → Hl → RS} {R : List V → Hp → Prop} (h : PostS G W En E ((evEs P call e lσ hp).toS lσ f))
    (k : ∀ a h' ρ' Hf' v H', StA G En ρ' Hf' lσ h' σ H' → Nxt none ρ Hf H ρ' Hf' H' → RepBs G ρ' Hf' H' a v → PostS G W En E (f a h') → R v H') : tEs P call G W e σ H R := by
  refine ⟨En.H, ρ, Hf, lσ, hp, A.S, A.L, ?_⟩
  cases hr : evEs P call e lσ hp with
  | ok a h' => rw [hr] at h; exact fun ρ' Hf' H' v N S' r => k a h' ρ' Hf' v H' (A.nxt N S') N r h
  | err c fs h' => rw [hr] at h; exact PostS.errv A h
  | stuck => rw [hr] at h; exact h
theorem go_sI (A : StA G En ρ Hf lσ hp σ H) {it : It} {f : List T → Hl → RS} {R : L2.It → Hp → Prop} (h : PostS G W En E ((evI P call it lσ hp).toS lσ f))
    (k : ∀ a h' ρ' Hf' v H', StA G En ρ' Hf' lσ h' σ H' → Nxt none ρ Hf H ρ' Hf' H' → WalksC G (gdI it lσ hp) ρ' Hf' H' a v → PostS G W En E (f a h') → R v H') : tI P call G W it σ H R := by
  refine ⟨En.H, ρ, Hf, lσ, hp, A.S, A.L, ?_⟩
  cases hr : evI P call it lσ hp with
  | ok a h' => rw [hr] at h; exact fun ρ' Hf' H' v N S' r => k a h' ρ' Hf' v H' (A.nxt N S') N r h
  | err c fs h' => rw [hr] at h; exact PostS.errv A h
  | stuck => rw [hr] at h; exact h
/-- a new list (or dict): it was not there -/
theorem go_sA (A : StA G En ρ Hf lσ hp σ H) {a : Kb.A} {f : C → Hl → RS} {R : VK} (h : PostS G W En E ((evA P call a lσ hp).toS lσ f))
    (k : ∀ c h' ρ' Hf' v H', StA G En ρ' Hf' lσ h' σ H' → Nxt none ρ Hf H ρ' Hf' H' → AllocR G H ρ' Hf' H' c v → PostS G W En E (f c h') → R v H') : tA P call G W a σ H R := by
  refine ⟨H, ρ, Hf, lσ, hp, A.S.ofZ (fun a o e => ⟨o, e⟩), A.L, ?_⟩
  have bk : ∀ {ρ' Hf' h' H'}, Sto G H ρ' Hf' h' H' → Sto G En.H ρ' Hf' h' H' := fun {ρ' Hf' h' H'} S' => S'.ofZ fun d o e => let ⟨o1, h1⟩ := A.S.dom d o e; S'.dom d o1 h1
  cases hr : evA P call a lσ hp with
  | ok a h' => rw [hr] at h; exact fun ρ' Hf' H' v N S' r => k a h' ρ' Hf' v H' (A.nxt N (bk S')) N r h
  | err c fs h' => rw [hr] at h; exact fun ρ' Hf' H' d gs N S e1 e2 => h σ ρ' Hf' H' d gs (A.nxt N (bk S)) e1 e2
  | stuck => rw [hr] at h; exact h
/-! ### stores -/
theorem StA.put (A : StA G En ρ Hf lσ hp σ H) {i : Nat} {t : T} {v : Vv} (r : Rep G ρ Hf t v) : StA G En ρ Hf (lσ.set i (some t)) hp (σ.set i (some v)) H := by
  refine ⟨A.S, A.L.put r, A.N, fun j u a e b s => ?_, A.x, A.pr, A.ex⟩
  by_cases q : i = j
  · subst q
    have hl : i < lσ.length := by
      have := (List.getElem?_eq_some_iff.mp e).1
      rwa [List.length_set] at this
    rw [List.getElem?_set_self hl] at e
    cases e
    rw [r.nbor] at b; cases b
  · rw [List.getElem?_set_ne q] at e s
    exact A.O j u a e b s
/-- a slot gets a new thing of its own -/
theorem StA.putB (A : StA G En ρ Hf lσ hp σ H) {i : Nat} {t : T} {a : Addr} (r : RepB G ρ Hf H t (.ref a)) (nw : En.H a = none) (ni : isInsT t = false) (sep : ∀ (j : Nat) (u : T), lσ[j]? = some (some u) → isBor u = true → σ[j]? = some (some (.ref a)) → False) :
    StA G En ρ Hf (lσ.set i (some t)) hp (σ.set i (some (.ref a))) H := by
  have self : ∀ {j : Nat} {u : T}, (lσ.set i (some t))[j]? = some (some u) → (i = j ∧ u = t ∧ (σ.set i (some (.ref a)))[j]? = some (some (.ref a))) ∨ (i ≠ j ∧ lσ[j]? = some (some u) ∧ (σ.set i (some (.ref a)))[j]? = σ[j]?) := fun {j u} e => by
    by_cases q : i = j
    · subst q
      have hl : i < lσ.length := by
        have := (List.getElem?_eq_some_iff.mp e).1
        rwa [List.length_set] at this
      rw [List.getElem?_set_self hl] at e
      cases e
      exact .inl ⟨rfl, rfl, List.getElem?_set_self (Nat.lt_of_lt_of_le hl A.L.len)⟩
    · rw [List.getElem?_set_ne q] at e
      exact .inr ⟨q, e, List.getElem?_set_ne q⟩
  refine ⟨A.S, ⟨by rw [List.length_set, List.length_set]; exact A.L.len, fun j u e => ?_, fun j k t1 u1 b hjk e1 e2 b1 b2 s1 s2 => ?_⟩, A.N, fun j u b e bo s => ?_, A.x, A.pr, A.ex⟩
  · rcases self e with ⟨_, rfl, h⟩ | ⟨_, e, h⟩
    · exact ⟨_, h, r⟩
    · obtain ⟨w, h1, h2⟩ := A.L.slot j u e
      exact ⟨w, h.trans h1, h2⟩
  · rcases self e1 with ⟨p1, rfl, h1⟩ | ⟨p1, f1, h1⟩
    · rcases self e2 with ⟨p2, rfl, h2⟩ | ⟨p2, f2, h2⟩
      · exact hjk (p1.symm.trans p2)
      · rw [h1] at s1; cases s1
        rw [h2] at s2
        exact sep k u1 f2 b2 s2
    · rcases self e2 with ⟨p2, rfl, h2⟩ | ⟨p2, f2, h2⟩
      · rw [h2] at s2; cases s2
        rw [h1] at s1
        exact sep j t1 f1 b1 s1
      · rw [h1] at s1; rw [h2] at s2
        exact A.L.sep j k t1 u1 b hjk f1 f2 b1 b2 s1 s2
  · rcases self e with ⟨_, rfl, h⟩ | ⟨_, e, h⟩
    · rw [h] at s; cases s; exact .inl ⟨nw, ni⟩
    · rw [h] at s; exact A.O j u b e bo s
theorem s_asg {x : Stmt} {te : TE} {i : Nat} {ie : Kb.E} (h : PS X x (tAsg te (gName i))) (himp : ∀ σ H Q, tE P call G W ie σ H Q → te σ H Q) : PS X x (tS P call G W Wn (.asg i ie)) := by
  refine PSimp h fun E σ H ⟨En, lσ, hp, ⟨ρ, Hf, A⟩, q⟩ => himp σ H _ ?_
  simp only [exS] at q
  refine go_sE A q fun a h1 ρ1 Hf1 v H1 A1 N1 r1 q => ?_
  split at q
  · rename_i ok
    simp only [Bool.and_eq_true] at ok
    exact q _ _ ⟨ρ1, Hf1, A1.put (r1.plain ok.1)⟩
  · exact q.elim
theorem s_own {x : Stmt} {te : TE} {i : Nat} {a : Kb.A} (h : PS X x (tAsg te (gName i))) (himp : ∀ σ H Q, tA P call G W a σ H Q → te σ H Q) : PS X x (tS P call G W Wn (.own i a)) := by
  refine PSimp h fun E σ H ⟨En, lσ, hp, ⟨ρ, Hf, A⟩, q⟩ => himp σ H _ ?_
  simp only [exS] at q
  refine go_sA A q fun c h1 ρ1 Hf1 v H1 A1 N1 r1 q => ?_
  obtain ⟨b, rfl, hc, f1, m1, z1, _⟩ := r1
  have nw : En.H b = none := by
    cases z : En.H b with
    | none => rfl
    | some o => obtain ⟨o', h'⟩ := A.S.dom b o z; rw [z1] at h'; cases h'
  have sep : ∀ (j : Nat) (u : T), lσ[j]? = some (some u) → isBor u = true → σ[j]? = some (some (.ref b)) → False := fun j u e bo s => by
    obtain ⟨w, h2, h3⟩ := A.L.slot j u e
    rw [s] at h2; cases h2
    cases u <;> first | (simp [isBor] at bo; done) | skip
    · obtain ⟨d, vs, ed, hd, _⟩ := h3; cases ed; rw [z1] at hd; cases hd
    · obtain ⟨d, vs, ed, hd, _⟩ := h3; cases ed; rw [z1] at hd; cases hd
    · obtain ⟨d, dx, vs, ed, hd, _⟩ := h3; cases ed; rw [z1] at hd; cases hd
  split at q
  · cases c with
    | lst xs =>
      obtain ⟨vs, h2, h3⟩ := hc
      exact q _ _ ⟨ρ1, Hf1, A1.putB (t := .bL xs) ⟨b, vs, rfl, h2, h3, f1, m1⟩ nw rfl sep⟩
    | dct kvs =>
      obtain ⟨gs, h2, h3⟩ := hc
      exact q _ _ ⟨ρ1, Hf1, A1.putB (t := .bD kvs) ⟨b, gs, rfl, h2, h3, f1, m1⟩ nw rfl sep⟩
    | ins c fs => exact q.elim
  · exact q.elim
/-- y = e -/
theorem ks_asg (C : KCx X P call G W CX D T0) {i : Nat} {x : Str} {e : Expr} {ie : Kb.E} {pos pos' : Pos} (hi : X.N[i]? = some x) (hx : X.env.scope.names.lookup x = some .local) (he : PE X e (tE P call G W ie)) (hs : swapsWith e (some (.Name x pos')) pos.line X.env = pure false := by rfl) :
    PS X (.Assign [.Name x pos'] e pos) (tS P call G W Wn (.asg i ie)) := s_asg (ps_set C.nN hi (.inl hx) he hs (.inr hx)) fun _ _ _ h => h
theorem ks_asgC (C : KCx X P call G W CX D T0) {i : Nat} {x : Str} {e : Expr} {ie : Kb.E} {pos pos' : Pos} (hi : X.N[i]? = some x) (hx : X.env.scope.names.lookup x = some .cell) (hf : X.fn x = true) (he : PE X e (tE P call G W ie)) (hs : swapsWith e (some (.Name x pos')) pos.line X.env = pure false := by rfl) :
    PS X (.Assign [.Name x pos'] e pos) (tS P call G W Wn (.asg i ie)) := s_asg (ps_set C.nN hi (.inr hx) he hs (.inl hf)) fun _ _ _ h => h
theorem ks_own (C : KCx X P call G W CX D T0) {i : Nat} {x : Str} {e : Expr} {a : Kb.A} {pos pos' : Pos} (hi : X.N[i]? = some x) (hx : X.env.scope.names.lookup x = some .local) (he : PE X e (tA P call G W a)) (hs : swapsWith e (some (.Name x pos')) pos.line X.env = pure false := by rfl) :
    PS X (.Assign [.Name x pos'] e pos) (tS P call G W Wn (.own i a)) := s_own (ps_set C.nN hi (.inl hx) he hs (.inr hx)) fun _ _ _ h => h
theorem ks_ownC (C : KCx X P call G W CX D T0) {i : Nat} {x : Str} {e : Expr} {a : Kb.A} {pos pos' : Pos} (hi : X.N[i]? = some x) (hx : X.env.scope.names.lookup x = some .cell) (hf : X.fn x = true) (he : PE X e (tA P call G W a)) (hs : swapsWith e (some (.Name x pos')) pos.line X.env = pure false := by rfl) :
    PS X (.Assign [.Name x pos'] e pos) (tS P call G W Wn (.own i a)) := s_own (ps_set C.nN hi (.inr hx) he hs (.inl hf)) fun _ _ _ h => h
section
variable {elt tgE iter : Expr} {ifs : List Expr} {scope : Scope} {own : List (Str × Nat)} {pos spos py : Pos} {it : It} {tg : List Nat} {c : Eo} {ie : Kb.E} {i : Nat} {y : Str}
theorem s_lc (C : KCx X P call G W CX D T0) (hy : X.N[i]? = some y) (hyl : X.env.scope.names.lookup y = some .local) (hl : (py.line == pos.line) = true) (hn : (scope.names.any fun (n, k) => n == y && (k == .local || k == .cell)) = false) (hkd : X.env.scope.kind = .function)
    (hi : PI X tgE iter (tI P call G W it)) (ok : blkC X.N X.env.scope scope own = true)
    (hg : ∀ (s : Shared) (H : Hp) (Cc : Addr) (cl : List (Str × Addr)) (fp : List Addr), PG (X.blk s H scope (compEnvC scope cl Cc X.env) fp) tgE (tG G.K tg))
    (ht : ∀ (s : Shared) (H : Hp) (Cc : Addr) (cl : List (Str × Addr)) (fp : List Addr), PTs (X.blk s H scope (compEnvC scope cl Cc X.env) fp) ifs (tCd P call G WF c))
    (he : ∀ (s : Shared) (H : Hp) (Cc : Addr) (cl : List (Str × Addr)) (fp : List Addr), PE (X.blk s H scope (compEnvC scope cl Cc X.env) fp) elt (tE P call G WF ie)) (hs : ∀ x, foldedSetIterable iter X.env x = pure x) (hT : T0.fn.isEmpty = false := by first | assumption | rfl) :
    PS X (.Assign [.Name y py] (.ListComp elt [⟨tgE, iter, ifs, 0⟩] scope pos) spos) (tAsg (tLc (tI P call G W it) (tG G.K tg) (tCd P call G WF c) (tE P call G WF ie) (own.map (·.2))) (gName i)) :=
  ps_setLc (C.calm hT) C.nN hy hyl (sw_true hkd hyl hl hn) hi (blkOk_by ok) hg ht he hs
theorem ks_lcO (C : KCx X P call G W CX D T0) (hy : X.N[i]? = some y) (hyl : X.env.scope.names.lookup y = some .local) (hl : (py.line == pos.line) = true) (hn : (scope.names.any fun (n, k) => n == y && (k == .local || k == .cell)) = false) (hkd : X.env.scope.kind = .function)
    (hi : PI X tgE iter (tI P call G W it)) (ok : blkC X.N X.env.scope scope own = true)
    (hg : ∀ (s : Shared) (H : Hp) (Cc : Addr) (cl : List (Str × Addr)) (fp : List Addr), PG (X.blk s H scope (compEnvC scope cl Cc X.env) fp) tgE (tG G.K tg))
    (ht : ∀ (s : Shared) (H : Hp) (Cc : Addr) (cl : List (Str × Addr)) (fp : List Addr), PTs (X.blk s H scope (compEnvC scope cl Cc X.env) fp) ifs (tCd P call G WF c))
    (he : ∀ (s : Shared) (H : Hp) (Cc : Addr) (cl : List (Str × Addr)) (fp : List Addr), PE (X.blk s H scope (compEnvC scope cl Cc X.env) fp) elt (tE P call G WF ie)) (hs : ∀ x, foldedSetIterable iter X.env x = pure x := by intro _; rfl)
    (hsub : tg.all (fun i => (own.map (·.2)).contains i) = true := by rfl) (hT : T0.fn.isEmpty = false := by first | assumption | rfl) :
    PS X (.Assign [.Name y py] (.ListComp elt [⟨tgE, iter, ifs, 0⟩] scope pos) spos) (tS P call G W Wn (.own i (.lc it tg (own.map (·.2)) c ie))) := s_own (s_lc C hy hyl hl hn hkd hi ok hg ht he hs) (lc_imp hsub)
theorem ks_lc0 (C : KCx X P call G W CX D T0) (hy : X.N[i]? = some y) (hyl : X.env.scope.names.lookup y = some .local) (hl : (py.line == pos.line) = true) (hn : (scope.names.any fun (n, k) => n == y && (k == .local || k == .cell)) = false) (hkd : X.env.scope.kind = .function)
    (hi : PI X tgE iter (tI P call G W it)) (ok : blkC X.N X.env.scope scope own = true)
    (hg : ∀ (s : Shared) (H : Hp) (Cc : Addr) (cl : List (Str × Addr)) (fp : List Addr), PG (X.blk s H scope (compEnvC scope cl Cc X.env) fp) tgE (tG G.K tg))
    (ht : ∀ (s : Shared) (H : Hp) (Cc : Addr) (cl : List (Str × Addr)) (fp : List Addr), PTs (X.blk s H scope (compEnvC scope cl Cc X.env) fp) ifs (tCd P call G WF c))
    (he : ∀ (s : Shared) (H : Hp) (Cc : Addr) (cl : List (Str × Addr)) (fp : List Addr), PE (X.blk s H scope (compEnvC scope cl Cc X.env) fp) elt (tE P call G WF ie)) (hs : ∀ x, foldedSetIterable iter X.env x = pure x := by intro _; rfl)
    (hsub : tg.all (fun i => (own.map (·.2)).contains i) = true := by rfl) (hT : T0.fn.isEmpty = false := by first | assumption | rfl) :
    PS X (.Assign [.Name y py] (.ListComp elt [⟨tgE, iter, ifs, 0⟩] scope pos) spos) (tS P call G W Wn (.asg i (.al false (.lc it tg (own.map (·.2)) c ie)))) := s_asg (ps_lockA (s_lc C hy hyl hl hn hkd hi ok hg ht he hs)) fun σ H Q h => lc_imp hsub σ H (QL Q) (al0_imp _ σ H Q h)
theorem ks_lc1 (C : KCx X P call G W CX D T0) (hy : X.N[i]? = some y) (hyl : X.env.scope.names.lookup y = some .local) (hl : (py.line == pos.line) = true) (hn : (scope.names.any fun (n, k) => n == y && (k == .local || k == .cell)) = false) (hkd : X.env.scope.kind = .function)
    (hi : PI X tgE iter (tI P call G W it)) (ok : blkC X.N X.env.scope scope own = true)
    (hg : ∀ (s : Shared) (H : Hp) (Cc : Addr) (cl : List (Str × Addr)) (fp : List Addr), PG (X.blk s H scope (compEnvC scope cl Cc X.env) fp) tgE (tG G.K tg))
    (ht : ∀ (s : Shared) (H : Hp) (Cc : Addr) (cl : List (Str × Addr)) (fp : List Addr), PTs (X.blk s H scope (compEnvC scope cl Cc X.env) fp) ifs (tCd P call G WF c))
    (he : ∀ (s : Shared) (H : Hp) (Cc : Addr) (cl : List (Str × Addr)) (fp : List Addr), PE (X.blk s H scope (compEnvC scope cl Cc X.env) fp) elt (tE P call G WF ie)) (hs : ∀ x, foldedSetIterable iter X.env x = pure x := by intro _; rfl)
    (hsub : tg.all (fun i => (own.map (·.2)).contains i) = true := by rfl) (hT : T0.fn.isEmpty = false := by first | assumption | rfl) :
    PS X (.Assign [.Name y py] (.ListComp elt [⟨tgE, iter, ifs, 0⟩] scope pos) spos) (tS P call G W Wn (.asg i (.al true (.lc it tg (own.map (·.2)) c ie)))) := s_asg (s_lc C hy hyl hl hn hkd hi ok hg ht he hs) fun σ H Q h => lc_imp hsub σ H Q (al1_imp _ σ H Q h)
end
theorem setT_len : ∀ {tg : List Nat} {t : T} {lσ lσ' : Sl}, setT tg t lσ = some lσ' → lσ'.length = lσ.length := by
  have fl : ∀ (ps : List (Nat × T)) (lσ : Sl), (ps.foldl (fun s p => s.set p.1 (some p.2)) lσ).length = lσ.length := fun ps => by
    induction ps with
    | nil => exact fun _ => rfl
    | cons p ps ih => intro lσ; rw [List.foldl_cons, ih, List.length_set]
  intro tg t lσ lσ' e
  match tg, e with
  | [i], e => simp only [setT] at e; cases e; exact List.length_set
  | [], e =>
    cases t <;> simp only [setT] at e <;> first | (split at e; (cases e; exact fl _ _); (cases e)) | cases e
  | i :: j :: is, e =>
    cases t <;> simp only [setT] at e <;> first | (split at e; (cases e; exact fl _ _); (cases e)) | cases e
/-- a target's store, at a statement -/
theorem StA.tgt (A : StA G En ρ Hf lσ hp σ H) {K : PySem.W.Frag} (hK : K = G.K) {tg : List Nat} {t : T} {v : Vv} {lσ' : Sl} (e : setT tg t lσ = some lσ') (r : Rep G ρ Hf t v) {R : L2.St → Hp → Prop} (k : ∀ σ', StA G En ρ Hf lσ' hp σ' H → R σ' H) : tG K tg v σ H R := by
  refine tG_go hK A.S A.L e r fun σ' L' _ off _ => k σ' ⟨A.S, L', A.N, ?_, A.x, A.pr, A.ex⟩
  have off2 : ∀ (j : Nat) (u : T), lσ'[j]? = some (some u) → isBor u = true → j ∉ tg ∧ lσ[j]? = some (some u) := by
    have fl : ∀ (is : List Nat) (xs : List T) (lσ : Sl), Reps G ρ Hf xs (xs.map fun _ => V.non) ∨ (∀ x ∈ xs, isBor x = false) → ∀ (j : Nat) (u : T), ((is.zip xs).foldl (fun s p => s.set p.1 (some p.2)) lσ)[j]? = some (some u) → isBor u = true → xs.length = is.length → j ∉ is ∧ lσ[j]? = some (some u) := by
      intro is
      induction is with
      | nil => intro xs lσ hx j u e b _; exact ⟨by simp, by simpa using e⟩
      | cons i is ih =>
        intro xs lσ hx j u e b hl
        cases xs with
        | nil => simp at hl
        | cons x0 xs =>
          have hb : ∀ y ∈ x0 :: xs, isBor y = false := by
            rcases hx with hx | hx
            · intro y hy
              have key : ∀ (zs : List T) (ws : List V), Reps G ρ Hf zs ws → ∀ y ∈ zs, isBor y = false := fun zs => by
                induction zs with
                | nil => exact fun _ _ _ h => nomatch h
                | cons z zs ih2 =>
                  intro ws rr y hy
                  cases rr with
                  | cons h r =>
                    rcases List.mem_cons.mp hy with rfl | hy
                    · exact h.nbor
                    · exact ih2 _ r y hy
              exact key _ _ hx y hy
            · exact hx
          rw [List.zip_cons_cons, List.foldl_cons] at e
          obtain ⟨h1, h2⟩ := ih xs (lσ.set i (some x0)) (.inr fun y hy => hb y (List.mem_cons_of_mem _ hy)) j u e b (by simpa using hl)
          by_cases q : i = j
          · subst q
            have hl2 : i < lσ.length := by
              have := (List.getElem?_eq_some_iff.mp h2).1
              rwa [List.length_set] at this
            rw [List.getElem?_set_self hl2] at h2
            cases h2
            rw [hb _ List.mem_cons_self] at b; cases b
          · rw [List.getElem?_set_ne q] at h2
            exact ⟨by simp only [List.mem_cons, not_or]; exact ⟨fun z => q z.symm, h1⟩, h2⟩
    have many : ∀ is : List Nat, setMany is t lσ = some lσ' → ∀ (j : Nat) (u : T), lσ'[j]? = some (some u) → isBor u = true → j ∉ is ∧ lσ[j]? = some (some u) := fun is e j u e2 b => by
      cases t with
      | tup xs =>
        simp only [setMany] at e
        split at e
        · rename_i hl
          cases e
          obtain ⟨a, vs, rfl, h1, h2⟩ := B_tup (r.toB (H := H))
          have hb : ∀ x ∈ xs, isBor x = false := by
            have key : ∀ (zs : List T) (ws : List V), Reps G ρ Hf zs ws → ∀ y ∈ zs, isBor y = false := fun zs => by
              induction zs with
              | nil => exact fun _ _ _ h => nomatch h
              | cons z zs ih2 =>
                intro ws rr y hy
                cases rr with
                | cons h r =>
                  rcases List.mem_cons.mp hy with rfl | hy
                  · exact h.nbor
                  · exact ih2 _ r y hy
            exact key _ _ h2
          exact fl is xs lσ (.inr hb) j u e2 b hl
        · cases e
      | lst xs =>
        simp only [setMany] at e
        split at e
        · rename_i hl
          cases e
          obtain ⟨a, vs, rfl, h1, h2⟩ := B_lst (r.toB (H := H))
          have hb : ∀ x ∈ xs, isBor x = false := by
            have key : ∀ (zs : List T) (ws : List V), Reps G ρ Hf zs ws → ∀ y ∈ zs, isBor y = false := fun zs => by
              induction zs with
              | nil => exact fun _ _ _ h => nomatch h
              | cons z zs ih2 =>
                intro ws rr y hy
                cases rr with
                | cons h r =>
                  rcases List.mem_cons.mp hy with rfl | hy
                  · exact h.nbor
                  · exact ih2 _ r y hy
            exact key _ _ h2
          exact fl is xs lσ (.inr hb) j u e2 b hl
        · cases e
      | _ => cases e
    intro j u e2 b
    match tg, e with
    | [i], e =>
      simp only [setT] at e
      cases e
      by_cases q : i = j
      · subst q
        have hl2 : i < lσ.length := by
          have := (List.getElem?_eq_some_iff.mp e2).1
          rwa [List.length_set] at this
        rw [List.getElem?_set_self hl2] at e2
        cases e2
        rw [r.nbor] at b; cases b
      · rw [List.getElem?_set_ne q] at e2
        exact ⟨by simpa using fun z => q z.symm, e2⟩
    | [], e => exact many [] e j u e2 b
    | i :: k :: is, e => exact many (i :: k :: is) e j u e2 b
  intro j u a e2 b s
  obtain ⟨h1, h2⟩ := off2 j u e2 b
  rw [off j h1] at s
  exact A.O j u a h2 b s
theorem ks_asgT (C : KCx X P call G W CX D T0) {tgE e : Expr} {ie : Kb.E} {tg : List Nat} {pos : Pos} (he : PE X e (tE P call G W ie)) (hg : PG X tgE (tG G.K tg)) (hs : swapsWithSole [tgE] e pos.line X.env = pure false := by rfl) (hw : swappedStores [tgE] e X.env = pure none := by rfl)
    (h1 : (assignEach [tgE] X.env).map (·.2) = [assign tgE X.env] := by rfl) : PS X (.Assign [tgE] e pos) (tS P call G W Wn (.asgT tg ie)) := by
  refine PSimp (ps_asg he hg hs hw h1) fun E σ H ⟨En, lσ, hp, ⟨ρ, Hf, A⟩, q⟩ => ?_
  simp only [exS] at q
  refine go_sE A q fun a h1 ρ1 Hf1 v H1 A1 N1 r1 q => ?_
  split at q
  · rename_i ok
    simp only [Bool.and_eq_true] at ok
    cases es : setT tg a lσ with
    | none => rw [es] at q; exact q.elim
    | some lσ' =>
      rw [es] at q
      exact A1.tgt rfl es (r1.plain ok.1) fun σ' A2 => q _ _ ⟨ρ1, Hf1, A2⟩
  · exact q.elim
theorem ks_expr {e : Expr} {ie : Kb.E} {pos : Pos} (he : PE X e (tE P call G W ie)) (hs : swapsWith e none pos.line X.env = pure false := by rfl) : PS X (.Expr e pos) (tS P call G W Wn (.ex ie)) := by
  refine PSimp (ps_expr he hs) fun E σ H ⟨En, lσ, hp, ⟨ρ, Hf, A⟩, q⟩ => ?_
  simp only [exS] at q
  exact go_sE A q fun a h1 ρ1 Hf1 v H1 A1 N1 r1 q => q _ _ ⟨ρ1, Hf1, A1⟩
theorem ks_ret {e : Expr} {ie : Kb.E} {pos : Pos} (he : PE X e (tE P call G W ie)) : PS X (.Return (some e) pos) (tS P call G W Wn (.ret ie)) := by
  refine PSimp (ps_ret he) fun E σ H ⟨En, lσ, hp, ⟨ρ, Hf, A⟩, q⟩ => ?_
  simp only [exS] at q
  refine go_sE A q fun a h1 ρ1 Hf1 v H1 A1 N1 r1 q => ?_
  split at q
  · rename_i ok
    exact q ρ1 Hf1 H1 v A1.N A1.S (r1.plain ok)
  · exact q.elim
theorem ks_retN {pos : Pos} : PS X (.Return none pos) (tS P call G W Wn .retN) :=
  PSimp ps_retN fun E σ H ⟨En, lσ, hp, ⟨ρ, Hf, A⟩, q⟩ => q ρ Hf H .non A.N A.S .non
theorem ks_pass {pos : Pos} : PS X (.Pass pos) (tS P call G W Wn .pass) := PSimp ps_pass fun E σ H ⟨En, lσ, hp, A, q⟩ => q σ H A
theorem ks_brk {pos : Pos} : PS X (.Break pos) (tS P call G W Wn .brk) := PSimp ps_break fun E σ H ⟨En, lσ, hp, A, q⟩ => q σ H A
theorem ks_cont {pos : Pos} : PS X (.Continue pos) (tS P call G W Wn .cont) := PSimp ps_continue fun E σ H ⟨En, lσ, hp, A, q⟩ => q σ H A
theorem kb_nil : PSs X [] (tB P call G W Wn .nil) := PSsimp pss_nil fun E σ H ⟨En, lσ, hp, A, q⟩ => q σ H A
theorem kb_cons {s : Stmt} {b : List Stmt} {is : Kb.S} {ib : B} (h1 : PS X s (tS P call G W Wn is)) (h2 : PSs X b (tB P call G W Wn ib)) : PSs X (s :: b) (tB P call G W Wn (.cons is ib)) := by
  refine PSsimp (pss_cons h1 h2) fun E σ H ⟨En, lσ, hp, A, q⟩ => ⟨En, lσ, hp, A, ?_⟩
  simp only [exB] at q
  cases hr : exS P call Wn is lσ hp with
  | nx lσ' h' => rw [hr] at q; exact fun σ' H' A' => ⟨En, lσ', h', A', q⟩
  | rt t h' => rw [hr] at q; exact q
  | bk lσ' h' => rw [hr] at q; exact q
  | ct lσ' h' => rw [hr] at q; exact q
  | err c fs lσ' h' => rw [hr] at q; exact q
  | stuck => rw [hr] at q; exact q
theorem ks_raise {s : Stmt} {is : Kb.S} (h : ∀ lσ hp, exS P call Wn is lσ hp = .stuck) : PS X s (tS P call G W Wn is) := PSimp ps_never fun E σ H ⟨En, lσ, hp, A, q⟩ => by rw [h] at q; exact q
theorem ks_if {c : Expr} {a b : List Stmt} {ec : Kb.E} {ia ib : B} {pos : Pos} (hc : PT X c (tTe P call G W ec)) (ha : PSs X a (tB P call G W Wn ia)) (hb : PSs X b (tB P call G W Wn ib)) : PS X (.If c a b pos) (tS P call G W Wn (.ite ec ia ib)) := by
  refine PSimp (ps_if hc ha hb) fun E σ H ⟨En, lσ, hp, ⟨ρ, Hf, A⟩, q⟩ => ?_
  simp only [exS] at q
  refine go_sT A q fun k h1 ρ1 Hf1 H1 A1 N1 q => ?_
  cases k with
  | true => exact ⟨En, lσ, h1, ⟨ρ1, Hf1, A1⟩, q⟩
  | false => exact ⟨En, lσ, h1, ⟨ρ1, Hf1, A1⟩, q⟩
theorem ks_while (C : KCx X P call G W CX D T0) {c : Expr} {b : List Stmt} {ec : Kb.E} {ib : B} {pos : Pos} (hc : PT X c (tTe P call G W ec)) (hb : PSs X b (tB P call G W Wn ib)) : PS X (.While c b [] pos) (tS P call G W Wn (.whl ec ib)) := by
  refine PSimp (ps_while C.own hc hb) fun E σ H ⟨En, lσ, hp, A, q⟩ => ?_
  simp only [exS] at q
  refine ⟨fun m σ H => ∃ lσ hp, St1 G En lσ hp σ H ∧ PostS G W En E (whlG (fun σ h => evT P call ec σ h) (fun σ h => exB P call Wn ib σ h) m lσ hp), ⟨Wn, lσ, hp, A, q⟩, ?_⟩
  intro m σ H ⟨lσ, hp, ⟨ρ, Hf, A⟩, q⟩
  cases m with
  | zero => exact q.elim
  | succ m =>
    simp only [whlG] at q
    refine go_sT A q fun k h1 ρ1 Hf1 H1 A1 N1 q => ?_
    cases k with
    | false => exact q _ _ ⟨ρ1, Hf1, A1⟩
    | true =>
      simp only [if_true] at q ⊢
      refine ⟨fun σ' H' => ∃ lσ hp, St1 G En lσ hp σ' H' ∧ PostS G W En E (whlG (fun σ h => evT P call ec σ h) (fun σ h => exB P call Wn ib σ h) m lσ hp), fun σ' H' h => ⟨m, Nat.lt_succ_self _, h⟩, En, lσ, h1, ⟨ρ1, Hf1, A1⟩, ?_⟩
      cases hr : exB P call Wn ib lσ h1 with
      | nx lσ' h' => rw [hr] at q; exact fun σ' H' A' => ⟨lσ', h', A', q⟩
      | ct lσ' h' => rw [hr] at q; exact fun σ' H' A' => ⟨lσ', h', A', q⟩
      | bk lσ' h' => rw [hr] at q; exact q
      | rt t h' => rw [hr] at q; exact q
      | err c fs lσ' h' => rw [hr] at q; exact q
      | stuck => rw [hr] at q; exact q
theorem ckS_nil (r : RS) : ckS [] r = r := by
  have c : ∀ h : Hl, chk [] h := fun h p hp => by simp at hp
  cases r <;> first | rfl | exact if_pos (c _)
theorem forC_ck {gs : List (Nat × List T)} {f : Sl → Hl → RS} {tg : List Nat} {xs : List T} {σ : Sl} {h : Hl} {En : Ent} {W : WX} {E : Ends} (q : PostS G W En E (forC gs f tg xs σ h)) : chk gs h ∧ PostS G W En E (forG (fun σ h => ckS gs (f σ h)) tg xs σ h) := by
  cases gs with
  | nil =>
    refine ⟨fun p hp => by simp at hp, ?_⟩
    have e : (fun σ h => ckS [] (f σ h)) = f := by funext σ h; exact ckS_nil _
    rw [e]; exact q
  | cons g gs =>
    simp only [forC] at q
    split at q
    · rename_i c; exact ⟨c, q⟩
    · exact q.elim
theorem for_imp {it : It} {tg : List Nat} {ib : B} (E : Ends) (σ : L2.St) (H : Hp) : tS P call G W Wn (.forS tg it ib) E σ H → tFor (tI P call G W it) (tG G.K tg) (tB P call G W Wn ib) E σ H := fun ⟨En, lσ, hp, ⟨ρ, Hf, A⟩, q⟩ => by
  simp only [exS] at q
  refine go_sI A q fun xs h1 ρ1 Hf1 J H1 A1 N1 wk q => ?_
  obtain ⟨Gd, Y, wlk, gd, yy⟩ := wk
  generalize gdI it lσ hp = gs at q gd yy
  obtain ⟨hc1, q⟩ := forC_ck q
  have up : ∀ {lσ hp σ H}, St1 G { En with ρa := ρ1, Ha := Hf1 } lσ hp σ H → St1 G En lσ hp σ H := fun {lσ hp σ H} ⟨ρ', Hf', A'⟩ =>
    ⟨ρ', Hf', A'.S, A'.L, A'.N, A'.O, A'.x, (let ⟨l, e⟩ := A1.pr; let ⟨m, e2⟩ := A'.pr; ⟨l ++ m, by rw [e2, e, List.append_assoc]⟩), A1.ex.trans A'.ex⟩
  refine for_it wlk (fun i σ H => ∃ lσ2 h2, St1 G { En with ρa := ρ1, Ha := Hf1 } lσ2 h2 σ H ∧ chk gs h2 ∧ PostS G W En E (forG (fun σ h => ckS gs (exB P call Wn ib σ h)) tg (xs.drop i) lσ2 h2)) ?_ ?_ ?_ ?_
  · exact ⟨lσ, h1, ⟨ρ1, Hf1, A1.S, A1.L, A1.N, A1.O, A1.x, ⟨[], by simp⟩, Ex.refl _⟩, hc1, q⟩
  · intro i σ H _ ⟨lσ2, h2, ⟨ρ2, Hf2, A2⟩, c2, _⟩
    exact gd _ ρ2 Hf2 h2 H A2.pr A2.ex A2.S c2
  · intro i x σ H H' hi' ⟨lσ2, h2, ⟨ρ2, Hf2, A2⟩, c2, q⟩ hy
    obtain ⟨t, et, item⟩ := yy i _ ρ2 Hf2 h2 H x H' A2.pr A2.ex A2.S c2 hy
    obtain ⟨Hf3, N3, S3, rt⟩ := item.go A2.S ⟨[], by simp⟩ (Ex.refl _)
    have ed : xs.drop i = t :: xs.drop (i + 1) := by
      obtain ⟨hl, hx⟩ := List.getElem?_eq_some_iff.mp et
      rw [List.drop_eq_getElem_cons hl, hx]
    rw [ed] at q
    simp only [forG] at q
    split at q
    · cases es : setT tg t lσ2 with
      | none => rw [es] at q; exact q.elim
      | some lσ3 =>
        rw [es] at q
        simp only at q
        have A3 := A2.nxt N3 S3
        refine A3.tgt rfl es rt fun σ' A4 => ⟨{ En with ρa := ρ1, Ha := Hf1 }, lσ3, h2, ⟨ρ2, Hf3, A4⟩, ?_⟩
        cases hr : exB P call Wn ib lσ3 h2 with
        | nx lσ' h' =>
          rw [hr] at q
          by_cases c : chk gs h'
          · rw [show ckS gs (.nx lσ' h') = .nx lσ' h' from if_pos c] at q
            exact fun σ' H' A' => ⟨lσ', h', A', c, q⟩
          · rw [show ckS gs (.nx lσ' h') = .stuck from if_neg c] at q
            exact q.elim
        | ct lσ' h' =>
          rw [hr] at q
          by_cases c : chk gs h'
          · rw [show ckS gs (.ct lσ' h') = .ct lσ' h' from if_pos c] at q
            exact fun σ' H' A' => ⟨lσ', h', A', c, q⟩
          · rw [show ckS gs (.ct lσ' h') = .stuck from if_neg c] at q
            exact q.elim
        | bk lσ' h' => rw [hr] at q; exact fun σ' H' A' => q σ' H' (up A')
        | rt t h' => rw [hr] at q; exact q
        | err c fs lσ' h' =>
          rw [hr] at q
          intro σ' ρ' Hf' H' d gs A' e1 e2
          exact q σ' ρ' Hf' H' d gs ⟨A'.S, A'.L, A'.N, A'.O, A'.x, (let ⟨l, e⟩ := A1.pr; let ⟨m, e2⟩ := A'.pr; ⟨l ++ m, by rw [e2, e, List.append_assoc]⟩), A1.ex.trans A'.ex⟩ e1 e2
        | stuck => rw [hr] at q; exact q
    · exact q.elim
  · intro σ H ⟨lσ2, h2, A2, _, q⟩
    rw [List.drop_eq_nil_of_le (Nat.le_refl _)] at q
    exact q _ _ (up A2)
theorem ks_for (C : KCx X P call G W CX D T0) {tgE iter : Expr} {b : List Stmt} {it : It} {tg : List Nat} {ib : B} {pos : Pos} (hi : PI X tgE iter (tI P call G W it)) (hg : PG X tgE (tG G.K tg)) (hb : PSs X b (tB P call G W Wn ib))
    (hs : ∀ x, foldedSetIterable iter X.env x = pure x := by intro _; rfl) (hT : T0.fn.isEmpty = false := by first | assumption | rfl) : PS X (.For tgE iter b [] pos) (tS P call G W Wn (.forS tg it ib)) :=
  PSimp (ps_for C.own (C.calm hT) hi hg hb hs) fun E σ H q => for_imp E σ H q
/-- a try whose handlers never run -/
theorem ks_try {b : List Stmt} {h0 : ExceptHandler} {hs : List ExceptHandler} {ib : B} {pos : Pos} (hb : PSs X.nox b (tB P call G WF Wn ib)) : PS X (.Try b (h0 :: hs) [] [] pos) (tS P call G W Wn (.tryN ib)) := by
  refine PSimp (ps_try_thru0 hb) fun E σ H ⟨En, lσ, hp, A, q⟩ => ⟨En, lσ, hp, A, ?_⟩
  simp only [exS] at q
  cases hr : exB P call Wn ib lσ hp with
  | nx lσ' h' => rw [hr] at q; exact q
  | ct lσ' h' => rw [hr] at q; exact q
  | bk lσ' h' => rw [hr] at q; exact q
  | rt t h' => rw [hr] at q; exact q
  | err c fs lσ' h' => rw [hr] at q; exact q.elim
  | stuck => rw [hr] at q; exact q
theorem KCx.nox (C : KCx X P call G W CX D T0) : KCx X.nox P call G WF CX D T0 where
  hK := C.hK
  calm := C.calm
  room := C.room
  rmH := C.rmH
  hot := C.hot
  hfn := C.hfn
  nm := C.nm
  kd := C.kd
  pas := fun σ pins H s e s' I h => C.nil _ _ _ _ _ h
  nil := C.nil
  nN := C.nN
  own := PassesOwn.never
  fn := C.fn
  mt := C.mt
  ini := C.ini
  cl := C.cl
  na := C.na
  sf := C.sf
  nq := C.nq
  tk := fun _ _ x => by
    obtain ⟨_, _, _, _, _, _, _, _, _, _, _, _, _, _, _, _, z⟩ := x
    exact z.elim
/-! ### changes -/
theorem RepB.updR {t : T} {v : Vv} {a : Addr} {o : HO} (r : RepB G ρ Hf H t v) (na : isBor t = true → v ≠ .ref a) : RepB G ρ Hf (upd H a o) t v := by
  cases t with
  | bL xs =>
    obtain ⟨b, vs, rfl, h, r, f, m⟩ := r
    exact ⟨b, vs, rfl, by rw [upd_ne (fun z => na rfl (by rw [z]))]; exact h, r, f, m⟩
  | bD xs =>
    obtain ⟨b, vs, rfl, h, r, f, m⟩ := r
    exact ⟨b, vs, rfl, by rw [upd_ne (fun z => na rfl (by rw [z]))]; exact h, r, f, m⟩
  | bI c fs =>
    obtain ⟨b, dx, vs, rfl, h, r, f, m, k⟩ := r
    exact ⟨b, dx, vs, rfl, by rw [upd_ne (fun z => na rfl (by rw [z]))]; exact h, r, f, m, k⟩
  | _ => exact r
theorem RepB.off {t : T} {v : Vv} (r : RepB G ρ Hf H t v) (b : isBor t = true) : ∃ a o, v = .ref a ∧ H a = some o ∧ Hf a = none ∧ a ∉ ρ := by
  cases t <;> first | (simp [isBor] at b; done) | skip
  · obtain ⟨d, vs, e, h, _, f, m⟩ := r; exact ⟨d, _, e, h, f, m⟩
  · obtain ⟨d, vs, e, h, _, f, m⟩ := r; exact ⟨d, _, e, h, f, m⟩
  · obtain ⟨d, dx, vs, e, h, _, f, m, _⟩ := r; exact ⟨d, _, e, h, f, m⟩
theorem StA.setCell (A : StA G En ρ Hf lσ hp σ H) {n : Nat} {a : Addr} {c : C} {o : HO} (ha : ρ[n]? = some a) (hc : CellR G ρ Hf (upd H a o) a c) : StA G En ρ Hf lσ (hp.set n c) σ (upd H a o) := by
  have hn : n < hp.length := by rw [← A.S.len]; exact (List.getElem?_eq_some_iff.mp ha).1
  have fa := (A.S.cell n a hp[n] ha (List.getElem?_eq_getElem hn)).2
  have ma : a ∈ ρ := List.mem_of_getElem? ha
  refine ⟨⟨A.S.ex.updR fa, by rw [List.length_set]; exact A.S.len, A.S.nd, fun m b cc e1 e2 => ?_, fun b u e => ?_⟩, ⟨A.L.len, fun i t e => ?_, A.L.sep⟩, ⟨A.N.pre, A.N.hf, fun b u e nb nx => ?_, A.N.nw, A.N.hn⟩, A.O, A.x, A.pr, A.ex⟩
  · by_cases q : n = m
    · subst q
      rw [ha] at e1; cases e1
      rw [List.getElem?_set_self hn] at e2; cases e2
      exact ⟨hc, fa⟩
    · rw [List.getElem?_set_ne q] at e2
      obtain ⟨h1, h2⟩ := A.S.cell m b cc e1 e2
      have nb : b ≠ a := fun z => by
        subst z
        obtain ⟨l1, g1⟩ := List.getElem?_eq_some_iff.mp ha
        obtain ⟨l2, g2⟩ := List.getElem?_eq_some_iff.mp e1
        exact q ((List.getElem_inj A.S.nd).mp (g1.trans g2.symm))
      exact ⟨h1.mono ⟨[], by simp⟩ (Ex.refl _) fun u z => by rw [upd_ne nb]; exact z, h2⟩
  · by_cases z : b = a
    · subst z; exact ⟨_, upd_same⟩
    · obtain ⟨u', h'⟩ := A.S.dom b u e
      exact ⟨u', by rw [upd_ne z]; exact h'⟩
  · obtain ⟨v, h1, h2⟩ := A.L.slot i t e
    refine ⟨v, h1, h2.updR fun b z => ?_⟩
    obtain ⟨d, _, e1, _, _, m⟩ := h2.off b
    rw [e1] at z; cases z
    exact m ma
  · have nb2 : b ≠ a := fun z => by
      subst z
      have := A.N.nw b ma nb
      rw [e] at this; cases this
    rw [upd_ne nb2]; exact A.N.fr b u e nb nx
theorem StA.setOwn (A : StA G En ρ Hf lσ hp σ H) {i : Nat} {t t' : T} {a : Addr} {o : HO} (hi : lσ[i]? = some (some t)) (b : isBor t = true) (hs : σ[i]? = some (some (.ref a))) (b' : isBor t' = true) (kk : isInsT t = isInsT t') (r' : RepB G ρ Hf (upd H a o) t' (.ref a)) :
    StA G En ρ Hf (lσ.set i (some t')) hp σ (upd H a o) := by
  obtain ⟨v, h1, h2⟩ := A.L.slot i t hi
  rw [hs] at h1; cases h1
  obtain ⟨d, o1, e1, hd, fa, ma⟩ := h2.off b
  cases e1
  have hl := (List.getElem?_eq_some_iff.mp hi).1
  have self : ∀ {j : Nat} {u : T}, (lσ.set i (some t'))[j]? = some (some u) → (i = j ∧ u = t') ∨ (i ≠ j ∧ lσ[j]? = some (some u)) := fun {j u} e => by
    by_cases q : i = j
    · subst q
      rw [List.getElem?_set_self hl] at e
      cases e
      exact .inl ⟨rfl, rfl⟩
    · rw [List.getElem?_set_ne q] at e
      exact .inr ⟨q, e⟩
  refine ⟨A.S.setX fa ma, ⟨by rw [List.length_set]; exact A.L.len, fun j u e => ?_, fun j k t1 u1 c hjk e1 e2 b1 b2 s1 s2 => ?_⟩, ⟨A.N.pre, A.N.hf, fun b2 u e nb nx => ?_, A.N.nw, A.N.hn⟩, fun j u c e bo s => ?_, A.x, A.pr, A.ex⟩
  · rcases self e with ⟨rfl, rfl⟩ | ⟨q, e⟩
    · exact ⟨_, hs, r'⟩
    · obtain ⟨w, h3, h4⟩ := A.L.slot j u e
      exact ⟨w, h3, h4.updR fun bu z => by subst z; exact A.L.sep i j t u a q hi e b bu hs h3⟩
  · rcases self e1 with ⟨p1, g1⟩ | ⟨p1, f1⟩
    · subst p1
      rcases self e2 with ⟨p2, _⟩ | ⟨p2, f2⟩
      · exact hjk p2
      · exact A.L.sep i k t u1 c p2 hi f2 b b2 s1 s2
    · rcases self e2 with ⟨p2, g2⟩ | ⟨p2, f2⟩
      · subst p2
        exact A.L.sep j i t1 t c (fun z => p1 z.symm) f1 hi b1 b s1 s2
      · exact A.L.sep j k t1 u1 c hjk f1 f2 b1 b2 s1 s2
  · have n2 : b2 ≠ a := fun z => by
      subst z
      rcases A.O i t b2 hi b hs with h | h
      · rw [e] at h; cases h.1
      · exact nx h.1
    rw [upd_ne n2]; exact A.N.fr b2 u e nb nx
  · rcases self e with ⟨rfl, rfl⟩ | ⟨q, e⟩
    · rw [← kk]; exact A.O i t c hi b s
    · exact A.O j u c e bo s
def ipAdd : TIp := fun x y H Q => ipI (fun i j => i + j) x y H Q ∨ ∃ i j, x = .str i ∧ y = .str j ∧ i.length + j.length ≤ sizeLine ∧ Q (.str (i ++ j)) H
theorem ip_addS : PIp X .Add ipAdd := fun pins s σ H x y v u Q I r1 r2 h => by
  rcases h with h | h
  · exact ip_add pins s σ H x y v u Q I r1 r2 h
  · exact iop_add_str pins s σ H x y v u Q I r1 r2 h
theorem ks_augA (C : KCx X P call G W CX D T0) {i : Nat} {x : Str} {e : Expr} {ie : Kb.E} {pos pos' : Pos} (hi : X.N[i]? = some x) (hx : X.env.scope.names.lookup x = some .local) (he : PE X e (tE P call G W ie)) :
    PS X (.AugAssign (.Name x pos') .Add e pos) (tS P call G W Wn (.aug i .add ie)) := by
  refine PSimp (ps_aug C.nN hi (.inl hx) he ip_addS (.inr hx)) fun E σ H ⟨En, lσ, hp, ⟨ρ, Hf, A⟩, q⟩ => ?_
  simp only [exS] at q
  split at q
  · rename_i a ea
    obtain ⟨v, h1, h2⟩ := A.L.slot i _ ea
    obtain rfl := B_int h2
    refine ⟨_, h1, go_sE A q fun t h1 ρ1 Hf1 v H1 A1 N1 r1 q => ?_⟩
    cases t with
    | int b =>
      obtain rfl := B_int r1
      exact .inl ⟨a, b, rfl, rfl, q _ _ ⟨ρ1, Hf1, A1.put (.int _)⟩⟩
    | _ => exact False.elim q
  · rename_i a ea
    obtain ⟨v, h1, h2⟩ := A.L.slot i _ ea
    obtain rfl := B_str h2
    refine ⟨_, h1, go_sE A q fun t h1 ρ1 Hf1 v H1 A1 N1 r1 q => ?_⟩
    cases t with
    | str b =>
      obtain rfl := B_str r1
      simp only at q
      split at q
      · rename_i hl
        refine .inr ⟨strV a, strV b, rfl, rfl, by rw [strV_len, strV_len, ← maxLen_eq]; exact hl, ?_⟩
        rw [← strV_app]
        exact q _ _ ⟨ρ1, Hf1, A1.put (.str _)⟩
      · exact False.elim q
    | _ => exact False.elim q
  · exact False.elim q
theorem ks_augS (C : KCx X P call G W CX D T0) {i : Nat} {x : Str} {e : Expr} {ie : Kb.E} {pos pos' : Pos} (hi : X.N[i]? = some x) (hx : X.env.scope.names.lookup x = some .local) (he : PE X e (tE P call G W ie)) :
    PS X (.AugAssign (.Name x pos') .Sub e pos) (tS P call G W Wn (.aug i .sub ie)) := by
  refine PSimp (ps_aug C.nN hi (.inl hx) he ip_sub (.inr hx)) fun E σ H ⟨En, lσ, hp, ⟨ρ, Hf, A⟩, q⟩ => ?_
  simp only [exS] at q
  split at q
  · rename_i a ea
    obtain ⟨v, h1, h2⟩ := A.L.slot i _ ea
    obtain rfl := B_int h2
    refine ⟨_, h1, go_sE A q fun t h1 ρ1 Hf1 v H1 A1 N1 r1 q => ?_⟩
    cases t with
    | int b =>
      obtain rfl := B_int r1
      exact ⟨a, b, rfl, rfl, q _ _ ⟨ρ1, Hf1, A1.put (.int _)⟩⟩
    | _ => exact False.elim q
  · rename_i a ea
    obtain ⟨v, h1, h2⟩ := A.L.slot i _ ea
    obtain rfl := B_str h2
    refine ⟨_, h1, go_sE A q fun t h1 ρ1 Hf1 v H1 A1 N1 r1 q => ?_⟩
    cases t <;> exact False.elim q
  · exact False.elim q
/-! ### fields -/
theorem setF_rf (C : KCx X P call G W CX D T0) {x : Str} {f n : Nat} {y : T} {v u : Vv} {h2 : Hl} {lσ' : Sl} {h' : Hl} (hx : G.nm[f]? = some x) (hf : T0.fld[f]? = some true) {o : Kb.E} (A2 : StA G En ρ Hf lσ h2 σ H) (r2 : RepB G ρ Hf H (.rf n) u) (ry : Rep G ρ Hf y v) (eq : stF o lσ (.rf n) f y h2 = some (lσ', h')) :
    ∃ a Cc dx gs, u = .ref a ∧ H a = some (.ins Cc dx gs) ∧ L2.Cls X.K Cc ∧ NoAttr X.K Cc x ∧ gs.length < 1000 ∧ St1 G En lσ' h' σ (upd H a (.ins Cc dx (L2.putF x v gs))) := by
  simp only [stF] at eq
  cases hn : h2[n]? with
  | none => rw [hn] at eq; cases eq
  | some cc =>
    rw [hn] at eq
    cases cc with
    | ins c fs =>
      simp only at eq
      split at eq
      · rename_i lt
        cases eq
        obtain ⟨a, ea, ⟨dx, gs, ha, rF, ok⟩, fa⟩ := A2.S.at hn
        obtain ⟨b, rfl, eb⟩ := B_rf r2
        rw [ea] at eb; cases eb
        exact ⟨a, _, dx, gs, rfl, ha, C.cl c ok, C.na c f x ok hf hx, by rw [← rF.len]; omega, ⟨ρ, Hf, A2.setCell ea ⟨dx, _, upd_same, RepF.put C.nm hx ry rF, ok⟩⟩⟩
      · cases eq
    | lst xs => cases eq
    | dct kvs => cases eq
def isVarE : Kb.E → Bool
  | .var _ => true | _ => false
/-- o.f = e, o no name -/
theorem ks_setF (C : KCx X P call G W CX D T0) {o e : Expr} {io ie : Kb.E} {x : Str} {f : Nat} {pos pos' : Pos} (hx : G.nm[f]? = some x) (hf : T0.fld[f]? = some true) (ho : PE X o (tE P call G W io)) (he : PE X e (tE P call G W ie)) (hv : isVarE io = false := by rfl) (hs : swapsWith e (some (.Attribute o x pos')) pos.line X.env = pure false := by rfl) :
    PS X (.Assign [.Attribute o x pos'] e pos) (tS P call G W Wn (.setF io f ie)) := by
  refine PSimp (ps_fld ho he hs) fun E σ H ⟨En, lσ, hp, ⟨ρ, Hf, A⟩, q⟩ => ?_
  simp only [exS] at q
  refine go_sE A q fun y h1 ρ1 Hf1 v H1 A1 N1 r1 q => ?_
  refine go_sE A1 q fun t h2 ρ2 Hf2 u H2 A2 N2 r2 q => ?_
  split at q
  · rename_i py
    have ry := ((r1.nx N2).plain py)
    split at q
    · rename_i σ' h' eq
      cases t with
      | rf n =>
        obtain ⟨a, Cc, dx, gs, e1, e2, e3, e4, e5, e6⟩ := setF_rf C hx hf A2 r2 ry eq
        exact ⟨a, Cc, dx, gs, e1, e2, e3, e4, e5, q _ _ e6⟩
      | bI c fs => cases io <;> first | (simp [stF] at eq; done) | (simp [isVarE] at hv)
      | _ => simp [stF] at eq
    · exact False.elim q
  · exact False.elim q
/-- name.f = e -/
theorem ks_setFv (C : KCx X P call G W CX D T0) {i : Nat} {z : Str} {e : Expr} {ie : Kb.E} {x : Str} {f : Nat} {pos pos' pz : Pos} (hx : G.nm[f]? = some x) (hf : T0.fld[f]? = some true) (hN : X.N[i]? = some z) (hvis : visC X.env.scope z = true) (he : PE X e (tE P call G W ie)) (hd : (z == ("__debug__" : Str)) = false := by decide +kernel) (hcd : (z == ("__classdict__" : Str)) = false := by decide +kernel)
    (hs : swapsWith e (some (.Attribute (.Name z pz) x pos')) pos.line X.env = pure false := by rfl) : PS X (.Assign [.Attribute (.Name z pz) x pos'] e pos) (tS P call G W Wn (.setF (.var i) f ie)) := by
  refine PSimp (ps_fld (pe_var hN (vis_of hvis) hd hcd) he hs) fun E σ H ⟨En, lσ, hp, ⟨ρ, Hf, A⟩, q⟩ => ?_
  simp only [exS] at q
  refine go_sE A q fun y h1 ρ1 Hf1 v H1 A1 N1 r1 q => ?_
  simp only [evE] at q
  split at q
  · rename_i t es
    obtain ⟨u, hu, r2⟩ := A1.L.slot i t es
    refine ⟨u, hu, ?_⟩
    simp only [R.toS_ok] at q
    split at q
    · rename_i py
      have ry := r1.plain py
      split at q
      · rename_i σ' h' eq
        cases t with
        | rf n =>
          obtain ⟨a, Cc, dx, gs, e1, e2, e3, e4, e5, e6⟩ := setF_rf C hx hf A1 r2 ry eq
          exact ⟨a, Cc, dx, gs, e1, e2, e3, e4, e5, q _ _ e6⟩
        | bI c fs =>
          simp only [stF] at eq
          split at eq
          · rename_i lt
            cases eq
            obtain ⟨a, dx, gs, rfl, ha, rF, fa, ma, ok⟩ := id r2
            refine ⟨a, _, dx, gs, rfl, ha, C.cl c ok, C.na c f x ok hf hx, by rw [← rF.len]; omega, q _ _ ⟨ρ1, Hf1, A1.setOwn es rfl hu rfl rfl ⟨a, dx, _, rfl, upd_same, RepF.put C.nm hx ry rF, fa, ma, ok⟩⟩⟩
          · cases eq
        | _ => simp [stF] at eq
      · exact False.elim q
    · exact False.elim q
  · exact False.elim q
/-! ### items -/
theorem setI_rf {n : Nat} {y : T} {v u w : Vv} {t : T} {h2 : Hl} {lσ' : Sl} {h' : Hl} {o : Kb.E} (A2 : StA G En ρ Hf lσ h2 σ H) (r2 : RepB G ρ Hf H (.rf n) u) (rk : RepB G ρ Hf H t w) (ry : Rep G ρ Hf y v) (eq : putI o lσ (.rf n) t y h2 = some (lσ', h')) :
    ∃ a vs i j, u = .ref a ∧ w = .int i ∧ H a = some (.lst vs) ∧ L2.ixN vs.length i = some j ∧ St1 G En lσ' h' σ (upd H a (.lst (vs.set j v))) := by
  simp only [putI] at eq
  cases hn : h2[n]? with
  | none => rw [hn] at eq; cases eq
  | some cc =>
    rw [hn] at eq
    cases cc with
    | lst xs =>
      simp only at eq
      cases t <;> first | (simp at eq; done) | skip
      rename_i i
      simp only [Option.map_eq_some_iff] at eq
      obtain ⟨j, ej, eq⟩ := eq
      cases eq
      obtain ⟨a, ea, ⟨vs, ha, rF⟩, fa⟩ := A2.S.at hn
      obtain ⟨b, rfl, eb⟩ := B_rf r2
      rw [ea] at eb; cases eb
      exact ⟨a, vs, i, j, rfl, B_int rk, ha, by rw [← rF.length]; exact ej, ⟨ρ, Hf, A2.setCell ea ⟨_, upd_same, rF.set ry j⟩⟩⟩
    | ins c fs => cases eq
    | dct kvs => cases eq
theorem ks_setI (C : KCx X P call G W CX D T0) {o i e : Expr} {io ii ie : Kb.E} {pos pos' : Pos} (ho : PE X o (tE P call G W io)) (hi : PE X i (tE P call G W ii)) (he : PE X e (tE P call G W ie)) (hv : isVarE io = false := by rfl)
    (ha : ∀ v, assign (.Subscript o i pos') X.env v = (do
      let ov ← holding [v] (eval o X.env)
      let iv ← holding [v, ov] (eval i X.env)
      standAt pos'
      holding [v, ov, iv] (setItem ov iv v)
      release [v, ov, iv] []) := by intro _; rfl) (hs : swapsWithSole [.Subscript o i pos'] e pos.line X.env = pure false := by rfl) (hw : swappedStores [.Subscript o i pos'] e X.env = pure none := by rfl)
    (h1 : (assignEach [.Subscript o i pos'] X.env).map (·.2) = [assign (.Subscript o i pos') X.env] := by rfl) : PS X (.Assign [.Subscript o i pos'] e pos) (tS P call G W Wn (.setI io ii ie)) := by
  refine PSimp (ps_asg he (pg_sub ho hi set_list ha) hs hw h1) fun E σ H ⟨En, lσ, hp, ⟨ρ, Hf, A⟩, q⟩ => ?_
  simp only [exS] at q
  refine go_sE A q fun y h1 ρ1 Hf1 v H1 A1 N1 r1 q => ?_
  refine go_sE A1 q fun t h2 ρ2 Hf2 u H2 A2 N2 r2 q0 => ?_
  refine go_sE A2 q0 fun k h3 ρ3 Hf3 w H3 A3 N3 r3 q => ?_
  clear q0
  split at q
  · rename_i py
    have ry := ((r1.nx N2).nx N3).plain py
    split at q
    · rename_i σ' h' eq
      cases t with
      | rf n =>
        obtain ⟨a, vs, i, j, e1, e2, e3, e4, e5⟩ := setI_rf A3 (r2.nx N3) r3 ry eq
        exact ⟨a, vs, i, j, e1, e2, e3, e4, q _ _ e5⟩
      | bL xs => cases io <;> first | (simp [putI] at eq; done) | (simp [isVarE] at hv)
      | bD xs => cases io <;> first | (simp [putI] at eq; done) | (simp [isVarE] at hv)
      | _ => simp [putI] at eq
    · exact False.elim q
  · exact False.elim q
theorem ks_setIv (C : KCx X P call G W CX D T0) {i e : Expr} {ii ie : Kb.E} {s0 : Nat} {z : Str} {pos pos' pz : Pos} (hN : X.N[s0]? = some z) (hvis : visC X.env.scope z = true) (hi : PE X i (tE P call G W ii)) (he : PE X e (tE P call G W ie)) (hd : (z == ("__debug__" : Str)) = false := by decide +kernel) (hcd : (z == ("__classdict__" : Str)) = false := by decide +kernel)
    (ha : ∀ v, assign (.Subscript (.Name z pz) i pos') X.env v = (do
      let ov ← holding [v] (eval (.Name z pz) X.env)
      let iv ← holding [v, ov] (eval i X.env)
      standAt pos'
      holding [v, ov, iv] (setItem ov iv v)
      release [v, ov, iv] []) := by intro _; rfl) (hs : swapsWithSole [.Subscript (.Name z pz) i pos'] e pos.line X.env = pure false := by rfl) (hw : swappedStores [.Subscript (.Name z pz) i pos'] e X.env = pure none := by rfl)
    (h1 : (assignEach [.Subscript (.Name z pz) i pos'] X.env).map (·.2) = [assign (.Subscript (.Name z pz) i pos') X.env] := by rfl) : PS X (.Assign [.Subscript (.Name z pz) i pos'] e pos) (tS P call G W Wn (.setI (.var s0) ii ie)) := by
  refine PSimp (ps_asg he (pg_sub (pe_var hN (vis_of hvis) hd hcd) hi set_list ha) hs hw h1) fun E σ H ⟨En, lσ, hp, ⟨ρ, Hf, A⟩, q⟩ => ?_
  simp only [exS] at q
  refine go_sE A q fun y h1 ρ1 Hf1 v H1 A1 N1 r1 q => ?_
  simp only [evE] at q
  split at q
  · rename_i t es
    obtain ⟨u, hu, r2⟩ := A1.L.slot s0 t es
    refine ⟨u, hu, ?_⟩
    simp only [R.toS_ok] at q
    have q0 := q
    clear q
    refine go_sE A1 q0 fun k h3 ρ3 Hf3 w H3 A3 N3 r3 q => ?_
    clear q0
    split at q
    · rename_i py
      have ry := (r1.nx N3).plain py
      split at q
      · rename_i σ' h' eq
        cases t with
        | rf n =>
          obtain ⟨a, vs, i, j, e1, e2, e3, e4, e5⟩ := setI_rf A3 (r2.nx N3) r3 ry eq
          exact ⟨a, vs, i, j, e1, e2, e3, e4, q _ _ e5⟩
        | bL xs =>
          cases k <;> first | (simp [putI] at eq; done) | skip
          rename_i ki
          simp only [putI, Option.map_eq_some_iff] at eq
          obtain ⟨j, ej, eq⟩ := eq
          cases eq
          obtain ⟨a, vs, rfl, ha, rF, fa, ma⟩ := id (r2.nx N3)
          exact ⟨a, vs, ki, j, rfl, B_int r3, ha, by rw [← rF.length]; exact ej, q _ _ ⟨ρ3, Hf3, A3.setOwn es rfl hu rfl rfl ⟨a, _, rfl, upd_same, rF.set ry j, fa, ma⟩⟩⟩
        | _ => simp [putI] at eq
      · exact False.elim q
    · exact False.elim q
  · exact False.elim q
/-! ### methods that change a list -/
def idM : MB → String
  | .append => "list.append" | .extend => "list.extend" | .pop => "list.pop" | .popAt => "list.pop" | .reverse => "list.reverse" | .clear => "list.clear" | .insert => "list.insert" | .sort => "list.sort"
def rMb (X : Cx) (G : Gm) (b : MB) : V → List V → Hp → VK → Prop := fun x us H Q => X.K = G.K ∧ ∃ Z ρ Hf hp a ws xs vs v xs', x = .ref a ∧ Sto G Z ρ Hf hp H ∧ H a = some (.lst ws) ∧ Reps G ρ Hf xs ws ∧ RepBs G ρ Hf H vs us ∧ mbT b xs vs hp = some (v, xs') ∧ ∀ w ws', Reps G ρ Hf xs' ws' → Rep G ρ Hf v w → Q w (upd H a (.lst ws'))
theorem vals_nil {us : List V} (r : RepBs G ρ Hf H [] us) : us = [] := by cases r; rfl
theorem vals_two {t u : T} {vs : List Vv} (r : RepBs G ρ Hf H [t, u] vs) : ∃ v w, vs = [v, w] ∧ RepB G ρ Hf H t v ∧ RepB G ρ Hf H u w := by
  cases r with
  | cons h q => cases q with
    | cons h2 q2 => cases q2; exact ⟨_, _, rfl, h, h2⟩
theorem reps_take : ∀ {ts : List T} {vs : List Vv}, Reps G ρ Hf ts vs → ∀ n, Reps G ρ Hf (ts.take n) (vs.take n)
  | [], _, r, n => by cases r; cases n <;> exact .nil
  | t :: ts, _, r, n => by
    cases r with
    | cons h q => cases n with
      | zero => exact .nil
      | succ n => exact .cons h (reps_take q n)
theorem reps_drop : ∀ {ts : List T} {vs : List Vv}, Reps G ρ Hf ts vs → ∀ n, Reps G ρ Hf (ts.drop n) (vs.drop n)
  | [], _, r, n => by cases r; cases n <;> exact .nil
  | t :: ts, _, r, n => by
    cases r with
    | cons h q => cases n with
      | zero => exact .cons h q
      | succ n => exact reps_drop q n
section
open PySem.AutoSeq1 (wpAny_loadPart')
theorem extend_tup (l : Addr) (items : Array Value) (n : Nat) (b : Addr) (items2 : Array Value) (n2 : Nat) (dd : Option Addr) (sl : Array (Option Value)) (hs0 : ¬(!items.isEmpty && Builtin.List.listTooLong (items.size + items2.size)) = true) (hs1 : items.size ≤ sizeLine) (hs2 : items.size + items2.size ≤ sizeLine + 1) :
    Meets (Builtin.«list.extend» ⟨[.ref l, .ref b], []⟩) (fun _ R s => s.heap.get? l = some { cls := .type "list", dict := none, data := .seq items n, slots := #[] } ∧ s.heap.get? b = some { cls := .type "tuple", dict := dd, data := .seq items2 n2, slots := sl } ∧ R (.ok (.ret Value.none)) { s with heap := s.heap.update l (Obj.mapSeq fun x => x ++ items2), toks := s.toks }) :=
  .of_wp fun prog w A R s h => by
    obtain ⟨hp, g, d, tk, os⟩ := s; obtain ⟨hl, hb, h⟩ := h; have f1 := AutoSeq1.idx_int; have f2 := AutoSeq1.sub_tuple_tuple; have f3 := AutoSeq1.sub_list_list; have f4 := AutoSeq1.sub_tuple_list; have f5 := AutoSeq1.sub_list_tuple;
    have hz' : (items ++ items2).size ≤ sizeLine + 1 := by rw [Array.size_append]; exact hs2
    wp_walk using (wpAny_updateSeq hl rfl (hz := hs1) (_hz' := hz')), wpAny_loadPart' hl, wpAny_loadPart' hb; exact ⟨_, rfl, h⟩
end
def rExtT (X : Cx) : V → List V → Hp → VK → Prop := fun x vs H Q => ∃ l b xs zs, x = .ref l ∧ vs = [.ref b] ∧ H l = some (.lst xs) ∧ SqT X.K H b zs ∧ xs.length + zs.length ≤ sizeLine ∧ Q .non (upd H l (.lst (xs ++ zs)))
theorem mt_extT : MtM X "list.extend" (rExtT X) := by
  intro pins s σ H x vs v us Q I rx rv h
  obtain ⟨l, b, xs, zs, rfl, rfl, hH, hB, hz, q⟩ := h
  cases rx
  obtain ⟨u, rfl, ru⟩ := rv.one
  cases ru
  obtain ⟨z, its, n, r, hl, e⟩ := I.lstM hH
  obtain ⟨its2, r2, ⟨o, e2, ec, n2, ed⟩, z2⟩ := I.tuple hB
  have hl2 : zs.length = its2.length := r2.length
  obtain ⟨oc, od, odt, osl⟩ := o
  simp only at ec ed
  subst ec; subst ed
  have hsz : its.toArray.size + its2.toArray.size ≤ sizeLine := by rw [List.size_toArray, List.size_toArray]; omega
  have hlong : ¬ (!its.toArray.isEmpty && Builtin.List.listTooLong (its.toArray.size + its2.toArray.size)) = true := by
    rw [notLongL hsz, Bool.and_false]
    exact Bool.false_ne_true
  refine call_meets F.slot_list_extend ⟨_, e, rfl⟩ F.entry_list_extend (F.args_list_extend_2 _ _)
    (extend_tup l its.toArray n b its2.toArray n2 _ _ hlong (by rw [List.size_toArray]; omega) (by omega)) ⟨e, e2, ?_⟩
  refine ⟨.non, _, I.lset (its' := its ++ its2) hH e (by simp) (r.append r2) ?_, rfl, q⟩
  rw [List.length_append]
  omega
theorem mt_mb (b : MB) : MtR X (idM b) (rMb X G b) := by
  intro pins s σ H x us vv uus Q I rv rvs h
  obtain ⟨hK, Z, ρ, Hf, hp, a, ws, xs, vs, v, xs', rfl, S, ha, rx, ru, e, q⟩ := h
  cases b with
  | append =>
    match vs, e, ru with
    | [y], e, ru =>
      obtain ⟨w, rfl, ry⟩ := one_of ru
      simp only [mbT] at e
      split at e
      · rename_i ok
        cases e
        simp only [Bool.and_eq_true, decide_eq_true_eq] at ok
        exact mt_append pins s σ H _ _ vv uus Q I rv rvs ⟨a, ws, w, rfl, rfl, ha, by rw [← rx.length, ← maxLen_eq]; exact ok.2, q _ _ (rx.append (.cons (ry.plain ok.1) .nil)) .non⟩
      · cases e
    | [], e, _ => simp [mbT] at e
    | _ :: _ :: _, e, _ => simp [mbT] at e
  | extend =>
    match vs, e, ru with
    | [y], e, ru =>
      obtain ⟨w, rfl, ry⟩ := one_of ru
      simp only [mbT] at e
      split at e
      · rename_i ys ey
        split at e
        · rename_i ok
          cases e
          by_cases ht : ∃ ts, y = .tup ts
          · obtain ⟨ts, rfl⟩ := ht
            cases ey
            obtain ⟨b, zs, rfl, hb, rb⟩ := B_tup ry
            exact mt_extT pins s σ H _ _ vv uus Q I rv rvs ⟨a, b, ws, zs, rfl, rfl, ha, by rw [hK]; exact S.ex.st hb, by rw [← rx.length, ← rb.length, ← maxLen_eq]; exact ok, q _ _ (rx.append rb) .non⟩
          have ey : lstOf' y hp = some ys := by
            cases y <;> first | exact ey | exact absurd ⟨_, rfl⟩ ht
          obtain ⟨b, zs, rfl, hb, rb⟩ := lst'_at S ey ry
          exact mt_extend pins s σ H _ _ vv uus Q I rv rvs ⟨a, b, ws, zs, rfl, rfl, ha, hb, by rw [← rx.length, ← rb.length, ← maxLen_eq]; exact ok, q _ _ (rx.append rb) .non⟩
        · cases e
      · cases e
    | [], e, _ => simp [mbT] at e
    | _ :: _ :: _, e, _ => simp [mbT] at e
  | pop =>
    match vs, e, ru with
    | [], e, ru =>
      obtain rfl := vals_nil ru
      simp only [mbT] at e
      split at e
      · rename_i y ey
        cases e
        rw [List.getLast?_eq_getElem?] at ey
        obtain ⟨w, hw, rw'⟩ := rx.get ey
        exact mt_pop pins s σ H _ _ vv uus Q I rv rvs ⟨a, ws, w, rfl, rfl, ha, by rw [← rx.length]; exact hw, q _ _ rx.dropLast rw'⟩
      · cases e
    | _ :: _, e, _ => simp [mbT] at e
  | popAt =>
    match vs, e, ru with
    | [.int i], e, ru =>
      obtain ⟨w, rfl, ry⟩ := one_of ru
      obtain rfl := B_int ry
      simp only [mbT] at e
      split at e
      · rename_i j ej
        split at e
        · rename_i y ey
          split at e
          · rename_i ok
            cases e
            simp only [decide_eq_true_eq] at ok
            obtain ⟨w, hw, rw'⟩ := rx.get ey
            have hj : seqIndex? i ws.length = some j := by
              rw [← rx.length]
              unfold Kb.ixN at ej
              unfold seqIndex?
              split at ej
              · rename_i h0
                split at ej
                · rename_i h1
                  cases ej
                  simp only [show ¬ (i < 0) by omega, if_false, Bool.and_eq_true, decide_eq_true_eq, if_pos (show 0 ≤ i ∧ i < (xs.length : Int) from ⟨h0, h1⟩)]
                · cases ej
              · rename_i h0
                split at ej
                · rename_i h1
                  cases ej
                  simp only [show (i < 0) by omega, if_true, Bool.and_eq_true, decide_eq_true_eq, if_pos (show 0 ≤ i + (xs.length : Int) ∧ i + (xs.length : Int) < (xs.length : Int) from ⟨by omega, by omega⟩)]
                · cases ej
            exact mt_popAt pins s σ H _ _ vv uus Q I rv rvs ⟨a, ws, i, j, w, rfl, rfl, ha, by omega, by omega, hj, hw, q _ _ (rx.eraseIdx j) rw'⟩
          · cases e
        · cases e
      · cases e
    | [], e, _ => simp [mbT] at e
    | [.non], e, _ => simp [mbT] at e
    | [.bl _], e, _ => simp [mbT] at e
    | [.str _], e, _ => simp [mbT] at e
    | [.lst _], e, _ => simp [mbT] at e
    | [.tup _], e, _ => simp [mbT] at e
    | [.ins _ _], e, _ => simp [mbT] at e
    | [.dct _], e, _ => simp [mbT] at e
    | [.rf _], e, _ => simp [mbT] at e
    | [.kl _], e, _ => simp [mbT] at e
    | [.exc _ _], e, _ => simp [mbT] at e
    | [.bL _], e, _ => simp [mbT] at e
    | [.bD _], e, _ => simp [mbT] at e
    | [.bI _ _], e, _ => simp [mbT] at e
    | _ :: _ :: _, e, _ => simp [mbT] at e
  | reverse =>
    match vs, e, ru with
    | [], e, ru =>
      obtain rfl := vals_nil ru
      simp only [mbT] at e
      cases e
      exact mt_reverse pins s σ H _ _ vv uus Q I rv rvs ⟨a, ws, rfl, rfl, ha, q _ _ rx.rev .non⟩
    | _ :: _, e, _ => simp [mbT] at e
  | clear =>
    match vs, e, ru with
    | [], e, ru =>
      obtain rfl := vals_nil ru
      simp only [mbT] at e
      cases e
      exact mt_clear pins s σ H _ _ vv uus Q I rv rvs ⟨a, ws, rfl, rfl, ha, q _ _ .nil .non⟩
    | _ :: _, e, _ => simp [mbT] at e
  | insert =>
    match vs, e, ru with
    | [.int i, y], e, ru =>
      obtain ⟨w1, w2, rfl, r1, r2⟩ := vals_two ru
      obtain rfl := B_int r1
      simp only [mbT] at e
      split at e
      · rename_i ok
        cases e
        simp only [Bool.and_eq_true, decide_eq_true_eq] at ok
        exact mt_insert pins s σ H _ _ vv uus Q I rv rvs ⟨a, ws, i, w2, rfl, rfl, ha, by rw [← rx.length, ← maxLen_eq]; exact ok.1.1.2, ok.1.2, by have := ok.2; omega, q _ _ (((reps_take rx i.toNat).append (.cons (r2.plain ok.1.1.1) .nil)).append (reps_drop rx i.toNat)) .non⟩
      · cases e
    | [], e, _ => simp [mbT] at e
    | [_], e, _ => simp [mbT] at e
    | [.non, _], e, _ => simp [mbT] at e
    | [.bl _, _], e, _ => simp [mbT] at e
    | [.str _, _], e, _ => simp [mbT] at e
    | [.lst _, _], e, _ => simp [mbT] at e
    | [.tup _, _], e, _ => simp [mbT] at e
    | [.ins _ _, _], e, _ => simp [mbT] at e
    | [.dct _, _], e, _ => simp [mbT] at e
    | [.rf _, _], e, _ => simp [mbT] at e
    | [.kl _, _], e, _ => simp [mbT] at e
    | [.exc _ _, _], e, _ => simp [mbT] at e
    | [.bL _, _], e, _ => simp [mbT] at e
    | [.bD _, _], e, _ => simp [mbT] at e
    | [.bI _ _, _], e, _ => simp [mbT] at e
    | _ :: _ :: _ :: _, e, _ => simp [mbT] at e
  | sort => simp [mbT] at e
theorem mb_rf (hK : X.K = G.K) {n : Nat} {u : Vv} {b : MB} {xs xs' vs : List T} {us : List V} {v : T} {h2 : Hl} (A : StA G En ρ Hf lσ h2 σ H) (r : RepB G ρ Hf H (.rf n) u) (hn : h2[n]? = some (.lst xs)) (ru : RepBs G ρ Hf H vs us) (e : mbT b xs vs h2 = some (v, xs')) {Q : VK}
    (q : ∀ w H', Rep G ρ Hf v w → StA G En ρ Hf lσ (h2.set n (.lst xs')) σ H' → Q w H') : rMb X G b u us H Q := by
  obtain ⟨a, ea, ⟨ws, ha, rF⟩, fa⟩ := A.S.at hn
  obtain ⟨b, rfl, eb⟩ := B_rf r
  rw [ea] at eb; cases eb
  exact ⟨hK, En.H, ρ, Hf, h2, a, ws, xs, vs, v, xs', rfl, A.S, ha, rF, ru, e, fun w ws' r1 r2 => q w _ r2 (A.setCell ea ⟨_, upd_same, r1⟩)⟩
theorem mb_own (hK : X.K = G.K) {i : Nat} {u : Vv} {b : MB} {xs xs' vs : List T} {us : List V} {v : T} {h2 : Hl} (A : StA G En ρ Hf lσ h2 σ H) (es : lσ[i]? = some (some (.bL xs))) (hu : σ[i]? = some (some u)) (ru : RepBs G ρ Hf H vs us) (e : mbT b xs vs h2 = some (v, xs')) {Q : VK}
    (q : ∀ w H', Rep G ρ Hf v w → StA G En ρ Hf (lσ.set i (some (.bL xs'))) h2 σ H' → Q w H') : rMb X G b u us H Q := by
  obtain ⟨u', hu', r⟩ := A.L.slot i _ es
  rw [hu] at hu'; cases hu'
  obtain ⟨a, ws, rfl, ha, rF, fa, ma⟩ := id r
  exact ⟨hK, En.H, ρ, Hf, h2, a, ws, xs, vs, v, xs', rfl, A.S, ha, rF, ru, e, fun w ws' r1 r2 => q w _ r2 (A.setOwn es rfl hu rfl rfl ⟨a, _, rfl, upd_same, r1, fa, ma⟩)⟩
theorem tyV_list {K : PySem.W.Frag} (hK : K = G.K) {t : T} {u : Vv} {h2 : Hl} {xs : List T} {Z : Hp} (S : Sto G Z ρ Hf h2 H) (r : RepB G ρ Hf H t u) (e : lstOf' t h2 = some xs) : tyV K "list" u H := by
  obtain ⟨a, vs, rfl, h, _⟩ := lst'_at S e r
  exact .inl ⟨rfl, vs, .inl (.inl h)⟩
section
variable {o : Expr} {es : List Expr} {name : Str} {pos apos cpos pz : Pos} {b : MB} {io : Kb.E} {ies : Es} {i s0 : Nat} {x z : Str}
/-- the call of the method, in a statement -/
def MCall (X : Cx) (G : Gm) (b : MB) (name : Str) (es : List Expr) (A : TA) (cpos apos : Pos) : Prop :=
  ∀ (o : Expr) (to : TE), PE X o to → attributeBase o name X.env (eval o X.env) = eval o X.env → PE X (.Call (.Attribute o name apos) es [] cpos) (fun σ H Q => to σ H fun x H1 => tyV X.K "list" x H1 ∧ A σ H1 fun us H2 => rMb X G b x us H2 Q)
theorem mc_0 (slot : Slot "list" name (idM b)) (hty : typeOf (.builtin (idM b)) = pure (.type "method_descriptor")) (hline : (apos.endLine == cpos.line) = true := by rfl) : MCall X G b name [] tNil cpos apos := fun o to ho hb =>
  pe_bm0 F.plainAttrs_list slot hty (mt_mb (G := G) b) ho hb hline
theorem mc_1 (slot : Slot "list" name (idM b)) (hty : typeOf (.builtin (idM b)) = pure (.type "method_descriptor")) {e : Expr} (ha : PA X (e :: es) (tEs P call G W ies))
    (hfew : ((backTo cpos (starEach (e :: es) X.env)).all (fun x => !x.1) && (backToKw cpos (keywordEach [] X.env)).all (fun x => x.1.isSome)
      && decide ((e :: es).length + ([] : List Keyword).length + (if ([] : List Keyword).isEmpty then 0 else 1) < 30)) = true := by rfl)
    (hline : (apos.endLine == cpos.line) = true := by rfl) (hs : starEach (e :: es) X.env = (false, eval e X.env) :: starEach es X.env := by rfl) (hplain : (backTo cpos (starEach es X.env)).any (·.1) = false := by rfl) : MCall X G b name (e :: es) (tEs P call G W ies) cpos apos := fun o to ho hb =>
  pe_bm F.plainAttrs_list slot hty (mt_mb (G := G) b) ho ha hb hfew hline hs hplain
theorem mb_onL {t : T} {h : Hl} {f : List T → Option (T × List T)} {r : T × Sl × Hl} (e : onL io lσ t h f = some r) : (∃ n xs v xs', t = .rf n ∧ h[n]? = some (.lst xs) ∧ f xs = some (v, xs') ∧ r = (v, lσ, h.set n (.lst xs'))) ∨ (∃ i xs v xs', io = .var i ∧ t = .bL xs ∧ f xs = some (v, xs') ∧ r = (v, lσ.set i (some (.bL xs')), h)) := by
  unfold onL at e
  cases t with
  | rf n =>
    simp only at e
    split at e
    · rename_i xs hn
      rw [Option.map_eq_some_iff] at e
      obtain ⟨⟨v, xs'⟩, e1, rfl⟩ := e
      exact .inl ⟨n, xs, v, xs', rfl, hn, e1, rfl⟩
    · cases e
  | bL xs =>
    simp only at e
    cases io with
    | var i =>
      simp only [Option.map_eq_some_iff] at e
      obtain ⟨⟨v, xs'⟩, e1, rfl⟩ := e
      exact .inr ⟨i, xs, v, xs', rfl, rfl, e1, rfl⟩
    | _ => cases e
  | _ => cases e
theorem mbT_plain {b : MB} {xs vs xs' : List T} {h : Hl} {v : T} (e : mbT b xs vs h = some (v, xs')) : True := trivial
/-- name.method(..) -/
theorem ks_mbv (C : KCx X P call G W CX D T0) {A0 : TA} (hN : X.N[s0]? = some z) (hvis : visC X.env.scope z = true) (hm : MCall X G b name es A0 cpos apos) (hA : ∀ σ H R, tEs P call G W ies σ H R → A0 σ H R) (hd : (z == ("__debug__" : Str)) = false := by decide +kernel) (hcd : (z == ("__classdict__" : Str)) = false := by decide +kernel)
    (hb : attributeBase (.Name z pz) name X.env (eval (.Name z pz) X.env) = eval (.Name z pz) X.env := by rfl) (hs : swapsWith (.Call (.Attribute (.Name z pz) name apos) es [] cpos) none pos.line X.env = pure false := by rfl) :
    PS X (.Expr (.Call (.Attribute (.Name z pz) name apos) es [] cpos) pos) (tS P call G W Wn (.mb b (.var s0) ies)) := by
  refine PSimp (ps_expr (hm _ _ (pe_var hN (vis_of hvis) hd hcd) hb) hs) fun E σ H ⟨En, lσ, hp, ⟨ρ, Hf, A⟩, q⟩ => ?_
  simp only [exS, evE] at q
  split at q
  · rename_i t es
    obtain ⟨u, hu, r⟩ := A.L.slot s0 t es
    simp only [R.toS_ok] at q
    refine ⟨u, hu, ?_⟩
    split at q
    case isFalse => exact False.elim q
    rename_i hl
    obtain ⟨xs0, e0⟩ := Option.isSome_iff_exists.mp hl
    refine ⟨tyV_list C.hK A.S r e0, hA σ H _ ?_⟩
    have q0 := q
    clear q
    refine go_sEs A q0 fun vs h1 ρ1 Hf1 us H1 A1 N1 r1 q => ?_
    clear q0
    split at q
    · rename_i v σ' h' eq
      rcases mb_onL eq with ⟨n, xs, v', xs', rfl, hn, e1, e2⟩ | ⟨i, xs, v', xs', ei, rfl, e1, e2⟩
      · cases e2
        exact mb_rf C.hK A1 (r.nx N1) hn r1 e1 fun w H' rw A2 => q _ _ ⟨_, _, A2⟩
      · cases e2
        cases ei
        exact mb_own C.hK A1 es hu r1 e1 fun w H' rw A2 => q _ _ ⟨_, _, A2⟩
    · exact False.elim q
  · exact False.elim q
/-- o.method(..), o no name -/
theorem ks_mb (C : KCx X P call G W CX D T0) {A0 : TA} (ho : PE X o (tE P call G W io)) (hm : MCall X G b name es A0 cpos apos) (hA : ∀ σ H R, tEs P call G W ies σ H R → A0 σ H R) (hv : isVarE io = false := by rfl)
    (hb : attributeBase o name X.env (eval o X.env) = eval o X.env := by rfl) (hs : swapsWith (.Call (.Attribute o name apos) es [] cpos) none pos.line X.env = pure false := by rfl) :
    PS X (.Expr (.Call (.Attribute o name apos) es [] cpos) pos) (tS P call G W Wn (.mb b io ies)) := by
  refine PSimp (ps_expr (hm _ _ ho hb) hs) fun E σ H ⟨En, lσ, hp, ⟨ρ, Hf, A⟩, q⟩ => ?_
  simp only [exS] at q
  refine go_sE A q fun t h0 ρ0 Hf0 u H0 A0' N0 r q1 => ?_
  split at q1
  case isFalse => exact False.elim q1
  rename_i hl
  obtain ⟨xs0, e0⟩ := Option.isSome_iff_exists.mp hl
  refine ⟨tyV_list C.hK A0'.S r e0, hA σ H0 _ ?_⟩
  refine go_sEs A0' q1 fun vs h1 ρ1 Hf1 us H1 A1 N1 r1 q2 => ?_
  clear q1 q
  split at q2
  · rename_i v σ' h' eq
    rcases mb_onL eq with ⟨n, xs, v', xs', rfl, hn, e1, e2⟩ | ⟨i, xs, v', xs', ei, rfl, e1, e2⟩
    · cases e2
      exact mb_rf C.hK A1 (r.nx N1) hn r1 e1 fun w H' rw A2 => q2 _ _ ⟨_, _, A2⟩
    · subst ei; cases hv
  · exact False.elim q2
theorem hA_id (σ : L2.St) (H : Hp) (R : List V → Hp → Prop) : tEs P call G W ies σ H R → tEs P call G W ies σ H R := id
theorem hA_nil (σ : L2.St) (H : Hp) (R : List V → Hp → Prop) : tEs P call G W .nil σ H R → tNil σ H R := fun ⟨Z, ρ, Hf, lσ, hp, S, L, h⟩ => h.ret S .nil
/-- y = name.method(..) -/
theorem ks_mbAv (C : KCx X P call G W CX D T0) {A0 : TA} {y : Str} {py : Pos} (hi : X.N[i]? = some y) (hx : X.env.scope.names.lookup y = some .local) (hN : X.N[s0]? = some z) (hvis : visC X.env.scope z = true) (hm : MCall X G b name es A0 cpos apos) (hA : ∀ σ H R, tEs P call G W ies σ H R → A0 σ H R) (hd : (z == ("__debug__" : Str)) = false := by decide +kernel) (hcd : (z == ("__classdict__" : Str)) = false := by decide +kernel)
    (hb : attributeBase (.Name z pz) name X.env (eval (.Name z pz) X.env) = eval (.Name z pz) X.env := by rfl) (hs : swapsWith (.Call (.Attribute (.Name z pz) name apos) es [] cpos) (some (.Name y py)) pos.line X.env = pure false := by rfl) :
    PS X (.Assign [.Name y py] (.Call (.Attribute (.Name z pz) name apos) es [] cpos) pos) (tS P call G W Wn (.mbA i b (.var s0) ies)) := by
  refine PSimp (ps_set C.nN hi (.inl hx) (hm _ _ (pe_var hN (vis_of hvis) hd hcd) hb) hs (.inr hx)) fun E σ H ⟨En, lσ, hp, ⟨ρ, Hf, A⟩, q⟩ => ?_
  simp only [exS, evE] at q
  split at q
  · rename_i t es
    obtain ⟨u, hu, r⟩ := A.L.slot s0 t es
    simp only [R.toS_ok] at q
    refine ⟨u, hu, ?_⟩
    split at q
    case isFalse => exact False.elim q
    rename_i hl
    obtain ⟨xs0, e0⟩ := Option.isSome_iff_exists.mp hl
    refine ⟨tyV_list C.hK A.S r e0, hA σ H _ ?_⟩
    have q0 := q
    clear q
    refine go_sEs A q0 fun vs h1 ρ1 Hf1 us H1 A1 N1 r1 q => ?_
    clear q0
    split at q
    · rename_i v σ' h' eq
      split at q
      · rename_i fr
        rcases mb_onL eq with ⟨n, xs, v', xs', rfl, hn, e1, e2⟩ | ⟨i, xs, v', xs', ei, rfl, e1, e2⟩
        · cases e2
          exact mb_rf C.hK A1 (r.nx N1) hn r1 e1 fun w H' rw A2 => q _ _ ⟨_, _, A2.put rw⟩
        · cases e2
          cases ei
          exact mb_own C.hK A1 es hu r1 e1 fun w H' rw A2 => q _ _ ⟨_, _, A2.put rw⟩
      · exact False.elim q
    · exact False.elim q
  · exact False.elim q
end
/-- what a slot owned stands for ever from now on -/
theorem kb_frz {i : Nat} {b : List Stmt} {ib : B} (h : PSs X b (tB P call G W Wn ib)) : PSs X b (tB P call G W Wn (.cons (.frz i) ib)) := by
  refine PSsimp (pss_lock h) fun E σ H ⟨En, lσ, hp, ⟨ρ, Hf, A⟩, q⟩ => ?_
  simp only [exB, exS] at q
  have key : ∀ {t t' : T} {a : Addr} {o : HO}, lσ[i]? = some (some t) → isBor t = true → isInsT t = false → σ[i]? = some (some (.ref a)) → Hf a = none → a ∉ ρ → (Rep G ρ (upd Hf a o) t' (.ref a)) → St1 G En (lσ.set i (some t')) hp σ (upd H a o) := fun {t t' a o} es b ni hs fa ma r' => by
    have nw : En.H a = none := by
      rcases A.O i t a es b hs with h | h
      · exact h.1
      · rw [ni] at h; cases h.2
    have N2 : Nxt En.x En.ρ En.Hf En.H ρ (upd Hf a o) (upd H a o) := ⟨A.N.pre, A.N.hf.trans (Ex.new fa), fun d u e n x => (by rw [upd_ne (ne_of_none e nw)]; exact A.N.fr d u e n x), A.N.nw, fun d u e n => by
      by_cases z : d = a
      · subst z; exact nw
      · rw [upd_ne z] at e; exact A.N.hn d u e n⟩
    have hl := (List.getElem?_eq_some_iff.mp es).1
    have self : ∀ {j : Nat} {u : T}, (lσ.set i (some t'))[j]? = some (some u) → (i = j ∧ u = t') ∨ (i ≠ j ∧ lσ[j]? = some (some u)) := fun {j u} e => by
      by_cases q : i = j
      · subst q
        rw [List.getElem?_set_self hl] at e
        cases e
        exact .inl ⟨rfl, rfl⟩
      · rw [List.getElem?_set_ne q] at e
        exact .inr ⟨q, e⟩
    have mono : ∀ {u : T} {v : Vv}, RepB G ρ Hf H u v → (isBor u = true → v ≠ .ref a) → RepB G ρ (upd Hf a o) (upd H a o) u v := fun {u v} r na => by
      cases u with
      | bL xs =>
        obtain ⟨d, vs, rfl, h, r, f, m⟩ := r
        have nd : d ≠ a := fun z => na rfl (by rw [z])
        exact ⟨d, vs, rfl, (by rw [upd_ne nd]; exact h), r.mono ⟨[], by simp⟩ (Ex.new fa), by rw [upd_ne nd]; exact f, m⟩
      | bD xs =>
        obtain ⟨d, vs, rfl, h, r, f, m⟩ := r
        have nd : d ≠ a := fun z => na rfl (by rw [z])
        exact ⟨d, vs, rfl, (by rw [upd_ne nd]; exact h), r.mono ⟨[], by simp⟩ (Ex.new fa), by rw [upd_ne nd]; exact f, m⟩
      | bI c fs =>
        obtain ⟨d, dx, vs, rfl, h, r, f, m, k⟩ := r
        have nd : d ≠ a := fun z => na rfl (by rw [z])
        exact ⟨d, dx, vs, rfl, (by rw [upd_ne nd]; exact h), r.mono ⟨[], by simp⟩ (Ex.new fa), by rw [upd_ne nd]; exact f, m, k⟩
      | exc c fs =>
        obtain ⟨z1, z0, z2, gs, z3, q⟩ := r
        exact ⟨z1, z0, z2, gs, Ex.new fa _ _ z3, q.mono ⟨[], by simp⟩ (Ex.new fa)⟩
      | _ => exact Rep.toB (Rep.mono ⟨[], by simp⟩ (Ex.new fa) r)
    refine ⟨ρ, upd Hf a o, (A.S.setX fa ma).frz upd_same fa ma, ⟨by rw [List.length_set]; exact A.L.len, fun j u e => ?_, fun j k t1 u1 c hjk e1 e2 b1 b2 s1 s2 => ?_⟩, N2, fun j u c e bo s => ?_, A.x, A.pr, A.ex.trans (Ex.new fa)⟩
    · rcases self e with ⟨rfl, rfl⟩ | ⟨q, e⟩
      · exact ⟨_, hs, r'.toB⟩
      · obtain ⟨w, h3, h4⟩ := A.L.slot j u e
        exact ⟨w, h3, mono h4 fun bu z => by subst z; exact A.L.sep i j t u a q es e b bu hs h3⟩
    · rcases self e1 with ⟨p1, g1⟩ | ⟨p1, f1⟩
      · rw [g1, r'.nbor] at b1; cases b1
      · rcases self e2 with ⟨p2, g2⟩ | ⟨p2, f2⟩
        · rw [g2, r'.nbor] at b2; cases b2
        · exact A.L.sep j k t1 u1 c hjk f1 f2 b1 b2 s1 s2
    · rcases self e with ⟨rfl, rfl⟩ | ⟨q, e⟩
      · rw [r'.nbor] at bo; cases bo
      · exact A.O j u c e bo s
  split at q
  · rename_i xs es
    obtain ⟨v, hv, r⟩ := A.L.slot i _ es
    obtain ⟨a, vs, rfl, ha, rF, fa, ma⟩ := r
    have eH : upd H a (.lst vs) = H := by
      funext b
      by_cases z : b = a
      · subst z; rw [upd_same]; exact ha.symm
      · exact upd_ne z
    have k := key (o := .lst vs) es rfl rfl hv fa ma (.lst upd_same (rF.mono ⟨[], by simp⟩ (Ex.new fa)))
    rw [eH] at k
    exact .inl ⟨En, _, hp, k, q⟩
  · rename_i xs es
    obtain ⟨v, hv, r⟩ := A.L.slot i _ es
    obtain ⟨a, vs, rfl, ha, rF, fa, ma⟩ := r
    exact .inr ⟨a, _, ha, trivial, fun od => ⟨En, _, hp, key es rfl rfl hv fa ma (.dct upd_same (rF.mono ⟨[], by simp⟩ (Ex.new fa))), q⟩⟩
  · exact False.elim q
end
end Kb
end
section
set_option Elab.async false
set_option linter.all false
set_option maxRecDepth 100000
set_option maxHeartbeats 4000000
set_option autoImplicit false
/-! Kb9: defs by depth; the law's end. -/
namespace Kb
open PySem PySem.Spec PyProof.Rows L2
def lvD (D : Dat) (d : Nat) : Dat := { D with lv := 2 * d + 2 }
def spOf (ini : List (Option Nat)) (G : Gm) (call : Nat → List T → Hl → R T) (f : Nat) : Sp := match ini[f]? with
  | some (some c) => spI G call c f
  | _ => sp G call f
/-- what the top has written -/
structure Stat (K : PySem.W.Frag) (mg : Str → Option Value) (P : Prog) (G : Gm) (D : Dat) (T0 : Tab) (ini : List (Option Nat)) (ok okh : Nat → Prop) : Prop where
  hK : K = G.K
  nm : G.nm.Nodup
  kd : KdOk G
  fn : ∀ (f : Nat) (x : Str), T0.fn[f]? = some (some x) → ok f ∧ (∀ c, ini[f]? ≠ some (some c)) ∧ mg x = some (.ref (D.ad f)) ∧ PySem.W.keepIn K (.ref (D.ad f)) = true ∧ (T0.kw.contains f = false → Binds K (D.fd f) (D.ps f) [])
  mt : ∀ (c : Nat) (kc : Kb.Cls) (m f : Nat) (x : Str), P.cls[c]? = some kc → lkN m kc.meths = some f → G.nm[m]? = some x → G.cok c → ok f ∧ (∀ c, ini[f]? ≠ some (some c)) ∧ Meth K (G.ca c) x (D.ad f) ∧ Binds K (D.fd f) (D.ps f) []
  ini : ∀ (c : Nat) (kc : Kb.Cls) (f : Nat) (x : Str), P.cls[c]? = some kc → kc.init = some f → T0.cn[c]? = some (some x) → ok f ∧ (if kc.mode = 0 then (∀ c, ini[f]? ≠ some (some c)) else ini[f]? = some (some c)) ∧ Mk K (G.ca c) (D.ad f) ∧ mg x = some (.ref (G.ca c)) ∧ G.cok c ∧ (T0.kw.contains f = false → Binds K (D.fd f) (D.ps f) [])
  hf : ∀ (f : Nat) (x : Str), T0.hf[f]? = some (some x) → okh f ∧ mg x = some (.ref (D.ad f)) ∧ PySem.W.keepIn K (.ref (D.ad f)) = true ∧ Binds K (D.fd f) (D.ps f) []
  ne : T0.fn.isEmpty = false
  cl : ∀ c, G.cok c → L2.Cls K (G.ca c)
  na : ∀ (c f : Nat) (x : Str), G.cok c → T0.fld[f]? = some true → G.nm[f]? = some x → NoAttr K (G.ca c) x
  sf : ∀ c, G.cok c → PySem.W.selfFirst K (G.ca c) = true
  nq : ∀ c, G.cok c → PySem.W.findIn K (.ref (G.ca c)) "__ne__" = some (some (.builtin "object.__ne__")) ∧ PySem.W.mroIn K (G.ca c) (.type "object") = some true
theorem spOf_n {ini : List (Option Nat)} {G : Gm} {call : Nat → List T → Hl → R T} {f : Nat} (h : ∀ c, ini[f]? ≠ some (some c)) : spOf ini G call f = sp G call f := by
  unfold spOf
  split
  · rename_i c e; exact absurd e (h c)
  · rfl
theorem spOf_i {ini : List (Option Nat)} {G : Gm} {call : Nat → List T → Hl → R T} {f c : Nat} (h : ini[f]? = some (some c)) : spOf ini G call f = spI G call c f := by
  unfold spOf
  rw [h]
section
variable {Pg : Program} {w : World} {K : PySem.W.Frag} {mg : Str → Option Value} {base : Heap} {P : Prog} {G : Gm} {D : Dat} {T0 : Tab} {ini : List (Option Nat)} {ok okh : Nat → Prop} {Wn d : Nat}
/-- what a def wishes of an error -/
def WE0 (E : XK) : WX := fun c d _ H => E c d H
theorem Stat.kcx {E : XK} (St : Stat K mg P G D T0 ini ok okh) (IH : ∀ f, ok f → FnOk Pg w K mg base (L2N.CX Pg w) (2 * d + 2) (D.ad f) (D.fd f) (D.ps f) (spOf ini G (run P Wn d) f)) (IHh : ∀ f, okh f → L2H.FnH Pg w K mg base CX0 (2 * d + 2) (D.ad f) (D.fd f) (D.ps f) (spH G (run P Wn d) f))
    {X : Cx} (e1 : X.prog = Pg) (e2 : X.w = w) (e3 : X.K = K) (e4 : X.mg = mg) (e5 : X.base = base) (calm : X.calm = true) (room : Room (2 * d + 3) X.A) (nN : X.N.Nodup) (tk : L2N.Takes X (WE0 E)) (own : PassesOwn (model X.prog X.w) X.A X.env X.xe) : KCx X P (run P Wn d) G (WE0 E) (L2N.CX Pg w) (lvD D d) T0 := by
  subst e1 e2 e3 e4 e5
  exact {
    hK := St.hK
    calm := fun _ => calm
    room := fun _ => room
    rmH := L2H.roomH_of room
    hot := fun z => by rw [St.ne] at z; cases z
    hfn := fun f x h => by
      obtain ⟨h1, h2, h3, h4⟩ := St.hf f x h
      exact ⟨IHh f h1, h2, h3, h4⟩
    nm := St.nm
    kd := St.kd
    pas := fun σ => L2N.passAt tk σ
    nil := fun _ _ _ _ _ h => by
      obtain ⟨_, _, _, _, _, _, _, _, _, _, _, _, z⟩ := h
      exact z.elim
    nN := nN
    own := own
    fn := fun f x h => by
      obtain ⟨h1, h2, h3, h4, h5⟩ := St.fn f x h
      have := IH f h1
      rw [spOf_n h2] at this
      exact ⟨this, h3, h4, h5⟩
    mt := fun _ c kc m f x a1 a2 a3 a4 => by
      obtain ⟨h1, h2, h3, h4⟩ := St.mt c kc m f x a1 a2 a3 a4
      have := IH f h1
      rw [spOf_n h2] at this
      exact ⟨this, h3, h4⟩
    ini := fun c kc f x a1 a2 a3 => by
      obtain ⟨h1, h2, h3, h4, h5, h6⟩ := St.ini c kc f x a1 a2 a3
      have := IH f h1
      refine ⟨?_, h3, h4, h5, h6, St.ne⟩
      split at h2
      · rename_i hm
        rw [if_pos hm, ← spOf_n h2]; exact this
      · rename_i hm
        rw [if_neg hm, ← spOf_i h2]; exact this
    cl := St.cl
    na := St.na
    sf := St.sf
    nq := St.nq
    tk := tk }
theorem reps_slots {ρ : List Addr} {Hf H : Hp} {ts : List T} {vs : List V} (r : Reps G ρ Hf ts vs) (n : Nat) (m : Nat) (hm : n ≤ m) : Slots G ρ Hf H (ts.map some ++ List.replicate n none) (vs.map some ++ List.replicate m none) := by
  have key : ∀ (i : Nat) (t : T), (ts.map some ++ List.replicate n none)[i]? = some (some t) → ts[i]? = some t := fun i t e => by
    by_cases q : i < ts.length
    · rw [List.getElem?_append_left (by rw [List.length_map]; exact q), List.getElem?_map] at e
      cases z : ts[i]? with
      | none => rw [z] at e; cases e
      | some u => rw [z] at e; cases e; rfl
    · rw [List.getElem?_append_right (by rw [List.length_map]; omega)] at e
      have := List.mem_of_getElem? e
      rw [List.mem_replicate] at this
      cases this.2
  have nb : ∀ (i : Nat) (t : T), ts[i]? = some t → isBor t = false := fun i t e => let ⟨v, _, h⟩ := r.get e; h.nbor
  refine ⟨?_, fun i t e => ?_, fun i j t u a _ e1 e2 b1 _ _ _ => ?_⟩
  · simp only [List.length_append, List.length_map, List.length_replicate]
    rw [r.length]; omega
  · obtain ⟨v, h1, h2⟩ := r.get (key i t e)
    refine ⟨v, ?_, h2.toB⟩
    rw [List.getElem?_append_left (by rw [List.length_map]; exact (List.getElem?_eq_some_iff.mp h1).1), List.getElem?_map, h1]; rfl
  · rw [nb i t (key i t e1)] at b1; cases b1
/-- a def that may raise -/
theorem funN {name qual : Str} {st : Stmt} {fa : Addr} {fd : FuncData} {N ps : List Str} {k : Nat} {sp : Sp} (F : Fun K name qual st fa fd) (S : FnScope N ps (defScope st)) (len : ∀ vs H Q E, sp vs H Q E → vs.length = ps.length)
    (walk : ∀ (cdv : Value) (A : Around) (outer : List Env) (s : Shared) (H : Hp) (vs : List V) (Q : VK) (E : XK), Room k (A.deeper (envOfC qual (defScope st) s.heap.objs.size fa cdv)) → sp vs H Q E →
      ∃ t, PSs (cxOf (L2N.CX Pg w) Pg w K mg base N qual (defScope st) fa cdv A outer s H E) (defBody st) t ∧ t { nx := fun _ H' => Q .non H', rt := Q } (L2.start N vs) H) : FnOk Pg w K mg base (L2N.CX Pg w) (k + 1) fa fd ps sp := by
  obtain ⟨oc, od, kV, doc, pm, an, cdv, ct, osl, rfl, lk, hcd⟩ := F.ex
  exact fn_of lk hcd S len fun A outer s H vs Q E room h => walk cdv A outer s H vs Q E room h
/-- a def: what its body's reading gives -/
theorem fn_walk {name qual : Str} {st : Stmt} {fa : Addr} {fd : FuncData} {N ps : List Str} {fi : Nat} {kd : Kb.Def} (St : Stat K mg P G D T0 ini ok okh) (IH : ∀ f, ok f → FnOk Pg w K mg base (L2N.CX Pg w) (2 * d + 2) (D.ad f) (D.fd f) (D.ps f) (spOf ini G (run P Wn d) f)) (IHh : ∀ f, okh f → L2H.FnH Pg w K mg base CX0 (2 * d + 2) (D.ad f) (D.fd f) (D.ps f) (spH G (run P Wn d) f))
    (F : Fun K name qual st fa fd) (Sc : FnScope N ps (defScope st)) (hk : P.defs[fi]? = some kd) (hnp : ps.length = kd.np) (hns : kd.ns - kd.np ≤ N.length - ps.length)
    (body : ∀ (cdv : Value) (A : Around) (outer : List Env) (s : Shared) (H : Hp) (E : XK), KCx (cxOf (L2N.CX Pg w) Pg w K mg base N qual (defScope st) fa cdv A outer s H E) P (run P Wn d) G (WE0 E) (L2N.CX Pg w) (lvD D d) T0 →
      PSs (cxOf (L2N.CX Pg w) Pg w K mg base N qual (defScope st) fa cdv A outer s H E) (defBody st) (tB P (run P Wn d) G (WE0 E) Wn kd.body)) :
    FnOk Pg w K mg base (L2N.CX Pg w) (2 * d + 4) fa fd ps (sp G (run P Wn (d + 1)) fi) := by
  have hlen : ∀ ts hp, (∀ (Z : Hp) (E : XK) ρ Hf H Q, Post G Z (fun c d _ H => E c d H) [] (RepB G) ρ Hf H Q (run P Wn (d + 1) fi ts hp) → ts.length = kd.np) := fun ts hp Z E ρ Hf H Q h => by
    simp only [run, hk] at h
    split at h
    · rename_i e; exact e
    · exact h.elim
  refine funN (k := 2 * d + 3) F Sc (fun vs H Q E h => ?_) (fun cdv A outer s H vs Q E hr h => ?_)
  · obtain ⟨Z, ρ, Hf, hp, ts, S, r, h⟩ := h
    rw [← r.length, hlen ts hp Z E ρ Hf H Q h, hnp]
  · obtain ⟨Z, ρ, Hf, hp, ts, S, r, h⟩ := h
    have hl := hlen ts hp Z E ρ Hf H Q h
    have C := St.kcx (Wn := Wn) (E := E) IH IHh (X := cxOf (L2N.CX Pg w) Pg w K mg base N qual (defScope st) fa cdv A outer s H E) rfl rfl rfl rfl rfl rfl hr Sc.nd (L2N.takes_of rfl rfl rfl rfl) (passes_of rfl)
    refine ⟨_, body cdv A outer s H E C, ⟨none, ρ, Hf, H, ρ, Hf⟩, startT kd.np kd.ns ts, hp, ⟨ρ, Hf, S.ofZ fun a o e => ⟨o, e⟩, ?_, .refl, ?_, (fun a e => by cases e), ⟨[], by simp⟩, Ex.refl _⟩, ?_⟩
    · unfold startT L2.start
      exact reps_slots r _ _ (by rw [← r.length, hl, ← hnp]; omega)
    · intro i t a e b s
      obtain ⟨v, h1, h2⟩ := (reps_slots (H := H) r (kd.ns - kd.np) (kd.ns - kd.np) (Nat.le_refl _)).slot i t e
      exfalso
      have key : ts[i]? = some t := by
        have e : (ts.map some ++ List.replicate (kd.ns - kd.np) none)[i]? = some (some t) := e
        by_cases q : i < ts.length
        · rw [List.getElem?_append_left (by rw [List.length_map]; exact q), List.getElem?_map] at e
          cases z : ts[i]? with
          | none => rw [z] at e; cases e
          | some u => rw [z] at e; cases e; rfl
        · rw [List.getElem?_append_right (by rw [List.length_map]; omega)] at e
          have := List.mem_of_getElem? e
          rw [List.mem_replicate] at this
          cases this.2
      obtain ⟨u, _, h3⟩ := r.get key
      rw [h3.nbor] at b; cases b
    · simp only [run, hk, if_pos hl] at h
      have nbi : ∀ c fs rest, ts ≠ .bI c fs :: rest := fun c fs rest e => by
        subst e
        cases r with
        | cons h _ => have := h.nbor; cases this
      have dom : ∀ {ρ' Hf' h' H'}, Sto G H ρ' Hf' h' H' → Sto G Z ρ' Hf' h' H' := fun {ρ' Hf' h' H'} S' => S'.ofZ fun a o e => let ⟨o1, h1⟩ := S.dom a o e; S'.dom a o1 h1
      cases hr2 : exB P (run P Wn d) Wn kd.body (startT kd.np kd.ns ts) hp with
      | nx σ' h' =>
        rw [hr2] at h
        simp only at h
        have ef : fin σ' h' ts = .ok .non h' := by
          unfold fin
          split
          · rename_i c fs rest; exact absurd rfl (nbi _ _ _)
          · rfl
        rw [ef] at h
        intro σ1 H1 ⟨ρ1, Hf1, A1⟩
        exact h ρ1 Hf1 H1 .non A1.N (dom A1.S) (Rep.non)
      | rt t h' =>
        rw [hr2] at h
        intro ρ1 Hf1 H1 v N1 S1 r1
        have h : Post G Z (fun c d _ H => E c d H) [] (RepB G) ρ Hf H Q (.ok t h') := by
          cases ts with
          | nil => exact h
          | cons x xs => cases x <;> first | exact h | exact absurd rfl (nbi _ _ _)
        exact h ρ1 Hf1 H1 v N1 (dom S1) r1.toB
      | bk σ' h' => rw [hr2] at h; exact h.elim
      | ct σ' h' => rw [hr2] at h; exact h.elim
      | err c fs σ' h' =>
        rw [hr2] at h
        intro σ1 ρ1 Hf1 H1 d1 gs1 A1 x1 x2
        by_cases q : P.exc = true
        · simp only [if_pos q] at h
          exact h ρ1 Hf1 H1 d1 gs1 A1.N (dom A1.S) x1 x2
        · simp only [if_neg q] at h
          exact h.elim
      | stuck => rw [hr2] at h; exact h.elim
/-- an __init__ of a class whose instances are no cells -/
theorem ini_walk {name qual : Str} {st : Stmt} {fa : Addr} {fd : FuncData} {N ps : List Str} {fi c : Nat} {kd : Kb.Def} (St : Stat K mg P G D T0 ini ok okh) (IH : ∀ f, ok f → FnOk Pg w K mg base (L2N.CX Pg w) (2 * d + 2) (D.ad f) (D.fd f) (D.ps f) (spOf ini G (run P Wn d) f)) (IHh : ∀ f, okh f → L2H.FnH Pg w K mg base CX0 (2 * d + 2) (D.ad f) (D.fd f) (D.ps f) (spH G (run P Wn d) f))
    (F : Fun K name qual st fa fd) (Sc : FnScope N ps (defScope st)) (hk : P.defs[fi]? = some kd) (hnp : ps.length = kd.np) (hns : kd.ns - kd.np ≤ N.length - ps.length)
    (body : ∀ (cdv : Value) (A : Around) (outer : List Env) (s : Shared) (H : Hp) (E : XK), KCx (cxOf (L2N.CX Pg w) Pg w K mg base N qual (defScope st) fa cdv A outer s H E) P (run P Wn d) G (WE0 E) (L2N.CX Pg w) (lvD D d) T0 →
      PSs (cxOf (L2N.CX Pg w) Pg w K mg base N qual (defScope st) fa cdv A outer s H E) (defBody st) (tB P (run P Wn d) G (WE0 E) Wn kd.body)) :
    FnOk Pg w K mg base (L2N.CX Pg w) (2 * d + 4) fa fd ps (spI G (run P Wn (d + 1)) c fi) := by
  have hlen : ∀ (ts : List T) hp, (∀ (Z : Hp) (E : XK) a ρ Hf H Q, PostI G Z E a ρ Hf H Q (run P Wn (d + 1) fi ts hp) → ts.length = kd.np) := fun ts hp Z E a ρ Hf H Q h => by
    simp only [run, hk] at h
    split at h
    · rename_i e; exact e
    · exact h.elim
  refine funN (k := 2 * d + 3) F Sc (fun vs H Q E h => ?_) (fun cdv A outer s H vs Q E hr h => ?_)
  · obtain ⟨Z, ρ, Hf, hp, ts, a, dx, ws, rfl, S, r, _, _, _, _, h⟩ := h
    rw [List.length_cons, ← r.length]
    have := hlen _ hp Z E a ρ Hf H Q h
    rw [List.length_cons] at this
    omega
  · obtain ⟨Z, ρ, Hf, hp, ts, a, dx, ws, rfl, S, r, ha, fa', ma, ok', h⟩ := h
    have hl := hlen _ hp Z E a ρ Hf H Q h
    have hl' := hl
    rw [List.length_cons] at hl'
    have C := St.kcx (Wn := Wn) (E := E) IH IHh (X := cxOf (L2N.CX Pg w) Pg w K mg base N qual (defScope st) fa cdv A outer s H E) rfl rfl rfl rfl rfl rfl hr Sc.nd (L2N.takes_of rfl rfl rfl rfl) (passes_of rfl)
    have sl := reps_slots (H := H) r (kd.ns - kd.np) (N.length - (V.ref a :: ws).length) (by rw [List.length_cons, ← r.length]; omega)
    have key : ∀ {i : Nat} {t : T}, (ts.map some ++ List.replicate (kd.ns - kd.np) none)[i]? = some (some t) → isBor t = true → False := fun {i t} e b => by
      have e2 : ts[i]? = some t := by
        by_cases q : i < ts.length
        · rw [List.getElem?_append_left (by rw [List.length_map]; exact q), List.getElem?_map] at e
          cases z : ts[i]? with
          | none => rw [z] at e; cases e
          | some u => rw [z] at e; cases e; rfl
        · rw [List.getElem?_append_right (by rw [List.length_map]; omega)] at e
          have := List.mem_of_getElem? e
          rw [List.mem_replicate] at this
          cases this.2
      obtain ⟨u, _, h3⟩ := r.get e2
      rw [h3.nbor] at b; cases b
    refine ⟨_, body cdv A outer s H E C, ⟨some a, ρ, Hf, H, ρ, Hf⟩, startT kd.np kd.ns (.bI c [] :: ts), hp, ⟨ρ, Hf, S.ofZ fun a o e => ⟨o, e⟩, ?_, .refl, ?_, (fun b e => by cases e; exact ⟨_, ha⟩), ⟨[], by simp⟩, Ex.refl _⟩, ?_⟩
    · refine ⟨?_, fun i t e => ?_, fun i j t u b hij e1 e2 b1 b2 s1 s2 => ?_⟩
      · have := sl.len
        show ((some (T.bI c []) :: (ts.map some ++ List.replicate (kd.ns - kd.np) none)).length) ≤ (some (V.ref a) :: (ws.map some ++ List.replicate (N.length - (V.ref a :: ws).length) none)).length
        rw [List.length_cons, List.length_cons]; omega
      · cases i with
        | zero =>
          cases e
          exact ⟨.ref a, rfl, a, dx, [], rfl, ha, .nil, fa', ma, ok'⟩
        | succ i => exact sl.slot i t e
      · cases i with
        | succ i => exact key e1 b1
        | zero =>
          cases j with
          | zero => exact hij rfl
          | succ j => exact key e2 b2
    · intro i t b e bo s
      cases i with
      | succ i => exact (key e bo).elim
      | zero =>
        cases e
        cases s
        exact .inr ⟨rfl, rfl⟩
    · simp only [run, hk, if_pos hl] at h
      have dom : ∀ {ρ' Hf' h' H'}, Sto G H ρ' Hf' h' H' → Sto G Z ρ' Hf' h' H' := fun {ρ' Hf' h' H'} S' => S'.ofZ fun a o e => let ⟨o1, h1⟩ := S.dom a o e; S'.dom a o1 h1
      cases hr2 : exB P (run P Wn d) Wn kd.body (startT kd.np kd.ns (.bI c [] :: ts)) hp with
      | nx σ' h' =>
        rw [hr2] at h
        simp only [fin] at h
        intro σ1 H1 ⟨ρ1, Hf1, A1⟩
        split at h
        · rename_i c' fs rest
          obtain ⟨v, h1, h2⟩ := A1.L.slot 0 (.bI c' fs) rfl
          obtain ⟨b, dx', gs, rfl, hb, rF, fb, mb, kb⟩ := id h2
          rcases A1.O 0 (.bI c' fs) b rfl rfl h1 with q | q
          · cases q.2
          · cases q.1
            exact h ρ1 Hf1 H1 c' fs rfl A1.N (dom A1.S) h2
        · exact h.elim
      | rt t h' => rw [hr2] at h; exact h.elim
      | bk σ' h' => rw [hr2] at h; exact h.elim
      | ct σ' h' => rw [hr2] at h; exact h.elim
      | err c fs σ' h' =>
        rw [hr2] at h
        intro σ1 ρ1 Hf1 H1 d1 gs1 A1 x1 x2
        by_cases q : P.exc = true
        · simp only [if_pos q] at h
          exact h ρ1 Hf1 H1 d1 gs1 A1.N (dom A1.S) x1 x2
        · simp only [if_neg q] at h
          exact h.elim
      | stuck => rw [hr2] at h; exact h.elim
/-- no depth at all -/
theorem fn_zero (f : Nat) (k : Nat) (fa : Addr) (fd : FuncData) (ps : List Str) : FnOk Pg w K mg base (L2N.CX Pg w) k fa fd ps (spOf ini G (run P Wn 0) f) := by
  have no : ∀ vs H Q E, spOf ini G (run P Wn 0) f vs H Q E → False := fun vs H Q E h => by
    by_cases q : ∃ c, ini[f]? = some (some c)
    · obtain ⟨c, q⟩ := q
      rw [spOf_i q] at h
      obtain ⟨Z, ρ, Hf, hp, ts, a, dx, ws, _, _, _, _, _, _, _, h⟩ := h; exact h
    · rw [spOf_n fun c e => q ⟨c, e⟩] at h
      obtain ⟨Z, ρ, Hf, hp, ts, _, _, h⟩ := h; exact h
  exact ⟨fun vs H Q E h => (no _ _ _ _ h).elim, fun A outer s H args us vs Q E _ _ _ _ h => (no _ _ _ _ h).elim⟩
/-- a def that is called while an error is handled -/
theorem hot_walk {name qual : Str} {st : Stmt} {fa : Addr} {fd : FuncData} {N ps : List Str} {fi : Nat} {kd : Kb.Def} (St : Stat K mg P G D T0 ini ok okh) (IHh : ∀ f, okh f → L2H.FnH Pg w K mg base CX0 (2 * d + 2) (D.ad f) (D.fd f) (D.ps f) (spH G (run P Wn d) f))
    (F : Fun K name qual st fa fd) (Sc : FnScope N ps (defScope st)) (hk : P.defs[fi]? = some kd) (hnp : ps.length = kd.np) (hns : kd.ns - kd.np ≤ N.length - ps.length)
    (body : ∀ (cdv : Value) (A : Around) (outer : List Env) (s : Shared) (H : Hp) (E : XK) (p : Addr × Obj), KCx (L2H.cxH CX0 Pg w K mg base N qual (defScope st) fa cdv A outer s H E p) P (run P Wn d) G WF CX0 (lvD D d) T0.hot →
      PSs (L2H.cxH CX0 Pg w K mg base N qual (defScope st) fa cdv A outer s H E p) (defBody st) (tB P (run P Wn d) G WF Wn kd.body)) :
    L2H.FnH Pg w K mg base CX0 (2 * d + 4) fa fd ps (spH G (run P Wn (d + 1)) fi) := by
  have hlen : ∀ ts hp, (∀ (Z : Hp) ρ Hf H Q, Post G Z (fun _ _ _ _ => False) [] (RepB G) ρ Hf H Q (run P Wn (d + 1) fi ts hp).noErr → ts.length = kd.np) := fun ts hp Z ρ Hf H Q h => by
    simp only [run, hk] at h
    split at h
    · rename_i e; exact e
    · exact h.elim
  obtain ⟨oc, od, kV, doc, pm, an, cdv, ct, osl, rfl, lk, hcd⟩ := F.ex
  refine L2H.fn_ofH (k := 2 * d + 3) lk hcd Sc (fun vs H Q E h => ?_) (fun A outer s H vs Q E p hot hr h => ?_)
  · obtain ⟨Z, ρ, Hf, hp, ts, S, r, h⟩ := h
    rw [← r.length, hlen ts hp Z ρ Hf H Q h, hnp]
  · obtain ⟨Z, ρ, Hf, hp, ts, S, r, h⟩ := h
    have hl := hlen ts hp Z ρ Hf H Q h
    have C : KCx (L2H.cxH CX0 Pg w K mg base N qual (defScope st) fa cdv A outer s H E p) P (run P Wn d) G WF CX0 (lvD D d) T0.hot := {
      hK := St.hK
      calm := fun z => by cases z
      room := fun z => by cases z
      rmH := hr
      hot := fun _ => ⟨p, hot, List.mem_cons_self⟩
      hfn := fun f x h => by
        obtain ⟨h1, h2, h3, h4⟩ := St.hf f x h
        exact ⟨IHh f h1, h2, h3, h4⟩
      nm := St.nm
      kd := St.kd
      pas := fun σ pins H s e s' I h => h.elim
      nil := fun _ _ _ _ _ h => h
      nN := Sc.nd
      own := passes_of rfl
      fn := fun f x h => by cases h
      mt := fun z => by cases z
      ini := fun c kc f x _ _ h => by cases h
      cl := St.cl
      na := St.na
      sf := St.sf
      nq := St.nq
      tk := fun _ _ x => by
        obtain ⟨_, _, _, _, _, _, _, _, _, _, _, _, _, _, _, _, z⟩ := x
        exact z.elim }
    refine ⟨_, body cdv A outer s H E p C, ⟨none, ρ, Hf, H, ρ, Hf⟩, startT kd.np kd.ns ts, hp, ⟨ρ, Hf, S.ofZ fun a o e => ⟨o, e⟩, ?_, .refl, ?_, (fun a e => by cases e), ⟨[], by simp⟩, Ex.refl _⟩, ?_⟩
    · unfold startT L2.start
      exact reps_slots r _ _ (by rw [← r.length, hl, ← hnp]; omega)
    · intro i t a e b s
      obtain ⟨v, h1, h2⟩ := (reps_slots (H := H) r (kd.ns - kd.np) (kd.ns - kd.np) (Nat.le_refl _)).slot i t e
      exfalso
      have key : ts[i]? = some t := by
        have e : (ts.map some ++ List.replicate (kd.ns - kd.np) none)[i]? = some (some t) := e
        by_cases q : i < ts.length
        · rw [List.getElem?_append_left (by rw [List.length_map]; exact q), List.getElem?_map] at e
          cases z : ts[i]? with
          | none => rw [z] at e; cases e
          | some u => rw [z] at e; cases e; rfl
        · rw [List.getElem?_append_right (by rw [List.length_map]; omega)] at e
          have := List.mem_of_getElem? e
          rw [List.mem_replicate] at this
          cases this.2
      obtain ⟨u, _, h3⟩ := r.get key
      rw [h3.nbor] at b; cases b
    · simp only [run, hk, if_pos hl] at h
      have nbi : ∀ c fs rest, ts ≠ .bI c fs :: rest := fun c fs rest e => by
        subst e
        cases r with
        | cons h _ => have := h.nbor; cases this
      have dom : ∀ {ρ' Hf' h' H'}, Sto G H ρ' Hf' h' H' → Sto G Z ρ' Hf' h' H' := fun {ρ' Hf' h' H'} S' => S'.ofZ fun a o e => let ⟨o1, h1⟩ := S.dom a o e; S'.dom a o1 h1
      cases hr2 : exB P (run P Wn d) Wn kd.body (startT kd.np kd.ns ts) hp with
      | nx σ' h' =>
        rw [hr2] at h
        simp only at h
        have ef : fin σ' h' ts = .ok .non h' := by
          unfold fin
          split
          · rename_i c fs rest; exact absurd rfl (nbi _ _ _)
          · rfl
        rw [ef] at h
        intro σ1 H1 ⟨ρ1, Hf1, A1⟩
        exact h ρ1 Hf1 H1 .non A1.N (dom A1.S) (Rep.non)
      | rt t h' =>
        rw [hr2] at h
        intro ρ1 Hf1 H1 v N1 S1 r1
        have h : Post G Z (fun _ _ _ _ => False) [] (RepB G) ρ Hf H Q (.ok t h') := by
          cases ts with
          | nil => exact h
          | cons x xs => cases x <;> first | exact h | exact absurd rfl (nbi _ _ _)
        exact h ρ1 Hf1 H1 v N1 (dom S1) r1.toB
      | bk σ' h' => rw [hr2] at h; exact h.elim
      | ct σ' h' => rw [hr2] at h; exact h.elim
      | err c fs σ' h' =>
        rw [hr2] at h
        exfalso
        by_cases q : P.exc = true
        · simp only [if_pos q] at h
          exact h.elim
        · simp only [if_neg q] at h
          exact h.elim
      | stuck => rw [hr2] at h; exact h.elim
theorem hot_zero (f : Nat) (k : Nat) (fa : Addr) (fd : FuncData) (ps : List Str) : L2H.FnH Pg w K mg base CX0 k fa fd ps (spH G (run P Wn 0) f) := by
  have no : ∀ vs H Q E, spH G (run P Wn 0) f vs H Q E → False := fun vs H Q E ⟨Z, ρ, Hf, hp, ts, _, _, h⟩ => h
  exact ⟨fun vs H Q E h => (no _ _ _ _ h).elim, fun A outer s H args us vs Q E p _ _ _ _ _ _ h => (no _ _ _ _ h).elim⟩
theorem all_hot (step : ∀ d, (∀ f, okh f → L2H.FnH Pg w K mg base CX0 (2 * d + 2) (D.ad f) (D.fd f) (D.ps f) (spH G (run P Wn d) f)) → ∀ f, okh f → L2H.FnH Pg w K mg base CX0 (2 * d + 4) (D.ad f) (D.fd f) (D.ps f) (spH G (run P Wn (d + 1)) f)) :
    ∀ d f, okh f → L2H.FnH Pg w K mg base CX0 (2 * d + 2) (D.ad f) (D.fd f) (D.ps f) (spH G (run P Wn d) f) := by
  intro d
  induction d with
  | zero => exact fun f _ => hot_zero f _ _ _ _
  | succ d ih => exact step d ih
theorem all_fn (St : Stat K mg P G D T0 ini ok okh) (step : ∀ d, (∀ f, ok f → FnOk Pg w K mg base (L2N.CX Pg w) (2 * d + 2) (D.ad f) (D.fd f) (D.ps f) (spOf ini G (run P Wn d) f)) → ∀ f, ok f → FnOk Pg w K mg base (L2N.CX Pg w) (2 * d + 4) (D.ad f) (D.fd f) (D.ps f) (spOf ini G (run P Wn (d + 1)) f)) :
    ∀ d f, ok f → FnOk Pg w K mg base (L2N.CX Pg w) (2 * d + 2) (D.ad f) (D.fd f) (D.ps f) (spOf ini G (run P Wn d) f) := by
  intro d
  induction d with
  | zero => exact fun f _ => fn_zero f _ _ _ _
  | succ d ih => exact step d ih
/-- the law's promise -/
def spLaw (K : PySem.W.Frag) : Sp := fun vs H Q _ => ∃ (a : Addr) (ns : List Int), vs = [.ref a] ∧ SqL K H a (ns.map V.int) ∧ ns.length ≤ 63 ∧ ∀ H', Q (.bl true) H'
theorem law_sp (hK : K = G.K) {d fi : Nat} (law : ∀ ns : List Int, ns.length ≤ 63 → ∃ h, run P Wn d fi [.kl ns] [] = .ok (.bl true) h) {vs : List V} {H : Hp} {Q : VK} {E : XK} (h : spLaw K vs H Q E) : sp G (run P Wn d) fi vs H Q E := by
  obtain ⟨a, ns, rfl, hs, hl, q⟩ := h
  obtain ⟨h', e⟩ := law ns hl
  refine ⟨H, [], H, [], [.kl ns], ⟨Ex.refl _, rfl, .nil, fun n a c h => by simp at h, fun a o e => ⟨o, e⟩⟩, .cons (.kl (by rw [← hK]; exact hs)) .nil, ?_⟩
  rw [e]
  intro ρ' Hf' H' v N S r
  obtain rfl := B_bl r
  exact q H'
/-- the law lets nothing out -/
theorem cx0_of {k : Nat} {f : Addr} {fd : FuncData} {ps : List Str} {sp' : Sp} {sq : Sp} (F : FnOk Pg w K mg base (L2N.CX Pg w) k f fd ps sp') (len : ∀ vs H Q E, sq vs H Q E → vs.length = ps.length) (imp : ∀ vs H Q E, sq vs H Q E → sp' vs H Q (fun _ _ _ => False)) : FnOk Pg w K mg base CX0 k f fd ps sq := by
  refine ⟨len, fun A outer s H args us vs Q E hr he hb hv hs => ?_⟩
  refine codeAny_mono (F.run A outer s H args us vs Q _ hr he hb hv (imp vs H Q E hs)) fun r s' h => ?_
  match r, h with
  | .ok (.ret u), h => exact h
  | .ok .next, h => exact h
  | .ok .brk, h => exact h
  | .ok .cont, h => exact h
  | .error e, h =>
    obtain ⟨_, _, _, _, _, _, _, _, _, _, _, _, z⟩ := h
    exact z.elim
end
end Kb
end
section
set_option Elab.async false
set_option linter.all false
set_option maxRecDepth 100000
set_option maxHeartbeats 4000000
set_option autoImplicit false
/-! Kb10: the rules in the shape in which a program prints them. -/
namespace Kb
open PySem PySem.Spec PyProof.Rows L2
section
variable {X : Cx} {P : Prog} {call : Nat → List T → Hl → R T} {G : Gm} {W : WX} {CX : CXT} {D : Dat} {T0 : Tab} {Wn : Nat}
section
variable {elt tgE iter : Expr} {ifs : List Expr} {scope : Scope} {own : List (Str × Nat)} {pos spos py : Pos} {it : It} {tg : List Nat} {c : Eo} {ie : Kb.E} {i : Nat} {y : Str}
/-- what is asked within the block -/
structure Blk (X : Cx) (P : Prog) (call : Nat → List T → Hl → R T) (G : Gm) (CX : CXT) (D : Dat) (T0 : Tab) (scope : Scope) (tgE elt : Expr) (ifs : List Expr) (tg : List Nat) (c : Eo) (ie : Kb.E) : Prop where
  g : ∀ (s : Shared) (H : Hp) (Cc : Addr) (cl : List (Str × Addr)) (fp : List Addr), KCx (X.blk s H scope (compEnvC scope cl Cc X.env) fp) P call G WF CX D T0 → PG (X.blk s H scope (compEnvC scope cl Cc X.env) fp) tgE (tG G.K tg)
  t : ∀ (s : Shared) (H : Hp) (Cc : Addr) (cl : List (Str × Addr)) (fp : List Addr), KCx (X.blk s H scope (compEnvC scope cl Cc X.env) fp) P call G WF CX D T0 → PTs (X.blk s H scope (compEnvC scope cl Cc X.env) fp) ifs (tCd P call G WF c)
  e : ∀ (s : Shared) (H : Hp) (Cc : Addr) (cl : List (Str × Addr)) (fp : List Addr), KCx (X.blk s H scope (compEnvC scope cl Cc X.env) fp) P call G WF CX D T0 → PE (X.blk s H scope (compEnvC scope cl Cc X.env) fp) elt (tE P call G WF ie)
theorem kp_lc (C : KCx X P call G W CX D T0) (own : List (Str × Nat)) (hi : PI X tgE iter (tI P call G W it)) (B : Blk X P call G CX D T0 scope tgE elt ifs tg c ie) (ok : blkC X.N X.env.scope scope own = true := by rfl) (hs : ∀ x, foldedSetIterable iter X.env x = pure x := by intro _; rfl)
    (hsub : tg.all (fun i => (own.map (·.2)).contains i) = true := by rfl) {ow : List Nat} (how : ow = own.map (·.2) := by rfl) (hT : T0.fn.isEmpty = false := by first | assumption | rfl) : PE X (.ListComp elt [⟨tgE, iter, ifs, 0⟩] scope pos) (tA P call G W (.lc it tg ow c ie)) := by
  subst how
  exact ka_lc C hi ok (fun s H Cc cl fp => B.g s H Cc cl fp (C.blk hT s H scope _ fp)) (fun s H Cc cl fp => B.t s H Cc cl fp (C.blk hT s H scope _ fp)) (fun s H Cc cl fp => B.e s H Cc cl fp (C.blk hT s H scope _ fp)) hs hsub
theorem kp_lcO (C : KCx X P call G W CX D T0) (own : List (Str × Nat)) (hy : X.N[i]? = some y) (hyl : X.env.scope.names.lookup y = some .local) (hi : PI X tgE iter (tI P call G W it)) (B : Blk X P call G CX D T0 scope tgE elt ifs tg c ie) (hl : (py.line == pos.line) = true := by rfl) (hn : (scope.names.any fun (n, k) => n == y && (k == .local || k == .cell)) = false := by rfl) (hkd : X.env.scope.kind = .function := by rfl)
    (ok : blkC X.N X.env.scope scope own = true := by rfl) (hs : ∀ x, foldedSetIterable iter X.env x = pure x := by intro _; rfl) (hsub : tg.all (fun i => (own.map (·.2)).contains i) = true := by rfl) {ow : List Nat} (how : ow = own.map (·.2) := by rfl) (hT : T0.fn.isEmpty = false := by first | assumption | rfl) :
    PS X (.Assign [.Name y py] (.ListComp elt [⟨tgE, iter, ifs, 0⟩] scope pos) spos) (tS P call G W Wn (.own i (.lc it tg ow c ie))) := by
  subst how
  exact ks_lcO C hy hyl hl hn hkd hi ok (fun s H Cc cl fp => B.g s H Cc cl fp (C.blk hT s H scope _ fp)) (fun s H Cc cl fp => B.t s H Cc cl fp (C.blk hT s H scope _ fp)) (fun s H Cc cl fp => B.e s H Cc cl fp (C.blk hT s H scope _ fp)) hs hsub
theorem kp_lc0 (C : KCx X P call G W CX D T0) (own : List (Str × Nat)) (hy : X.N[i]? = some y) (hyl : X.env.scope.names.lookup y = some .local) (hi : PI X tgE iter (tI P call G W it)) (B : Blk X P call G CX D T0 scope tgE elt ifs tg c ie) (hl : (py.line == pos.line) = true := by rfl) (hn : (scope.names.any fun (n, k) => n == y && (k == .local || k == .cell)) = false := by rfl) (hkd : X.env.scope.kind = .function := by rfl)
    (ok : blkC X.N X.env.scope scope own = true := by rfl) (hs : ∀ x, foldedSetIterable iter X.env x = pure x := by intro _; rfl) (hsub : tg.all (fun i => (own.map (·.2)).contains i) = true := by rfl) {ow : List Nat} (how : ow = own.map (·.2) := by rfl) (hT : T0.fn.isEmpty = false := by first | assumption | rfl) :
    PS X (.Assign [.Name y py] (.ListComp elt [⟨tgE, iter, ifs, 0⟩] scope pos) spos) (tS P call G W Wn (.asg i (.al false (.lc it tg ow c ie)))) := by
  subst how
  exact ks_lc0 C hy hyl hl hn hkd hi ok (fun s H Cc cl fp => B.g s H Cc cl fp (C.blk hT s H scope _ fp)) (fun s H Cc cl fp => B.t s H Cc cl fp (C.blk hT s H scope _ fp)) (fun s H Cc cl fp => B.e s H Cc cl fp (C.blk hT s H scope _ fp)) hs hsub
theorem kp_lc1 (C : KCx X P call G W CX D T0) (own : List (Str × Nat)) (hy : X.N[i]? = some y) (hyl : X.env.scope.names.lookup y = some .local) (hi : PI X tgE iter (tI P call G W it)) (B : Blk X P call G CX D T0 scope tgE elt ifs tg c ie) (hl : (py.line == pos.line) = true := by rfl) (hn : (scope.names.any fun (n, k) => n == y && (k == .local || k == .cell)) = false := by rfl) (hkd : X.env.scope.kind = .function := by rfl)
    (ok : blkC X.N X.env.scope scope own = true := by rfl) (hs : ∀ x, foldedSetIterable iter X.env x = pure x := by intro _; rfl) (hsub : tg.all (fun i => (own.map (·.2)).contains i) = true := by rfl) {ow : List Nat} (how : ow = own.map (·.2) := by rfl) (hT : T0.fn.isEmpty = false := by first | assumption | rfl) :
    PS X (.Assign [.Name y py] (.ListComp elt [⟨tgE, iter, ifs, 0⟩] scope pos) spos) (tS P call G W Wn (.asg i (.al true (.lc it tg ow c ie)))) := by
  subst how
  exact ks_lc1 C hy hyl hl hn hkd hi ok (fun s H Cc cl fp => B.g s H Cc cl fp (C.blk hT s H scope _ fp)) (fun s H Cc cl fp => B.t s H Cc cl fp (C.blk hT s H scope _ fp)) (fun s H Cc cl fp => B.e s H Cc cl fp (C.blk hT s H scope _ fp)) hs hsub
end
theorem kp_try (C : KCx X P call G W CX D T0) {b : List Stmt} {h0 : ExceptHandler} {hs : List ExceptHandler} {ib : B} {pos : Pos} (hb : KCx X.nox P call G WF CX D T0 → PSs X.nox b (tB P call G WF Wn ib)) : PS X (.Try b (h0 :: hs) [] [] pos) (tS P call G W Wn (.tryN ib)) := ks_try (hb C.nox)
/-- a raise that never runs -/
theorem kp_raise {s : Stmt} (h : P.cls[9999]? = none := by rfl) : PS X s (tS P call G W Wn (.rais 9999 .nil)) := ks_raise fun lσ hp => by simp only [exS, evEs, R.toS_ok, h]
theorem ka_cat (C : KCx X P call G W CX D T0) {a b : Expr} {ea eb : Kb.E} {pos : Pos} (ha : PE X a (tE P call G W ea)) (hb : PE X b (tE P call G W eb)) : PE X (.BinOp a .Add b pos) (tA P call G W (.cat ea eb)) := by
  refine PEimp (pe_op op_cat ha hb) fun σ H Q h => ?_
  obtain ⟨Z, ρ, Hf, lσ, hp, S, L, h⟩ := h
  simp only [evA] at h
  refine go_E S L h fun x h1 ρ1 Hf1 v H1 N1 S1 L1 r1 h => ?_
  refine go_E S1 L1 h fun y h2 ρ2 Hf2 u H2 N2 S2 L2 r2 h => ?_
  split at h
  · rename_i a b ea eb
    split at h
    · rename_i hl
      obtain ⟨p, vs, rfl, h3, q1⟩ := lst'_at S2 ea (r1.nx N2)
      obtain ⟨q, ws, rfl, h4, q2⟩ := lst'_at S2 eb r2
      exact ⟨p, q, vs, ws, rfl, rfl, h3, h4, by rw [← q1.length, ← q2.length, ← maxLen_eq]; exact hl, P_al S2 (q1.append q2) h⟩
    · exact h.elim
  · exact h.elim
theorem ka_rep (C : KCx X P call G W CX D T0) {a b : Expr} {ea eb : Kb.E} {pos : Pos} (ha : PE X a (tE P call G W ea)) (hb : PE X b (tE P call G W eb)) : PE X (.BinOp a .Mult b pos) (tA P call G W (.rep ea eb)) := by
  refine PEimp (pe_op op_rep ha hb) fun σ H Q h => ?_
  obtain ⟨Z, ρ, Hf, lσ, hp, S, L, h⟩ := h
  simp only [evA] at h
  refine go_E S L h fun x h1 ρ1 Hf1 v H1 N1 S1 L1 r1 h => ?_
  refine go_E S1 L1 h fun y h2 ρ2 Hf2 u H2 N2 S2 L2 r2 h => ?_
  split at h
  · rename_i a j ea
    split at h
    · rename_i c
      simp only [repOk, Bool.and_eq_true, decide_eq_true_eq] at c
      obtain ⟨p, vs, rfl, h3, q1⟩ := lst'_at S2 ea (r1.nx N2)
      obtain rfl := B_int r2
      exact ⟨p, j, vs, rfl, rfl, h3, by omega, by omega, by rw [← q1.length, ← maxLen_eq]; exact c.1, P_al S2 (q1.rep _) h⟩
    · exact h.elim
  · exact h.elim
end
end Kb
end
section
set_option Elab.async false
set_option linter.all false
set_option maxRecDepth 100000
set_option maxHeartbeats 4000000
set_option autoImplicit false
/-! Kb11: more expressions: methods without arguments, keywords to classes and methods, classes without __init__, the module's constants, chains, dicts. -/
namespace Kb
open PySem PySem.Spec PyProof.Rows L2
section
variable {X : Cx} {P : Prog} {call : Nat → List T → Hl → R T} {G : Gm} {W : WX} {CX : CXT} {D : Dat} {T0 : Tab}
variable {Z : Hp} {ρ : List Addr} {Hf H : Hp} {lσ : Sl} {σ : L2.St} {hp : Hl} {α β : Type} {RR : List Addr → Hp → Hp → α → β → Prop} {Q : β → Hp → Prop}
/-- who is asked for a method: his class, the def -/
theorem meth_who (C : KCx X P call G W CX D T0) {m : Nat} {x : Str} {lσ0 : Sl} {io : E} {f : T → Kb.Cls → Nat → Hl → R T} {σ : L2.St} {Q : VK} (hx : G.nm[m]? = some x) (S : Sto G Z ρ Hf hp H) (L : Slots G ρ Hf H lσ0 σ)
    (h : Post G Z W σ (RepB G) ρ Hf H Q ((evE P call io lσ0 hp).bind fun t h => match insOf t h with
      | some (c, fs) => match P.cls[c]? with
        | some k => match (if (lkF m fs).isNone then lkN m k.meths else none) with
          | some g => f t k g h
          | none => .stuck
        | none => .stuck
      | none => .stuck))
    {R1 : V → Hp → Prop}
    (k : ∀ (t : T) (c g : Nat) (kc : Kb.Cls) (h' : Hl) (ρ' : List Addr) (Hf' H' : Hp) (a dx : Addr) (gs : List (Str × V)), H' a = some (.ins (G.ca c) dx gs) → gs.lookup x = none → G.cok c → P.cls[c]? = some kc → lkN m kc.meths = some g → Nxt none ρ Hf H ρ' Hf' H' → Sto G Z ρ' Hf' h' H' → Slots G ρ' Hf' H' lσ0 σ → RepB G ρ' Hf' H' t (.ref a) →
      Post G Z W σ (RepB G) ρ' Hf' H' Q (f t kc g h') → R1 (.ref a) H') : tE P call G W io σ H R1 := by
  refine go_E S L h fun t h1 ρ1 Hf1 v H1 N1 S1 L1 r1 h => ?_
  split at h
  · rename_i c fs e1
    split at h
    · rename_i kc ek
      split at h
      · rename_i g ef
        obtain ⟨a, dx, gs, rfl, h2, h3, h4⟩ := ins_at S1 e1 r1
        have en : lkF m fs = none ∧ lkN m kc.meths = some g := by
          cases q : lkF m fs with
          | none => rw [q] at ef; simp only [Option.isNone_none, if_true] at ef; exact ⟨rfl, ef⟩
          | some _ => rw [q] at ef; cases ef
        exact k t c g kc h1 ρ1 Hf1 H1 a dx gs h2 ((h3.look C.nm hx).2 en.1) h4 ek en.2 N1 S1 L1 r1 h
      · exact h.elim
    · exact h.elim
  · exact h.elim
theorem k_meth0 (C : KCx X P call G W CX D T0) {pl : Sem Bool} {o : Expr} {io : E} {m : Nat} {x : Str} {apos pos : Pos} (hx : G.nm[m]? = some x) (ho : PE X o (tE P call G W io))
    (ht : eval (.Call (.Attribute o x apos) [] [] pos) X.env = (do
      let ov ← eval o X.env
      standAt apos.atName
      let (f, first) ← holding [ov] (getMethod ov x pl)
      callWith pos f first (backTo pos (starEach [] X.env)) (backToKw pos (keywordEach [] X.env))) := by rfl) (hT : T0.fn.isEmpty = false := by first | assumption | rfl) :
    PE X (.Call (.Attribute o x apos) [] [] pos) (tE P call G W (.meth io m .nil)) := by
  refine ⟨fun pins s σ H Q I h => ?_⟩
  obtain ⟨Z, ρ, Hf, lσ, hp, S, L, h⟩ := h
  simp only [evE, evEs, R.bind_ok] at h
  refine PySem.W.methodCall_KW (pl := pl) (thn (ho.run pins s σ H (fun v H1 => ∃ (c f : Nat) (kc : Kb.Cls) (a dx : Addr) (gs : List (Str × V)), v = .ref a ∧ H1 a = some (.ins (G.ca c) dx gs) ∧ gs.lookup x = none ∧ G.cok c ∧ P.cls[c]? = some kc ∧ lkN m kc.meths = some f ∧
    sp G call f [v] H1 Q (fun c d H => W c d σ H)) I ?_) fun u s1 ⟨v, H1, I1, rx, c, f, kc, a, dx, gs, ex, ea, l, hc, ek, ef, q⟩ => ?_) ht
  · refine meth_who C (f := fun t k g h => if plainT t && ([] : List T).all plainT then call g (t :: []) h else .stuck) hx S L h fun t c g kc h' ρ' Hf' H' a dx gs e1 e2 e3 e4 e5 N S' L' r h => ?_
    split at h
    · rename_i hp2
      simp only [List.all_nil, Bool.and_true] at hp2
      exact ⟨c, g, kc, a, dx, gs, rfl, e1, e2, e3, e4, e5, Z, ρ', Hf', h', [t], S', .cons (r.plain hp2) .nil, h⟩
    · exact h.elim
  · subst ex
    obtain rfl : u = Value.ref a := rx
    obtain ⟨F, M, B⟩ := C.mt hT c kc m f x ek ef hx hc
    refine getmeth_ok I1 ea (C.cl c hc) M l ?_
    exact PySem.W.callWith_K0 (first := [.ref a]) I1.kIn M.kp (run_fnS (E := fun σ c d H => W c d σ H) (us := [.ref a]) (vs := [.ref a]) F ((C.room hT).mono (Nat.le_succ _)) B (C.pas σ) I1 (.cons rfl .nil) (by exact q))
/-! ### chains -/
theorem k_cmp2 (C : KCx X P call G W CX D T0) {o p : COp} {op op' : CmpOp} {a b c : Expr} {ea eb ec : E} {pos : Pos} (ha : PE X a (tE P call G W ea)) (hb : PE X b (tE P call G W eb)) (hc : PE X c (tE P call G W ec)) (hop : copN o = op := by rfl) (hop2 : copN p = op' := by rfl)
    (hm : lastMarks [op, op'] [b, c] = false := by with_unfolding_all rfl) : PE X (.Compare a [op, op'] [b, c] pos) (tE P call G W (.cmp2 o p ea eb ec)) := by
  subst hop hop2
  refine PEimp (pe_chain (op_cmpT (G := G) C.hK C.un o) (op_cmpT (G := G) C.hK C.un p) ha hb hc hm) fun σ H Q h => ?_
  obtain ⟨Z, ρ, Hf, lσ, hp, S, L, h⟩ := h
  simp only [evE] at h
  refine go_E S L h fun x h1 ρ1 Hf1 v H1 N1 S1 L1 r1 h => ?_
  refine go_E S1 L1 h fun y h2 ρ2 Hf2 u H2 N2 S2 L2 r2 h => ?_
  refine ⟨Z, W, σ, ρ2, Hf2, h2, x, y, S2, r1.nx N2, r2, (Post.bind h (RepB G)).imp fun z H3 ⟨t, h3, ρ3, Hf3, e3, N3, S3, r3, h⟩ => ?_⟩
  rcases oR_cmpT (o := o) (x := x) (y := y) (h := h2) with ⟨k, q⟩ | q
  · rw [q] at e3; cases e3
    obtain rfl := B_bl r3
    refine ⟨k, rfl, ?_⟩
    cases k with
    | true =>
      refine iteT ?_
      refine go_E S3 (L2.nxt N3) h fun w h4 ρ4 Hf4 vw H4 N4 S4 L4 r4 h => ?_
      exact ⟨Z, W, σ, ρ4, Hf4, h4, y, w, S4, (r2.nx N3).nx N4, r4, h⟩
    | false => exact iteF (P_bl S3 h)
  · rw [q] at e3; cases e3
theorem cmp2_bl {o p : COp} {ea eb ec : E} {lσ : Sl} {h h' : Hl} {t : T} (e : evE P call (.cmp2 o p ea eb ec) lσ h = .ok t h') : ∃ b, t = .bl b := by
  simp only [evE] at e
  cases e1 : evE P call ea lσ h with
  | ok x h1 =>
    rw [e1] at e; simp only [R.bind_ok] at e
    cases e2 : evE P call eb lσ h1 with
    | ok y h2 =>
      rw [e2] at e; simp only [R.bind_ok] at e
      rcases oR_cmpT (o := o) (x := x) (y := y) (h := h2) with ⟨k, q⟩ | q
      · rw [q] at e; simp only [R.bind_ok] at e
        cases k with
        | true =>
          simp only at e
          cases e3 : evE P call ec lσ h2 with
          | ok z h3 =>
            rw [e3] at e; simp only [R.bind_ok] at e
            rcases oR_cmpT (o := p) (x := y) (y := z) (h := h3) with ⟨k, q⟩ | q
            · rw [q] at e; cases e; exact ⟨k, rfl⟩
            · rw [q] at e; cases e
          | err c fs h3 => rw [e3] at e; cases e
          | stuck => rw [e3] at e; cases e
        | false => cases e; exact ⟨false, rfl⟩
      · rw [q] at e; cases e
    | err c fs h2 => rw [e2] at e; cases e
    | stuck => rw [e2] at e; cases e
  | err c fs h1 => rw [e1] at e; cases e
  | stuck => rw [e1] at e; cases e
theorem kt_cmp2 (C : KCx X P call G W CX D T0) {o p : COp} {op op' : CmpOp} {a b c : Expr} {ea eb ec : E} {pos : Pos} (ha : PE X a (tE P call G W ea)) (hb : PE X b (tE P call G W eb)) (hc : PE X c (tE P call G W ec)) (hop : copN o = op := by rfl) (hop2 : copN p = op' := by rfl)
    (hm : lastMarks [op, op'] [b, c] = false := by with_unfolding_all rfl) : PT X (.Compare a [op, op'] [b, c] pos) (tTe P call G W (.cmp2 o p ea eb ec)) := by
  subst hop hop2
  refine PTimp (pt_chain (op_cmpT (G := G) C.hK C.un o) (op_cmpT (G := G) C.hK C.un p) ha hb hc hm) fun σ H Q h => ?_
  obtain ⟨Z, ρ, Hf, lσ, hp, S, L, h⟩ := h
  have h : Post G Z W σ (RepB G) ρ Hf H (fun x H' => ∃ k, x = .bl k ∧ Q k H') (evE P call (.cmp2 o p ea eb ec) lσ hp) := post_bl (fun t h e => cmp2_bl e) h
  simp only [evE] at h
  refine go_E S L h fun x h1 ρ1 Hf1 v H1 N1 S1 L1 r1 h => ?_
  refine go_E S1 L1 h fun y h2 ρ2 Hf2 u H2 N2 S2 L2 r2 h => ?_
  refine ⟨Z, W, σ, ρ2, Hf2, h2, x, y, S2, r1.nx N2, r2, (Post.bind h (RepB G)).imp fun z H3 ⟨t, h3, ρ3, Hf3, e3, N3, S3, r3, h⟩ => ?_⟩
  rcases oR_cmpT (o := o) (x := x) (y := y) (h := h2) with ⟨k, q⟩ | q
  · rw [q] at e3; cases e3
    obtain rfl := B_bl r3
    refine ⟨k, rfl, ?_⟩
    cases k with
    | true =>
      refine iteT ?_
      refine go_E S3 (L2.nxt N3) h fun w h4 ρ4 Hf4 vw H4 N4 S4 L4 r4 h => ?_
      exact ⟨Z, W, σ, ρ4, Hf4, h4, y, w, S4, (r2.nx N3).nx N4, r4, h⟩
    | false => exact iteF (P_bl S3 h)
  · rw [q] at e3; cases e3
/-! ### keywords to classes and methods -/
def shiftA (arr : List (Nat ⊕ T)) : List (Nat ⊕ T) := .inl 0 :: arr.map fun x => match x with
  | .inl i => .inl (i + 1)
  | .inr t => .inr t
theorem arrV_shift (v : V) (vs : List V) (arr : List (Nat ⊕ T)) : arrV (v :: vs) (shiftA arr) = v :: arrV vs arr := by
  have key : ∀ arr : List (Nat ⊕ T), arrV (v :: vs) (arr.map fun x => match x with
      | .inl i => .inl (i + 1)
      | .inr t => .inr t) = arrV vs arr := fun arr => by
    induction arr with
    | nil => rfl
    | cons x r ih => cases x <;> simp only [List.map_cons, arrV, ih, List.getElem?_cons_succ]
  unfold shiftA
  simp only [arrV, key, List.getElem?_cons_zero, Option.getD_some]
theorem RepBs.get {ts : List T} {vs : List V} {i : Nat} {t : T} (r : RepBs G ρ Hf H ts vs) (e : ts[i]? = some t) : ∃ v, vs[i]? = some v ∧ RepB G ρ Hf H t v := by
  induction r generalizing i with
  | nil => simp at e
  | cons h r ih =>
    cases i with
    | zero => simp only [List.getElem?_cons_zero, Option.some.injEq] at e; subst e; exact ⟨_, rfl, h⟩
    | succ i => exact ih (by simpa using e)
theorem arr_atB {ts us : List T} {vs : List V} (r : RepBs G ρ Hf H ts vs) : ∀ {arr : List (Nat ⊕ T)}, (∀ t, Sum.inr t ∈ arr → isNon t = true) → arrT ts arr = some us → RepBs G ρ Hf H us (arrV vs arr) := by
  intro arr
  induction arr generalizing us with
  | nil => intro _ e; simp only [arrT] at e; cases e; exact .nil
  | cons x xs ih =>
    intro hf e
    cases x with
    | inl i =>
      simp only [arrT] at e
      split at e
      · rename_i t ts' e1 e2
        cases e
        obtain ⟨v, h1, h2⟩ := r.get e1
        simp only [arrV, h1, Option.getD_some]
        exact .cons h2 (ih (fun t h => hf t (List.mem_cons_of_mem _ h)) e2)
      · cases e
    | inr t =>
      simp only [arrT, Option.map_eq_some_iff] at e
      obtain ⟨ts', e1, rfl⟩ := e
      have h1 := hf t List.mem_cons_self
      simp only [arrV]
      refine .cons ?_ (ih (fun t h => hf t (List.mem_cons_of_mem _ h)) e1)
      cases t <;> first | (simp [isNon] at h1; done) | exact (Rep.non).toB
theorem k_newK0 (C : KCx X P call G W CX D T0) {c f : Nat} {kc : Kb.Cls} {x : Str} {kws : List Keyword} {ks : List Str} {iks : Es} {arr : List (Nat ⊕ T)} {g : List Value → List Value → List Value} {p pos : Pos} (hk : P.cls[c]? = some kc) (hi : kc.init = some f) (hx : T0.cn[c]? = some (some x)) (hg : Gl X x) (hkw : PK X kws (tEs P call G W iks))
    (hb : KBn X.K (D.fd f) (D.ps f) 1 ks g (fun vs zs => arrV (vs ++ zs) (shiftA arr))) (hl : ks.length = Es.len iks := by rfl) (hf : ∀ t, Sum.inr t ∈ arr → isNon t = true := by intro t h; simp at h <;> (rw [h]; rfl))
    (hall : (backToKw pos (keywordEach kws X.env)).all (·.1.isSome) = true := by rfl) (hks : (backToKw pos (keywordEach kws X.env)).filterMap (·.1) = ks := by rfl)
    (hdb : (x == ("__debug__" : Str)) = false := by decide +kernel)
    (hpl : ((backTo pos (starEach [] X.env)).any (·.1) || (backToKw pos (keywordEach kws X.env)).any (·.1.isNone)) = false := by rfl) : PE X (.Call (.Name x p) [] kws pos) (tE P call G W (.newK c .nil iks arr)) := by
  obtain ⟨F, M, hm, ok, _, hT⟩ := C.ini c kc f x hk hi hx
  refine ⟨fun pins s σ H Q I h => sNewK0 M F (C.room hT) hg hm hb (C.pas σ) hkw hall hks hdb hpl I ?_⟩
  obtain ⟨Z, ρ, Hf, lσ, hp, S, L, h⟩ := h
  simp only [evE, evEs, R.bind_ok] at h
  refine go_EsL S L h fun ws h2 ρ2 Hf2 zs H2 N2 S2 L2 r2 l2 h => ?_
  refine ⟨l2.trans hl.symm, fun a dx na nd hne => ?_⟩
  split at h
  · rename_i us' e1
    show _root_.id (if kc.mode = 0 then sp G call f else spI G call c f) (arrV (.ref a :: ([] ++ zs)) (shiftA arr)) _ _ _
    rw [arrV_shift]
    exact new_core C hk hi ok S2 (arr_atB r2 hf e1) h a dx na nd hne
  · exact h.elim
theorem k_newK (C : KCx X P call G W CX D T0) {c f : Nat} {kc : Kb.Cls} {x : Str} {e : Expr} {es : List Expr} {kws : List Keyword} {ks : List Str} {ies iks : Es} {arr : List (Nat ⊕ T)} {g : List Value → List Value → List Value} {p pos : Pos} (hk : P.cls[c]? = some kc) (hi : kc.init = some f) (hx : T0.cn[c]? = some (some x)) (hg : Gl X x) (ha : PA X (e :: es) (tEs P call G W ies)) (hkw : PK X kws (tEs P call G W iks))
    (hb : KBn X.K (D.fd f) (D.ps f) (Es.len ies + 1) ks g (fun vs zs => arrV (vs ++ zs) (shiftA arr))) (hl : ks.length = Es.len iks := by rfl) (hf : ∀ t, Sum.inr t ∈ arr → isNon t = true := by intro t h; simp at h <;> (rw [h]; rfl))
    (hall : (backToKw pos (keywordEach kws X.env)).all (·.1.isSome) = true := by rfl) (hks : (backToKw pos (keywordEach kws X.env)).filterMap (·.1) = ks := by rfl)
    (hdb : (x == ("__debug__" : Str)) = false := by decide +kernel) (he : starEach (e :: es) X.env = (false, eval e X.env) :: starEach es X.env := by rfl)
    (hpl : ((backTo pos (starEach (e :: es) X.env)).any (·.1) || (backToKw pos (keywordEach kws X.env)).any (·.1.isNone)) = false := by rfl) : PE X (.Call (.Name x p) (e :: es) kws pos) (tE P call G W (.newK c ies iks arr)) := by
  obtain ⟨F, M, hm, ok, _, hT⟩ := C.ini c kc f x hk hi hx
  refine ⟨fun pins s σ H Q I h => sNewK (n := Es.len ies) M F (C.room hT) hg hm hb (C.pas σ) ha hkw hall hks hdb he hpl I ?_⟩
  obtain ⟨Z, ρ, Hf, lσ, hp, S, L, h⟩ := h
  simp only [evE] at h
  refine go_EsL S L h fun vs h1 ρ1 Hf1 us H1 N1 S1 L1 r1 l1 h => ?_
  refine go_EsL S1 L1 h fun ws h2 ρ2 Hf2 zs H2 N2 S2 L2 r2 l2 h => ?_
  refine ⟨l1, l2.trans hl.symm, fun a dx na nd hne => ?_⟩
  split at h
  · rename_i us' e1
    show _root_.id (if kc.mode = 0 then sp G call f else spI G call c f) (arrV (.ref a :: (us ++ zs)) (shiftA arr)) _ _ _
    rw [arrV_shift]
    exact new_core C hk hi ok S2 (arr_atB (RepBs.append r2 (r1.nx N2)) hf e1) h a dx na nd hne
  · exact h.elim
theorem k_methK0 (C : KCx X P call G W CX D T0) {pl : Sem Bool} {o : Expr} {kws : List Keyword} {ks : List Str} {iks : Es} {arr : List (Nat ⊕ T)} {io : E} {m : Nat} {x : Str} {apos pos : Pos} (hx : G.nm[m]? = some x) (ho : PE X o (tE P call G W io)) (hkw : PK X kws (tEs P call G W iks))
    (hb : ∀ (c f : Nat) (kc : Kb.Cls), P.cls[c]? = some kc → lkN m kc.meths = some f → ∃ g, KBn X.K (D.fd f) (D.ps f) 1 ks g (fun vs zs => arrV (vs ++ zs) (shiftA arr))) (hl : ks.length = Es.len iks := by rfl) (hf : ∀ t, Sum.inr t ∈ arr → isNon t = true := by intro t h; simp at h <;> (rw [h]; rfl))
    (hall : (backToKw pos (keywordEach kws X.env)).all (·.1.isSome) = true := by rfl) (hks : (backToKw pos (keywordEach kws X.env)).filterMap (·.1) = ks := by rfl)
    (hpl : ((backTo pos (starEach [] X.env)).any (·.1) || (backToKw pos (keywordEach kws X.env)).any (·.1.isNone)) = false := by rfl)
    (ht : eval (.Call (.Attribute o x apos) [] kws pos) X.env = (do
      let ov ← eval o X.env
      standAt apos.atName
      let (f, first) ← holding [ov] (getMethod ov x pl)
      callWith pos f first (backTo pos (starEach [] X.env)) (backToKw pos (keywordEach kws X.env))) := by rfl) (hT : T0.fn.isEmpty = false := by first | assumption | rfl) :
    PE X (.Call (.Attribute o x apos) [] kws pos) (tE P call G W (.methK io m .nil iks arr)) := by
  refine ⟨fun pins s σ H Q I h => ?_⟩
  obtain ⟨Z, ρ, Hf, lσ, hp, S, L, h⟩ := h
  simp only [evE, evEs, R.bind_ok] at h
  refine PySem.W.methodCall_KW (pl := pl) (thn (ho.run pins s σ H (fun v H1 => ∃ (c f : Nat) (kc : Kb.Cls) (a dx : Addr) (gs : List (Str × V)), v = .ref a ∧ H1 a = some (.ins (G.ca c) dx gs) ∧ gs.lookup x = none ∧ G.cok c ∧ P.cls[c]? = some kc ∧ lkN m kc.meths = some f ∧
    tEs P call G W iks σ H1 fun zs H2 => zs.length = ks.length ∧ sp G call f (v :: arrV zs arr) H2 Q (fun c d H => W c d σ H)) I ?_) fun u s1 ⟨v, H1, I1, rx, c, f, kc, a, dx, gs, ex, ea, l, hc, ek, ef, q⟩ => ?_) ht
  · refine meth_who C (f := fun t k g h => (evEs P call iks lσ h).bind fun ws h => if plainT t && ([] ++ ws).all plainT then match arrT ([] ++ ws) arr with
      | some us => call g (t :: us) h
      | none => .stuck
      else .stuck) hx S L h fun t c g kc h' ρ' Hf' H' a dx gs e1 e2 e3 e4 e5 N S' L' r h => ?_
    refine ⟨c, g, kc, a, dx, gs, rfl, e1, e2, e3, e4, e5, ?_⟩
    refine go_EsL S' L' h fun ws h2 ρ2 Hf2 zs H2 N2 S2 L2 r2 l2 h => ?_
    refine ⟨l2.trans hl.symm, ?_⟩
    split at h
    · rename_i hp2
      simp only [List.nil_append, Bool.and_eq_true] at hp2
      split at h
      · rename_i us e6
        exact ⟨Z, ρ2, Hf2, h2, t :: us, S2, .cons ((r.nx N2).plain hp2.1) (arr_at (r2.plain hp2.2) hf e6), h⟩
      · exact h.elim
    · exact h.elim
  · subst ex
    obtain rfl : u = Value.ref a := rx
    obtain ⟨F, M, _⟩ := C.mt hT c kc m f x ek ef hx hc
    obtain ⟨g, hb⟩ := hb c f kc ek ef
    refine getmeth_ok I1 ea (C.cl c hc) M l ?_
    refine PySem.W.callWith_KW0 (first := [.ref a]) (h₀ := X.base) I.ok.mod.kin M.kp hall ?_ hpl
    refine thn (hkw.run pos pins s1 σ H1 _ I1 q) fun ws s2 ⟨zs, H2, I2, rz, l2, q2⟩ => ⟨I2.kIn, ?_⟩
    rw [hks]
    refine sRun (us := [.ref a]) F ((C.room hT).mono (Nat.le_succ _)) (C.pas σ) I2 (hb.to s2 [.ref a] ws I2.kIn rfl (rz.length.symm.trans l2)) (hb.rel (vs := [V.ref a]) (us := [Value.ref a]) (.cons rfl .nil) rz) ?_
    show sp G call f (arrV (.ref a :: ([] ++ zs)) (shiftA arr)) H2 Q _
    rw [arrV_shift]; exact q2
/-! ### the module's constants -/
theorem k_gint (C : KCx X P call G W CX D T0) {k : Nat} {i : Int} {x : Str} {pos : Pos} (hg : Gl X x) (hm : ∃ t, X.mg x = some (.int i t)) (hk : P.globs[k]? = some (.int i)) (hd : (x == ("__debug__" : Str)) = false := by decide +kernel) : PE X (.Name x pos) (tE P call G W (.glo k)) := by
  obtain ⟨t, hm⟩ := hm
  refine PEimp (pe_glob (v := .int i) hg hm ⟨_, rfl⟩ hd) fun σ H Q h => ?_
  obtain ⟨Z, ρ, Hf, lσ, hp, S, L, h⟩ := h
  simp only [evE, hk] at h
  exact P_int S h
theorem k_gstr (C : KCx X P call G W CX D T0) {k : Nat} {z : List Nat} {x : Str} {pos : Pos} (hg : Gl X x) (hm : ∃ t s, X.mg x = some (.str s t) ∧ s = strV z) (hk : P.globs[k]? = some (.str z)) (hd : (x == ("__debug__" : Str)) = false := by decide +kernel) : PE X (.Name x pos) (tE P call G W (.glo k)) := by
  obtain ⟨t, s, hm, rfl⟩ := hm
  refine PEimp (pe_glob (v := .str (strV z)) hg hm ⟨_, rfl⟩ hd) fun σ H Q h => ?_
  obtain ⟨Z, ρ, Hf, lσ, hp, S, L, h⟩ := h
  simp only [evE, hk] at h
  exact P_str S h
/-- a tuple of the module: its address; what it holds, for ever -/
theorem k_gtup (C : KCx X P call G W CX D T0) {k : Nat} {xs : List T} {x : Str} {pos : Pos} (hg : Gl X x) (hm : ∃ a, X.mg x = some (.ref a) ∧ ∀ ρ Hf, Rep G ρ Hf (.tup xs) (.ref a)) (hk : P.globs[k]? = some (.tup xs)) (hd : (x == ("__debug__" : Str)) = false := by decide +kernel) : PE X (.Name x pos) (tE P call G W (.glo k)) := by
  obtain ⟨a, hm, hr⟩ := hm
  refine PEimp (pe_glob (v := .ref a) hg hm rfl hd) fun σ H Q h => ?_
  obtain ⟨Z, ρ, Hf, lσ, hp, S, L, h⟩ := h
  simp only [evE, hk] at h
  exact h.ret S (hr ρ Hf).toB
end
end Kb
end
section
set_option Elab.async false
set_option linter.all false
set_option maxRecDepth 100000
set_option maxHeartbeats 4000000
set_option autoImplicit false
/-! Kb12: classes without __init__; dicts; ranges with a step; more built-ins. -/
namespace Kb
open PySem PySem.Spec PyProof.Rows L2
section
variable {X : Cx} {P : Prog} {call : Nat → List T → Hl → R T} {G : Gm} {W : WX} {CX : CXT} {D : Dat} {T0 : Tab} {Wn : Nat}
variable {Z : Hp} {ρ : List Addr} {Hf H : Hp} {lσ : Sl} {σ : L2.St} {hp : Hl}
/-- C() where C has no __init__ of its own -/
theorem run_bare {pins : List (Addr × Obj)} {s : Shared} {Q : VK} {c : Addr} (mk : PySem.W.makesIn X.K c = true) (hi : PySem.W.findIn X.K (.ref c) "__init__" = some (some (.builtin "object.__init__"))) (I : Inv X pins σ H s)
    (h : ∀ x dx, H x = none → H dx = none → dx ≠ x → Q (.ref x) (upd (upd H dx (.own x)) x (.ins c dx []))) : wpAny (model X.prog X.w) X.A (PySem.call (.ref c) []) (EP X pins σ Q) X.xe s := by
  have q := h (s.heap.objs.size + 1) s.heap.objs.size (I.hok.fresh (Nat.le_succ _)) (I.hok.fresh (Nat.le_refl _)) (Nat.ne_of_lt (Nat.lt_succ_self _))
  have J := Inv.made (C := c) I
  have inst : ((s.heap.push PySem.W.emptyDict).push (PySem.W.instObj c s.heap.objs.size)).get? (s.heap.objs.size + 1) = some (PySem.W.instObj c s.heap.objs.size) := by
    rw [show s.heap.objs.size + 1 = (s.heap.push PySem.W.emptyDict).objs.size by rw [Heap.size_push]]; exact Heap.get?_push_size _ rfl
  have ty : PySem.W.Looks (model X.prog X.w) ((s.heap.push PySem.W.emptyDict).push (PySem.W.instObj c s.heap.objs.size)) (isInstance (.ref (s.heap.objs.size + 1)) (.type "object")) true :=
    ((PySem.W.Looks.ld inst).andThen .now).andThen ((PySem.W.makes_of (M := model X.prog X.w) I.kIn mk).top.keeps fun b o e => by exact Heap.get?_push_of_some _ (Heap.get?_push_of_some _ e))
  refine wpAny_call (make_map0 I.kIn mk hi (fun self => PySem.W.Looks.of_pure (PySem.W.oi_bind self)) ?_)
  refine codeAny_call_builtin PySem.W.oi_plain PySem.W.entry_oi (PySem.W.check_slot PySem.W.oi_kind PySem.W.oi_split ty (PySem.W.oi_args _) ?_)
  rw [PySem.W.oi_run]
  exact wpAny_pure (And.intro rfl ⟨V.ref (s.heap.objs.size + 1), _, J, rfl, q⟩)
theorem k_new0 (C : KCx X P call G W CX D T0) {c : Nat} {kc : Kb.Cls} {x : Str} {p pos : Pos} (hk : P.cls[c]? = some kc) (hi : kc.init = none) (ok : G.cok c) (mk : PySem.W.makesIn X.K (G.ca c) = true) (hin : PySem.W.findIn X.K (.ref (G.ca c)) "__init__" = some (some (.builtin "object.__init__")))
    (kp : PySem.W.keepIn X.K (.ref (G.ca c)) = true) (hg : Gl X x) (hm : X.mg x = some (.ref (G.ca c))) (hdb : (x == ("__debug__" : Str)) = false := by decide +kernel) : PE X (.Call (.Name x p) [] [] pos) (tE P call G W (.new c .nil)) := by
  refine ⟨fun pins s σ H Q I h => ?_⟩
  refine wpAny_Call_Name_kw (ld_glob I hg hm ?_ hdb)
  refine PySem.W.callWith_K0 I.kIn kp (run_bare mk hin I fun a dx na nd hne => ?_)
  obtain ⟨Z, ρ, Hf, lσ, hp, S, L, h⟩ := h
  simp only [evE, evEs, R.bind_ok, newT, hk, hi, List.isEmpty_nil, if_true] at h
  have nD : Nxt none ρ Hf H ρ Hf (upd H dx (.own a)) := .newB nd
  have SD : Sto G Z ρ Hf hp (upd H dx (.own a)) := S.newB nd
  have na' : upd H dx (.own a) a = none := by rw [upd_ne hne.symm]; exact na
  split at h
  · have SA : Sto G Z ρ Hf hp (upd (upd H dx (.own a)) a (.ins (G.ca c) dx [])) := SD.newB na'
    have aρ : a ∉ ρ := fun z => by
      obtain ⟨_, _, _, _, q, _⟩ := S.mem z
      obtain ⟨o, ho⟩ := q.there
      rw [na] at ho; cases ho
    have SN : Sto G Z (ρ ++ [a]) Hf (hp ++ [.ins c []]) (upd (upd H dx (.own a)) a (.ins (G.ca c) dx [])) := SA.cellN ⟨dx, [], upd_same, .nil, ok⟩ (S.ex.free0 na) aρ
    refine h (ρ ++ [a]) Hf _ _ ⟨⟨[a], rfl⟩, Ex.refl _, fun b o e nb hxx => ?_, fun b hb nb => ?_, fun b o e n => by rw [n] at e; cases e⟩ SN (Rep.rf ?_)
    · rw [upd_ne (ne_of_none e na), upd_ne (ne_of_none e nd)]; exact e
    · rcases List.mem_append.mp hb with hb | hb
      · exact (nb hb).elim
      · simp at hb; subst hb; exact na
    · rw [← S.len, List.getElem?_append_right (Nat.le_refl _), Nat.sub_self]; rfl
  · exact h ρ _ _ _ (nD.trans SD (Nxt.new SD.ex na')) (SD.new na') (Rep.ins ok upd_same .nil)
/-! ### dicts -/
theorem keyEq {k pk : T} {v pv : Vv} (fk : keyT k = true) (key : L2.Key) (ek : v = kV key) (rk : RepB G ρ Hf H k v) : (∀ i, pk = .int i → (eqF pk k = true ↔ (Sum.inl i : L2.Key) = key)) ∧ (∀ s, pk = .str s → (eqF pk k = true ↔ (Sum.inr (strV s) : L2.Key) = key)) := by
  cases k with
  | int j =>
    obtain rfl := B_int rk
    cases key with
    | inl i => cases ek; exact ⟨fun i e => by subst e; simp [eqF], fun s e => by subst e; simp [eqF]⟩
    | inr s => cases ek
  | str t =>
    obtain rfl := B_str rk
    cases key with
    | inl i => cases ek
    | inr s =>
      cases ek
      refine ⟨fun i e => by subst e; simp [eqF], fun s e => ?_⟩
      subst e
      simp only [eqF, beq_iff_eq, Sum.inr.injEq]
      exact ⟨fun z => by rw [z], fun z => strV_inj z⟩
  | _ => simp [keyT] at fk
theorem RepK.put {k t : T} {w : Vv} (fk : keyT k = true) {v : Vv} (rk : RepB G ρ Hf H k v) (rt : Rep G ρ Hf t w) : ∃ key : L2.Key, v = kV key ∧ ∀ kvs gs, RepK G ρ Hf kvs gs → RepK G ρ Hf (dput kvs k t) (putK gs key w) := by
  obtain ⟨key, ek, hk⟩ := key_kV fk rk
  have kq := fun (pk : T) => keyEq (pk := pk) (pv := v) fk key ek rk
  have mapR : ∀ (kvs : List (T × T)) (gs : List (L2.Key × Vv)), RepK G ρ Hf kvs gs → RepK G ρ Hf (kvs.map fun p => if eqF p.1 k then (p.1, t) else p) (gs.map fun kv => if kv.1 = key then (kv.1, w) else kv) := by
    intro kvs
    induction kvs with
    | nil => intro gs r; cases r; exact .nil
    | cons p ps ih =>
      intro gs r
      cases r with
      | @consI i t2 v2 ts vs h r =>
        have q := (kq (.int i)).1 i rfl
        rw [List.map_cons, List.map_cons]
        by_cases z : (Sum.inl i : L2.Key) = key
        · rw [if_pos z, if_pos (q.mpr z)]; exact .consI rt (ih _ r)
        · rw [if_neg z, if_neg (fun y => z (q.mp y))]; exact .consI h (ih _ r)
      | @consS i t2 v2 ts vs h r =>
        have q := (kq (.str i)).2 i rfl
        rw [List.map_cons, List.map_cons]
        by_cases z : (Sum.inr (strV i) : L2.Key) = key
        · rw [if_pos z, if_pos (q.mpr z)]; exact .consS rt (ih _ r)
        · rw [if_neg z, if_neg (fun y => z (q.mp y))]; exact .consS h (ih _ r)
  have appR : ∀ (kvs : List (T × T)) (gs : List (L2.Key × Vv)), RepK G ρ Hf kvs gs → RepK G ρ Hf (kvs ++ [(k, t)]) (gs ++ [(key, w)]) := by
    intro kvs
    induction kvs with
    | nil =>
      intro gs r; cases r
      cases k with
      | int i => obtain rfl := B_int rk; cases key <;> cases ek; exact .consI rt .nil
      | str s => obtain rfl := B_str rk; cases key <;> cases ek; exact .consS rt .nil
      | _ => simp [keyT] at fk
    | cons p ps ih =>
      intro gs r
      cases r with
      | consI h r => exact .consI h (ih _ r)
      | consS h r => exact .consS h (ih _ r)
  refine ⟨key, ek, fun kvs gs r => ?_⟩
  have hall : (gs.any fun kv => decide (kv.1 = key)) = kvs.any fun p => eqF p.1 k := by rw [(hk kvs gs r).1, valV_any]
  unfold dput putK
  rw [hall]
  split
  · exact mapR kvs gs r
  · exact appR kvs gs r
theorem RepK.len : ∀ {kvs : List (T × T)} {gs : List (L2.Key × Vv)}, RepK G ρ Hf kvs gs → kvs.length = gs.length := by
  intro kvs
  induction kvs with
  | nil => intro gs r; cases r; rfl
  | cons p ps ih =>
    intro gs r
    cases r with
    | consI h r => rw [List.length_cons, List.length_cons, ih r]
    | consS h r => rw [List.length_cons, List.length_cons, ih r]
theorem P_alD (S : Sto G Z ρ Hf hp H) {Q : VK} {xs : List (T × T)} {vs : List (L2.Key × Vv)} (r : RepK G ρ Hf xs vs) (p : Post G Z W σ (AllocR G Z) ρ Hf H Q (.ok (.dct xs) hp)) : ∀ q, H q = none → Q (.ref q) (upd H q (.dK vs)) := fun q hq => by
  obtain ⟨f, m, z⟩ := S.free hq
  exact p ρ Hf _ (.ref q) (.newB hq) (S.newB hq) ⟨q, rfl, ⟨vs, upd_same, r⟩, f, m, z, fun _ _ e => nomatch e⟩
theorem ka_dnew {pos : Pos} : PE X (.Dict [] [] pos) (tA P call G W (.dct [] .nil)) := by
  refine PEimp pe_dnewK fun σ H Q h => ?_
  obtain ⟨Z, ρ, Hf, lσ, hp, S, L, h⟩ := h
  simp only [evA, evEs, R.bind_ok] at h
  exact P_alD S .nil h
/-- d[k] = e -/
theorem setD_at {o : Kb.E} {En : Ent} {t k y : T} {u w v : V} {h2 : Hl} {lσ' : Sl} {h' : Hl} (A : StA G En ρ Hf lσ h2 σ H) (rt : RepB G ρ Hf H t u) (hs : ∀ q, o = .var q → lσ[q]? = some (some t) ∧ σ[q]? = some (some u)) (rk : RepB G ρ Hf H k w) (ry : Rep G ρ Hf y v) (eq : putD o lσ t k y h2 = some (lσ', h')) :
    ∃ a H4, u = .ref a ∧ DPut H a w v H4 ∧ St1 G En lσ' h' σ H4 := by
  cases t with
  | rf n =>
    simp only [putD] at eq
    split at eq
    · rename_i kvs hn
      split at eq
      · rename_i c
        simp only [Bool.and_eq_true, decide_eq_true_eq] at c
        cases eq
        obtain ⟨a, ea, ⟨gs, ha, rK⟩, fa⟩ := A.S.at hn
        obtain ⟨b, rfl, eb⟩ := B_rf rt
        rw [ea] at eb; cases eb
        obtain ⟨key, rfl, put⟩ := RepK.put c.1 rk ry
        exact ⟨a, _, rfl, DPut.k ha (by rw [← rK.len, ← maxLen_eq]; exact c.2), ρ, Hf, A.setCell ea ⟨_, upd_same, put _ _ rK⟩⟩
      · cases eq
    · cases eq
  | bD kvs =>
    simp only [putD] at eq
    split at eq
    · rename_i q
      split at eq
      · rename_i c
        simp only [Bool.and_eq_true, decide_eq_true_eq] at c
        cases eq
        obtain ⟨h1, h2⟩ := hs q rfl
        obtain ⟨a, gs, rfl, ha, rK, fa, ma⟩ := id rt
        obtain ⟨key, rfl, put⟩ := RepK.put c.1 rk ry
        exact ⟨a, _, rfl, DPut.k ha (by rw [← rK.len, ← maxLen_eq]; exact c.2), ρ, Hf, A.setOwn h1 rfl h2 rfl rfl ⟨a, _, rfl, upd_same, put _ _ rK, fa, ma⟩⟩
      · cases eq
    · cases eq
  | _ => simp [putD] at eq
theorem ks_setD (C : KCx X P call G W CX D T0) {o i e : Expr} {io ii ie : Kb.E} {pos pos' : Pos} (ho : PE X o (tE P call G W io)) (hi : PE X i (tE P call G W ii)) (he : PE X e (tE P call G W ie)) (hv : isVarE io = false := by rfl)
    (hs : swapsWith e (some (.Subscript o i pos')) pos.line X.env = pure false := by rfl) : PS X (.Assign [.Subscript o i pos'] e pos) (tS P call G W Wn (.setD io ii ie)) := by
  refine PSimp (ps_dput C.un1 ho hi he hs) fun E σ H ⟨En, lσ, hp, ⟨ρ, Hf, A⟩, q⟩ => ?_
  simp only [exS] at q
  refine go_sE A q fun y h1 ρ1 Hf1 v H1 A1 N1 r1 q => ?_
  refine go_sE A1 q fun t h2 ρ2 Hf2 u H2 A2 N2 r2 q0 => ?_
  refine go_sE A2 q0 fun k h3 ρ3 Hf3 w H3 A3 N3 r3 q => ?_
  split at q
  · rename_i py
    split at q
    · rename_i σ' h' eq
      obtain ⟨a, H4, e1, e2, e3⟩ := setD_at A3 (r2.nx N3) (fun q e => by subst e; simp [isVarE] at hv) r3 (((r1.nx N2).nx N3).plain py) eq
      exact ⟨a, H4, e1, e2, q _ _ e3⟩
    · exact False.elim q
  · exact False.elim q
theorem ks_setDv (C : KCx X P call G W CX D T0) {i e : Expr} {ii ie : Kb.E} {s0 : Nat} {z : Str} {pos pos' pz : Pos} (hN : X.N[s0]? = some z) (hvis : visC X.env.scope z = true) (hi : PE X i (tE P call G W ii)) (he : PE X e (tE P call G W ie)) (hd : (z == ("__debug__" : Str)) = false := by decide +kernel) (hcd : (z == ("__classdict__" : Str)) = false := by decide +kernel)
    (hs : swapsWith e (some (.Subscript (.Name z pz) i pos')) pos.line X.env = pure false := by rfl) : PS X (.Assign [.Subscript (.Name z pz) i pos'] e pos) (tS P call G W Wn (.setD (.var s0) ii ie)) := by
  refine PSimp (ps_dput C.un1 (pe_var hN (vis_of hvis) hd hcd) hi he hs) fun E σ H ⟨En, lσ, hp, ⟨ρ, Hf, A⟩, q⟩ => ?_
  simp only [exS] at q
  refine go_sE A q fun y h1 ρ1 Hf1 v H1 A1 N1 r1 q => ?_
  simp only [evE] at q
  split at q
  · rename_i t es
    obtain ⟨u, hu, r2⟩ := A1.L.slot s0 t es
    refine ⟨u, hu, ?_⟩
    simp only [R.toS_ok] at q
    have q0 := q
    clear q
    refine go_sE A1 q0 fun k h3 ρ3 Hf3 w H3 A3 N3 r3 q => ?_
    clear q0
    split at q
    · rename_i py
      split at q
      · rename_i σ' h' eq
        obtain ⟨a, H4, e1, e2, e3⟩ := setD_at A3 (r2.nx N3) (fun q e => by cases e; exact ⟨es, hu⟩) r3 ((r1.nx N3).plain py) eq
        exact ⟨a, H4, e1, e2, q _ _ e3⟩
      · exact False.elim q
    · exact False.elim q
  · exact False.elim q
theorem dget_at {x k : T} {kvs : List (T × T)} {v u : V} (S : Sto G Z ρ Hf hp H) (e : dctOf x hp = some kvs) (fk : keyT k = true) (rx : RepB G ρ Hf H x v) (rk : RepB G ρ Hf H k u) : ∃ a o, v = .ref a ∧ IsD H a ∧ DGet H a u o ∧ (∀ t, fndK k kvs = some t → ∃ w, o = some w ∧ Rep G ρ Hf t w) ∧ (fndK k kvs = none → o = none) := by
  obtain ⟨a, gs, h1, h2, h3⟩ := dct_at S e rx
  obtain ⟨key, rfl, hk⟩ := key_kV fk rk
  exact ⟨a, _, h1, .inl ⟨gs, h2⟩, .inl ⟨_, _, h2, rfl, rfl⟩, (hk kvs gs h3).2.1, (hk kvs gs h3).2.2⟩
theorem k_get2 (C : KCx X P call G W CX D T0) {o e f : Expr} {io ie jf : E} {apos cpos : Pos} (ho : PE X o (tE P call G W io)) (he : PE X e (tE P call G W ie)) (hf : PE X f (tE P call G W jf)) (hbase : attributeBase o "get" X.env (eval o X.env) = eval o X.env := by rfl)
    (hfew : ((backTo cpos (starEach [e, f] X.env)).all (fun x => !x.1) && (backToKw cpos (keywordEach [] X.env)).all (fun x => x.1.isSome) && decide (([e, f] : List Expr).length + ([] : List Keyword).length + (if ([] : List Keyword).isEmpty then 0 else 1) < 30)) = true := by rfl)
    (hline : (apos.endLine == cpos.line) = true := by rfl) (htr : backTo cpos (starEach [e, f] X.env) = [(false, eval e X.env), (false, eval f X.env)] := by rfl) :
    PE X (.Call (.Attribute o "get" apos) [e, f] [] cpos) (tE P call G W (.bm .getD io (.cons ie (.cons jf .nil)))) := by
  refine PEimp (pe_dget2 C.un1 ho he hf ⟨hbase, hfew, hline, htr⟩) fun σ H Q h => ?_
  obtain ⟨Z, ρ, Hf, lσ, hp, S, L, h⟩ := h
  simp only [evE, evEs, R.bind_assoc, R.bind_ok] at h
  refine go_E S L h fun x h1 ρ1 Hf1 v H1 N1 S1 L1 r1 h => ?_
  split at h
  · rename_i pre
    have ⟨kvs0, e0⟩ : ∃ kvs, dctOf x h1 = some kvs := Option.isSome_iff_exists.mp pre
    obtain ⟨a, gs0, rfl, h2, _⟩ := dct_at S1 e0 r1
    refine ⟨a, rfl, .inl ⟨gs0, h2⟩, ?_⟩
    refine go_E S1 L1 h fun k h3 ρ3 Hf3 u H3 N3 S3 L3 r3 h => ?_
    refine go_E S3 L3 h fun y h4 ρ4 Hf4 w H4 N4 S4 L4 r4 h => ?_
    simp only [bmT, getDF] at h
    split at h
    · rename_i kvs ek
      split at h
      · rename_i fk
        obtain ⟨a', o, e1, _, g, s1, s2⟩ := dget_at S4 ek fk ((r1.nx N3).nx N4) (r3.nx N4)
        cases e1
        refine ⟨o, g, ?_⟩
        cases q : fndK k kvs with
        | none =>
          rw [s2 q]
          rw [q] at h
          exact h.ret S4 r4
        | some t =>
          obtain ⟨w', e2, rw'⟩ := s1 t q
          rw [e2]
          rw [q] at h
          exact h.ret S4 rw'.toB
      · exact h.elim
    · exact h.elim
  · exact h.elim
theorem k_get1 (C : KCx X P call G W CX D T0) {o e : Expr} {io ie : E} {apos cpos : Pos} (ho : PE X o (tE P call G W io)) (he : PE X e (tE P call G W ie)) (m : M1 X o "get" apos e cpos) :
    PE X (.Call (.Attribute o "get" apos) [e] [] cpos) (tE P call G W (.bm .get io (.cons ie .nil))) := by
  refine PEimp (pe_dget1 C.un1 ho he m) fun σ H Q h => ?_
  obtain ⟨Z, ρ, Hf, lσ, hp, S, L, h⟩ := h
  simp only [evE, evEs, R.bind_assoc, R.bind_ok] at h
  refine go_E S L h fun x h1 ρ1 Hf1 v H1 N1 S1 L1 r1 h => ?_
  split at h
  · rename_i pre
    have ⟨kvs0, e0⟩ : ∃ kvs, dctOf x h1 = some kvs := Option.isSome_iff_exists.mp pre
    obtain ⟨a, gs0, rfl, h2, _⟩ := dct_at S1 e0 r1
    refine ⟨a, rfl, .inl ⟨gs0, h2⟩, ?_⟩
    refine go_E S1 L1 h fun k h3 ρ3 Hf3 u H3 N3 S3 L3 r3 h => ?_
    simp only [bmT, getF] at h
    split at h
    · rename_i kvs ek
      split at h
      · rename_i fk
        obtain ⟨a', o, e1, _, g, s1, s2⟩ := dget_at S3 ek fk (r1.nx N3) r3
        cases e1
        refine ⟨o, g, ?_⟩
        cases q : fndK k kvs with
        | none =>
          rw [s2 q]
          rw [q] at h
          exact h.ret S3 (Rep.non).toB
        | some t =>
          obtain ⟨w', e2, rw'⟩ := s1 t q
          rw [e2]
          rw [q] at h
          exact h.ret S3 rw'.toB
      · exact h.elim
    · exact h.elim
  · exact h.elim
/-! ### methods of texts -/
theorem k_bmS {b : BM} {id : String} {name : Str} {o e : Expr} {es : List Expr} {io : E} {ies : Es} {apos cpos : Pos} (hb : ∀ x h, bmPre b x h = isStrT x) (slot : Slot "str" name id) (hty : typeOf (.builtin id) = pure (.type "method_descriptor")) (hm : MtR X id (rM G (bmT b))) (ho : PE X o (tE P call G W io)) (ha : PA X (e :: es) (tEs P call G W ies))
    (hbase : attributeBase o name X.env (eval o X.env) = eval o X.env := by rfl)
    (hfew : ((backTo cpos (starEach (e :: es) X.env)).all (fun x => !x.1) && (backToKw cpos (keywordEach [] X.env)).all (fun x => x.1.isSome) && decide ((e :: es).length + ([] : List Keyword).length + (if ([] : List Keyword).isEmpty then 0 else 1) < 30)) = true := by rfl)
    (hline : (apos.endLine == cpos.line) = true := by rfl) (hs : starEach (e :: es) X.env = (false, eval e X.env) :: starEach es X.env := by rfl) (hplain : (backTo cpos (starEach es X.env)).any (·.1) = false := by rfl) :
    PE X (.Call (.Attribute o name apos) (e :: es) [] cpos) (tE P call G W (.bm b io ies)) := by
  refine PEimp (pe_bm PySem.F.plainAttrs_str slot hty hm ho ha hbase hfew hline hs hplain) fun σ H Q h => ?_
  obtain ⟨Z, ρ, Hf, lσ, hp, S, L, h⟩ := h
  simp only [evE] at h
  refine go_E S L h fun x h1 ρ1 Hf1 v H1 N1 S1 L1 r1 h => ?_
  split at h
  · rename_i pre
    rw [hb] at pre
    cases x <;> first | (simp [isStrT] at pre; done) | skip
    obtain rfl := B_str r1
    refine ⟨rfl, ?_⟩
    refine go_Es S1 L1 h fun xs h2 ρ2 Hf2 vs H2 N2 S2 L2 r2 h => ?_
    exact ⟨Z, W, σ, ρ2, Hf2, h2, _, xs, S2, r1.nx N2, r2, h⟩
  · exact h.elim
theorem k_sw (C : KCx X P call G W CX D T0) {o e : Expr} {io ie : E} {apos cpos : Pos} (ho : PE X o (tE P call G W io)) (he : PE X e (tE P call G W ie)) (hbase : attributeBase o "startswith" X.env (eval o X.env) = eval o X.env := by rfl)
    (hfew : ((backTo cpos (starEach [e] X.env)).all (fun x => !x.1) && (backToKw cpos (keywordEach [] X.env)).all (fun x => x.1.isSome) && decide (([e] : List Expr).length + ([] : List Keyword).length + (if ([] : List Keyword).isEmpty then 0 else 1) < 30)) = true := by rfl)
    (hline : (apos.endLine == cpos.line) = true := by rfl) (hs : starEach [e] X.env = (false, eval e X.env) :: starEach [] X.env := by rfl) (hplain : (backTo cpos (starEach [] X.env)).any (·.1) = false := by rfl) :
    PE X (.Call (.Attribute o "startswith" apos) [e] [] cpos) (tE P call G W (.bm .startswith io (.cons ie .nil))) :=
  k_bmS (fun _ _ => rfl) PySem.F.slot_str_startswith PySem.F.type_str_startswith mt_swT ho (ka_cons he ka_nil hs) hbase hfew hline hs hplain
theorem k_join (C : KCx X P call G W CX D T0) {o e : Expr} {io ie : E} {apos cpos : Pos} (ho : PE X o (tE P call G W io)) (he : PE X e (tE P call G W ie)) (hbase : attributeBase o "join" X.env (eval o X.env) = eval o X.env := by rfl)
    (hfew : ((backTo cpos (starEach [e] X.env)).all (fun x => !x.1) && (backToKw cpos (keywordEach [] X.env)).all (fun x => x.1.isSome) && decide (([e] : List Expr).length + ([] : List Keyword).length + (if ([] : List Keyword).isEmpty then 0 else 1) < 30)) = true := by rfl)
    (hline : (apos.endLine == cpos.line) = true := by rfl) (hs : starEach [e] X.env = (false, eval e X.env) :: starEach [] X.env := by rfl) (hplain : (backTo cpos (starEach [] X.env)).any (·.1) = false := by rfl) :
    PE X (.Call (.Attribute o "join" apos) [e] [] cpos) (tE P call G W (.bm .join io (.cons ie .nil))) :=
  k_bmS (fun _ _ => rfl) PySem.F.slot_str_join PySem.F.type_str_join (mt_joinT C.hK) ho (ka_cons he ka_nil hs) hbase hfew hline hs hplain
/-! ### displays of dicts -/
def keyV : T → V
  | .int i => .int i | .str s => .str (strV s) | _ => .non
def PD (X : Cx) (P : Prog) (call : Nat → List T → Hl → R T) (G : Gm) (W : WX) (pos : Pos) (keys : List (Option Expr)) (values : List Expr) (ks : List T) (ies : Es) : Prop :=
  ks.length = Es.len ies ∧ keys.length = ks.length ∧ keys.length = values.length ∧ keys.all (·.isSome) = true ∧ ∃ trs, PPs X pos keys values trs ∧ ∀ (σ : L2.St) (H : Hp) (Q : List (V × V) → Hp → Prop), tEs P call G W ies σ H (fun us H' => Q ((ks.map keyV).zip us) H') → tPairs trs σ H Q
theorem kpp_nil {pos : Pos} : PD X P call G W pos [] [] [] .nil := ⟨rfl, rfl, rfl, rfl, [], pps_nil, fun σ H Q ⟨Z, ρ, Hf, lσ, hp, S, L, h⟩ => h.ret S .nil⟩
theorem kpp_cons {pos : Pos} {k v : Expr} {kt : T} {tk : TE} {keys : List (Option Expr)} {values : List Expr} {ks : List T} {ie : E} {ies : Es} (hk : PE X k tk) (hq : ∀ σ H (Q : VK), Q (keyV kt) H → tk σ H Q) (hv : PE X v (tE P call G W ie)) (hr : PD X P call G W pos keys values ks ies) :
    PD X P call G W pos (some k :: keys) (v :: values) (kt :: ks) (.cons ie ies) := by
  obtain ⟨h1, h2, h3, h4, trs, hp, himp⟩ := hr
  refine ⟨by rw [List.length_cons, h1]; rfl, by rw [List.length_cons, List.length_cons, h2], by rw [List.length_cons, List.length_cons, h3], by simp [h4], _, pps_cons hk hv hp, fun σ H Q h => hq σ H _ ?_⟩
  obtain ⟨Z, ρ, Hf, lσ, hp, S, L, h⟩ := h
  simp only [evEs] at h
  refine go_E S L h fun x h1 ρ1 Hf1 u H1 N1 S1 L1 r1 h => himp _ _ _ ?_
  refine go_Es S1 L1 h fun xs h2 ρ2 Hf2 us H2 N2 S2 L2 r2 h => ?_
  exact h.ret S2 (.cons (r1.nx N2) r2)
theorem kpp_int {pos : Pos} {i : Int} {j p} {v : Expr} {keys : List (Option Expr)} {values : List Expr} {ks : List T} {ie : E} {ies : Es} (hv : PE X v (tE P call G W ie)) (hr : PD X P call G W pos keys values ks ies) :
    PD X P call G W pos (some (.Constant (.int i) j p) :: keys) (v :: values) (.int i :: ks) (.cons ie ies) := kpp_cons pe_int (fun _ _ _ q => q) hv hr
theorem kpp_str {pos : Pos} {x : Str} {z : List Nat} {j p} {v : Expr} {keys : List (Option Expr)} {values : List Expr} {ks : List T} {ie : E} {ies : Es} (hv : PE X v (tE P call G W ie)) (hr : PD X P call G W pos keys values ks ies) (hx : x = strV z := by decide +kernel) :
    PD X P call G W pos (some (.Constant (.str x) j p) :: keys) (v :: values) (.str z :: ks) (.cons ie ies) := by
  subst hx
  exact kpp_cons pe_str (fun _ _ _ q => q) hv hr
theorem disp_kvs : ∀ (ks : List T) (vs : List T) (us : List V), ks.all keyT = true → Reps G ρ Hf vs us → vs.length = ks.length → ∃ kvs : List (L2.Key × V), (ks.map keyV).zip us = kvs.map (fun kv => (kV kv.1, kv.2)) ∧ kvs.length = ks.length ∧
    ∀ d gs, RepK G ρ Hf d gs → RepK G ρ Hf ((ks.zip vs).foldl (fun d p => dput d p.1 p.2) d) (mergeK gs kvs) := by
  intro ks
  induction ks with
  | nil => intro vs us _ r e; exact ⟨[], by simp, rfl, fun d gs r => r⟩
  | cons k ks ih =>
    intro vs us fk r e
    cases r with
    | nil => cases e
    | @cons t u ts us h r =>
      simp only [List.all_cons, Bool.and_eq_true] at fk
      obtain ⟨kvs, e1, e2, e3⟩ := ih ts us fk.2 r (by simpa using e)
      have rk : RepB G ρ Hf Hf k (keyV k) := by cases k <;> first | (simp [keyT] at fk; done) | exact Rep.int _ | exact Rep.str _
      obtain ⟨key, ek, put⟩ := RepK.put (H := Hf) fk.1 rk h
      refine ⟨(key, u) :: kvs, by simp only [List.map_cons, List.zip_cons_cons, e1, ek], by simp [e2], fun d gs r => ?_⟩
      simp only [List.zip_cons_cons, List.foldl_cons]
      exact e3 _ _ (put _ _ r)
theorem ka_disp (C : KCx X P call G W CX D T0) {pos : Pos} {keys : List (Option Expr)} {values : List Expr} {ks : List T} {ies : Es} (hd : PD X P call G W pos keys values ks ies) (h0 : keys ≠ [] := by intro z; cases z) (h15 : keys.length ≤ 15 := by decide) : PE X (.Dict keys values pos) (tA P call G W (.dct ks ies)) := by
  obtain ⟨h1, h2, h3, h4, trs, hp, himp⟩ := hd
  refine PEimp (pe_disp hp h4 h3 h0 h15) fun σ H Q h => ?_
  obtain ⟨Z, ρ, Hf, lσ, hp, S, L, h⟩ := h
  intro p np
  obtain ⟨f, m, z⟩ := S.free np
  have N0 : Nxt none ρ Hf H ρ Hf (upd H p (.dK [])) := .newB np
  have S0 : Sto G Z ρ Hf hp (upd H p (.dK [])) := S.newB np
  simp only [evA] at h
  refine himp _ _ _ ⟨Z, ρ, Hf, lσ, hp, S0, L.nxt N0, ?_⟩
  generalize evEs P call ies lσ hp = r at h
  cases r with
  | err c fs h' => exact PErr.from S0 N0 h
  | stuck => exact h
  | ok vs h' =>
    simp only [R.bind_ok] at h
    intro ρ' Hf' H' us N S' r
    have hp' : H' p = some (.dK []) := N.fr p _ upd_same m (by simp)
    refine ⟨hp', ?_⟩
    split at h
    · rename_i c
      simp only [Bool.and_eq_true, decide_eq_true_eq] at c
      obtain ⟨⟨⟨c1, c2⟩, c3⟩, c4⟩ := c
      obtain ⟨kvs, e1, e2, e3⟩ := disp_kvs ks vs us c1 (r.plain c2) c3
      refine ⟨kvs, e1, by omega, ?_⟩
      have f' : Hf' p = none := by
        cases y : Hf' p with
        | none => rfl
        | some o => have := N.hn p o y f; rw [upd_same] at this; cases this
      have m' : p ∉ ρ' := fun y => by have := N.nw p y m; rw [upd_same] at this; cases this
      have back : ∀ {b : Addr}, upd H p (.dK []) b = none → H b = none := fun {b} e => by
        by_cases q : b = p
        · subst q; exact np
        · rw [upd_ne q] at e; exact e
      refine h ρ' Hf' _ (.ref p) ⟨N.pre, N.hf, fun b o e nb _ => ?_, fun b hb nb => back (N.nw b hb nb), fun b o e n => back (N.hn b o e n)⟩ (S'.setX f' m') ⟨p, rfl, ⟨_, upd_same, e3 _ _ .nil⟩, f', m', z, fun _ _ e => nomatch e⟩
      rw [upd_ne (ne_of_none e np)]
      exact N.fr b o (by rw [upd_ne (ne_of_none e np)]; exact e) nb (by simp)
    · exact h.elim
end
end Kb
end
section
set_option Elab.async false
set_option linter.all false
set_option maxRecDepth 100000
set_option maxHeartbeats 4000000
set_option autoImplicit false
/-! Kb13: zip over lists, tuples and texts in any mixture. -/
namespace Kb
open PySem PySem.Spec PyProof.Rows L2
/-- what is zipped -/
inductive Sk where
  | lst (a : Addr) | tup (a : Addr) | txt (z : Str)
def Sk.val : Sk → V
  | .lst a => .ref a | .tup a => .ref a | .txt z => .str z
def Sk.std (K : PySem.W.Frag) (H : Hp) : Sk → List V → Prop
  | .lst a, vs => SqL K H a vs
  | .tup a, vs => SqT K H a vs
  | .txt z, vs => vs = z.cps.toList.map fun c => V.str ⟨#[c]⟩
def Sk.adr : Sk → List Addr
  | .lst a => [a] | .tup a => [a] | .txt _ => []
def Sk.it : Sk → Tok → Addr → Nat → Heap → Prop
  | .lst a, _, b, i, h => h.IsListIter b a i
  | .tup a, _, b, i, h => h.IsTupleIter b a i
  | .txt z, t, b, i, h => h.IsStrIter b (strIterType z) z t i
def Sk.obj : Sk → Tok → Obj
  | .lst a, _ => { cls := .type "list_iterator", data := .fields #[.ref a, .int 0 0] }
  | .tup a, _ => { cls := .type "tuple_iterator", data := .fields #[.ref a, .int 0 0] }
  | .txt z, t => { cls := .type (strIterType z), data := .fields #[.str z t, .int 0 0] }
theorem Sk.std_ex {K : PySem.W.Frag} {H H' : Hp} {k : Sk} {vs : List V} (h : k.std K H vs) (e : Ex H H') : k.std K H' vs := by
  cases k with
  | lst a => exact e.sq h
  | tup a => exact e.st h
  | txt z => exact h
theorem Sk.it_fields {k : Sk} {t : Tok} {b : Addr} {i : Nat} {h : Heap} (e : k.it t b i h) : ∃ o n fs, h.get? b = some o ∧ o.cls = .type n ∧ o.data = .fields fs := by
  cases k <;> obtain ⟨o, e1, e2, e3⟩ := e <;> exact ⟨o, _, _, e1, e2, e3⟩
theorem Sk.it_keep {k : Sk} {t : Tok} {b : Addr} {i : Nat} {h h' : Heap} (e : k.it t b i h) (hk : ∀ o, h.get? b = some o → h'.get? b = some o) : k.it t b i h' := by
  cases k <;> obtain ⟨o, e1, e2⟩ := e <;> exact ⟨o, hk _ e1, e2⟩
theorem Sk.it_new (k : Sk) (t : Tok) {b : Addr} {h : Heap} (e : h.get? b = some (k.obj t)) : k.it t b 0 h := by
  cases k <;> exact ⟨_, e, rfl, rfl⟩
section
variable {X : Cx} {pins : List (Addr × Obj)} {σ : L2.St} {H : Hp} {s : Shared} {A : Around}
theorem Sk.std_inj (I : Inv X pins σ H s) {k : Sk} {vs ws : List V} (h : k.std X.K H vs) (h' : k.std X.K H ws) : vs = ws := by
  cases k with
  | lst a => exact I.list_inj h h'
  | tup a => exact I.tuple_inj h h'
  | txt z => exact h.trans h'.symm
theorem vals_back {xs : List V} {us : List Value} {i : Nat} {u : Value} (r : Vals xs us) (e : us[i]? = some u) : ∃ x, xs[i]? = some x ∧ RelV x u := by
  have hl : i < xs.length := by rw [r.length]; exact (List.getElem?_eq_some_iff.mp e).1
  obtain ⟨w, e1, e2⟩ := r.get (List.getElem?_eq_getElem hl)
  rw [e] at e1; cases e1
  exact ⟨_, List.getElem?_eq_getElem hl, e2⟩
/-- its iterator's turns, as the heap stands -/
theorem Sk.draws (I : Inv X pins σ H s) (hh : A.handled = none) (k : Sk) (t : Tok) (b : Addr) (na : b ∉ k.adr) {vs : List V} (hv : k.std X.K H vs) :
    ∃ (Pv : Nat → Value → Prop) (St : Nat → Heap → Prop), Draws X.prog X.w A b (b :: k.adr) vs.length Pv St ∧ (∀ i, k.it t b i s.heap → St i s.heap) ∧ (∀ i h, St i h → k.it t b i h) ∧ ∀ i u, Pv i u → ∃ x, vs[i]? = some x ∧ RelV x u := by
  cases k with
  | lst a =>
    obtain ⟨its, rv, p, _⟩ := I.list hv
    have hl : vs.length = its.toArray.size := by rw [rv.length]; simp
    rw [hl]
    refine ⟨_, _, Draws.list hh b a (fun e => na (by rw [← e]; exact List.mem_singleton.mpr rfl)) its.toArray, fun i e => ⟨e, p.isList⟩, fun i h e => e.1, fun i u e => ?_⟩
    obtain ⟨x, e1, e2⟩ := vals_back rv (by simpa using e)
    exact ⟨x, e1, e2⟩
  | tup a =>
    obtain ⟨its, rv, p, _⟩ := I.tuple hv
    have hl : vs.length = its.toArray.size := by rw [rv.length]; simp
    rw [hl]
    refine ⟨_, _, Draws.tuple hh b a (fun e => na (by rw [← e]; exact List.mem_singleton.mpr rfl)) its.toArray, fun i e => ⟨e, p⟩, fun i h e => e.1, fun i u e => ?_⟩
    obtain ⟨x, e1, e2⟩ := vals_back rv (by simpa using e)
    exact ⟨x, e1, e2⟩
  | txt z =>
    have hv : vs = z.cps.toList.map fun c => V.str ⟨#[c]⟩ := hv
    have hl : vs.length = z.cps.size := by rw [hv]; simp
    rw [hl]
    refine ⟨_, _, Draws.text hh b z t, fun i e => e, fun i h e => e, fun i u ⟨c, tk, e1, e2⟩ => ⟨.str ⟨#[c]⟩, ?_, tk, e2⟩⟩
    rw [hv, List.getElem?_map]
    have : z.cps.toList[i]? = some c := by simpa using e1
    rw [this]; rfl
theorem Sk.begins (I : Inv X pins σ H s) (k : Sk) {vs : List V} (hv : k.std X.K H vs) {u : Value} (r : RelV k.val u) : ∃ (t : Tok) (HB : Heap → Prop), Begins u (k.obj t) HB ∧ HB s.heap ∧ ∀ c ∈ k.adr, c < s.heap.objs.size := by
  cases k with
  | lst a =>
    obtain ⟨its, rv, p, _⟩ := I.list hv
    cases r
    exact ⟨0, _, begins_list a its.toArray, p.isList, fun c hc => by rw [List.mem_singleton.mp hc]; exact p.lt⟩
  | tup a =>
    obtain ⟨its, rv, p, _⟩ := I.tuple hv
    cases r
    obtain ⟨o, ho, _⟩ := id p
    exact ⟨0, _, begins_tuple a its.toArray, p, fun c hc => by rw [List.mem_singleton.mp hc]; exact Heap.lt_size ho⟩
  | txt z =>
    obtain ⟨t, rfl⟩ := r
    exact ⟨t, _, begins_text z t, trivial, fun c hc => nomatch hc⟩
end
/-- the pairs as they come -/
def Izz (K : PySem.W.Frag) (k1 k2 : Sk) : L2.It :=
  ⟨fun i H => ∃ vs ws, k1.std K H vs ∧ k2.std K H ws ∧ i < vs.length ∧ i < ws.length,
    fun i H v H' => ∃ T x y, v = .ref T ∧ H T = none ∧ H' = upd H T (.tup [x, y]) ∧ (∀ vs, k1.std K H vs → vs[i]? = some x) ∧ ∀ ws, k2.std K H ws → ws[i]? = some y,
    fun i H => ∃ vs ws, k1.std K H vs ∧ k2.std K H ws ∧ i ≤ vs.length ∧ i ≤ ws.length ∧ (i = vs.length ∨ i = ws.length)⟩
structure Zap (z TI TO i1 i2 : Addr) (k1 k2 : Sk) : Prop where
  TIz : TI ≠ z
  TOz : TO ≠ z
  TIO : TI ≠ TO
  TI1 : TI ≠ i1
  TI2 : TI ≠ i2
  TO1 : TO ≠ i1
  TO2 : TO ≠ i2
  z1 : z ≠ i1
  z2 : z ≠ i2
  i12 : i1 ≠ i2
  k1z : z ∉ k1.adr
  k1T : TO ∉ k1.adr
  k11 : i1 ∉ k1.adr
  k12 : i2 ∉ k1.adr
  k2z : z ∉ k2.adr
  k2T : TO ∉ k2.adr
  k21 : i1 ∉ k2.adr
  k22 : i2 ∉ k2.adr
theorem Zap.sep {z TI TO i1 i2 : Addr} {k1 k2 : Sk} (D : Zap z TI TO i1 i2 k1 k2) : ZipSep2 z TI TO i1 i2 (i1 :: k1.adr) (i2 :: k2.adr) where
  TIz := D.TIz
  TOz := D.TOz
  TITO := D.TIO
  TIi1 := D.TI1
  mem1 := List.mem_cons_self
  zf1 := fun h => by rcases List.mem_cons.mp h with h | h; exact D.z1 h; exact D.k1z h
  Tf1 := fun h => by rcases List.mem_cons.mp h with h | h; exact D.TO1 h; exact D.k1T h
  TIi2 := D.TI2
  mem2 := List.mem_cons_self
  zf2 := fun h => by rcases List.mem_cons.mp h with h | h; exact D.z2 h; exact D.k2z h
  Tf2 := fun h => by rcases List.mem_cons.mp h with h | h; exact D.TO2 h; exact D.k2T h
  sep1_2 := fun h => by rcases List.mem_cons.mp h with h | h; exact D.i12 h; exact D.k21 h
  sep2_1 := fun h => by rcases List.mem_cons.mp h with h | h; exact D.i12 h.symm; exact D.k12 h
theorem turn_zz {P : Program} {w : World} {K : PySem.W.Frag} {elts : List Expr} {kk : Nat} {tpos : Pos} {z TI TO i1 i2 : Addr} {k1 k2 : Sk} {t1 t2 : Tok} (D : Zap z TI TO i1 i2 k1 k2) :
    Turn P w K (.Tuple elts kk tpos) (Izz K k1 k2) [z, TI, TO, i1, i2] z (fun i h => IsZip h z TI TO .none ∧ IsTupOf2 h TI (.ref i1) (.ref i2) ∧ (∃ x y, IsTupOf2 h TO x y) ∧ k1.it t1 i1 i h ∧ k2.it t2 i2 i h) where
  mem := List.mem_cons_self
  obj := fun i h ⟨hz, hTI, ⟨x, y, hTO⟩, h1, h2⟩ c hc => by
    obtain ⟨o1, n1, f1, e1, _, d1⟩ := Sk.it_fields h1
    obtain ⟨o2, n2, f2, e2, _, d2⟩ := Sk.it_fields h2
    simp only [List.mem_cons, List.not_mem_nil, or_false] at hc
    rcases hc with rfl | rfl | rfl | rfl | rfl
    · exact ⟨_, hz, fun v q => by cases q⟩
    · exact ⟨_, hTI, fun v q => by cases q⟩
    · exact ⟨_, hTO, fun v q => by cases q⟩
    · exact ⟨o1, e1, fun v q => by rw [d1] at q; cases q⟩
    · exact ⟨o2, e2, fun v q => by rw [d2] at q; cases q⟩
  keep := fun i h h' ⟨hz, hTI, ⟨x, y, hTO⟩, h1, h2⟩ k =>
    ⟨k z (by simp) _ hz, k TI (by simp) _ hTI, ⟨x, y, k TO (by simp) _ hTO⟩, Sk.it_keep h1 (k i1 (by simp)), Sk.it_keep h2 (k i2 (by simp))⟩
  item := by
    intro X hP hw hK hc i pins s σ H E I hf st hg
    subst hP hw hK
    obtain ⟨hz, hTI, ⟨x0, y0, hTO⟩, h1, h2⟩ := st
    obtain ⟨vs, ws, sv, sw, lv, lw⟩ := hg
    have hh : X.A.in1.handled = none := I.ok.hd hc
    obtain ⟨P1, S1, D1, a1, b1, c1⟩ := Sk.draws (A := X.A.in1) I hh k1 t1 i1 D.k11 sv
    obtain ⟨P2, S2, D2, a2, b2, c2⟩ := Sk.draws (A := X.A.in1) I hh k2 t2 i2 D.k22 sw
    refine wpAny_pyNext_zipD2_item D.sep D1 D2 hz hTI hTO (a1 i h1) (a2 i h2) lv lw fun u1 u2 h' tk p1 p2 z' TO' s1 s2 hT hsz hk => ?_
    obtain ⟨x, ex, rx⟩ := c1 i u1 p1
    obtain ⟨y, ey, ry⟩ := c2 i u2 p2
    have hzl : z < s.heap.objs.size := Heap.lt_size hz
    refine ⟨_, rfl, wpAny_letOwnedTupleGo_zip (s := { s with heap := h', toks := tk }) z' fun g gz sb => ?_⟩
    have gT : g.get? s.heap.objs.size = some { cls := .type "tuple", data := .seq #[u1, u2] } := (sb.2 _ (Nat.ne_of_gt hzl)).trans hT
    have keep : ∀ c o, c ∉ [z, TI, TO, i1, i2] → s.heap.get? c = some o → g.get? c = some o := fun c o hb q => by
      simp only [List.mem_cons, List.not_mem_nil, or_false, not_or] at hb
      exact (sb.2 c hb.1).trans (hk c o hb.1 hb.2.2.1 hb.2.2.2.1 hb.2.2.2.2 q)
    have J : Inv X pins σ (upd H s.heap.objs.size (.tup [x, y])) { s with heap := g, toks := tk } :=
      I.turnedNew (ch := [z, TI, TO, i1, i2]) keep hf (Nat.le_refl _) ⟨by show 2 ≤ sizeLine; decide, [u1, u2], .cons rx (.cons ry .nil), ⟨_, gT, rfl, _, rfl⟩⟩
    have old : ∀ c ∈ [z, TI, TO, i1, i2], c ≠ s.heap.objs.size := fun c hc => by
      obtain ⟨o1, _, _, e1, _⟩ := Sk.it_fields h1
      obtain ⟨o2, _, _, e2, _⟩ := Sk.it_fields h2
      simp only [List.mem_cons, List.not_mem_nil, or_false] at hc
      rcases hc with rfl | rfl | rfl | rfl | rfl
      · exact Nat.ne_of_lt hzl
      · exact Nat.ne_of_lt (Heap.lt_size hTI)
      · exact Nat.ne_of_lt (Heap.lt_size hTO)
      · exact Nat.ne_of_lt (Heap.lt_size e1)
      · exact Nat.ne_of_lt (Heap.lt_size e2)
    refine ⟨.ref s.heap.objs.size, _, J, rfl, ⟨_, x, y, rfl, I.hok.fresh (Nat.le_refl _), rfl, fun l hl => by rw [Sk.std_inj I hl sv]; exact ex, fun l hl => by rw [Sk.std_inj I hl sw]; exact ey⟩,
      ⟨gz, (sb.2 _ D.TIz).trans (hk _ _ D.TIz D.TIO D.TI1 D.TI2 hTI), ⟨u1, u2, (sb.2 _ D.TOz).trans TO'⟩, Sk.it_keep (b1 _ _ s1) fun o q => (sb.2 _ D.z1.symm).trans q, Sk.it_keep (b2 _ _ s2) fun o q => (sb.2 _ D.z2.symm).trans q⟩, fun c hcm => ?_⟩
    rw [upd_ne (old c hcm)]
    exact (hf c hcm).1
  done := by
    intro X hP hw hK hc i pins s σ H E I hf st hg
    subst hP hw hK
    obtain ⟨hz, hTI, ⟨x0, y0, hTO⟩, h1, h2⟩ := st
    obtain ⟨vs, ws, sv, sw, lv, lw, le⟩ := hg
    have hh : X.A.in1.handled = none := I.ok.hd hc
    obtain ⟨P1, S1, D1, a1, b1, c1⟩ := Sk.draws (A := X.A.in1) I hh k1 t1 i1 D.k11 sv
    obtain ⟨P2, S2, D2, a2, b2, c2⟩ := Sk.draws (A := X.A.in1) I hh k2 t2 i2 D.k22 sw
    refine wpAny_pyNext_zipD2_end D.sep D1 D2 hz hTI hTO (a1 i h1) (a2 i h2) lv lw le fun h' tk hk => ⟨rfl, I.turnedL (ch := [z, TI, TO, i1, i2]) (fun c o hb q => ?_) hf⟩
    simp only [List.mem_cons, List.not_mem_nil, or_false, not_or] at hb
    exact hk c o hb.1 hb.2.2.1 hb.2.2.2.1 hb.2.2.2.2 q
  self := fun A i s Q E st h => wpAny_pyIter_zip st.1 h
def iZz (K : PySem.W.Frag) (ta : TA) : TI := fun σ H R => ta σ H fun us H1 => ∃ k1 k2 vs ws, us = [Sk.val k1, Sk.val k2] ∧ k1.std K H1 vs ∧ k2.std K H1 ws ∧ R (Izz K k1 k2) H1
theorem pi_zz {X : Cx} {e e2 : Expr} {ta : TA} {p pos tpos : Pos} {elts : List Expr} {kk : Nat} (hg : Gl X "zip") (hm : X.mg "zip" = none) (ha : PA X [e, e2] ta)
    (hs : starEach [e, e2] X.env = (false, eval e X.env) :: starEach [e2] X.env := by rfl) (hpl : (backTo pos (starEach [e2] X.env)).any (·.1) = false := by rfl) :
    PI X (.Tuple elts kk tpos) (.Call (.Name "zip" p) [e, e2] [] pos) (iZz X.K ta) := by
  refine ⟨fun pins s σ H R I h => Call_ (ld_blt I hg hm PyProof.Rows.boot_zip (PyProof.Rows.callWith_type1 (thn (ha.run pos pins s σ H _ I h) fun us s1 ⟨xs, H1, J, r, k1, k2, vs, ws, ex, sv, sw, q⟩ => ?_) hs hpl))⟩
  subst ex
  cases r with
  | cons r1 rr =>
    cases rr with
    | cons r2 rr =>
      cases rr
      obtain ⟨t1, B1, b1, c1, l1⟩ := Sk.begins J k1 sv r1
      obtain ⟨t2, B2, b2, c2, l2⟩ := Sk.begins J k2 sw r2
      refine zip_begins2 b1 b2 c1 c2 fun h' hz hTI hTO g1 g2 hsz hk => wpAny_pyIter_zip hz ?_
      have J2 : Inv X pins σ H1 { s1 with heap := h' } := J.kept (t' := s1.toks) hk
      have nm : ∀ {k : Sk} {c : Addr}, (∀ c ∈ k.adr, c < s1.heap.objs.size) → s1.heap.objs.size ≤ c → c ∉ k.adr := fun hl hc hm => absurd (hl _ hm) (Nat.not_lt.mpr hc)
      have n1 := Nat.le_add_right s1.heap.objs.size
      have ne : ∀ a b : Nat, a ≠ b → (s1.heap.objs.size + a : Nat) ≠ s1.heap.objs.size + b := fun a b h e => h (Nat.add_left_cancel e)
      generalize hN : s1.heap.objs.size = N at *
      refine ⟨N + 4, [N + 4, N + 2, N + 3, N, N + 1], _, _, H1, rfl, J2, turn_zz (t1 := t1) (t2 := t2) ⟨ne 2 4 (by decide), ne 3 4 (by decide), ne 2 3 (by decide), ne 2 0 (by decide), ne 2 1 (by decide), ne 3 0 (by decide), ne 3 1 (by decide), ne 4 0 (by decide), ne 4 1 (by decide), ne 0 1 (by decide), nm l1 (n1 4), nm l1 (n1 3), nm l1 (Nat.le_refl _), nm l1 (n1 1), nm l2 (n1 4), nm l2 (n1 3), nm l2 (Nat.le_refl _), nm l2 (n1 1)⟩, ⟨hz, hTI, ⟨_, _, hTO⟩, Sk.it_new k1 t1 g1, Sk.it_new k2 t2 g2⟩, fun c hc => ?_, q⟩
      have hle : s1.heap.objs.size ≤ c := by
        rw [hN]
        simp only [List.mem_cons, List.not_mem_nil, or_false] at hc
        rcases hc with rfl | rfl | rfl | rfl | rfl <;> first | exact Nat.le_refl _ | exact n1 _
      exact J.fpOk hle (J.hok.fresh hle)
section
variable {X : Cx} {P : Prog} {call : Nat → List T → Hl → R T} {G : Gm} {W : WX} {CX : CXT} {D : Dat} {T0 : Tab}
variable {Z : Hp} {ρ : List Addr} {Hf H : Hp} {lσ : Sl} {σ : L2.St} {hp : Hl}
theorem walk_src {x : T} {xs : List T} {v : Vv} (e : walkOf x = some xs) (r : RepB G ρ Hf H x v) : ∃ (k : Sk) (vs : List V), v = k.val ∧ k.std G.K Hf vs ∧ Reps G ρ Hf xs vs := by
  cases x <;> simp only [walkOf] at e
  case str s =>
    split at e
    · cases e
      refine ⟨.txt (strV s), _, B_str r, rfl, ?_⟩
      rw [strV_list]
      clear r
      induction s with
      | nil => exact .nil
      | cons c s ih => exact .cons (Rep.str [c]) (ih (by simp only [List.length_cons] at *; omega))
    · cases e
  case lst ys => cases e; obtain ⟨a, vs, rfl, h1, h2⟩ := B_lst r; exact ⟨.lst a, vs, rfl, .inl (.inl h1), h2⟩
  case tup ys => cases e; obtain ⟨a, vs, rfl, h1, h2⟩ := B_tup r; exact ⟨.tup a, vs, rfl, h1, h2⟩
  case kl ns => cases e; obtain ⟨a, rfl, h1⟩ := B_kl r; exact ⟨.lst a, _, rfl, h1, reps_ints ns⟩
  all_goals cases e
/-- what is walked, while the cells gs stand -/
def Src (G : Gm) (gs : List (Nat × List T)) (ρ : List Addr) (Hf : Hp) (k : Sk) (xs : List T) : Prop := ∀ Z ρ' Hf' hp' H', (∃ l, ρ' = ρ ++ l) → Ex Hf Hf' → Sto G Z ρ' Hf' hp' H' → chk gs hp' → ∃ vs, k.std G.K H' vs ∧ Reps G ρ' Hf' xs vs
theorem Src.mono {gs gs' : List (Nat × List T)} {k : Sk} {xs : List T} (s : Src G gs ρ Hf k xs) (h : ∀ p ∈ gs, p ∈ gs') : Src G gs' ρ Hf k xs := fun Z ρ' Hf' hp' H' pr ex S c => s Z ρ' Hf' hp' H' pr ex S fun p hp => c p (h p hp)
theorem Src.on {gs : List (Nat × List T)} {k : Sk} {xs : List T} {ρ2 : List Addr} {Hf2 : Hp} (s : Src G gs ρ Hf k xs) (pr : ∃ l, ρ2 = ρ ++ l) (ex : Ex Hf Hf2) : Src G gs ρ2 Hf2 k xs := fun Z ρ' Hf' hp' H' pr' ex' S c =>
  s Z ρ' Hf' hp' H' (let ⟨l, e⟩ := pr; let ⟨m, e2⟩ := pr'; ⟨l ++ m, by rw [e2, e, List.append_assoc]⟩) (ex.trans ex') S c
theorem src_of {gs : List (Nat × List T)} {k : Sk} {xs : List T} {vs : List V} (s1 : k.std G.K Hf vs) (q1 : Reps G ρ Hf xs vs) : Src G gs ρ Hf k xs := fun Z ρ' Hf' hp' H' pr ex S _ => ⟨vs, Sk.std_ex s1 fun a o e => S.ex a o (ex a o e), q1.mono pr ex⟩
theorem wk_src0 {x : T} {xs : List T} {h : Hl} {gs : List (Nat × List T)} {v : Vv} (e : wk false x h = some xs) (S : Sto G Z ρ Hf h H) (r : RepB G ρ Hf H x v) : ∃ k : Sk, v = k.val ∧ (∃ vs, k.std G.K H vs) ∧ Src G gs ρ Hf k xs := by
  unfold wk at e
  split at e
  · rename_i ys ey
    cases e
    obtain ⟨k, vs, rfl, s1, q1⟩ := walk_src ey r
    exact ⟨k, rfl, ⟨vs, Sk.std_ex s1 S.ex⟩, src_of s1 q1⟩
  · cases e
theorem var_ev {i : Nat} {x : T} {h h' : Hl} (e : evE P call (.var i) lσ h = .ok x h') : lσ[i]? = some (some x) ∧ h' = h := by
  simp only [evE] at e
  split at e
  · rename_i t q; cases e; exact ⟨q, rfl⟩
  · cases e
theorem wk_src {ea : E} {x : T} {xs : List T} {h h' : Hl} {v : Vv} (he : evE P call ea lσ h = .ok x h') (e : wk (isVarE' ea) x h' = some xs) (S : Sto G Z ρ Hf h' H) (r : RepB G ρ Hf H x v) : ∃ k : Sk, v = k.val ∧ (∃ vs, k.std G.K H vs) ∧ Src G (gdV ea lσ h) ρ Hf k xs := by
  cases hv : isVarE' ea with
  | false => rw [hv] at e; exact wk_src0 e S r
  | true =>
    rw [hv] at e
    cases ea with
    | var i =>
      obtain ⟨e0, rfl⟩ := var_ev he
      have e2 := e
      unfold wk at e
      split at e
      · rename_i ys ey
        cases e
        obtain ⟨k, vs, rfl, s1, q1⟩ := walk_src ey r
        exact ⟨k, rfl, ⟨vs, Sk.std_ex s1 S.ex⟩, src_of s1 q1⟩
      · rename_i en
        simp only [if_true] at e
        unfold cellL at e
        split at e
        · rename_i n
          split at e
          · rename_i ys ec
            cases e
            obtain ⟨a, rfl, ha⟩ := B_rf r
            have eg : gdV (.var i) lσ h' = [(n, xs)] := by
              show (match lσ[i]? with
                | some (some x) => gdT x h'
                | _ => []) = _
              rw [e0]
              show gdT (.rf n) h' = _
              unfold gdT
              simp only [walkOf, ec]
            obtain ⟨⟨vs, h1, h2⟩, _⟩ := S.cell n a _ ha ec
            refine ⟨.lst a, rfl, ⟨vs, .inl (.inl h1)⟩, fun Z ρ' Hf' hp' H' pr ex S' c => ?_⟩
            rw [eg] at c
            obtain ⟨⟨ws, q1, q2⟩, _⟩ := S'.cell n a _ (pre_get pr ha) (c (n, xs) List.mem_cons_self)
            exact ⟨ws, .inl (.inl q1), q2⟩
          · cases e
        · cases e
    | _ => cases hv
theorem wc_zz {gs : List (Nat × List T)} {k1 k2 : Sk} {xs ys : List T} (s1 : Src G gs ρ Hf k1 xs) (s2 : Src G gs ρ Hf k2 ys) : WalksC G gs ρ Hf H ((xs.zip ys).map fun p => T.tup [p.1, p.2]) (Izz G.K k1 k2) := by
  have hl : ((xs.zip ys).map fun p => T.tup [p.1, p.2]).length = min xs.length ys.length := by rw [List.length_map, List.length_zip]
  refine ⟨fun H' => ∃ vs ws, k1.std G.K H' vs ∧ k2.std G.K H' ws ∧ vs.length = xs.length ∧ ws.length = ys.length, (Izz G.K k1 k2).yld, ⟨?_, ?_, fun i H' v H'' _ _ y => y⟩, fun Z ρ' Hf' hp' H' pr ex S c => ?_, fun i Z ρ' Hf' hp' H' v H'' pr ex S c hy => ?_⟩
  · rintro i H' hi ⟨vs, ws, g1, g2, l1, l2⟩
    rw [hl] at hi
    exact ⟨vs, ws, g1, g2, by omega, by omega⟩
  · rintro H' ⟨vs, ws, g1, g2, l1, l2⟩
    rw [hl]
    exact ⟨vs, ws, g1, g2, by omega, by omega, by omega⟩
  · obtain ⟨vs, g1, q1⟩ := s1 Z ρ' Hf' hp' H' pr ex S c
    obtain ⟨ws, g2, q2⟩ := s2 Z ρ' Hf' hp' H' pr ex S c
    exact ⟨vs, ws, g1, g2, q1.length.symm, q2.length.symm⟩
  · obtain ⟨vs, g1, q1⟩ := s1 Z ρ' Hf' hp' H' pr ex S c
    obtain ⟨ws, g2, q2⟩ := s2 Z ρ' Hf' hp' H' pr ex S c
    obtain ⟨T, x, y, rfl, e2, e3, e4, e5⟩ := hy
    obtain ⟨t, h1, h2⟩ := q1.get' (e4 vs g1)
    obtain ⟨u, h3, h4⟩ := q2.get' (e5 ws g2)
    refine ⟨.tup [t, u], ?_, .inr ⟨t, u, x, y, T, rfl, rfl, e2, e3, h2, h4⟩⟩
    rw [List.getElem?_map, (List.getElem?_zip_eq_some (z := (t, u))).mpr ⟨h1, h3⟩]; rfl
theorem ki_zip (C : KCx X P call G W CX D T0) {a b : Expr} {ea eb : E} {p pos tpos : Pos} {elts : List Expr} {kk : Nat} (hg : Gl X "zip") (hm : X.mg "zip" = none) (ha : PE X a (tE P call G W ea)) (hb : PE X b (tE P call G W eb))
    (hs : starEach [a, b] X.env = (false, eval a X.env) :: starEach [b] X.env := by rfl) (hs2 : starEach [b] X.env = (false, eval b X.env) :: starEach [] X.env := by rfl) (hpl : (backTo pos (starEach [b] X.env)).any (·.1) = false := by rfl) :
    PI X (.Tuple elts kk tpos) (.Call (.Name "zip" p) [a, b] [] pos) (tI P call G W (.zip ea eb)) := by
  refine PIimp (pi_zz hg hm (pa_cons ha (pa_cons hb pa_nil hs2) hs) hs hpl) fun σ H R h => ?_
  obtain ⟨Z, ρ, Hf, lσ, hp, S, L, h⟩ := h
  simp only [evI] at h
  cases hr1 : evE P call ea lσ hp with
  | err c fs h1 => rw [hr1] at h; exact ⟨Z, ρ, Hf, lσ, hp, S, L, by rw [hr1]; exact h⟩
  | stuck => rw [hr1] at h; exact h.elim
  | ok x h1 =>
    rw [hr1] at h
    simp only [Kb.R.bind_ok] at h
    refine ⟨Z, ρ, Hf, lσ, hp, S, L, ?_⟩
    rw [hr1]
    intro ρ1 Hf1 H1 v N1 S1 r1
    have L1 := L.nxt N1
    cases hr2 : evE P call eb lσ h1 with
    | err c fs h2 =>
      rw [hr2] at h
      refine ⟨Z, ρ1, Hf1, lσ, h1, S1, L1, ?_⟩
      rw [hr2]
      exact fun ρ2 Hf2 H2 d gs N2 S2 e1 e2 => h ρ2 Hf2 H2 d gs (N1.trans S1 N2 (by intro a e; cases e)) S2 e1 e2
    | stuck => rw [hr2] at h; exact h.elim
    | ok y h2 =>
      rw [hr2] at h
      simp only [Kb.R.bind_ok] at h
      refine ⟨Z, ρ1, Hf1, lσ, h1, S1, L1, ?_⟩
      rw [hr2]
      intro ρ2 Hf2 H2 u N2 S2 r2
      have N := N1.trans S1 N2 (by intro a e; cases e)
      split at h
      · rename_i xs ys e1 e2
        have fin : ∀ (k1 k2 : Sk), v = k1.val → u = k2.val → (∃ vs, k1.std G.K H2 vs) → (∃ ws, k2.std G.K H2 ws) → Src G (gdI (.zip ea eb) lσ hp) ρ2 Hf2 k1 xs → Src G (gdI (.zip ea eb) lσ hp) ρ2 Hf2 k2 ys → ∃ k1 k2 vs ws, [v, u] = [Sk.val k1, Sk.val k2] ∧ k1.std X.K H2 vs ∧ k2.std X.K H2 ws ∧ R (Izz X.K k1 k2) H2 := by
          rintro k1 k2 rfl rfl ⟨vs, q1⟩ ⟨ws, q2⟩ s1 s2
          refine ⟨k1, k2, vs, ws, rfl, by rw [C.hK]; exact q1, by rw [C.hK]; exact q2, ?_⟩
          rw [C.hK]
          exact h ρ2 Hf2 H2 _ N S2 (wc_zz s1 s2)
        cases hv : isVarE' ea && isVarE' eb with
        | false =>
          rw [hv] at e1 e2
          have e1' : wk false x h1 = some xs := by
            unfold wk at e1 ⊢
            exact e1
          obtain ⟨k1, f1, ⟨vs, q1⟩, s1⟩ := wk_src0 (gs := gdI (.zip ea eb) lσ hp) e1 S2 (r1.nx N2)
          obtain ⟨k2, f2, q2, s2⟩ := wk_src0 (gs := gdI (.zip ea eb) lσ hp) e2 S2 r2
          exact fin k1 k2 f1 f2 ⟨vs, q1⟩ q2 s1 s2
        | true =>
          rw [hv] at e1 e2
          obtain ⟨va, vb⟩ := Bool.and_eq_true_iff.mp hv
          cases ea with
          | var i =>
            cases eb with
            | var j =>
              obtain ⟨i0, rfl⟩ := var_ev hr1
              obtain ⟨j0, rfl⟩ := var_ev hr2
              have eg : gdI (.zip (.var i) (.var j)) lσ h2 = gdV (.var i) lσ h2 ++ gdV (.var j) lσ h2 := rfl
              obtain ⟨k1, f1, q1, s1⟩ := wk_src hr1 e1 S2 (r1.nx N2)
              obtain ⟨k2, f2, q2, s2⟩ := wk_src hr2 e2 S2 r2
              exact fin k1 k2 f1 f2 q1 q2 (by rw [eg]; exact s1.mono fun p hp => List.mem_append_left _ hp) (by rw [eg]; exact s2.mono fun p hp => List.mem_append_right _ hp)
            | _ => cases vb
          | _ => cases va
      · exact h.elim
end
end Kb
end
section
/-! Kb14: obj.f += e, for instances in cells. -/
set_option Elab.async false
set_option linter.all false
set_option maxRecDepth 100000
set_option maxHeartbeats 4000000
set_option autoImplicit false
namespace Kb
open PySem PySem.Spec PyProof.Rows L2
section
variable {X : Cx} {P : Prog} {call : Nat → List T → Hl → R T} {G : Gm} {W : WX} {CX : CXT} {D : Dat} {T0 : Tab} {Wn : Nat}
variable {o e : Expr} {io ie : Kb.E} {x : Str} {f : Nat} {pos pos' : Pos}
theorem ks_augFa (C : KCx X P call G W CX D T0) (hx : G.nm[f]? = some x) (hf : T0.fld[f]? = some true) (ho : PE X o (tE P call G W io)) (he : PE X e (tE P call G W ie)) :
    PS X (.AugAssign (.Attribute o x pos') .Add e pos) (tS P call G W Wn (.augF io f .add ie)) := by
  refine PSimp (ps_fldaug ho he in_add) fun E σ H ⟨En, lσ, hp, ⟨ρ, Hf, A⟩, q⟩ => ?_
  simp only [exS] at q
  refine go_sE A q fun t h1 ρ1 Hf1 u H1 A1 N1 r1 q => ?_
  cases t with
  | rf n =>
    simp only at q
    split at q
    · rename_i c fs hn
      split at q
      · rename_i i hl
        obtain ⟨a, ea, ⟨dx, gs, ha, rF, ok⟩, fa⟩ := A1.S.at hn
        obtain ⟨b, rfl, eb⟩ := B_rf r1
        rw [ea] at eb; cases eb
        obtain ⟨w, l1, l2⟩ := (rF.look C.nm hx).1 _ hl
        obtain rfl := B_int (H := H1) l2.toB
        refine ⟨a, _, dx, gs, .int i, rfl, ha, C.cl c ok, C.na c f x ok hf hx, l1, ?_⟩
        refine go_sE A1 q fun y h2 ρ2 Hf2 v H2 A2 N2 r2 q2 => ?_
        cases y with
        | int j =>
          obtain rfl := B_int r2
          simp only at q2
          split at q2
          · rename_i c' fs' hn2
            split at q2
            · rename_i hc
              obtain ⟨rfl, lt⟩ := hc
              obtain ⟨a', ea', ⟨dx', gs', ha', rF', ok'⟩, fa'⟩ := A2.S.at hn2
              obtain ⟨b2, e1, eb2⟩ := B_rf (r1.nx N2)
              cases e1
              rw [ea'] at eb2; cases eb2
              exact ⟨i, j, rfl, rfl, dx', _, ha', by rw [← rF'.len]; omega, q2 _ _ ⟨ρ2, Hf2, A2.setCell ea' ⟨dx', _, upd_same, RepF.put C.nm hx (.int _) rF', ok'⟩⟩⟩
            · exact False.elim q2
          · exact False.elim q2
        | _ => exact False.elim q2
      · exact False.elim q
    · exact False.elim q
  | _ => exact False.elim q
theorem ks_augFs (C : KCx X P call G W CX D T0) (hx : G.nm[f]? = some x) (hf : T0.fld[f]? = some true) (ho : PE X o (tE P call G W io)) (he : PE X e (tE P call G W ie)) :
    PS X (.AugAssign (.Attribute o x pos') .Sub e pos) (tS P call G W Wn (.augF io f .sub ie)) := by
  refine PSimp (ps_fldaug ho he in_sub) fun E σ H ⟨En, lσ, hp, ⟨ρ, Hf, A⟩, q⟩ => ?_
  simp only [exS] at q
  refine go_sE A q fun t h1 ρ1 Hf1 u H1 A1 N1 r1 q => ?_
  cases t with
  | rf n =>
    simp only at q
    split at q
    · rename_i c fs hn
      split at q
      · rename_i i hl
        obtain ⟨a, ea, ⟨dx, gs, ha, rF, ok⟩, fa⟩ := A1.S.at hn
        obtain ⟨b, rfl, eb⟩ := B_rf r1
        rw [ea] at eb; cases eb
        obtain ⟨w, l1, l2⟩ := (rF.look C.nm hx).1 _ hl
        obtain rfl := B_int (H := H1) l2.toB
        refine ⟨a, _, dx, gs, .int i, rfl, ha, C.cl c ok, C.na c f x ok hf hx, l1, ?_⟩
        refine go_sE A1 q fun y h2 ρ2 Hf2 v H2 A2 N2 r2 q2 => ?_
        cases y with
        | int j =>
          obtain rfl := B_int r2
          simp only at q2
          split at q2
          · rename_i c' fs' hn2
            split at q2
            · rename_i hc
              obtain ⟨rfl, lt⟩ := hc
              obtain ⟨a', ea', ⟨dx', gs', ha', rF', ok'⟩, fa'⟩ := A2.S.at hn2
              obtain ⟨b2, e1, eb2⟩ := B_rf (r1.nx N2)
              cases e1
              rw [ea'] at eb2; cases eb2
              exact ⟨i, j, rfl, rfl, dx', _, ha', by rw [← rF'.len]; omega, q2 _ _ ⟨ρ2, Hf2, A2.setCell ea' ⟨dx', _, upd_same, RepF.put C.nm hx (.int _) rF', ok'⟩⟩⟩
            · exact False.elim q2
          · exact False.elim q2
        | _ => exact False.elim q2
      · exact False.elim q
    · exact False.elim q
  | _ => exact False.elim q
end
end Kb
end
section
/-! Kb15: max(xs, default=d). -/
set_option Elab.async false
set_option linter.all false
set_option maxRecDepth 100000
set_option maxHeartbeats 4000000
set_option autoImplicit false
namespace Kb
open PySem PySem.Spec PyProof.Rows L2
section
variable {X : Cx} {P : Prog} {call : Nat → List T → Hl → R T} {G : Gm} {W : WX} {CX : CXT} {D : Dat} {T0 : Tab} {Wn : Nat}
def rMaxD (K : PySem.W.Frag) : List V → List V → Hp → VK → Prop := fun vs zs H Q => ∃ (a : Addr) (ns : List Int) (d : Int), vs = [V.ref a] ∧ zs = [V.int d] ∧ (SqL K H a (ns.map V.int) ∨ SqT K H a (ns.map V.int)) ∧
  (ns = [] → Q (.int d) H) ∧ ∀ n ms, ns = n :: ms → Q (.int (maxI n ms)) H
theorem cr_maxD (hc : X.calm = true) (hu : X.A.units + 1 + 0 < cLine) : CallRK X (.builtin "max") [Str.ofString "default"] (rMaxD X.K) := by
  intro pins s σ H vs zs us ws Q I r rz h
  obtain ⟨a, ns, d, rfl, rfl, hs, q0, q1⟩ := h
  obtain rfl := Vals.ref1 r
  obtain ⟨w1, rfl, t, rfl⟩ := vals1 rz
  rcases hs with hs | hs
  · obtain ⟨its, rv, hl, _⟩ := I.list hs
    refine PySem.W.max_list_datum_default (α := Int) (I.ok.hd hc) hl.isList (PySem.W.HoldAll.of_ints rv.ints) hu (fun e h' tk k => ⟨.int d, H, I.kept k, ⟨_, rfl⟩, q0 e⟩) fun y ys i v h' tk e _ hh k => ?_
    rw [maxOf_I] at hh
    obtain ⟨t', rfl⟩ := hold_int hh
    exact ⟨.int _, H, I.kept k, ⟨_, rfl⟩, q1 y ys e⟩
  · obtain ⟨its, rv, hl, _⟩ := I.tuple hs
    refine PySem.W.max_tuple_datum_default (α := Int) (I.ok.hd hc) hl (PySem.W.HoldAll.of_ints rv.ints) hu (fun e h' tk k => ⟨.int d, H, I.kept k, ⟨_, rfl⟩, q0 e⟩) fun y ys i v h' tk e _ hh k => ?_
    rw [maxOf_I] at hh
    obtain ⟨t', rfl⟩ := hold_int hh
    exact ⟨.int _, H, I.kept k, ⟨_, rfl⟩, q1 y ys e⟩
theorem maxD_eq (ie ik : Kb.E) (lσ : Sl) (hp : Hl) : evE P call (.bf .maxD (.cons ie (.cons ik .nil))) lσ hp = (evEs P call (.cons ie .nil) lσ hp).bind fun vs h => (evEs P call (.cons ik .nil) lσ h).bind fun ws h => maxDF (vs ++ ws) h := by
  simp only [evE, evEs, bfT]
  cases evE P call ie lσ hp with
  | ok x h =>
    simp only [R.bind_ok]
    cases evE P call ik lσ h with
    | ok y h => rfl
    | err c fs h => rfl
    | stuck => rfl
  | err c fs h => rfl
  | stuck => rfl
theorem reps_one {ρ : List Addr} {Hf H : Hp} {xs : List T} {vs : List Vv} (r : RepBs G ρ Hf H xs vs) (l : vs.length = 1) : ∃ x v, xs = [x] ∧ vs = [v] ∧ RepB G ρ Hf H x v := by
  cases r with
  | nil => cases l
  | cons h q => cases q with
    | nil => exact ⟨_, _, rfl, rfl, h⟩
    | cons h2 q2 => simp at l
theorem k_maxD (C : KCx X P call G W CX D T0) {e : Expr} {k : Keyword} {ie ik : Kb.E} {x : Str} {p pos : Pos} (hg : Gl X x) (hm : X.mg x = none) (hv : bootBuiltins x = some (.builtin "max")) (ha : PA X [e] (tEs P call G W (.cons ie .nil))) (hk : PK X [k] (tEs P call G W (.cons ik .nil)))
    (hn : x ≠ "__name__" := by decide +kernel) (hdb : (x == ("__debug__" : Str)) = false := by decide +kernel)
    (hs : backTo pos (starEach [e] X.env) = (false, eval e X.env) :: backTo pos (starEach [] X.env) := by rfl) (hpl : (backTo pos (starEach [e] X.env)).any (·.1) = false := by rfl)
    (hall : (backToKw pos (keywordEach [k] X.env)).all (·.1.isSome) = true := by rfl) (hnone : (backToKw pos (keywordEach [k] X.env)).any (·.1.isNone) = false := by rfl) (hks : (backToKw pos (keywordEach [k] X.env)).filterMap (·.1) = [Str.ofString "default"] := by rfl) (hT : T0.fn.isEmpty = false := by first | assumption | rfl) :
    PE X (.Call (.Name x p) [e] [k] pos) (tE P call G W (.bf .maxD (.cons ie (.cons ik .nil)))) := by
  refine PEimp (pe_callBK (cr_maxD (C.calm hT) (by have := C.un; omega)) hg hm hv ha hk hn hdb hs hpl hall hnone hks) fun σ H Q h => ?_
  obtain ⟨Z, ρ, Hf, lσ, hp, S, L, h⟩ := h
  rw [maxD_eq] at h
  refine go_EsL S L h fun vs h1 ρ1 Hf1 us H1 N1 S1 L1 r1 l1 h => ?_
  refine go_EsL S1 L1 h fun ws h2 ρ2 Hf2 zs H2 N2 S2 L2 r2 l2 h => ?_
  obtain ⟨t, v, rfl, rfl, q1⟩ := reps_one r1 l1
  obtain ⟨u, w, rfl, rfl, q2⟩ := reps_one r2 l2
  have hq : Post G Z W σ (RepB G) ρ2 Hf2 H2 Q (maxDF [t, u] h2) := h
  clear h
  unfold maxDF at hq
  split at hq
  · rename_i t' d e1
    injection e1 with e1 e2
    injection e2 with e2 e3
    subst e1 e2
    obtain rfl := B_int q2
    split at hq
    · rename_i n ns e4
      obtain ⟨ys, e5, e6⟩ := Option.bind_eq_some_iff.mp e4
      obtain ⟨a, vs', rfl, h5, h6⟩ := seq_at S2 e5 (q1.nx N2)
      obtain rfl := allInts_at e6 h6
      exact ⟨a, n :: ns, d, rfl, rfl, by rw [C.hK]; exact h5, ⟨(fun e => by cases e), (fun n' ms e => by cases e; exact P_int S2 hq)⟩⟩
    · rename_i e4
      obtain ⟨ys, e5, e6⟩ := Option.bind_eq_some_iff.mp e4
      obtain ⟨a, vs', rfl, h5, h6⟩ := seq_at S2 e5 (q1.nx N2)
      obtain rfl := allInts_at e6 h6
      exact ⟨a, [], d, rfl, rfl, by rw [C.hK]; exact h5, ⟨(fun _ => P_int S2 hq), (fun n' ms e => by cases e)⟩⟩
    · exact hq.elim
  · exact hq.elim
end
end Kb
end
section
set_option Elab.async false
set_option linter.all false
set_option maxRecDepth 100000
set_option maxHeartbeats 4000000
set_option autoImplicit false
/-! Kb16: enumerate over lists, tuples and texts. -/
namespace Kb
open PySem PySem.Spec PyProof.Rows L2
open Sem (wp)
/-- a new enumerate over the iterator at n -/
def enO (n : Addr) : Obj := { cls := .type "enumerate", data := .fields #[.none, .bool false, .ref n, rawInt 0, .none, .none] }
theorem enO_free (n : Addr) : (enO n).isFreed = false := rfl
theorem meets_en {v : Value} {o : Obj} {HB : Heap → Prop} (B : Begins v o HB) :
    Meets (Builtin.«enumerate.__new__» ⟨[.type "enumerate", v], []⟩) (fun _ R s => HB s.heap ∧ R (.ok (.ret (.ref (s.heap.push o).objs.size))) { s with heap := (s.heap.push o).push (enO s.heap.objs.size) }) :=
  .of_wp fun prog w A R s h => by
    obtain ⟨hp, g, d, tk, os⟩ := s
    obtain ⟨hb, hr⟩ := h
    have hsub := sub_enumerate
    have it : ∀ {A' : Around} {E : Value → Shared → Prop} {Q : Value → Shared → Prop}, Q (.ref hp.objs.size) ⟨hp.push o, g, d, tk, os⟩ → wpAny (model prog w) A' (pyIter v) Q E ⟨hp, g, d, tk, os⟩ := fun q => B.iter prog w _ _ ⟨hp, g, d, tk, os⟩ _ hb q
    wp_walk using it
    refine wpAny_stack_any fun _ => wpAny_pure ?_
    split
    · rename_i c _ _ _ _ _
      cases (c == Value.type "enumerate") <;> (wp_walk using it; exact ⟨_, rfl, hr⟩)
    · wp_walk using it
      exact ⟨_, rfl, hr⟩
theorem en_call {prog : Program} {w : World} {A : Around} {E : Value → Shared → Prop} {s : Shared} {v : Value} {o : Obj} {HB : Heap → Prop} {Q : Value → Shared → Prop} (B : Begins v o HB) (hb : HB s.heap)
    (k : ∀ g, IsEnum g (s.heap.objs.size + 1) s.heap.objs.size 0 .none → g.get? s.heap.objs.size = some o → (∀ c x, s.heap.get? c = some x → g.get? c = some x) → Q (.ref (s.heap.objs.size + 1)) { s with heap := g }) :
    wpAny (model prog w) A (call (.type "enumerate") [v]) Q E s := by
  refine callType_new F.called_enumerate (by decide) (F.typeCall_enumerate_1 _) (F.newCall_enumerate_1 _) (fun obj => F.args_object_init_2 obj _) F.entry_enumerate_new (meets_en B) ⟨hb, ?_⟩
  have sz : (s.heap.push o).objs.size = s.heap.objs.size + 1 := Heap.size_push ..
  have en : IsEnum ((s.heap.push o).push (enO s.heap.objs.size)) (s.heap.objs.size + 1) s.heap.objs.size 0 .none := by
    have q := Heap.get?_push_size (s.heap.push o) (o := enO s.heap.objs.size) rfl
    rw [sz] at q
    exact q
  show _ ∧ _
  rw [sz]
  exact ⟨⟨_, en, rfl⟩, k _ en (Heap.get?_push_of_some _ (Heap.get?_push_size _ B.free)) fun c x q => Heap.get?_push_of_some _ (Heap.get?_push_of_some _ q)⟩
/-- the pairs of a place and an item, as they come -/
def Ien (K : PySem.W.Frag) (k : Sk) : L2.It :=
  ⟨fun i H => ∃ vs, k.std K H vs ∧ i < vs.length,
    fun i H v H' => ∃ T x, v = .ref T ∧ H T = none ∧ H' = upd H T (.tup [.int (i : Nat), x]) ∧ ∀ vs, k.std K H vs → vs[i]? = some x,
    fun i H => ∃ vs, k.std K H vs ∧ i = vs.length⟩
theorem turn_en {P : Program} {w : World} {K : PySem.W.Frag} {elts : List Expr} {kk : Nat} {tpos : Pos} {e b : Addr} {k : Sk} {t : Tok} (eb : e ≠ b) (ne : e ∉ k.adr) (nb : b ∉ k.adr) :
    Turn P w K (.Tuple elts kk tpos) (Ien K k) [e, b] e (fun i h => (∃ old, IsEnum h e b ((i : Nat) : Int) old) ∧ k.it t b i h) where
  mem := List.mem_cons_self
  obj := fun i h ⟨⟨old, he⟩, hi⟩ c hc => by
    obtain ⟨o1, n1, f1, e1, _, d1⟩ := Sk.it_fields hi
    simp only [List.mem_cons, List.not_mem_nil, or_false] at hc
    rcases hc with rfl | rfl
    · exact ⟨_, he, fun v q => by cases q⟩
    · exact ⟨o1, e1, fun v q => by rw [d1] at q; cases q⟩
  keep := fun i h h' ⟨⟨old, he⟩, hi⟩ q => ⟨⟨old, q e (by simp) _ he⟩, Sk.it_keep hi (q b (by simp))⟩
  item := by
    intro X hP hw hK hc i pins s σ H E I hf st hg
    subst hP hw hK
    obtain ⟨⟨old, he⟩, hi⟩ := st
    obtain ⟨vs, sv, lv⟩ := hg
    have hh : X.A.in1.handled = none := I.ok.hd hc
    obtain ⟨P1, S1, D1, a1, b1, c1⟩ := Sk.draws (A := X.A.in1) I hh k t b nb sv
    have nf : e ∉ b :: k.adr := fun m => by rcases List.mem_cons.mp m with m | m; exact eb m; exact ne m
    refine wpAny_pyNext_enum_itemD D1 he (a1 i hi) lv eb nf fun u h' tk p1 ho s1 hT hsz hk => ?_
    obtain ⟨x, ex, rx⟩ := c1 i u p1
    have el : e < s.heap.objs.size := Heap.lt_size he
    obtain ⟨ob, _, _, eo, _⟩ := Sk.it_fields hi
    have bl : b < s.heap.objs.size := Heap.lt_size eo
    refine ⟨_, rfl, wpAny_letOwnedTupleGo_enum (s := { s with heap := h', toks := tk + 1 }) ho fun g ge sb => ?_⟩
    have gT : g.get? s.heap.objs.size = some { cls := .type "tuple", data := .seq #[.int i tk, u] } := (sb.2 _ (Nat.ne_of_gt el)).trans hT
    have keep : ∀ c o, c ∉ [e, b] → s.heap.get? c = some o → g.get? c = some o := fun c o hb q => by
      simp only [List.mem_cons, List.not_mem_nil, or_false, not_or] at hb
      exact (sb.2 c hb.1).trans (hk c o hb.1 hb.2 q)
    have J : Inv X pins σ (upd H s.heap.objs.size (.tup [.int (i : Nat), x])) { s with heap := g, toks := tk + 1 } :=
      I.turnedNew (ch := [e, b]) keep hf (Nat.le_refl _) ⟨by show 2 ≤ sizeLine; decide, [.int i tk, u], .cons ⟨_, rfl⟩ (.cons rx .nil), ⟨_, gT, rfl, _, rfl⟩⟩
    refine ⟨.ref s.heap.objs.size, _, J, rfl, ⟨_, x, rfl, I.hok.fresh (Nat.le_refl _), rfl, fun l hl => by rw [Sk.std_inj I hl sv]; exact ex⟩, ⟨⟨u, ?_⟩, Sk.it_keep (b1 _ _ s1) fun o q => (sb.2 _ eb.symm).trans q⟩, fun c hc => ?_⟩
    · have e1 : ((i + 1 : Nat) : Int) = (i : Int) + 1 := by omega
      rw [e1]; exact ge
    · have hc' : c ≠ s.heap.objs.size := by
        simp only [List.mem_cons, List.not_mem_nil, or_false] at hc
        rcases hc with rfl | rfl
        · exact Nat.ne_of_lt el
        · exact Nat.ne_of_lt bl
      rw [upd_ne hc']
      exact (hf c hc).1
  done := by
    intro X hP hw hK hc i pins s σ H E I hf st hg
    subst hP hw hK
    obtain ⟨⟨old, he⟩, hi⟩ := st
    obtain ⟨vs, sv, lv⟩ := hg
    have hh : X.A.in1.handled = none := I.ok.hd hc
    obtain ⟨P1, S1, D1, a1, b1, c1⟩ := Sk.draws (A := X.A.in1) I hh k t b nb sv
    rw [lv] at he hi
    refine wpAny_pyNext_enum_endD D1 he (a1 _ hi) fun h' hk => ⟨rfl, I.turnedL (t' := s.toks) (ch := [e, b]) (fun c o hb q => ?_) hf⟩
    simp only [List.mem_cons, List.not_mem_nil, or_false, not_or] at hb
    exact hk c o hb.2 q
  self := fun A i s Q E ⟨⟨old, he⟩, _⟩ h => wpAny_pyIter_enum he h
def iEn (K : PySem.W.Frag) (ta : TA) : TI := fun σ H R => ta σ H fun us H1 => ∃ k vs, us = [Sk.val k] ∧ k.std K H1 vs ∧ R (Ien K k) H1
theorem pi_en {X : Cx} {e : Expr} {ta : TA} {p pos tpos : Pos} {elts : List Expr} {kk : Nat} (hg : Gl X "enumerate") (hm : X.mg "enumerate" = none) (ha : PA X [e] ta) (hs : starEach [e] X.env = [(false, eval e X.env)] := by rfl) :
    PI X (.Tuple elts kk tpos) (.Call (.Name "enumerate" p) [e] [] pos) (iEn X.K ta) := by
  refine ⟨fun pins s σ H R I h => Call_ (ld_blt I hg hm boot_enumerate (PyProof.Rows.callWith_type1 (thn (ha.run pos pins s σ H _ I h) fun us s1 ⟨xs, H1, J, r, k, vs, ex, sv, q⟩ => ?_) hs rfl))⟩
  subst ex
  cases r with
  | cons r1 rr =>
    cases rr
    obtain ⟨t, HB, b1, c1, l1⟩ := Sk.begins J k sv r1
    refine en_call b1 c1 fun g ge g1 hk => wpAny_pyIter_enum ge ?_
    have J2 : Inv X pins σ H1 { s1 with heap := g } := J.kept (t' := s1.toks) hk
    have nm : ∀ {c : Addr}, s1.heap.objs.size ≤ c → c ∉ k.adr := fun hc m => absurd (l1 _ m) (Nat.not_lt.mpr hc)
    refine ⟨s1.heap.objs.size + 1, [s1.heap.objs.size + 1, s1.heap.objs.size], _, _, H1, rfl, J2, turn_en (t := t) (Nat.succ_ne_self _) (nm (Nat.le_succ _)) (nm (Nat.le_refl _)), ⟨⟨.none, ge⟩, Sk.it_new k t g1⟩, fun c hc => ?_, q⟩
    have hle : s1.heap.objs.size ≤ c := by
      simp only [List.mem_cons, List.not_mem_nil, or_false] at hc
      rcases hc with rfl | rfl
      · exact Nat.le_succ _
      · exact Nat.le_refl _
    exact J.fpOk hle (J.hok.fresh hle)
section
variable {X : Cx} {P : Prog} {call : Nat → List T → Hl → R T} {G : Gm} {W : WX} {CX : CXT} {D : Dat} {T0 : Tab}
variable {ρ : List Addr} {Hf H : Hp}
theorem wc_en {gs : List (Nat × List T)} {k : Sk} {xs : List T} (s1 : Src G gs ρ Hf k xs) : WalksC G gs ρ Hf H (numT 0 xs) (Ien G.K k) := by
  refine ⟨fun H' => ∃ vs, k.std G.K H' vs ∧ vs.length = xs.length, (Ien G.K k).yld, ⟨?_, ?_, fun i H' v H'' _ _ y => y⟩, fun Z ρ' Hf' hp' H' pr ex S c => ?_, fun i Z ρ' Hf' hp' H' v H'' pr ex S c hy => ?_⟩
  · rintro i H' hi ⟨vs, g1, l1⟩
    rw [numT_len] at hi
    exact ⟨vs, g1, by omega⟩
  · rintro H' ⟨vs, g1, l1⟩
    rw [numT_len]
    exact ⟨vs, g1, l1.symm⟩
  · obtain ⟨vs, g1, q1⟩ := s1 Z ρ' Hf' hp' H' pr ex S c
    exact ⟨vs, g1, q1.length.symm⟩
  · obtain ⟨vs, g1, q1⟩ := s1 Z ρ' Hf' hp' H' pr ex S c
    obtain ⟨T, x, rfl, e2, e3, e4⟩ := hy
    obtain ⟨t, h1, h2⟩ := q1.get' (e4 vs g1)
    refine ⟨_, by rw [numT_get, h1]; rfl, .inr ⟨_, _, _, _, T, rfl, rfl, e2, e3, ?_, h2⟩⟩
    rw [Nat.zero_add]; exact .int _
theorem ki_enum (C : KCx X P call G W CX D T0) {a : Expr} {ea : E} {p pos tpos : Pos} {elts : List Expr} {kk : Nat} (hg : Gl X "enumerate") (hm : X.mg "enumerate" = none) (ha : PE X a (tE P call G W ea)) (hs : starEach [a] X.env = [(false, eval a X.env)] := by rfl) :
    PI X (.Tuple elts kk tpos) (.Call (.Name "enumerate" p) [a] [] pos) (tI P call G W (.enum ea)) := by
  refine PIimp (pi_en hg hm (pa_cons ha pa_nil hs) hs) fun σ H R h => ?_
  obtain ⟨Z, ρ, Hf, lσ, hp, S, L, h⟩ := h
  simp only [evI] at h
  cases hr : evE P call ea lσ hp with
  | err c fs h1 => rw [hr] at h; exact ⟨Z, ρ, Hf, lσ, hp, S, L, by rw [hr]; exact h⟩
  | stuck => rw [hr] at h; exact h.elim
  | ok x h1 =>
    rw [hr] at h
    simp only [Kb.R.bind_ok] at h
    refine ⟨Z, ρ, Hf, lσ, hp, S, L, ?_⟩
    rw [hr]
    intro ρ1 Hf1 H1 v N1 S1 r1
    split at h
    · rename_i xs e
      obtain ⟨k, rfl, ⟨vs, q1⟩, s1⟩ := wk_src hr e S1 r1
      refine ⟨k, vs, rfl, by rw [C.hK]; exact q1, ?_⟩
      rw [C.hK]
      exact h ρ1 Hf1 H1 _ N1 S1 (wc_en s1)
    · exact h.elim
end
end Kb
end
section
set_option Elab.async false
set_option linter.all false
set_option maxRecDepth 100000
set_option autoImplicit false
/-! Kb17: a parameter that is named alone and left out (None). -/
namespace Kb
open PySem PySem.Spec PyProof.Rows L2
theorem kbn_kw {K : PySem.W.Frag} {x qual : Str} {st : Stmt} {ps ks : List Str} {n : Nat} {arr : List (Nat ⊕ T)} {D : Addr} {nm : Str} {doc pm : Value} {an : Option Addr} {cdv ct : Value} (hD : PySem.W.nsIn K D nm = some (some .none))
    (h : ∀ us ws : List Value, us.length = n → ws.length = ks.length → KwChain D [(nm, .none)] (bindArgs (PySem.W.fnOf x qual (defArgs st) (defBody st) (defScope st) .none (.ref D) doc pm an cdv ct) ⟨us, ks.zip ws⟩) (ps.zip (arrW (us ++ ws) arr))) :
    KBn K (PySem.W.fnOf x qual (defArgs st) (defBody st) (defScope st) .none (.ref D) doc pm an cdv ct) ps n ks (fun us ws => arrW (us ++ ws) arr) (fun vs zs => arrV (vs ++ zs) arr) :=
  ⟨fun s us ws X l1 l2 => BindsTo.of_looks fun M => KwChain.looks X (fun q hq => by rw [List.mem_singleton.mp hq]; exact hD) (h us ws l1 l2), fun r q => arr_rel (r.append q) arr⟩
end Kb
end
section
set_option Elab.async false
set_option linter.all false
set_option maxRecDepth 100000
set_option maxHeartbeats 4000000
set_option autoImplicit false
/-! Kb18: max and min of three. -/
namespace Kb
open PySem PySem.Spec PyProof.Rows L2
section
variable {X : Cx} {G : Gm}
theorem nuLt_int (i j : Int) : nuLt (.int i) (.int j) = some (decide (i < j)) := by
  unfold nuLt
  rfl
theorem nuMax3_int (i j k : Int) : nuMax3 (.int i) (.int j) (.int k) = some (.int (maxI i [j, k])) := by
  unfold nuMax3 nuMax2
  rw [nuLt_int, Option.map_some, Option.bind_some]
  show (nuLt (if decide (i < j) = true then V.int j else V.int i) (.int k)).map _ = _
  rw [show (if decide (i < j) = true then V.int j else V.int i) = V.int (if j > i then j else i) by by_cases h : i < j <;> simp [h], nuLt_int, Option.map_some]
  show some (if decide ((if j > i then j else i) < k) = true then V.int k else V.int (if j > i then j else i)) = some (V.int (if k > (if j > i then j else i) then k else (if j > i then j else i)))
  by_cases h : (if j > i then j else i) < k <;> simp [h]
theorem nuMin3_int (i j k : Int) : nuMin3 (.int i) (.int j) (.int k) = some (.int (minI i [j, k])) := by
  unfold nuMin3 nuMin2
  rw [nuLt_int, Option.map_some, Option.bind_some]
  show (nuLt (.int k) (if decide (j < i) = true then V.int j else V.int i)).map _ = _
  rw [show (if decide (j < i) = true then V.int j else V.int i) = V.int (if j < i then j else i) by by_cases h : j < i <;> simp [h], nuLt_int, Option.map_some]
  show some (if decide (k < (if j < i then j else i)) = true then V.int k else V.int (if j < i then j else i)) = some (V.int (if k < (if j < i then j else i) then k else (if j < i then j else i)))
  by_cases h : k < (if j < i then j else i) <;> simp [h]
theorem three_of {ρ : List Addr} {Hf H : Hp} {x y z : T} {vs : List Vv} (r : RepBs G ρ Hf H [x, y, z] vs) : ∃ v u w, vs = [v, u, w] ∧ RepB G ρ Hf H x v ∧ RepB G ρ Hf H y u ∧ RepB G ρ Hf H z w := by
  cases r with
  | cons h q =>
    obtain ⟨u, w, rfl, h2, h3⟩ := two_of q
    exact ⟨_, _, _, rfl, h, h2, h3⟩
theorem call_max3T (hc : X.calm = true) : CallR X (.builtin "max") (rF G max3F) := by
  intro pins s σ H vs us Q I rv h
  obtain ⟨Z, W, σ', ρ, Hf, hp, xs, S, rx, h⟩ := h
  unfold max3F at h
  split at h
  · obtain ⟨v, u, w, rfl, r1, r2, r3⟩ := three_of rx
    obtain rfl := B_int r1; obtain rfl := B_int r2; obtain rfl := B_int r3
    exact call_max3Nu hc pins s σ H _ us Q I rv ⟨_, _, _, _, rfl, nuMax3_int _ _ _, P_int S h⟩
  · exact h.elim
theorem call_min3T (hc : X.calm = true) : CallR X (.builtin "min") (rF G min3F) := by
  intro pins s σ H vs us Q I rv h
  obtain ⟨Z, W, σ', ρ, Hf, hp, xs, S, rx, h⟩ := h
  unfold min3F at h
  split at h
  · obtain ⟨v, u, w, rfl, r1, r2, r3⟩ := three_of rx
    obtain rfl := B_int r1; obtain rfl := B_int r2; obtain rfl := B_int r3
    exact call_min3Nu hc pins s σ H _ us Q I rv ⟨_, _, _, _, rfl, nuMin3_int _ _ _, P_int S h⟩
  · exact h.elim
end
end Kb
end
section
set_option Elab.async false
set_option linter.all false
set_option maxRecDepth 100000
set_option maxHeartbeats 4000000
set_option autoImplicit false
/-! Kb19: a test that is an `a if c else b`. -/
namespace Kb
open PySem PySem.Spec PyProof.Rows L2
open Sem (wp)
section
variable {X : Cx} {P : Prog} {call : Nat → List T → Hl → R T} {G : Gm} {W : WX}
def tIfT (c a b : TT) : TT := fun σ H Q => c σ H fun k H1 => if k = true then a σ H1 Q else b σ H1 Q
theorem pt_ife {c a b : Expr} {pos : Pos} {tc ta tb : TT} (hc : PT X c tc) (ha : PT X a ta) (hb : PT X b tb) : PT X (.IfExp c a b pos) (tIfT tc ta tb) := by
  refine ⟨fun pins s σ H Q I h => ?_⟩
  have e : isTrue (.IfExp c a b pos) X.env (eval (.IfExp c a b pos) X.env) = (do if ← isTrue c X.env (eval c X.env) then isTrue a X.env (eval a X.env) else isTrue b X.env (eval b X.env)) := rfl
  rw [e]
  refine wpAny_bind (wpAny_mono (hc.run pins s σ H _ I h) (fun k s1 q => ?_) fun _ _ e => e)
  obtain ⟨H1, I1, q⟩ := q
  cases k with
  | true => exact ha.run pins s1 σ H1 Q I1 q
  | false => exact hb.run pins s1 σ H1 Q I1 q
theorem kt_ife {c a b : Expr} {ec ea eb : E} {pos : Pos} (hc : PT X c (tTe P call G W ec)) (ha : PT X a (tTe P call G W ea)) (hb : PT X b (tTe P call G W eb)) : PT X (.IfExp c a b pos) (tTe P call G W (.ife ec ea eb)) := by
  refine PTimp (pt_ife hc ha hb) fun σ H Q h => ?_
  obtain ⟨Z, ρ, Hf, lσ, hp, S, L, h⟩ := h
  have e : evT P call (.ife ec ea eb) lσ hp = (evT P call ec lσ hp).bind fun t h => if t then evT P call ea lσ h else evT P call eb lσ h := by
    simp only [evT, evE, R.bind_assoc]
    congr 1
    funext x h
    congr 1
    funext t h
    cases t <;> rfl
  rw [e] at h
  refine go_T S L h fun k h1 ρ1 Hf1 H1 N1 S1 L1 h => ?_
  cases k with
  | true => exact ⟨Z, ρ1, Hf1, lσ, h1, S1, L1, h⟩
  | false => exact ⟨Z, ρ1, Hf1, lσ, h1, S1, L1, h⟩
end
end Kb
end
section
set_option Elab.async false
set_option linter.all false
set_option maxRecDepth 100000
set_option maxHeartbeats 4000000
set_option autoImplicit false
/-! Kb20: sorted numbers. -/
namespace SrtO
open PySem PyProof.Rows Srt
section
variable {prog : Program} {w : World} {A : Around} {E : Value → Shared → Prop} {s : Shared}
theorem collect_tup {l : Addr} {vs : List Value} {Q : List Value → Shared → Prop} (hl : IsTup s.heap l vs.toArray)
    (h : Q vs { s with heap := (s.heap.push (seqObj "list" #[] 0)).update s.heap.objs.size (Obj.mapSeq (· ++ vs.toArray)) }) (hsz : vs.length ≤ sizeLine := by size_fits) :
    wpAny (model prog w) A (collect (.ref l)) Q E s := by
  obtain ⟨o, ho, hc, n, hd⟩ := id hl
  unfold collect
  refine wpAny_bind (wpAny_runValue (codeAny_builtin entry_proto_collect' ?_))
  show wpAny _ _ (do again (.builtin "list.__iadd__" ⟨[← newList [], .ref l], []⟩)) _ _ s
  refine wpAny_bind (wpAny_newList (wpAny_pure ⟨Code.quiet_builtin _ (by decide +kernel), codeAny_builtin entry_list_iadd' ?_⟩))
  show wpAny _ _ (Builtin.List.listExtendWith (.ref s.heap.objs.size) (.ref l) (.ref s.heap.objs.size)) _ _ { s with heap := s.heap.push (seqObj "list" #[] 0) }
  unfold Builtin.List.listExtendWith
  have ho' : (s.heap.push (seqObj "list" #[] 0)).get? l = some o := Heap.get?_push_of_some _ ho
  refine wpAny_bind (wpAny_typeOf (T := "tuple") ⟨o, ho', hc⟩ ?_)
  have ht : (Value.type "tuple" == Value.type "tuple") = true := by rfl
  rw [if_pos (by rw [ht]; simp)]
  refine wpAny_bind (listItems_at ho' hd ?_)
  refine wpAny_bind (listItems_at (xs := #[]) (n := 0) (Heap.get?_push_size _ rfl) rfl ?_)
  rw [if_neg (by simp)]
  refine wpAny_bind (listUpdate_at (xs := #[]) (n := 0) (Heap.get?_push_size _ rfl) rfl ?_ (Nat.zero_le _) (by show (#[] ++ vs.toArray).size ≤ sizeLine + 1; simp only [Array.size_append, List.size_toArray, List.length_nil]; omega))
  refine wpAny_pure ?_
  show wpAny (model prog w) A (do
      let o ← load s.heap.objs.size
      match o.data with
      | .seq xs _ => pure xs.toList
      | _ => unsupported "internal:collect") Q E { s with heap := (s.heap.push (seqObj "list" #[] 0)).update s.heap.objs.size (Obj.mapSeq (· ++ vs.toArray)) }
  refine wpAny_bind (wpAny_load (get?_update_seq (Heap.get?_push_size _ rfl) _) ?_)
  show wpAny _ _ (pure ((#[] : Array Value) ++ vs.toArray).toList) Q E _
  rw [show ((#[] : Array Value) ++ vs.toArray).toList = vs by simp]
  exact wpAny_pure h
theorem sorted_ordT {l : Addr} {vs : List Value} {ltv : Value → Value → Bool} {Q : Value → Shared → Prop} (O : Swo ltv) (hl : IsTup s.heap l vs.toArray) (hz : vs.length ≤ sizeLine)
    (hS : 2 ≤ vs.length → ∀ (h₁ : Heap) (a : Addr), h₁.get? a = some (seqObj "list" vs.toArray 0) → (∀ b o, s.heap.get? b = some o → b ≠ a ∧ h₁.get? b = some o) → SortableO prog w A.in1.in1 { s with heap := h₁ } a vs ltv)
    (h : ∀ out : List Value, Srtd ltv out → Stb ltv out vs → Q (.ref (s.heap.objs.size + 1)) { s with heap := sortedAll s.heap vs out.toArray }) :
    wpAny (model prog w) A (call (.builtin "sorted") [.ref l]) Q E s := by
  refine Calls.call_function_entry kind_sorted plain_sorted entry_sorted (args_sorted1 _) ?_
  unfold Builtin.«sorted»
  refine wpAny_bind (m := checkCount "sorted" 1 1 _) (wpAny_pure ?_)
  refine wpAny_bind (collect_tup hl ?_ hz)
  refine wpAny_bind (wpAny_newList ?_ hz)
  have hsz : ((s.heap.push (seqObj "list" #[] 0)).update s.heap.objs.size (Obj.mapSeq (· ++ vs.toArray))).objs.size = s.heap.objs.size + 1 := by
    rw [Heap.size_update, size_push']
  have hoL : (((s.heap.push (seqObj "list" #[] 0)).update s.heap.objs.size (Obj.mapSeq (· ++ vs.toArray))).push (seqObj "list" vs.toArray 0)).get? (s.heap.objs.size + 1) = some (seqObj "list" vs.toArray 0) := by
    rw [← hsz]; exact Heap.get?_push_size _ rfl
  have keep : ∀ b o, s.heap.get? b = some o → b ≠ s.heap.objs.size + 1 ∧ (((s.heap.push (seqObj "list" #[] 0)).update s.heap.objs.size (Obj.mapSeq (· ++ vs.toArray))).push (seqObj "list" vs.toArray 0)).get? b = some o := fun b o q => by
    have hlt : b < s.heap.objs.size := Heap.lt_size q
    refine ⟨Nat.ne_of_lt (Nat.lt_succ_of_lt hlt), Heap.get?_push_of_some _ ?_⟩
    rw [Heap.get?_update_ne _ _ _ _ (Nat.ne_of_lt hlt)]
    exact Heap.get?_push_of_some _ q
  show wpAny _ _ _ _ _ { s with heap := ((s.heap.push (seqObj "list" #[] 0)).update s.heap.objs.size (Obj.mapSeq (· ++ vs.toArray))).push (seqObj "list" vs.toArray 0) }
  rw [hsz]
  refine wpAny_bind (wpAny_holding (wpAny_call_entry slot_list_sort ⟨_, hoL, rfl⟩ entry_list_sort (list_sort_ord O hoL hz (fun h2 => hS h2 _ _ hoL keep) fun out hs hb => ⟨_, rfl, ?_⟩) (args_list_sort _)))
  exact wpAny_pure ⟨_, rfl, h out hs hb⟩
end
end SrtO
namespace Kb
open PySem PySem.Spec PyProof.Rows L2
section
variable {X : Cx} {P : Prog} {call : Nat → List T → Hl → R T} {G : Gm} {W : WX} {CX : CXT} {D : Dat} {T0 : Tab}
theorem srtI_perm (l : List Int) : (srtI l).Perm l := List.mergeSort_perm l _
theorem srtI_sorted (l : List Int) : (srtI l).Pairwise (· ≤ ·) := by
  have h := List.pairwise_mergeSort (le := fun a b : Int => decide (a ≤ b)) (fun a b c h1 h2 => by simp at *; omega) (fun a b => by simp; omega) l
  exact h.imp fun h => by simpa using h
theorem srtI_unique {l m : List Int} (p : m.Perm l) (s : m.Pairwise (· ≤ ·)) : m = srtI l :=
  List.Perm.eq_of_pairwise (fun _ _ _ _ h1 h2 => Int.le_antisymm h1 h2) s (srtI_sorted l) (p.trans (srtI_perm l).symm)
theorem ltN_eq : ∀ a b : List Nat, ltN a b = ltCps a b
  | [], [] => rfl
  | [], _ :: _ => rfl
  | _ :: _, [] => rfl
  | a :: r, b :: t => by
    have e : (a == b) = decide (a = b) := by by_cases h : a = b <;> simp [h]
    simp only [ltN, ltCps, ltN_eq r t, e]
theorem ltN_trans : ∀ {a b c : List Nat}, ltN b a = false → ltN c b = false → ltN c a = false
  | [], _, [], _, _ => rfl
  | [], [], _ :: _, _, _ => rfl
  | [], _ :: _, _ :: _, _, _ => rfl
  | x :: r, [], _, h, _ => by simp [ltN] at h
  | x :: r, y :: s, [], _, h => by simp [ltN] at h
  | x :: r, y :: s, z :: t, h1, h2 => by
    simp only [ltN, Bool.or_eq_false_iff, Bool.and_eq_false_iff, decide_eq_false_iff_not] at h1 h2 ⊢
    refine ⟨by omega, ?_⟩
    by_cases e : z = x
    · right
      have e1 : ¬ (y ≠ x) := by omega
      have e2 : ¬ (z ≠ y) := by omega
      exact ltN_trans (h1.2.resolve_left (by omega)) (h2.2.resolve_left (by omega))
    · exact .inl e
theorem ltN_total : ∀ (a b : List Nat), ltN a b = false ∨ ltN b a = false
  | [], [] => .inl rfl
  | [], _ :: _ => .inr rfl
  | _ :: _, [] => .inl rfl
  | x :: r, y :: s => by
    simp only [ltN, Bool.or_eq_false_iff, Bool.and_eq_false_iff, decide_eq_false_iff_not]
    by_cases h1 : x < y
    · exact .inr ⟨by omega, .inl (by omega)⟩
    · by_cases h2 : y < x
      · exact .inl ⟨by omega, .inl (by omega)⟩
      · rcases ltN_total r s with h | h
        · exact .inl ⟨h1, .inr h⟩
        · exact .inr ⟨h2, .inr h⟩
theorem ltN_anti : ∀ {a b : List Nat}, ltN b a = false → ltN a b = false → a = b
  | [], [], _, _ => rfl
  | [], _ :: _, _, h => by simp [ltN] at h
  | _ :: _, [], h, _ => by simp [ltN] at h
  | x :: r, y :: s, h1, h2 => by
    simp only [ltN, Bool.or_eq_false_iff, Bool.and_eq_false_iff, decide_eq_false_iff_not] at h1 h2
    have e : x = y := by omega
    subst e
    rw [ltN_anti (h1.2.resolve_left (by omega)) (h2.2.resolve_left (by omega))]
theorem srtS_perm (l : List (List Nat)) : (srtS l).Perm l := List.mergeSort_perm l _
theorem srtS_sorted (l : List (List Nat)) : (srtS l).Pairwise (fun a b => ltN b a = false) := by
  have h := List.pairwise_mergeSort (le := fun a b : List Nat => !ltN b a) (fun a b c h1 h2 => by simp at *; exact ltN_trans h1 h2) (fun a b => by
    rcases ltN_total a b with h | h <;> simp [h]) l
  exact h.imp fun h => by simpa using h
theorem srtS_unique {l m : List (List Nat)} (p : m.Perm l) (s : m.Pairwise (fun a b => ltN b a = false)) : m = srtS l :=
  List.Perm.eq_of_pairwise (fun _ _ _ _ h1 h2 => ltN_anti h1 h2) s (srtS_sorted l) (p.trans (srtS_perm l).symm)
theorem risingS_all : ∀ {l : List Str} {p : Str}, risingS p l = true → (∀ x ∈ l, ltN x.cps.toList p.cps.toList = false) ∧ l.Pairwise (fun a b => ltN b.cps.toList a.cps.toList = false)
  | [], _, _ => ⟨fun _ h => (nomatch h), .nil⟩
  | x :: r, p, h => by
    simp only [risingS, Bool.and_eq_true, Bool.not_eq_true', ← ltN_eq] at h
    obtain ⟨h1, h2⟩ := risingS_all h.2
    refine ⟨fun y hy => ?_, .cons h1 h2⟩
    rcases List.mem_cons.mp hy with rfl | hy
    · exact h.1
    · exact ltN_trans h.1 (h1 y hy)
theorem sortedS_pw : ∀ {l : List Str}, sortedS l = true → l.Pairwise (fun a b => ltN b.cps.toList a.cps.toList = false)
  | [], _ => .nil
  | _ :: _, h => .cons (risingS_all h).1 (risingS_all h).2
theorem strV_cps (s : Str) : strV s.cps.toList = s := by cases s; simp [strV]
theorem srtS_strs {l : List (List Nat)} {m : List Str} (p : m.Perm (l.map strV)) (s : sortedS m = true) : m = (srtS l).map strV := by
  have p2 : (m.map fun s => s.cps.toList).Perm l := by
    have h := p.map fun s => s.cps.toList
    rw [List.map_map] at h
    have e : ((fun s : Str => s.cps.toList) ∘ strV) = id := by funext x; simp [strV]
    rwa [e, List.map_id] at h
  rw [← srtS_unique p2 (List.pairwise_map.mpr (sortedS_pw s)), List.map_map]
  have e : (strV ∘ fun s : Str => s.cps.toList) = id := by funext x; exact strV_cps x
  rw [e, List.map_id]
theorem reps_strs {ρ : List Addr} {Hf : Hp} : ∀ (ns : List (List Nat)), Reps G ρ Hf (ns.map T.str) ((ns.map strV).map L2.V.str)
  | [] => .nil
  | n :: ns => .cons (.str n) (reps_strs ns)
theorem ltPr_iff {a b : Int × Int} : ltPr a b = true ↔ a.1 < b.1 ∨ (a.1 = b.1 ∧ a.2 < b.2) := by
  unfold ltPr
  rw [Bool.or_eq_true, Bool.and_eq_true, decide_eq_true_eq, decide_eq_true_eq, decide_eq_true_eq]
theorem ltPr_no {a b : Int × Int} : ltPr a b = false ↔ ¬ (a.1 < b.1 ∨ (a.1 = b.1 ∧ a.2 < b.2)) := by
  rw [← ltPr_iff]; cases ltPr a b <;> simp
theorem srtP_perm (l : List (Int × Int)) : (srtP l).Perm l := List.mergeSort_perm l _
theorem srtP_sorted (l : List (Int × Int)) : (srtP l).Pairwise (fun a b => ltPr b a = false) := by
  have h := List.pairwise_mergeSort (le := fun a b : Int × Int => !ltPr b a) (fun a b c h1 h2 => by
    simp only [Bool.not_eq_true', ltPr_no] at *; omega) (fun a b => by
    rw [Bool.or_eq_true, Bool.not_eq_true', Bool.not_eq_true', ltPr_no, ltPr_no]; omega) l
  exact h.imp fun h => by simpa using h
theorem srtP_unique {l m : List (Int × Int)} (p : m.Perm l) (s : m.Pairwise (fun a b => ltPr b a = false)) : m = srtP l :=
  List.Perm.eq_of_pairwise (fun a b _ _ h1 h2 => by
    rw [ltPr_no] at h1 h2
    refine Prod.ext ?_ ?_ <;> omega) s (srtP_sorted l) (p.trans (srtP_perm l).symm)
theorem allPrs_eq : ∀ {xs : List T} {ps : List (Int × Int)}, allPrs xs = some ps → xs = ps.map prT
  | [], ps, e => by simp only [allPrs] at e; cases e; rfl
  | x :: xs, ps, e => by
    unfold allPrs at e
    split at e
    · rename_i h; cases h
    · rename_i i j r h
      cases h
      obtain ⟨qs, e1, e2⟩ := Option.map_eq_some_iff.mp e
      subst e2
      rw [allPrs_eq e1]; rfl
    · cases e
/-- the pair at an address -/
def PrA (K : PySem.W.Frag) (H : Hp) (z : L2.V × (Int × Int)) : Prop := ∃ t, z.1 = .ref t ∧ SqT K H t [.int z.2.1, .int z.2.2]
/-- sorted(xs), xs a list of pairs of numbers -/
def rSortedPQ (K : PySem.W.Frag) : List L2.V → Hp → VK → Prop := fun vs H Q => ∃ (a : Addr) (xs : List L2.V) (ps : List (Int × Int)), vs = [L2.V.ref a] ∧ SqL K H a xs ∧ xs.length = ps.length ∧ (∀ z ∈ xs.zip ps, PrA K H z) ∧
  ∀ (zs : List (L2.V × (Int × Int))) (p : Addr), zs.Perm (xs.zip ps) → zs.map (·.2) = srtP ps → H p = none → Q (.ref p) (upd H p (.lst (zs.map (·.1))))
open Classical in
noncomputable def keyOf (K : PySem.W.Frag) (H : Hp) (x : L2.V) : Int × Int := if h : ∃ p : Int × Int, PrA K H (x, p) then choose h else (0, 0)
theorem cr_sortedPQ : CallR X (.builtin "sorted") (rSortedPQ X.K) := by
  intro pins s σ H vs us Q I r h
  obtain ⟨a, xs, ps, rfl, hs, hlen, hx, q⟩ := h
  have inj : ∀ {x : L2.V} {p p' : Int × Int}, PrA X.K H (x, p) → PrA X.K H (x, p') → p = p' := fun {x p p'} ⟨t, e, h⟩ ⟨t', e', h'⟩ => by
    have e : x = .ref t := e
    have e' : x = .ref t' := e'
    subst e
    cases e'
    have := I.tuple_inj h h'
    simp only [List.cons.injEq, L2.V.int.injEq, and_true] at this
    exact Prod.ext this.1 this.2
  have ko : ∀ {x : L2.V} {p : Int × Int}, PrA X.K H (x, p) → keyOf X.K H x = p := fun {x p} hp => by
    unfold keyOf
    have hh : ∃ p : Int × Int, PrA X.K H (x, p) := ⟨p, hp⟩
    rw [dif_pos hh]
    exact inj (Classical.choose_spec hh) hp
  have hk : ∀ x ∈ xs, PrA X.K H (x, keyOf X.K H x) := fun x m => by
    obtain ⟨i, hi, e⟩ := List.mem_iff_getElem.mp m
    have mz : (x, ps[i]'(by omega)) ∈ xs.zip ps := by
      rw [← e]
      refine List.mem_iff_getElem.mpr ⟨i, by rw [List.length_zip]; omega, ?_⟩
      rw [List.getElem_zip]
    have := hx _ mz
    rw [ko this]; exact this
  have hps : xs.zip ps = xs.map fun x => (x, keyOf X.K H x) := by
    refine List.ext_getElem (by rw [List.length_zip, List.length_map]; omega) fun i h1 h2 => ?_
    rw [List.getElem_zip, List.getElem_map]
    have h1' : i < xs.length := by rw [List.length_map] at h2; exact h2
    have mz : (xs[i], ps[i]'(by omega)) ∈ xs.zip ps := List.mem_iff_getElem.mpr ⟨i, h1, by rw [List.getElem_zip]⟩
    rw [ko (hx _ mz)]
  have hpe : ps = xs.map (keyOf X.K H) := by
    have := congrArg (List.map Prod.snd) hps
    rw [List.map_map, List.map_snd_zip (by omega)] at this
    exact this
  obtain ⟨its, rv, hl, hz⟩ := I.list hs
  obtain ⟨u, rfl, ru⟩ := vals1 r
  obtain rfl : u = Value.ref a := ru
  obtain ⟨e1, e2⟩ := refs_back rv fun x m => by
    obtain ⟨t, e, _⟩ := hk x m
    exact ⟨t, e⟩
  refine SrtO.sorted_pairsO (k := fun u => keyOf X.K H (backV u)) hl.isList (by rw [← rv.length]; exact hz) (fun v hv => ?_) fun h' d out h1 h2 kp hd hn => ?_
  · obtain ⟨t, rfl⟩ := e2 v hv
    have hm : L2.V.ref t ∈ xs := by rw [e1]; exact List.mem_map.mpr ⟨_, hv, rfl⟩
    obtain ⟨t', e, ht⟩ := hk _ hm
    cases e
    obtain ⟨its2, r2, ⟨o, ho, hc, n, hd⟩, _⟩ := I.tuple ht
    obtain ⟨u1, u2, rfl, ri, rj⟩ := vals2 r2
    obtain ⟨t1, rfl⟩ := ri
    obtain ⟨t2, rfl⟩ := rj
    exact ⟨t, o, t1, t2, n, rfl, ho, hc, hd⟩
  · have h3 : ∀ u ∈ out, ∃ a, u = Value.ref a := fun u hu => e2 u (h2.perm.mem_iff.mp hu)
    obtain ⟨n, hn⟩ := hn
    have hb : SrtO.Stb (ltP (keyOf X.K H)) (out.map backV) xs := by
      rw [e1]
      exact SrtO.Stb.map (ltP_swo (keyOf X.K H)) backV h2
    have hsd : SrtO.Srtd (ltP (keyOf X.K H)) (out.map backV) := SrtO.srtd_map h1
    have zp : ((out.map backV).map fun x => (x, keyOf X.K H x)).Perm (xs.zip ps) := by
      rw [hps]; exact hb.perm.map _
    have zs : ((out.map backV).map fun x => (x, keyOf X.K H x)).map (·.2) = srtP ps := by
      rw [List.map_map]
      refine srtP_unique ?_ ?_
      · rw [hpe]; exact hb.perm.map _
      · refine List.pairwise_map.mpr (hsd.imp fun {x y} h => ?_)
        have h : SrtO.lexB (keyOf X.K H y) (keyOf X.K H x) = false := h
        rw [SrtO.lexB_no] at h
        exact ltPr_no.mpr h
    have q2 := q _ d zp zs (I.hok.fresh hd)
    rw [List.map_map] at q2
    have ei : (fun x : L2.V => (x, keyOf X.K H x).1) = id := rfl
    have q2 : Q (.ref d) (upd H d (.lst (out.map backV))) := by
      have e : List.map ((fun x => x.fst) ∘ fun x => (x, keyOf X.K H x)) (List.map backV out) = List.map backV out := by
        show List.map (fun x : L2.V => x) _ = _
        rw [List.map_id']
      rw [e] at q2; exact q2
    refine ⟨.ref d, upd H d (.lst (out.map backV)), I.laid (t' := s.toks) kp hd ⟨?_, out, n, L2.vals_back h3, hn⟩, rfl, q2⟩
    rw [hb.len]
    exact hz
theorem reps_prs {ρ : List Addr} {Hf : Hp} : ∀ {ps : List (Int × Int)} {vs : List L2.V}, Reps G ρ Hf (ps.map prT) vs → vs.length = ps.length ∧ ∀ z ∈ vs.zip ps, PrA G.K Hf z
  | [], _, .nil => ⟨rfl, fun z m => by cases m⟩
  | p :: ps, _, .cons h r => by
    obtain ⟨l, k⟩ := reps_prs r
    refine ⟨by rw [List.length_cons, List.length_cons, l], fun z m => ?_⟩
    rcases List.mem_cons.mp m with rfl | m
    · cases h with
      | tup h r =>
        cases r with
        | cons a r => cases r with
          | cons b r =>
            cases r; cases a; cases b
            exact ⟨_, rfl, h⟩
    · exact k z m
theorem prs_reps {ρ : List Addr} {Hf : Hp} : ∀ {zs : List (L2.V × (Int × Int))}, (∀ z ∈ zs, PrA G.K Hf z) → Reps G ρ Hf ((zs.map (·.2)).map prT) (zs.map (·.1))
  | [], _ => .nil
  | z :: zs, h => by
    obtain ⟨t, e, q⟩ := h z List.mem_cons_self
    refine .cons ?_ (prs_reps fun y m => h y (List.mem_cons_of_mem _ m))
    show Rep G ρ Hf (prT z.2) z.1
    rw [e]
    exact Rep.tup q (.cons (.int _) (.cons (.int _) .nil))
/-- sorted(xs), xs a tuple of numbers -/
def rSortedTI (K : PySem.W.Frag) : List L2.V → Hp → VK → Prop := fun vs H Q => ∃ (a : Addr) (ns : List Int), vs = [L2.V.ref a] ∧ SqT K H a (ns.map L2.V.int) ∧
  ∀ (ns' : List Int) (p : Addr), ns'.Perm ns → ns'.Pairwise (· ≤ ·) → H p = none → Q (.ref p) (upd H p (.lst (ns'.map L2.V.int)))
theorem cr_sortedTI : CallR X (.builtin "sorted") (rSortedTI X.K) := by
  intro pins s σ H vs us Q I r h
  obtain ⟨a, ns, rfl, hs, q⟩ := h
  obtain ⟨its, rv, hl, hz⟩ := I.tuple hs
  rw [Vals.ref1 r]
  have hi := rv.ints
  refine SrtO.sorted_ordT SrtO.swo_int hl (by rw [← rv.length]; exact hz) (fun h2 h₁ a' _ _ => SrtO.ints_sortable hi h2) fun out h1 h2 => ?_
  obtain ⟨k1, k2, k3⟩ := SrtO.ints_out hi h1 h2
  obtain ⟨ep, he'⟩ := PyProof.Rows.sortedAll_at s.heap its out.toArray
  have hlen : ((out.map SrtO.iv).map L2.V.int).length ≤ sizeLine := by
    rw [List.length_map, k2.length_eq]
    rw [List.length_map] at hz
    exact hz
  exact ⟨.ref _, upd H (s.heap.objs.size + 1) (.lst ((out.map SrtO.iv).map L2.V.int)), I.laid (t' := s.toks) (fun _ _ => PyProof.Rows.sortedAll_old) (Nat.le_succ _) ⟨hlen, out, ep, vals_of_ints k1, he'⟩, rfl, q _ _ k2 k3 (I.hok.fresh (Nat.le_succ _))⟩
def rSortedB (K : PySem.W.Frag) : List L2.V → Hp → VK → Prop := fun vs H Q => rSortedI K vs H Q ∨ rSortedS K vs H Q ∨ rSortedPQ K vs H Q ∨ rSortedTI K vs H Q
theorem cr_sortedB : CallR X (.builtin "sorted") (rSortedB X.K) := by
  intro pins s σ H vs us Q I r h
  rcases h with h | h | h | h
  · exact cr_sortedI pins s σ H vs us Q I r h
  · exact cr_sortedS pins s σ H vs us Q I r h
  · exact cr_sortedPQ pins s σ H vs us Q I r h
  · exact cr_sortedTI pins s σ H vs us Q I r h
theorem ka_srt (C : KCx X P call G W CX D T0) {a : Expr} {ea : E} {p pos : Pos} (hg : Gl X "sorted") (hm : X.mg "sorted" = none) (hv : bootBuiltins "sorted" = some (.builtin "sorted")) (ha : PE X a (tE P call G W ea))
    (he : starEach [a] X.env = (false, eval a X.env) :: starEach [] X.env := by rfl) : PE X (.Call (.Name "sorted" p) [a] [] pos) (tA P call G W (.srt ea)) := by
  refine PEimp (pe_callB (id := "sorted") cr_sortedB hg hm hv (pa_cons ha pa_nil he) (by decide +kernel) (by decide +kernel) he rfl) fun σ H Q h => ?_
  obtain ⟨Z, ρ, Hf, lσ, hp, S, L, h⟩ := h
  simp only [evA] at h
  refine go_E S L h fun x h1 ρ1 Hf1 v H1 N1 S1 L1 r1 h => ?_
  split at h
  · rename_i ns e
    obtain ⟨xs, e1, e2⟩ := Option.bind_eq_some_iff.mp e
    have cs : lstOf x h1 = some xs ∨ x = .tup xs := by
      cases x with
      | tup ys => right; cases e1; rfl
      | _ => left; exact e1
    rcases cs with hl | rfl
    · obtain ⟨b, vs, rfl, h2, h3⟩ := lst_at S1 hl r1
      obtain rfl := allInts_at e2 h3
      refine .inl ⟨b, ns, rfl, by rw [C.hK]; exact h2, fun ns' q hp' hs hq => ?_⟩
      rw [srtI_unique hp' hs]
      exact P_al S1 (reps_ints _) h q hq
    · cases r1 with
      | tup h2 h3 =>
        obtain rfl := allInts_at e2 h3
        refine .inr (.inr (.inr ⟨_, ns, rfl, by rw [C.hK]; exact S1.ex.st h2, fun ns' q hp' hs hq => ?_⟩))
        rw [srtI_unique hp' hs]
        exact P_al S1 (reps_ints _) h q hq
  · split at h
    · rename_i ns e
      split at h
      · rename_i c
        obtain ⟨xs, e1, e2⟩ := Option.bind_eq_some_iff.mp e
        obtain ⟨b, vs, rfl, h2, h3⟩ := lst_at S1 e1 r1
        obtain rfl := allStrs_at e2 h3
        refine .inr (.inl ⟨b, ns.map strV, rfl, by rw [C.hK]; exact h2, by rw [List.length_map]; exact c, fun ns' q hp' hs hq => ?_⟩)
        rw [srtS_strs hp' hs]
        exact P_al S1 (reps_strs _) h q hq
      · exact h.elim
    · split at h
      · rename_i ps e
        obtain ⟨xs, e1, e2⟩ := Option.bind_eq_some_iff.mp e
        obtain ⟨b, vs, rfl, h2, h3⟩ := lst_at S1 e1 r1
        obtain rfl := allPrs_eq e2
        obtain ⟨l, k⟩ := reps_prs h3
        refine .inr (.inr (.inl ⟨b, vs, ps, rfl, by rw [C.hK]; exact h2, l, fun z m => ?_, fun zs p zp ze hp' => ?_⟩))
        · obtain ⟨t, e, q⟩ := k z m
          exact ⟨t, e, by rw [C.hK]; exact S1.ex.st q⟩
        · have rr := prs_reps (ρ := ρ1) (zs := zs) fun z m => k z (zp.mem_iff.mp m)
          rw [ze] at rr
          exact P_al S1 rr h p hp'
      · exact h.elim
end
end Kb
end
section
set_option Elab.async false
set_option linter.all false
set_option maxRecDepth 100000
set_option maxHeartbeats 4000000
set_option autoImplicit false
/-! Kb21: errors are raised. -/
namespace Kb
open PySem PySem.Spec PyProof.Rows L2
/-- what the top has written of an error's class at C, its __init__ at fI -/
structure ErrC (K : PySem.W.Frag) (C fI : Addr) : Prop where
  oex : OexC K C
  ga : PySem.W.findIn K (.ref C) "__getattribute__" = some (some (.builtin "BaseException.__getattribute__"))
  gg : PySem.W.findIn K (.ref C) "__getattr__" = some none
  iC : PySem.W.findIn K (.ref C) "__init__" = some (some (.ref fI))
  tI : PySem.W.typeIn K (.ref fI) = some (.type "function")
  hd : PySem.W.hasDictIn K C = true
/-- __init__(self, ..): self.f = f, .. -/
def spE (C : Addr) (fs : List Str) : Sp := fun ws H Q _ => ∃ (a : Addr) (vs : List V), ws = .ref a :: vs ∧ vs.length = fs.length ∧ H a = some (exo a C none) ∧
  ∀ (d : Addr) (H' : Hp), H d = none → d ≠ a → (∀ b, b ≠ d → b ≠ a → H' b = H b) → H' a = some (exo a C (some d)) → H' d = some (exd d (fs.zip vs).reverse) → Q .non H'
section
variable {Pg : Program} {w : World} {K : PySem.W.Frag} {mg : Str → Option Value} {base : Heap} {C : Addr} {name qual f g p q : Str} {st : Stmt} {fa : Addr} {fd : FuncData}
theorem fnE1 (T : OexC K C) (nf : PySem.W.findIn K (.ref C) f = some none) (F : Fun K name qual st fa fd) (S : FnScope ["self", p] ["self", p] (defScope st))
    (hb : ∀ (cdv : Value) (A : Around) (outer : List Env) (s : Shared) (H : Hp) (E : XK), PSs (cxOf CX0 Pg w K mg base ["self", p] qual (defScope st) fa cdv A outer s H E).nox (defBody st) (tOst K f (tVar 0) (tVar 1))) : FnOk Pg w K mg base CX0 1 fa fd ["self", p] (spE C [f]) := by
  refine F.ok (k := 0) S (fun vs H Q E h => ?_) (fun cdv A outer s H vs Q E hr h => ?_)
  · obtain ⟨a, us, rfl, l, _⟩ := h
    simp only [List.length_cons, l, List.length_nil]
  · obtain ⟨a, us, rfl, l, ha, k⟩ := h
    obtain ⟨v, rfl⟩ : ∃ v, us = [v] := by
      cases us with
      | nil => cases l
      | cons v us => cases us with
        | nil => exact ⟨v, rfl⟩
        | cons _ _ => cases l
    refine ⟨_, hb cdv A outer s H E, ?_⟩
    refine ⟨v, rfl, .ref a, rfl, a, C, rfl, T, nf, .inl ⟨ha, fun dx hd hne => ?_⟩⟩
    exact k dx _ hd hne (fun b n1 n2 => by rw [upd_ne n2, upd_ne n1]) upd_same (by rw [upd_ne hne, upd_same]; rfl)
theorem fnE2 (T : OexC K C) (nf : PySem.W.findIn K (.ref C) f = some none) (ng : PySem.W.findIn K (.ref C) g = some none) (F : Fun K name qual st fa fd) (S : FnScope ["self", p, q] ["self", p, q] (defScope st))
    (hb : ∀ (cdv : Value) (A : Around) (outer : List Env) (s : Shared) (H : Hp) (E : XK), PSs (cxOf CX0 Pg w K mg base ["self", p, q] qual (defScope st) fa cdv A outer s H E).nox (defBody st) (tSeq (tOst K f (tVar 0) (tVar 1)) (tOst K g (tVar 0) (tVar 2)))) : FnOk Pg w K mg base CX0 1 fa fd ["self", p, q] (spE C [f, g]) := by
  refine F.ok (k := 0) S (fun vs H Q E h => ?_) (fun cdv A outer s H vs Q E hr h => ?_)
  · obtain ⟨a, us, rfl, l, _⟩ := h
    simp only [List.length_cons, l, List.length_nil]
  · obtain ⟨a, us, rfl, l, ha, k⟩ := h
    obtain ⟨v, u, rfl⟩ : ∃ v u, us = [v, u] := by
      cases us with
      | nil => cases l
      | cons v us => cases us with
        | nil => cases l
        | cons u us => cases us with
          | nil => exact ⟨v, u, rfl⟩
          | cons _ _ => cases l
    refine ⟨_, hb cdv A outer s H E, ?_⟩
    refine ⟨v, rfl, .ref a, rfl, a, C, rfl, T, nf, .inl ⟨ha, fun dx hd hne => ?_⟩⟩
    refine ⟨u, rfl, .ref a, rfl, a, C, rfl, T, ng, .inr ⟨dx, [(f, v)], upd_same, by rw [upd_ne hne, upd_same], by simp, ?_⟩⟩
    refine k dx _ hd hne (fun b n1 n2 => by rw [upd_ne n1, upd_ne n2, upd_ne n1]) (by rw [upd_ne (Ne.symm hne), upd_same]) ?_
    rw [upd_same]; rfl
end
section
variable {X : Cx} {P : Prog} {call : Nat → List T → Hl → R T} {G : Gm} {W : WX} {CX : CXT} {D : Dat} {T0 : Tab} {Wn : Nat}
/-- an error is made -/
theorem mkE {C fI : Addr} {k : Nat} {fd : FuncData} {ps fs : List Str} {x : Str} {p pos : Pos} {e : Expr} {es : List Expr} {ta : TA} (T : ErrC X.K C fI) (Fi : FnOk X.prog X.w X.K X.mg X.base CX0 k fI fd ps (spE C fs)) (room : Room (k + 1) X.A) (hb : Binds X.K fd ps []) (hg : Gl X x) (hm : X.mg x = some (.ref C)) (ha : PA X (e :: es) ta)
    (hdb : (x == ("__debug__" : Str)) = false) (he : starEach (e :: es) X.env = (false, eval e X.env) :: starEach es X.env) (hpl : (backTo pos (starEach es X.env)).any (·.1) = false) :
    L2N.PMk X (.Call (.Name x p) (e :: es) [] pos) (fun σ H Q => ta σ H fun vs H1 => vs.length = fs.length ∧ vs.length ≤ 1000 ∧ ∀ d, H1 d = none → Q (.ref C) (some d) (upd H1 d (.xd (fs.zip vs).reverse))) := by
  intro pins s σ H Q I want
  obtain ⟨_, _, _, _, bm, _, _, _, _, _, _, _, _, _, _, hC, hbm⟩ := T.oex.cls
  refine wpAny_Call_Name_kw (ld_glob I hg hm ?_ hdb)
  refine PySem.W.callWith_K (h₀ := X.base) I.ok.mod.kin T.oex.kC (thn (ha.run pos pins s σ H _ I want) fun us s1 got => ?_) he hpl
  obtain ⟨vs, H1, I1, rel, lf, lk, q1⟩ := got
  refine ⟨I1.kIn, ?_⟩
  obtain ⟨hp, gg, dr, tok, osx⟩ := s1
  let a := hp.objs.size + 1
  have big : hp.objs.size ≤ a := Nat.le_succ _
  have a0 : H1 a = none := I1.hok.fresh big
  have grow : ∀ b o, hp.get? b = some o → ((hp.push (PySem.W.kdv_tup us)).push (PySem.HandSPX.excO C hp.objs.size)).get? b = some o := fun b o z => Heap.get?_push_of_some _ (Heap.get?_push_of_some _ z)
  have there : ((hp.push (PySem.W.kdv_tup us)).push (PySem.HandSPX.excO C hp.objs.size)).get? (hp.objs.size + 1) = some (PySem.HandSPX.excO C hp.objs.size) := by heap_get
  have I2 : Inv X pins σ (upd H1 a (exo a C none)) ⟨(hp.push (PySem.W.kdv_tup us)).push (PySem.HandSPX.excO C hp.objs.size), gg, dr, tok, osx⟩ := I1.laid (t' := tok) (a := a) (o := exo a C none) grow big (exo_ok there)
  have hq : spE C fs (V.ref a :: vs) (upd H1 a (exo a C none)) (fun v H2 => v = .non ∧ ∃ d, H1 d = none ∧ d ≠ a ∧ H2 a = some (exo a C (some d)) ∧ H2 d = some (exd d (fs.zip vs).reverse) ∧ ∀ b, b ≠ d → b ≠ a → H2 b = H1 b) (fun _ _ _ => False) := by
    refine ⟨a, vs, rfl, lf, upd_same, fun d H' d0 dne keep h1 h2 => ⟨rfl, d, ?_, dne, h1, h2, fun b n1 n2 => ?_⟩⟩
    · rw [upd_ne dne] at d0; exact d0
    · rw [keep b n1 n2, upd_ne n2]
  have hl : (Value.ref a :: us).length = ps.length := by
    have := Fi.len _ _ _ _ hq
    rw [List.length_cons, rel.length] at this
    exact this
  have small : us.length ≤ sizeLine := by
    rw [← rel.length, sizeLine_eq]; omega
  have main := Fi.run _ X.stack _ _ ⟨Value.ref a :: us, []⟩ (Value.ref a :: us) _ _ (fun _ _ _ => False) (room.make C us []) (I2.env0.make C us []) (bnd_of hb I2.kIn hl) (show Vals (V.ref a :: vs) (Value.ref a :: us) from .cons rfl rel) hq
  show wpAny _ _ (call (.ref C) us) _ _ _
  refine wpAny_call (PySem.HandSPX.call_own F.excBase_ValueError (fun Y => PySem.HandSPX.refsVE_contains Y bm hbm) (I1.kIn _ _ hC) (PySem.W.looks_findIn I1.kIn T.iC) (fun self => PySem.W.bind_fn I1.kIn self T.tI) small (codeAny_mono main fun res st got => ?_))
  match res, got with
  | .error er, got => exact got.elim
  | .ok .next, got => exact got.elim
  | .ok .brk, got => exact got.elim
  | .ok .cont, got => exact got.elim
  | .ok (.ret u), got =>
    obtain ⟨v, H2, os2, bare2, un2, hok2, rv, ev, d, d0, dne, ea, ed, keep⟩ := got
    subst ev
    obtain ⟨h2, g2, dr2, t2, os'⟩ := st
    obtain ⟨t0, Gh, J, kG, ge, hoe, na⟩ := mk_end0 (d2 := dr2) (t2 := t2) I1 big grow un2 hok2 os2 bare2 ea ed d0
    have same : upd (del H2 a) d (.xd (fs.zip vs).reverse) = upd H1 d (.xd (fs.zip vs).reverse) := by
      funext b
      by_cases z : b = d
      · subst z; rw [upd_same, upd_same]
      · rw [upd_ne z, upd_ne z]
        by_cases y : b = a
        · rw [y, del_same, a0]
        · rw [del_ne y, keep b z y]
    rw [same] at J na
    refine ⟨rv, a, _, _, ⟨Gh, g2, dr2, t2, os'⟩, _, .ref C, some d, rfl, J, kG, ge, hoe, ⟨rfl, rfl, fun vs hv => ?_⟩, rfl, rfl, na, rfl, bare2, raises_own T.oex.exC T.oex.tyC, q1 d d0⟩
    cases hv; rfl
theorem repF_rev {ρ : List Addr} {Hf : Hp} : ∀ {fs : List (Nat × T)} {gs : List (Str × V)}, RepF G ρ Hf fs gs → ∀ {fs' : List (Nat × T)} {gs' : List (Str × V)}, RepF G ρ Hf fs' gs' → RepF G ρ Hf (fs.reverse ++ fs') (gs.reverse ++ gs')
  | _, _, .nil, _, _, r => by simpa using r
  | _, _, .cons n h r, fs', gs', r' => by
    rw [List.reverse_cons, List.reverse_cons, List.append_assoc, List.append_assoc]
    exact repF_rev r (.cons n h r')
theorem repF_zip {ρ : List Addr} {Hf : Hp} : ∀ {ns : List Nat} {xs : List Str}, (List.map (fun n => G.nm[n]?) ns = xs.map some) → ∀ {ts : List T} {vs : List V}, Reps G ρ Hf ts vs → RepF G ρ Hf (ns.zip ts) (xs.zip vs)
  | [], [], _, _, _, _ => by rw [List.zip_nil_left, List.zip_nil_left]; exact .nil
  | [], x :: xs, e, _, _, _ => by cases e
  | n :: ns, [], e, _, _, _ => by cases e
  | n :: ns, x :: xs, e, [], [], .nil => by rw [List.zip_nil_right, List.zip_nil_right]; exact .nil
  | n :: ns, x :: xs, e, t :: ts, v :: vs, .cons h r => by
    rw [List.map_cons, List.map_cons, List.cons.injEq] at e
    rw [List.zip_cons_cons, List.zip_cons_cons]
    exact .cons e.1 h (repF_zip e.2 r)
/-- raise X(e, ..) -/
theorem k_raise (C : KCx X P call G W CX D T0) {c : Nat} {kc : Kb.Cls} {fI : Addr} {k : Nat} {fd : FuncData} {ps xs : List Str} {x : Str} {e : Expr} {es : List Expr} {ies : Es} {p pos pos2 : Pos} (hk : P.cls[c]? = some kc) (hm2 : kc.mode = 2) (hx : List.map (fun n => G.nm[n]?) kc.efs = xs.map some)
    (T : ErrC X.K (G.ca c) fI) (F : FnOk X.prog X.w X.K X.mg X.base CX0 k fI fd ps (spE (G.ca c) xs)) (hb : Binds X.K fd ps []) (hm : X.mg x = some (.ref (G.ca c))) (hkl : k + 1 ≤ D.lv + 1) (hg : Gl X x) (ha : PA X (e :: es) (tEs P call G W ies)) (hl : xs.length ≤ 1000 := by decide)
    (hdb : (x == ("__debug__" : Str)) = false := by decide +kernel) (he : starEach (e :: es) X.env = (false, eval e X.env) :: starEach es X.env := by rfl) (hpl : (backTo pos (starEach es X.env)).any (·.1) = false := by rfl) (hT : T0.fn.isEmpty = false := by first | assumption | rfl) :
    PS X (.Raise (some (.Call (.Name x p) (e :: es) [] pos)) none pos2) (tS P call G W Wn (.rais c ies)) := by
  refine PSimp (L2N.ps_raise (C.calm hT) C.tk (mkE T F ((C.room hT).mono hkl) hb hg hm ha hdb he hpl)) fun E σ H ⟨En, lσ, hp, ⟨ρ, Hf, A⟩, q⟩ => ?_
  simp only [exS] at q
  refine go_sEs A q fun vs h1 ρ1 Hf1 us H1 A1 N1 r1 q => ?_
  rw [hk] at q
  simp only at q
  split at q
  · rename_i c2
    simp only [Bool.and_eq_true, decide_eq_true_eq] at c2
    obtain ⟨⟨_, pl⟩, ln⟩ := c2
    have rp := r1.plain pl
    have xl : kc.efs.length = xs.length := by
      have := congrArg List.length hx
      simpa using this
    refine ⟨by rw [← rp.length, ln, xl], by rw [← rp.length, ln, xl]; exact hl, fun d d0 => ?_⟩
    have S2 := A1.S.new (o := .xd (xs.zip us).reverse) d0
    have N2 : Nxt none ρ1 Hf1 H1 ρ1 (upd Hf1 d (.xd (xs.zip us).reverse)) (upd H1 d (.xd (xs.zip us).reverse)) := .new A1.S.ex d0
    refine q σ ρ1 _ _ d (xs.zip us).reverse (A1.nxt N2 S2) upd_same ?_
    have rz := repF_rev (repF_zip hx (rp.mono N2.pre N2.hf)) .nil
    rw [List.append_nil, List.append_nil] at rz
    exact rz
  · exact q.elim
end
end Kb
end
section
set_option Elab.async false
set_option linter.all false
set_option maxRecDepth 100000
set_option maxHeartbeats 4000000
set_option autoImplicit false
/-! Kb22: errors are caught: any number of clauses, each with or without a name. -/
namespace Kb
open PySem PySem.Spec PyProof.Rows L2
/-- a clause: its class, the slot of its name, its suite -/
abbrev Clause := Value × Option Nat × (Addr → Value → Option Addr → TS)
def endsI (i : Option Nat) (D : Ends) : Ends := match i with
  | none => D
  | some i => ⟨fun σ H => D.nx (σ.set i none) H, D.rt, fun σ H => D.bk (σ.set i none) H, fun σ H => D.ct (σ.set i none) H⟩
def slotI (i : Option Nat) (σ : L2.St) (a : Addr) : L2.St := match i with
  | none => σ
  | some i => σ.set i (some (.ref a))
/-- what the clauses wish, one behind the other -/
def wishes (K : PySem.W.Frag) (Wout : WX) (D : Ends) : List Clause → WX
  | [] => Wout
  | (c, i, ts) :: r => fun cls d σ H => ∃ b, PySem.W.exmOne K cls c = some b ∧ (b = true → ∀ a, H a = none → ts a cls d (endsI i D) (slotI i σ a) H) ∧ (b = false → wishes K Wout D r cls d σ H)
/-- a suite for any error that is handled -/
def SuiteOk (X : Cx) (body : List Stmt) (ts : Addr → Value → Option Addr → TS) : Prop :=
  ∀ (a : Addr) (oe : Obj) (cls : Value) (d : Option Addr) (pn : List (Addr × Obj)), L2N.Zn cls d oe → (∃ vs, oe.data = .fields vs) → PSs (X.suite a ((a, oe) :: pn)) body (ts a cls d)
inductive Clauses (X : Cx) : List ExceptHandler → List Clause → Prop
  | nil : Clauses X [] []
  | plain {x : Str} {c : Value} {ts : Addr → Value → Option Addr → TS} {s0 : Stmt} {ss : List Stmt} {np hp : Pos} {hds : List ExceptHandler} {l : List Clause} (hc : L2.Names X x c) (su : SuiteOk X (s0 :: ss) ts) (r : Clauses X hds l) :
      Clauses X (.ExceptHandler (some (.Name x np)) none (s0 :: ss) hp :: hds) ((c, none, ts) :: l)
  | named {x n : Str} {i : Nat} {c : Value} {ts : Addr → Value → Option Addr → TS} {s0 : Stmt} {ss : List Stmt} {np hp : Pos} {hds : List ExceptHandler} {l : List Clause} (hi : X.N[i]? = some n) (hl : X.env.kindOf n = some .local) (hc : L2.Names X x c) (su : SuiteOk X (s0 :: ss) ts) (r : Clauses X hds l) :
      Clauses X (.ExceptHandler (some (.Name x np)) (some n) (s0 :: ss) hp :: hds) ((c, some i, ts) :: l)
section
variable {X : Cx} {body : List Stmt} {h0 : ExceptHandler} {hds : List ExceptHandler} {l : List Clause} {pos : Pos} {tb : WX → TS} {Wout : WX}
theorem ps_clauses (hs : X.stack = X.env :: X.outer) (hf : X.env.frame = some X.env.locals) (hN : X.N.Nodup) (tk : L2N.Takes X Wout)
    (walk : ∀ (W : WX) (pn : List (Addr × Obj)) (xe : Value → Shared → Prop), L2N.Takes (X.tr pn xe) W → PassesOwn (model X.prog X.w) X.A X.env xe → PSs (X.tr pn xe) body (tb W))
    (cl : Clauses X (h0 :: hds) l) : PS X (.Try body (h0 :: hds) [] [] pos) (fun D σ H => tb (wishes X.K Wout D l) D σ H) := by
  refine ⟨fun pins st σ H D inv reading => ?_⟩
  have wf := inv.ok
  have framed : X.A.frames = some (X.env :: X.outer) := by rw [wf.frames, hs]
  refine wpAny_Try_except ?_
  let air : Value → Shared → Prop := fun er t1 => wpAny (model X.prog X.w) X.A (noteFrame er X.env) (fun _ t2 => wpAny (model X.prog X.w) X.A (setFlight er none) (fun _ t3 =>
    wpAny (model X.prog X.w) X.A (handleBy er X.env (h0 :: hds)) (SP X pins D) X.xe t3) X.xe t2) X.xe t1
  have caught : L2N.Takes (X.tr (X.pn ++ pins) air) (wishes X.K Wout D l) := by
    intro u t1 flying
    obtain ⟨a, B, t0, pins1, σ1, H1, cls, d, rfl, K0, nb, up, sky, a0, sameOs, bare, wish⟩ := flying
    have K1 : Inv X pins σ1 H1 t0 := K0.ofTry wf
    rw [show (X.tr (X.pn ++ pins) air).stack = X.env :: X.outer from hs] at sky
    show wpAny _ _ (noteFrame (.ref a) X.env) _ _ _
    refine L2N.Sky.land L2N.Zn.steady framed hf sky fun h3 fly up3 => ?_
    have K3 : Inv X pins σ1 H1 { t1 with heap := h3 } := K1.landed nb fly.1 (up.trans up3) sameOs bare
    obtain ⟨o3, vs3, g3, z3, d3⟩ := fly.there
    have off : a ∉ frs (X.env :: X.outer) := fun hm => by
      obtain ⟨_, o4, g4, nf⟩ := fly.2.2.1.mem hm
      rw [g3] at g4
      cases g4
      exact nf _ d3
    have notL : a ≠ X.env.locals := fun z => off (List.mem_filterMap.mpr ⟨X.env, List.mem_cons_self, by rw [hf, z]⟩)
    have notF : a ∉ X.fs := fun hm => by
      obtain ⟨e, m, q⟩ := List.mem_filterMap.mp hm
      exact off (List.mem_filterMap.mpr ⟨e, List.mem_cons_of_mem _ m, q⟩)
    have Su3 := K3.suite g3 d3 a0 notL notF
    have typed : PySem.W.Looks (model X.prog X.w) h3 (typeOf (.ref a)) cls := fun _ _ _ _ k q => wpAny_typeOf_ref (k _ _ g3) (by rw [z3.1]; exact q)
    have named : ∀ {x : Str} {c : Value} {np : Pos}, L2.Names X x c → ∀ {Q : Value → Shared → Prop} {E : Value → Shared → Prop}, Q c { t1 with heap := h3 } → wpAny (model X.prog X.w) (X.A.mark (some (.ref a))) (eval (.Name x np) X.env) Q E { t1 with heap := h3 } := fun {x c np} hc {Q E} q => by
      obtain ⟨hg, hdbg, hm | ⟨hm, hv, hnn⟩⟩ := hc
      · exact ld_glob (X := X.suite a ((a, o3) :: (X.pn ++ pins))) Su3 hg hm q hdbg
      · exact ld_blt (X := X.suite a ((a, o3) :: (X.pn ++ pins))) Su3 hg hm hv q hnn hdbg
    suffices go : ∀ {hd' : List ExceptHandler} {l' : List Clause}, Clauses X hd' l' → wishes X.K Wout D l' cls d σ1 H1 → wpAny (model X.prog X.w) X.A (handleBy (.ref a) X.env hd') (SP X pins D) X.xe { t1 with heap := h3 } from go cl wish
    intro hd' l' cl'
    induction cl' with
    | nil =>
      intro wish
      refine wpAny_handleBy_nil ?_
      obtain ⟨k1, k2, k3, oe, vs, T, oT, ts', he, hz, hd, h1, hr⟩ := id fly
      unfold PySem.passOn
      refine wpAny_bind (wpAny_field he hd h1 ?_)
      rw [if_neg (by simp)]
      have last : wpAny (model X.prog X.w) X.A (setFlight (.ref a) X.env.frame) (fun _ t4 => wpAny (model X.prog X.w) X.A (throw (.ref a) : Sem Flow) (SP X pins D) X.xe t4) X.xe { t1 with heap := h3 } := by
        rw [hf]
        refine HandSPX.setFlight_upZ fly fun h4 held up4 => wpAny_throw (tk _ _ ⟨a, B, t0, pins, σ1, H1, cls, d, rfl, ?_, nb, (up.trans up3).trans up4, .inr (.inr ?_), a0, sameOs, bare, wish⟩)
        · exact K1
        · rw [hs]; exact held
      first
        | exact wpAny_bind (wpAny_pure (wpAny_bind last))
        | exact wpAny_bind last
    | plain hc su r ih =>
      intro wish
      obtain ⟨b, eb, yes, no⟩ := wish
      refine wpAny_handleBy_cons (codeAny_handlers_test ?_) (by intro q; cases q)
      refine named hc ((PySem.W.exm_one (M := model X.prog X.w) K3.kIn typed eb).here ?_)
      match b, yes, no with
      | true, yes, no =>
        refine codeAny_handlers_suite ?_
        refine HandSPX.lands_againZ fly fun h4 fly4 up4 => ?_
        have K4 : Inv X pins σ1 H1 { t1 with heap := h4 } := K1.landed nb fly4.1 ((up.trans up3).trans up4) sameOs bare
        obtain ⟨o4, vs4, g4, z4, d4⟩ := fly4.there
        refine wpAny_mono ((su a o4 cls d (X.pn ++ pins) z4 ⟨_, d4⟩).run [] _ _ H1 _ (K4.suite g4 d4 a0 notL notF) (yes rfl a a0)) (fun fl t6 got => ?_) fun _ _ z => z.elim
        match fl, got with
        | .next, ⟨σ6, H6, S6, q6⟩ => exact ⟨σ6, H6, S6.unsuite wf, q6⟩
        | .brk, ⟨σ6, H6, S6, q6⟩ => exact ⟨σ6, H6, S6.unsuite wf, q6⟩
        | .cont, ⟨σ6, H6, S6, q6⟩ => exact ⟨σ6, H6, S6.unsuite wf, q6⟩
        | .ret u, ⟨v6, σ6, H6, S6, r6, q6⟩ => exact ⟨v6, σ6, H6, S6.unsuite wf, r6, q6⟩
      | false, yes, no => exact ih (no rfl)
    | @named x n i c ts s0 ss np hp hds l hi hl hc su r ih =>
      intro wish
      obtain ⟨b, eb, yes, no⟩ := wish
      refine wpAny_handleBy_cons (codeAny_handlers_test ?_) (by intro q; cases q)
      refine named hc ((PySem.W.exm_one (M := model X.prog X.w) K3.kIn typed eb).here ?_)
      match b, yes, no with
      | true, yes, no =>
        refine codeAny_handlers_suite_as ?_
        refine HandSPX.lands_againZ fly fun h4 fly4 up4 => ?_
        have K4 : Inv X pins σ1 H1 { t1 with heap := h4 } := K1.landed nb fly4.1 ((up.trans up3).trans up4) sameOs bare
        obtain ⟨o4, vs4, g4, z4, d4⟩ := fly4.there
        refine store_ok (X := X.suite a ((a, o4) :: (X.pn ++ pins))) (v := .ref a) (K4.suite g4 d4 a0 notL notF) hN hi (.inl hl) rfl (fun t5 S5 => ?_) (.inr hl)
        refine wpAny_mono ((su a o4 cls d (X.pn ++ pins) z4 ⟨_, d4⟩).run [] t5 _ H1 _ S5 (yes rfl a a0)) (fun fl t6 got => ?_) fun _ _ z => z.elim
        have gone : ∀ {σ6 : L2.St} {H6 : Hp} {Q : Shared → Prop}, Inv (X.suite a ((a, o4) :: (X.pn ++ pins))) [] σ6 H6 t6 → (∀ t7, Inv X pins (σ6.set i none) H6 t7 → Q t7) →
            wpAny (model X.prog X.w) X.A (do bindName X.env n .none; unbindBehindTheSuite X.env n hp) (fun _ t7 => Q t7) X.xe t6 := fun S6 q => gone_ok (S6.unsuite wf) hN hi hl q
        match fl, got with
        | .next, ⟨σ6, H6, S6, q6⟩ => exact gone S6 fun t7 K7 => ⟨_, _, K7, q6⟩
        | .brk, ⟨σ6, H6, S6, q6⟩ => exact gone S6 fun t7 K7 => ⟨_, _, K7, q6⟩
        | .cont, ⟨σ6, H6, S6, q6⟩ => exact gone S6 fun t7 K7 => ⟨_, _, K7, q6⟩
        | .ret u, ⟨v6, σ6, H6, S6, r6, q6⟩ => exact gone S6 fun t7 K7 => ⟨_, _, _, K7, r6, q6⟩
      | false, yes, no => exact ih (no rfl)
  refine wpAny_mono ((walk (wishes X.K Wout D l) (X.pn ++ pins) air caught PassesOwn.looking).run [] st σ H D (inv.toTry _) reading) (fun fl t1 got => ?_) fun er t1 z => z
  match fl, got with
  | .next, ⟨σ1, H1, K1, q⟩ => exact wpAny_execs_nil ⟨σ1, H1, K1.ofTry wf, q⟩
  | .brk, ⟨σ1, H1, K1, q⟩ => exact ⟨σ1, H1, K1.ofTry wf, q⟩
  | .cont, ⟨σ1, H1, K1, q⟩ => exact ⟨σ1, H1, K1.ofTry wf, q⟩
  | .ret u, ⟨v, σ1, H1, K1, r, q⟩ => exact ⟨v, σ1, H1, K1.ofTry wf, r, q⟩
end
/-! ### the handled error's place -/
def ovC (ca : Nat → Addr) (a d C : Addr) : Nat → Addr := fun c => if c = 1000000 then a else if c = 1000001 then d else if c = 1000002 then C else if c = 1000003 then 1 else ca c
/-- the tables with the handled error's place -/
def Gm.ov (G : Gm) (a d C : Addr) : Gm := ⟨G.K, ovC G.ca a d C, G.nm, G.cok⟩
section
variable {G : Gm} {a d C : Addr} {ρ : List Addr} {Hf H : Hp}
theorem ov_ca {c : Nat} (h : c < 1000000) : (G.ov a d C).ca c = G.ca c := by
  show ovC G.ca a d C c = _
  unfold ovC
  rw [if_neg (by omega), if_neg (by omega), if_neg (by omega), if_neg (by omega)]
variable (hc : ∀ c, G.cok c → c < 1000000)
include hc
mutual
theorem Rep.toOv {t : T} {v : Vv} : Rep G ρ Hf t v → Rep (G.ov a d C) ρ Hf t v
  | .non => .non
  | .bl b => .bl b
  | .int i => .int i
  | .str s => .str s
  | .lst h r => .lst h (Reps.toOv r)
  | .tup h r => .tup h (Reps.toOv r)
  | .ins k h r => .ins k (by rw [ov_ca (hc _ k)]; exact h) (RepF.toOv r)
  | .dct h r => .dct h (RepK.toOv r)
  | .rf h => .rf h
  | .kl h => .kl h
theorem Reps.toOv {ts : List T} {vs : List Vv} : Reps G ρ Hf ts vs → Reps (G.ov a d C) ρ Hf ts vs
  | .nil => .nil
  | .cons h r => .cons (Rep.toOv h) (Reps.toOv r)
theorem RepF.toOv {ts : List (Nat × T)} {vs : List (Str × Vv)} : RepF G ρ Hf ts vs → RepF (G.ov a d C) ρ Hf ts vs
  | .nil => .nil
  | .cons n h r => .cons n (Rep.toOv h) (RepF.toOv r)
theorem RepK.toOv {ts : List (T × T)} {vs : List (L2.Key × Vv)} : RepK G ρ Hf ts vs → RepK (G.ov a d C) ρ Hf ts vs
  | .nil => .nil
  | .consI h r => .consI (Rep.toOv h) (RepK.toOv r)
  | .consS h r => .consS (Rep.toOv h) (RepK.toOv r)
end
mutual
theorem Rep.ofOv {t : T} {v : Vv} : Rep (G.ov a d C) ρ Hf t v → Rep G ρ Hf t v
  | .non => .non
  | .bl b => .bl b
  | .int i => .int i
  | .str s => .str s
  | .lst h r => .lst h (Reps.ofOv r)
  | .tup h r => .tup h (Reps.ofOv r)
  | .ins k h r => .ins k (by rw [ov_ca (hc _ k)] at h; exact h) (RepF.ofOv r)
  | .dct h r => .dct h (RepK.ofOv r)
  | .rf h => .rf h
  | .kl h => .kl h
theorem Reps.ofOv {ts : List T} {vs : List Vv} : Reps (G.ov a d C) ρ Hf ts vs → Reps G ρ Hf ts vs
  | .nil => .nil
  | .cons h r => .cons (Rep.ofOv h) (Reps.ofOv r)
theorem RepF.ofOv {ts : List (Nat × T)} {vs : List (Str × Vv)} : RepF (G.ov a d C) ρ Hf ts vs → RepF G ρ Hf ts vs
  | .nil => .nil
  | .cons n h r => .cons n (Rep.ofOv h) (RepF.ofOv r)
theorem RepK.ofOv {ts : List (T × T)} {vs : List (L2.Key × Vv)} : RepK (G.ov a d C) ρ Hf ts vs → RepK G ρ Hf ts vs
  | .nil => .nil
  | .consI h r => .consI (Rep.ofOv h) (RepK.ofOv r)
  | .consS h r => .consS (Rep.ofOv h) (RepK.ofOv r)
end
theorem CellR.toOv {b : Addr} {c : Kb.C} (h : CellR G ρ Hf H b c) : CellR (G.ov a d C) ρ Hf H b c := by
  cases c with
  | lst xs => obtain ⟨vs, h, r⟩ := h; exact ⟨vs, h, Reps.toOv hc r⟩
  | ins c fs => obtain ⟨dx, gs, h, r, k⟩ := h; exact ⟨dx, gs, by rw [ov_ca (hc _ k)]; exact h, RepF.toOv hc r, k⟩
  | dct kvs => obtain ⟨gs, h, r⟩ := h; exact ⟨gs, h, RepK.toOv hc r⟩
theorem CellR.ofOv {b : Addr} {c : Kb.C} (h : CellR (G.ov a d C) ρ Hf H b c) : CellR G ρ Hf H b c := by
  cases c with
  | lst xs => obtain ⟨vs, h, r⟩ := h; exact ⟨vs, h, Reps.ofOv hc r⟩
  | ins c fs => obtain ⟨dx, gs, h, r, k⟩ := h; exact ⟨dx, gs, by rw [ov_ca (hc _ k)] at h; exact h, RepF.ofOv hc r, k⟩
  | dct kvs => obtain ⟨gs, h, r⟩ := h; exact ⟨gs, h, RepK.ofOv hc r⟩
theorem Sto.toOv {Z : Hp} {hp : Hl} (S : Sto G Z ρ Hf hp H) : Sto (G.ov a d C) Z ρ Hf hp H := ⟨S.ex, S.len, S.nd, fun n b c h1 h2 => let ⟨x, y⟩ := S.cell n b c h1 h2; ⟨CellR.toOv hc x, y⟩, S.dom⟩
theorem Sto.ofOv {Z : Hp} {hp : Hl} (S : Sto (G.ov a d C) Z ρ Hf hp H) : Sto G Z ρ Hf hp H := ⟨S.ex, S.len, S.nd, fun n b c h1 h2 => let ⟨x, y⟩ := S.cell n b c h1 h2; ⟨CellR.ofOv hc x, y⟩, S.dom⟩
/-- what is no error in hand -/
theorem RepB.toOv {t : T} {v : Vv} (ne : isExc t = false) (r : RepB G ρ Hf H t v) : RepB (G.ov a d C) ρ Hf H t v := by
  cases t with
  | bL xs => obtain ⟨b, vs, e, h, q, n, m⟩ := r; exact ⟨b, vs, e, h, Reps.toOv hc q, n, m⟩
  | bD xs => obtain ⟨b, vs, e, h, q, n, m⟩ := r; exact ⟨b, vs, e, h, RepK.toOv hc q, n, m⟩
  | bI c xs => obtain ⟨b, dx, vs, e, h, q, n, m, k⟩ := r; exact ⟨b, dx, vs, e, by rw [ov_ca (hc _ k)]; exact h, RepF.toOv hc q, n, m, k⟩
  | exc c xs => cases ne
  | _ => exact Rep.toB (Rep.toOv hc r)
end
/-- no slot holds an error -/
def NoE (lσ : Sl) : Prop := ∀ (i : Nat) (t : T), lσ[i]? = some (some t) → isExc t = false
section
variable {X : Cx} {P : Prog} {call : Nat → List T → Hl → R T} {G : Gm} {W : WX} {CX : CXT} {D : Dat} {T0 : Tab} {Wn : Nat}
variable {En : Ent} {ρ : List Addr} {Hf H : Hp} {lσ : Sl} {σ : L2.St} {hp : Hl} {E : Ends}
theorem StA.toOv {a d C : Addr} (hc : ∀ c, G.cok c → c < 1000000) (ne : NoE lσ) (A : StA G En ρ Hf lσ hp σ H) : StA (G.ov a d C) En ρ Hf lσ hp σ H :=
  ⟨A.S.toOv hc, ⟨A.L.len, fun i t e => let ⟨v, h1, h2⟩ := A.L.slot i t e; ⟨v, h1, h2.toOv hc (ne i t e)⟩, A.L.sep⟩, A.N, A.O, A.x, A.pr, A.ex⟩
/-- the handled error in its slot -/
theorem StA.putE {a d : Addr} {c i : Nat} {fs : List (Nat × T)} {gs : List (Str × V)} (hc : ∀ c, G.cok c → c < 1000000) (c0 : c < 1000000) (A : StA (G.ov a d (G.ca c)) En ρ Hf lσ hp σ H) (hd : Hf d = some (.xd gs)) (rF : RepF G ρ Hf fs gs) :
    StA (G.ov a d (G.ca c)) En ρ Hf (lσ.set i (some (.exc c fs))) hp (σ.set i (some (.ref a))) H := by
  refine ⟨A.S, ⟨by rw [List.length_set, List.length_set]; exact A.L.len, fun j u e => ?_, fun j k t1 u1 b hjk e1 e2 b1 b2 s1 s2 => ?_⟩, A.N, fun j u b e bo s => ?_, A.x, A.pr, A.ex⟩
  · by_cases q : i = j
    · subst q
      have hl : i < lσ.length := by
        have := (List.getElem?_eq_some_iff.mp e).1
        rwa [List.length_set] at this
      rw [List.getElem?_set_self hl] at e
      cases e
      refine ⟨.ref a, List.getElem?_set_self (Nat.lt_of_lt_of_le hl A.L.len), rfl, rfl, (ov_ca c0).trans ?_, gs, hd, RepF.toOv hc rF⟩
      show G.ca c = ovC G.ca a d (G.ca c) 1000002
      unfold ovC
      rw [if_neg (by omega), if_neg (by omega), if_pos rfl]
    · rw [List.getElem?_set_ne q] at e ⊢
      exact A.L.slot j u e
  · by_cases q : i = j
    · subst q
      have hl : i < lσ.length := by
        have := (List.getElem?_eq_some_iff.mp e1).1
        rwa [List.length_set] at this
      rw [List.getElem?_set_self hl] at e1
      cases e1; cases b1
    · by_cases q2 : i = k
      · subst q2
        have hl : i < lσ.length := by
          have := (List.getElem?_eq_some_iff.mp e2).1
          rwa [List.length_set] at this
        rw [List.getElem?_set_self hl] at e2
        cases e2; cases b2
      · rw [List.getElem?_set_ne q] at e1 s1
        rw [List.getElem?_set_ne q2] at e2 s2
        exact A.L.sep j k t1 u1 b hjk e1 e2 b1 b2 s1 s2
  · by_cases q : i = j
    · subst q
      have hl : i < lσ.length := by
        have := (List.getElem?_eq_some_iff.mp e).1
        rwa [List.length_set] at this
      rw [List.getElem?_set_self hl] at e
      cases e; cases bo
    · rw [List.getElem?_set_ne q] at e s
      exact A.O j u b e bo s
theorem StA.noE (hz : G.ca 1000003 = 0) (A : StA G En ρ Hf lσ hp σ H) : NoE lσ := fun i t e => by
  obtain ⟨v, _, r⟩ := A.L.slot i t e
  cases t with
  | exc c fs =>
    have := r.2.1
    rw [hz] at this
    cases this
  | _ => rfl
/-- a suite's reading, the handled error at its place -/
def tSu (P : Prog) (call : Nat → List T → Hl → R T) (G : Gm) (Wn : Nat) (ib : B) : Addr → Value → Option Addr → TS := fun a cls d D σ H => ∃ C dd, cls = .ref C ∧ d = some dd ∧ tB P call (G.ov a dd C) WF Wn ib D σ H
/-- what is asked of a suite -/
def SuW (X : Cx) (P : Prog) (call : Nat → List T → Hl → R T) (G : Gm) (Wn : Nat) (b : List Stmt) (ib : B) : Prop :=
  ∀ (a : Addr) (oe : Obj) (C d : Addr) (pn : List (Addr × Obj)), L2N.Zn (.ref C) (some d) oe → (∃ vs, oe.data = .fields vs) → PSs (X.suite a ((a, oe) :: pn)) b (tB P call (G.ov a d C) WF Wn ib)
theorem SuW.ok {b : List Stmt} {ib : B} (h : SuW X P call G Wn b ib) : SuiteOk X b (tSu P call G Wn ib) := fun a oe cls d pn hz hf => ⟨fun pins s σ H E I ⟨C, dd, e1, e2, q⟩ => by
  subst e1 e2
  exact (h a oe C dd pn hz hf).run pins s σ H E I q⟩
inductive HdsE (X : Cx) (P : Prog) (call : Nat → List T → Hl → R T) (G : Gm) (Wn : Nat) (ds : List Nat) : List ExceptHandler → Hs → List Clause → Prop
  | nil : HdsE X P call G Wn ds [] .nil []
  | plain {x : Str} {c : Nat} {s0 : Stmt} {ss : List Stmt} {np hp : Pos} {hds : List ExceptHandler} {ib : B} {r : Hs} {l : List Clause} (hd : ds.contains c = true) (hm : X.mg x = some (.ref (G.ca c))) (hg : Gl X x) (su : SuW X P call G Wn (s0 :: ss) ib) (k : HdsE X P call G Wn ds hds r l) (hdb : (x == ("__debug__" : Str)) = false := by decide +kernel) :
      HdsE X P call G Wn ds (.ExceptHandler (some (.Name x np)) none (s0 :: ss) hp :: hds) (.cons c none ib r) ((.ref (G.ca c), none, tSu P call G Wn ib) :: l)
  | named {x n : Str} {i c : Nat} {s0 : Stmt} {ss : List Stmt} {np hp : Pos} {hds : List ExceptHandler} {ib : B} {r : Hs} {l : List Clause} (hd : ds.contains c = true) (hm : X.mg x = some (.ref (G.ca c))) (hi : X.N[i]? = some n) (hl : X.env.kindOf n = some .local) (hg : Gl X x) (su : SuW X P call G Wn (s0 :: ss) ib) (k : HdsE X P call G Wn ds hds r l) (hdb : (x == ("__debug__" : Str)) = false := by decide +kernel) :
      HdsE X P call G Wn ds (.ExceptHandler (some (.Name x np)) (some n) (s0 :: ss) hp :: hds) (.cons c (some i) ib r) ((.ref (G.ca c), some i, tSu P call G Wn ib) :: l)
theorem HdsE.cl {ds : List Nat} {hds : List ExceptHandler} {hs : Hs} {l : List Clause} (h : HdsE X P call G Wn ds hds hs l) : Clauses X hds l := by
  induction h with
  | nil => exact .nil
  | plain hd hm hg su k hdb ih => exact .plain ⟨hg, hdb, .inl hm⟩ su.ok ih
  | named hd hm hi hl hg su k hdb ih => exact .named hi hl ⟨hg, hdb, .inl hm⟩ su.ok ih
/-- the errors' classes: where they stand, what they catch -/
structure ErrT (P : Prog) (G : Gm) (ds : List Nat) : Prop where
  cok : ∀ c, G.cok c → c < 1000000
  cls : ∀ (c : Nat) (k : Kb.Cls), P.cls[c]? = some k → c < 1000000
  z : G.ca 1000003 = 0
  m : ∀ (c : Nat) (k : Kb.Cls), P.cls[c]? = some k → k.mode = 2 → ∀ d, ds.contains d = true → PySem.W.exmOne G.K (.ref (G.ca c)) (.ref (G.ca d)) = some (c == d || k.sup.contains d)
theorem HdsE.wish {ds : List Nat} {hds : List ExceptHandler} {hs : Hs} {l : List Clause} (hK : X.K = G.K) (Te : ErrT P G ds) (h : HdsE X P call G Wn ds hds hs l) {c : Nat} {fs : List (Nat × T)} {h' : Hl} (q : PostS G W En E (exH P call Wn hs c fs lσ h')) {d : Addr} {gs : List (Str × V)} (A : StA G En ρ Hf lσ h' σ H) (hd : Hf d = some (.xd gs)) (rF : RepF G ρ Hf fs gs) :
    wishes X.K W E l (.ref (G.ca c)) (some d) σ H := by
  have ret : ∀ {a : Addr} {i : Option Nat} {ib : B} {r : RS}, PostS G W En E (match r with
      | .rt t h => .rt t h
      | _ => .stuck) → PostS (G.ov a d (G.ca c)) WF En (endsI i E) r := fun {a i ib r} q => by
    cases r with
    | rt t h1 =>
      intro ρ1 Hf1 H1 v N1 S1 r1
      have : E.rt v H1 := q ρ1 Hf1 H1 v N1 (S1.ofOv Te.cok) (Rep.ofOv Te.cok r1)
      cases i <;> exact this
    | _ => exact q.elim
  induction h with
  | nil =>
    simp only [exH] at q
    exact q σ ρ Hf H d gs A hd rF
  | @plain x cd s0 ss np hp hds ib r l hdd hm hg su k hdb ih =>
    simp only [exH] at q
    split at q
    · rename_i kc ek
      split at q
      · rename_i m2
        refine ⟨_, by rw [hK]; exact Te.m c kc ek m2 cd hdd, fun y a a0 => ?_, fun y => ?_⟩
        · rw [if_pos y] at q
          exact ⟨_, d, rfl, rfl, En, lσ, h', ⟨ρ, Hf, A.toOv Te.cok (A.noE Te.z)⟩, ret (ib := ib) q⟩
        · rw [if_neg (by rw [y]; decide)] at q
          exact ih q
      · exact q.elim
    · exact q.elim
  | @named x n i cd s0 ss np hp hds ib r l hdd hm hi hl hg su k hdb ih =>
    simp only [exH] at q
    split at q
    · rename_i kc ek
      split at q
      · rename_i m2
        refine ⟨_, by rw [hK]; exact Te.m c kc ek m2 cd hdd, fun y a a0 => ?_, fun y => ?_⟩
        · rw [if_pos y] at q
          exact ⟨_, d, rfl, rfl, En, lσ.set i (some (.exc c fs)), h', ⟨ρ, Hf, StA.putE Te.cok (Te.cls c kc ek) (A.toOv Te.cok (A.noE Te.z)) hd rF⟩, ret (ib := ib) q⟩
        · rw [if_neg (by rw [y]; decide)] at q
          exact ih q
      · exact q.elim
    · exact q.elim
theorem KCx.tr {pn : List (Addr × Obj)} {xe : Value → Shared → Prop} {W' : WX} (C : KCx X P call G W (L2N.CX X.prog X.w) D T0) (hT : T0.fn.isEmpty = false) (tk : L2N.Takes (X.tr pn xe) W') (own : PassesOwn (model X.prog X.w) X.A X.env xe) : KCx (X.tr pn xe) P call G W' (L2N.CX X.prog X.w) D T0 where
  hK := C.hK
  calm := C.calm
  room := C.room
  rmH := C.rmH
  hot := fun z => by rw [hT] at z; cases z
  hfn := C.hfn
  nm := C.nm
  kd := C.kd
  pas := fun σ => L2N.passAt tk σ
  nil := C.nil
  nN := C.nN
  own := own
  fn := C.fn
  mt := C.mt
  ini := C.ini
  cl := C.cl
  na := C.na
  sf := C.sf
  nq := C.nq
  tk := tk
/-- try: .. except X as n: .. -/
theorem kt_try {ds : List Nat} {hds : List ExceptHandler} {h0 : ExceptHandler} {hs : Hs} {l : List Clause} {b : List Stmt} {ib : B} {pos : Pos} (C : KCx X P call G W (L2N.CX X.prog X.w) D T0) (T : ErrT P G ds) (st : X.stack = X.env :: X.outer) (hf : X.env.frame = some X.env.locals)
    (hb : ∀ (W' : WX) (pn : List (Addr × Obj)) (xe : Value → Shared → Prop), KCx (X.tr pn xe) P call G W' (L2N.CX X.prog X.w) D T0 → PSs (X.tr pn xe) b (tB P call G W' Wn ib)) (hh : HdsE X P call G Wn ds (h0 :: hds) hs l) (hT : T0.fn.isEmpty = false := by first | assumption | rfl) :
    PS X (.Try b (h0 :: hds) [] [] pos) (tS P call G W Wn (.tryS ib hs)) := by
  refine PSimp (ps_clauses (tb := fun W' => tB P call G W' Wn ib) st hf C.nN C.tk (fun W' pn xe tk own => hb W' pn xe (C.tr hT tk own)) hh.cl) fun E σ H ⟨En, lσ, hp, A, q⟩ => ⟨En, lσ, hp, A, ?_⟩
  simp only [exS] at q
  cases hr : exB P call Wn ib lσ hp with
  | err c fs lσ' h' =>
    rw [hr] at q
    intro σ1 ρ1 Hf1 H1 d gs A1 e1 e2
    exact hh.wish C.hK T q A1 e1 e2
  | nx lσ' h' => rw [hr] at q; exact q
  | rt t h' => rw [hr] at q; exact q
  | bk lσ' h' => rw [hr] at q; exact q
  | ct lσ' h' => rw [hr] at q; exact q
  | stuck => rw [hr] at q; exact q
/-- what the top has written of the errors' fields -/
structure ErrF (P : Prog) (G : Gm) (f : Nat) (x : Str) : Prop where
  nm : G.nm[f]? = some x
  nd : G.nm.Nodup
  at_ : ∀ (c : Nat) (k : Kb.Cls), P.cls[c]? = some k → k.mode = 2 → c < 1000000 ∧ PySem.W.findIn G.K (.ref (G.ca c)) "__getattribute__" = some (some (.builtin "BaseException.__getattribute__")) ∧ PySem.W.findIn G.K (.ref (G.ca c)) "__getattr__" = some none ∧
    PySem.W.subIn G.K (.ref (G.ca c)) (.type "BaseException") = some true ∧ PySem.W.hasDictIn G.K (G.ca c) = true ∧ PySem.W.findIn G.K (.ref (G.ca c)) x = some none
/-- e.f, e the error that is handled -/
theorem kx_fld {a C d : Addr} {oe : Obj} {pn : List (Addr × Obj)} {i f : Nat} {x y : Str} {pos pos' : Pos} (hK : X.K = G.K) (T : ErrF P G f x) (hz : L2N.Zn (.ref C) (some d) oe) (hf : ∃ vs, oe.data = .fields vs) (hN : X.N[i]? = some y) (hv : visC X.env.scope y = true) (hd : (y == ("__debug__" : Str)) = false := by decide +kernel) (hcd : (y == ("__classdict__" : Str)) = false := by decide +kernel)
    (hb : attributeBase (.Name y pos') x X.env (eval (.Name y pos') X.env) = eval (.Name y pos') X.env := by rfl) :
    PE (X.suite a ((a, oe) :: pn)) (.Attribute (.Name y pos') x pos) (tE P call (G.ov a d C) WF (.xf i f)) := by
  refine ⟨fun pins s σ H Q I h => ?_⟩
  obtain ⟨Z, ρ, Hf, lσ, hp, S, L, h⟩ := h
  simp only [evE] at h
  split at h
  · rename_i c fs e1
    split at h
    · rename_i k ek
      split at h
      · rename_i m2
        split at h
        · rename_i t e2
          obtain ⟨v, h1, r⟩ := L.slot i _ e1
          obtain ⟨rfl, _, ec, gs, hx, rF⟩ := r
          obtain ⟨c0, ga, gg, ex, hdi, nf⟩ := T.at_ c k ek m2
          have eC : G.ca c = C := by
            rw [ov_ca c0] at ec
            rw [ec]
            show ovC G.ca a d C 1000002 = C
            unfold ovC
            rw [if_neg (by omega), if_neg (by omega), if_pos rfl]
          rw [eC] at ga gg ex hdi nf
          have hx : Hf d = some (.xd gs) := hx
          obtain ⟨w, l, rw'⟩ := (RepF.look (G := G.ov a d C) T.nd T.nm rF).1 t e2
          have rd : PE (X.suite a ((a, oe) :: pn)) (.Name y pos') _ := pe_var (X := X.suite a ((a, oe) :: pn)) hN (vis_of hv) hd hcd
          refine attr_of hb (thn (rd.run pins s σ H (fun v H1 => v = .ref a ∧ H1 = H) I ⟨_, h1, rfl, rfl⟩) fun u s1 hh => ?_)
          obtain ⟨v1, H1, I1, rv, e3, e4⟩ := hh
          subst e3 e4
          obtain rfl : u = Value.ref a := rv
          obtain ⟨ha, _⟩ := I1.pin (a, oe) (List.mem_append_left _ List.mem_cons_self)
          obtain ⟨vs, hdt⟩ := hf
          have xo : ObjOk X.prog X.w H1 s1.heap d (.xd gs) := I1.hok d _ (S.ex _ _ hx)
          obtain ⟨mA, hns, hr⟩ := xo
          obtain ⟨od, ho, hl⟩ := lookIn_ns hns
          obtain ⟨u, hu, ru⟩ := RelO.some_of (v := w) (o := mA x) (by rw [← l]; exact hr x)
          have J : PySem.W.InstAt s1.heap a oe C (some od) := ⟨ha, hz.1, by unfold PySem.W.notCls; rw [hdt] <;> rfl, by rw [hz.2.1]; exact ho⟩
          exact HandSPX.exc_get I1.kIn J (by rw [hK]; exact ga) (by rw [hK]; exact gg) (by rw [hK]; exact ex) (PySem.W.findObj_own (by rw [hK]; exact hdi) (by rw [hK]; exact nf) rfl (by rw [hl, hu])) (handed_of ru) ⟨w, H1, I1.tok _, ru, h.ret S rw'.toB⟩
        · exact h.elim
      · exact h.elim
    · exact h.elim
  · exact h.elim
end
end Kb
end
section
set_option Elab.async false
set_option linter.all false
set_option maxRecDepth 100000
set_option maxHeartbeats 4000000
set_option autoImplicit false
/-! Kb23: errors, in the shape in which the printer prints them. -/
namespace Kb
open PySem PySem.Spec PyProof.Rows L2
section
variable {X : Cx} {P : Prog} {call : Nat → List T → Hl → R T} {G : Gm} {W : WX} {CX : CXT} {D : Dat} {T0 : Tab} {Wn d : Nat}
theorem kp_rais (C : KCx X P call G W CX (lvD D d) T0) {c : Nat} {kc : Kb.Cls} {xs : List Str} {x : Str} {e : Expr} {es : List Expr} {ies : Es} {p pos pos2 : Pos} (hk : P.cls[c]? = some kc) (hm2 : kc.mode = 2) (hx : List.map (fun n => G.nm[n]?) kc.efs = xs.map some)
    (ex : ∀ (Pg : Program) (w : World) (base : Heap), ∃ (fI : Addr) (fd : FuncData) (ps : List Str), ErrC X.K (G.ca c) fI ∧ Binds X.K fd ps [] ∧ FnOk Pg w X.K X.mg base CX0 1 fI fd ps (spE (G.ca c) xs)) (hm : X.mg x = some (.ref (G.ca c))) (hg : Gl X x) (ha : PA X (e :: es) (tEs P call G W ies)) (hl : xs.length ≤ 1000 := by decide)
    (hdb : (x == ("__debug__" : Str)) = false := by decide +kernel) (he : starEach (e :: es) X.env = (false, eval e X.env) :: starEach es X.env := by rfl) (hpl : (backTo pos (starEach es X.env)).any (·.1) = false := by rfl) (hT : T0.fn.isEmpty = false := by first | assumption | rfl) :
    PS X (.Raise (some (.Call (.Name x p) (e :: es) [] pos)) none pos2) (tS P call G W Wn (.rais c ies)) := by
  obtain ⟨fI, fd, ps, T, B, F⟩ := ex X.prog X.w X.base
  exact k_raise C hk hm2 hx T F B hm (by show 1 + 1 ≤ 2 * d + 2 + 1; omega) hg ha hl hdb he hpl
end
/-- an error of this class is caught by that class -/
theorem exm_by {K : PySem.W.Frag} {S R : Addr} {b : Bool} (h1 : PySem.W.subIn K (.ref R) (.type "BaseException") = some true) (h2 : PySem.W.isClsIn K R = true) (h3 : PySem.W.typeIn K (.ref R) = some (.type "type")) (h4 : PySem.W.subIn K (.ref S) (.ref R) = some b) :
    PySem.W.exmOne K (.ref S) (.ref R) = some b := by
  unfold PySem.W.exmOne
  rw [h1]
  have c1 : (PySem.W.clsIn K R).isSome = true := h2
  show (if ((PySem.W.clsIn K R).isSome && PySem.W.typeIn K (.ref R) == some (.type "type")) = true then PySem.W.subIn K (.ref S) (.ref R) else none) = some b
  rw [c1, h3]
  exact h4
end Kb
end
section
set_option Elab.async false
set_option linter.all false
set_option maxRecDepth 100000
set_option maxHeartbeats 4000000
set_option autoImplicit false
/-! Kb24: where a value first stands in a list. -/
namespace Kb
open PySem PySem.Spec PyProof.Rows L2
section
variable {X : Cx} {P : Prog} {call : Nat → List T → Hl → R T} {G : Gm} {W : WX} {CX : CXT} {D : Dat} {T0 : Tab}
theorem fndJ_spec (x : T) : ∀ (xs : List T) (n j : Nat), fndJ x xs n = some j → ∃ i y, j = n + i ∧ xs[i]? = some y ∧ eqF y x = true ∧ ∀ m z, m < i → xs[m]? = some z → eqF z x = false
  | [], n, j, e => by rw [fndJ] at e; cases e
  | y :: ys, n, j, e => by
    rw [fndJ] at e
    cases q : eqF y x with
    | true =>
      rw [q] at e; simp only [if_true] at e; cases e
      exact ⟨0, y, rfl, rfl, q, fun m z h => by omega⟩
    | false =>
      rw [q] at e; simp only [Bool.false_eq_true, if_false] at e
      obtain ⟨i, w, rfl, e1, e2, e3⟩ := fndJ_spec x ys (n + 1) j e
      refine ⟨i + 1, w, by omega, by rw [List.getElem?_cons_succ]; exact e1, e2, fun m z hm hz => ?_⟩
      cases m with
      | zero => rw [List.getElem?_cons_zero] at hz; cases hz; exact q
      | succ m => rw [List.getElem?_cons_succ] at hz; exact e3 m z (by omega) hz
theorem Reps.at2 {G : Gm} {ρ : List Addr} {Hf : Hp} : ∀ {ts : List T} {vs : List Vv}, Reps G ρ Hf ts vs → ∀ (i : Nat), (∀ t, ts[i]? = some t → ∃ v, vs[i]? = some v ∧ Rep G ρ Hf t v) ∧ (∀ v, vs[i]? = some v → ∃ t, ts[i]? = some t ∧ Rep G ρ Hf t v) := by
  intro ts
  induction ts with
  | nil => intro vs r i; cases r; exact ⟨fun t h => by simp at h, fun v h => by simp at h⟩
  | cons t ts ih =>
    intro vs r i
    cases r with
    | @cons _ w _ vs h q =>
      cases i with
      | zero => exact ⟨fun u e => by simp at e; subst e; exact ⟨w, rfl, h⟩, fun v e => by simp at e; subst e; exact ⟨t, rfl, h⟩⟩
      | succ i => simpa using ih q i
theorem mt_indexT (hK : X.K = G.K) : MtR X "list.index" (rM G indexF) := by
  intro pins s σ H v vs vv us Q I rv rvs h
  obtain ⟨Z, W, σ', ρ, Hf, hp, x, xs, S, rx, rxs, h⟩ := h
  unfold indexF at h
  split at h
  · rename_i y
    obtain ⟨w, rfl, r1⟩ := one_of rxs
    split at h
    · rename_i ts e
      split at h
      · rename_i fl
        rw [Bool.and_eq_true] at fl
        obtain ⟨a, ws, rfl, h2, h3⟩ := lst'_at S e rx
        split at h
        · rename_i j ej
          obtain ⟨i, t, rfl, e1, e2, e3⟩ := fndJ_spec y ts 0 j ej
          rw [Nat.zero_add] at h
          have fws := (inF_V (H := H) fl.1 r1 fl.2 h3).2
          obtain ⟨u, eu, ru⟩ := (Reps.at2 h3 i).1 t e1
          refine mt_index pins s σ H _ _ vv us Q I rv rvs ⟨a, ws, w, i, u, rfl, rfl, by rw [hK]; exact .inl (.inl h2), B_flat fl.1 r1, fws, eu, ?_, ?_, P_int S h⟩
          · have ft : flatT t = true := List.all_eq_true.mp fl.2 t (List.mem_of_getElem? e1)
            rw [eqF_V ft fl.1 (ru.toB (H := H)) r1]; exact e2
          · intro m z hm hz
            obtain ⟨t', et', rt'⟩ := (Reps.at2 h3 m).2 z hz
            have ft : flatT t' = true := List.all_eq_true.mp fl.2 t' (List.mem_of_getElem? et')
            rw [eqF_V ft fl.1 (rt'.toB (H := H)) r1]; exact e3 m t' hm et'
        · exact h.elim
      · exact h.elim
    · exact h.elim
  · exact h.elim
theorem k_index (C : KCx X P call G W CX D T0) {o e : Expr} {io ie : E} {apos cpos : Pos} (ho : PE X o (tE P call G W io)) (he : PE X e (tE P call G W ie)) (hbase : attributeBase o "index" X.env (eval o X.env) = eval o X.env := by rfl)
    (hfew : ((backTo cpos (starEach [e] X.env)).all (fun x => !x.1) && (backToKw cpos (keywordEach [] X.env)).all (fun x => x.1.isSome) && decide (([e] : List Expr).length + ([] : List Keyword).length + (if ([] : List Keyword).isEmpty then 0 else 1) < 30)) = true := by rfl)
    (hline : (apos.endLine == cpos.line) = true := by rfl) (hs : starEach [e] X.env = (false, eval e X.env) :: starEach [] X.env := by rfl) (hplain : (backTo cpos (starEach [] X.env)).any (·.1) = false := by rfl) :
    PE X (.Call (.Attribute o "index" apos) [e] [] cpos) (tE P call G W (.bm .index io (.cons ie .nil))) := by
  refine PEimp (pe_bm PySem.F.plainAttrs_list PySem.F.slot_list_index PySem.F.type_list_index (mt_indexT C.hK) ho (ka_cons he ka_nil hs) hbase hfew hline hs hplain) fun σ H Q h => ?_
  obtain ⟨Z, ρ, Hf, lσ, hp, S, L, h⟩ := h
  simp only [evE] at h
  refine go_E S L h fun x h1 ρ1 Hf1 v H1 N1 S1 L1 r1 h => ?_
  split at h
  · rename_i pre
    obtain ⟨ts, e0⟩ : ∃ ts, lstOf' x h1 = some ts := Option.isSome_iff_exists.mp pre
    refine ⟨tyV_list C.hK S1 r1 e0, ?_⟩
    refine go_Es S1 L1 h fun xs h2 ρ2 Hf2 vs H2 N2 S2 L2 r2 h => ?_
    exact ⟨Z, W, σ, ρ2, Hf2, h2, _, xs, S2, r1.nx N2, r2, h⟩
  · exact h.elim
end
end Kb
end
section
set_option Elab.async false
set_option linter.all false
set_option maxRecDepth 100000
set_option maxHeartbeats 4000000
set_option autoImplicit false
/-! Kb25: dict comprehensions. -/
namespace Kb
open PySem PySem.Spec PyProof.Rows L2
section
variable {X : Cx} {P : Prog} {call : Nat → List T → Hl → R T} {G : Gm} {W : WX} {CX : CXT} {D : Dat} {T0 : Tab}
theorem dc_it {J : L2.It} {n : Nat} {Gd : Hp → Prop} {Y : Nat → Hp → Vv → Hp → Prop} (w : Walk J n Gd Y) {g : TG} {tt : TT} {tk tv : TE} {vs : List Nat} {σ : L2.St} {H1 : Hp} {Dd : Addr} {Qd : Hp → Prop} (Pv : Nat → Hp → Prop) (h0 : Pv 0 (upd H1 Dd (.dK []))) (hG : ∀ i H, i ≤ n → Pv i H → Gd H)
    (hs : ∀ i x H H', i < n → Pv i H → Y i H x H' → g x (L2.wipe σ vs) H' fun σ2 H2 => L2.wipe σ2 vs = L2.wipe σ vs ∧ tt σ2 H2 fun b H3 =>
      if b = true then tk σ2 H3 fun y H4 => tv σ2 H4 fun z H5 => ∃ kvs k, y = kV k ∧ H5 Dd = some (.dK kvs) ∧ kvs.length < sizeLine ∧ Pv (i + 1) (upd H5 Dd (.dK (putK kvs k z))) else Pv (i + 1) H3) (hd : ∀ H, Pv n H → Qd H) :
    ∃ W : Nat → Nat → Hp → Prop, (∃ m, W 0 m (upd H1 Dd (.dK []))) ∧ ∀ i m H, W i m H →
      (J.stop i H ∧ Qd H) ∨ (J.go i H ∧ ∃ Nx : Hp → Prop, (∀ H', Nx H' → ∃ m', m' < m ∧ W (i + 1) m' H') ∧ ∀ x H', J.yld i H x H' → g x (L2.wipe σ vs) H' fun σ2 H2 => L2.wipe σ2 vs = L2.wipe σ vs ∧ tt σ2 H2 fun b H3 =>
        if b = true then tk σ2 H3 fun y H4 => tv σ2 H4 fun z H5 => ∃ kvs k, y = kV k ∧ H5 Dd = some (.dK kvs) ∧ kvs.length < sizeLine ∧ Nx (upd H5 Dd (.dK (putK kvs k z))) else Nx H3) := by
  refine ⟨fun i m H => m = n - i ∧ i ≤ n ∧ Pv i H, ⟨n, by simp, Nat.zero_le _, h0⟩, ?_⟩
  rintro i m H ⟨rfl, hi, p⟩
  have q := hG i H hi p
  by_cases hlt : i < n
  · refine .inr ⟨w.goes i H hlt q, Pv (i + 1), fun H' p' => ⟨n - (i + 1), by omega, rfl, hlt, p'⟩, fun x H' y => hs i x H H' hlt p (w.yields i H x H' hlt q y)⟩
  · have e : i = n := by omega
    subst e
    exact .inl ⟨w.stops H q, hd H p⟩
theorem dput_len (kvs : List (T × T)) (k v : T) : (dput kvs k v).length ≤ kvs.length + 1 := by
  unfold dput
  split
  · rw [List.length_map]; omega
  · rw [List.length_append]; exact Nat.le_refl _
theorem dc_imp {own : List (Str × Nat)} {it : It} {tg : List Nat} {c : Eo} {ik iv : E} (hsub : tg.all (fun i => (own.map (·.2)).contains i) = true) (σ : L2.St) (H : Hp) (Q : VK) :
    tA P call G W (.dc it tg (own.map (·.2)) c ik iv) σ H Q → tDc (tI P call G W it) (tG G.K tg) (tCd P call G WF c) (tE P call G WF ik) (tE P call G WF iv) (own.map (·.2)) σ H Q := by
  intro h
  obtain ⟨Z, ρ, Hf, lσ, hp, S, L, h⟩ := h
  simp only [evA] at h
  refine ⟨Z, ρ, Hf, lσ, hp, S, L, (Post.bind h (WalksC G (gdI it lσ hp))).imp fun J H1 ⟨xs, h1, ρ1, Hf1, _, N1, S1, wk, q⟩ => ?_⟩
  intro Dd hD
  split at q
  case isFalse => exact q.elim
  rename_i hlen
  obtain ⟨Gd, Y, wlk, gd, yy⟩ := wk
  generalize hgs : gdI it lσ hp = gs at q gd yy
  generalize hf : (fun σ h => (evC P call c σ h).bind fun b h => if b then (evE P call ik σ h).bind fun x h => (evE P call iv σ h).bind fun y h => R.ok (some (x, y)) h else R.ok none h) = f at q
  obtain ⟨hc1, q⟩ : chk gs h1 ∧ Post G Z W σ (AllocR G Z) ρ1 Hf1 H1 Q ((dcG (fun σ h => ckR gs (f σ h)) tg (wipeT lσ (own.map (·.2))) xs [] h1).bind fun ys h => .ok (.dct ys) h) := by
    have nil : ∀ {α : Type} (r : R α), ckR [] r = r := fun r => by
      cases r with
      | ok a h => exact if_pos (fun p hp => by simp at hp)
      | err c fs h => rfl
      | stuck => rfl
    cases gs with
    | nil =>
      refine ⟨fun p hp => by simp at hp, ?_⟩
      have e : (fun σ h => ckR [] (f σ h)) = f := by funext σ h; exact nil _
      rw [e]; exact q
    | cons g gs =>
      simp only [dcC] at q
      split at q
      · rename_i hc; exact ⟨hc, q⟩
      · exact q.elim
  have L1 : Slots G ρ1 Hf1 H1 lσ σ := L.nxt N1
  obtain ⟨fD, mD, zD⟩ := S1.free hD
  have hf' : (fun σ h => ckR gs ((evC P call c σ h).bind fun b h => if b then (evE P call ik σ h).bind fun x h => (evE P call iv σ h).bind fun y h => R.ok (some (x, y)) h else R.ok none h)) = fun σ h => ckR gs (f σ h) := by rw [← hf]
  refine dc_it wlk (fun i H => ∃ ρ2 Hf2 h2 acc ws, Nxt (some Dd) ρ1 Hf1 (upd H1 Dd (.dK [])) ρ2 Hf2 H ∧ Sto G Z ρ2 Hf2 h2 H ∧ H Dd = some (.dK ws) ∧ Hf2 Dd = none ∧ Dd ∉ ρ2 ∧ RepK G ρ2 Hf2 acc ws ∧ acc.length ≤ i ∧ chk gs h2 ∧
    Post G Z W σ (AllocR G Z) ρ1 Hf1 H1 Q ((dcG (fun σ h => ckR gs (f σ h)) tg (wipeT lσ (own.map (·.2))) (xs.drop i) acc h2).bind fun ys h => .ok (.dct ys) h)) ?_ ?_ ?_ ?_
  · exact ⟨ρ1, Hf1, h1, [], [], .refl, S1.newB hD, upd_same, fD, mD, .nil, Nat.le_refl _, hc1, q⟩
  · intro i H _ ⟨ρ2, Hf2, h2, acc, ws, N2, S2, _, _, _, _, _, c2, _⟩
    exact gd Z ρ2 Hf2 h2 H N2.pre N2.hf S2 c2
  · intro i x Hc H' hi' ⟨ρ2, Hf2, h2, acc, ws, N2, S2, hDd, fD2, mD2, rA, lA, c2, q⟩ hy
    obtain ⟨t, et, item⟩ := yy i Z ρ2 Hf2 h2 Hc x H' N2.pre N2.hf S2 c2 hy
    obtain ⟨Hf3, N3, S3, rt⟩ := item.go S2 ⟨[], by simp⟩ (Ex.refl _)
    have ed : xs.drop i = t :: xs.drop (i + 1) := by
      obtain ⟨hl, hx⟩ := List.getElem?_eq_some_iff.mp et
      rw [List.drop_eq_getElem_cons hl, hx]
    rw [ed] at q
    simp only [dcG] at q
    split at q
    · exact q.elim
    · rename_i lσ' es
      have base3 : Nxt none ρ1 Hf1 H1 ρ2 Hf3 H' := (N2.ofNew hD).trans S2 N3 (by intro a h; cases h)
      have L3 : Slots G ρ2 Hf3 H' (wipeT lσ (own.map (·.2))) (L2.wipe σ (own.map (·.2))) := (L1.nxt base3).wipe _
      refine tG_go rfl S3 L3 es rt fun σ2 L4 hw _ _ => ⟨?_, ?_⟩
      · have e1 := hw (own.map (·.2)) fun i hi => by
          have := List.all_eq_true.mp hsub i hi
          exact List.contains_iff_mem.mp this
        rw [e1]
        have idem : ∀ vs : List Nat, L2.wipe (L2.wipe σ vs) vs = L2.wipe σ vs := fun vs => by
          have key : ∀ us : List Nat, (∀ i ∈ us, i ∈ vs) → L2.wipe (L2.wipe σ us) vs = L2.wipe σ vs := fun us => by
            induction us with
            | nil => exact fun _ => rfl
            | cons u us ih =>
              intro hu
              show L2.wipe ((L2.wipe σ us).set u none) vs = _
              rw [wipe_set (hu u List.mem_cons_self), ih fun i hi => hu i (List.mem_cons_of_mem _ hi)]
          exact key vs fun _ h => h
        exact idem _
      · rw [← hf] at q
        simp only at q
        have h3D : H' Dd = some (.dK ws) := N3.fr Dd _ hDd mD2 (by simp)
        cases ec : evC P call c lσ' h2 with
        | err cc fs h3 => rw [ec] at q; exact q.elim
        | stuck => rw [ec] at q; exact q.elim
        | ok b h3 =>
          rw [ec] at q
          simp only [R.bind_ok] at q
          refine ⟨Z, ρ2, Hf3, lσ', h2, S3, L4, ?_⟩
          rw [ec]
          intro ρ4 Hf4 H4 b' N4 S4 eb
          subst eb
          have base4 : Nxt (some Dd) ρ1 Hf1 (upd H1 Dd (.dK [])) ρ4 Hf4 H4 := (N2.trans S2 N3.wide (by intro a e; cases e; exact ⟨_, hDd⟩)).trans S3 N4.wide (by intro a e; cases e; exact ⟨_, h3D⟩)
          have f3D : Hf3 Dd = none := by
            cases z : Hf3 Dd with
            | none => rfl
            | some o => have := N3.hn Dd o z fD2; rw [hDd] at this; cases this
          have f4D : Hf4 Dd = none := by
            cases z : Hf4 Dd with
            | none => rfl
            | some o => have := N4.hn Dd o z f3D; rw [h3D] at this; cases this
          have m4D : Dd ∉ ρ4 := fun z => by have := N4.nw Dd z mD2; rw [h3D] at this; cases this
          have h4D : H4 Dd = some (.dK ws) := N4.fr Dd _ h3D mD2 (by simp)
          cases b with
          | false =>
            simp only [Bool.false_eq_true, if_false] at q ⊢
            by_cases c3 : chk gs h3
            · have ek : ckR gs (R.ok (none : Option (T × T)) h3) = R.ok none h3 := if_pos c3
              rw [ek] at q
              simp only [R.noErr_ok, R.bind_ok] at q
              rw [hf'] at q
              exact ⟨ρ4, Hf4, h3, acc, ws, base4, S4, h4D, f4D, m4D, (rA.mono N3.pre N3.hf).mono N4.pre N4.hf, Nat.le_succ_of_le lA, c3, q⟩
            · have ek : ckR gs (R.ok (none : Option (T × T)) h3) = R.stuck := if_neg c3
              rw [ek] at q
              exact q.elim
          | true =>
            simp only [if_true] at q ⊢
            cases ee : evE P call ik lσ' h3 with
            | err cc fs h5 => rw [ee] at q; exact q.elim
            | stuck => rw [ee] at q; exact q.elim
            | ok kk h5 =>
              rw [ee] at q
              simp only [R.bind_ok] at q
              refine ⟨Z, ρ4, Hf4, lσ', h3, S4, L4.nxt N4, ?_⟩
              rw [ee]
              intro ρ5 Hf5 H5 kv N5 S5 rk
              have h5D : H5 Dd = some (.dK ws) := N5.fr Dd _ h4D m4D (by simp)
              have f5D : Hf5 Dd = none := by
                cases z : Hf5 Dd with
                | none => rfl
                | some o => have := N5.hn Dd o z f4D; rw [h4D] at this; cases this
              have m5D : Dd ∉ ρ5 := fun z => by have := N5.nw Dd z m4D; rw [h4D] at this; cases this
              cases ev : evE P call iv lσ' h5 with
              | err cc fs h6 => rw [ev] at q; exact q.elim
              | stuck => rw [ev] at q; exact q.elim
              | ok y h6 =>
                rw [ev] at q
                simp only [R.bind_ok] at q
                refine ⟨Z, ρ5, Hf5, lσ', h5, S5, (L4.nxt N4).nxt N5, ?_⟩
                rw [ev]
                intro ρ6 Hf6 H6 v N6 S6 rv
                have c6 : chk gs h6 := Classical.byContradiction fun c6 => by
                  have ek : ckR gs (R.ok (some (kk, y)) h6) = R.stuck := if_neg c6
                  rw [ek] at q
                  exact q.elim
                have ek : ckR gs (R.ok (some (kk, y)) h6) = R.ok (some (kk, y)) h6 := if_pos c6
                rw [ek] at q
                simp only [R.bind_ok, R.noErr_ok] at q
                split at q
                · rename_i py
                  rw [Bool.and_eq_true] at py
                  have h6D : H6 Dd = some (.dK ws) := N6.fr Dd _ h5D m5D (by simp)
                  have f6D : Hf6 Dd = none := by
                    cases z : Hf6 Dd with
                    | none => rfl
                    | some o => have := N6.hn Dd o z f5D; rw [h5D] at this; cases this
                  have m6D : Dd ∉ ρ6 := fun z => by have := N6.nw Dd z m5D; rw [h5D] at this; cases this
                  obtain ⟨key, ekey, put⟩ := RepK.put py.2 (rk.nx N6) (rv.plain py.1)
                  refine ⟨ws, key, ekey, h6D, ?_, ρ6, Hf6, h6, dput acc kk y, putK ws key v, ((base4.trans S4 N5.wide (by intro a e; cases e; exact ⟨_, h4D⟩)).trans S5 N6.wide (by intro a e; cases e; exact ⟨_, h5D⟩)).setX, S6.setX f6D m6D, upd_same, f6D, m6D, ?_, Nat.le_trans (dput_len acc kk y) (Nat.succ_le_succ lA), c6, ?_⟩
                  · rw [← rA.len, ← maxLen_eq]
                    have := (List.getElem?_eq_some_iff.mp et).1
                    omega
                  · exact put _ _ ((((rA.mono N3.pre N3.hf).mono N4.pre N4.hf).mono N5.pre N5.hf).mono N6.pre N6.hf)
                  · rw [hf'] at q
                    exact q
                · exact q.elim
  · intro H ⟨ρ2, Hf2, h2, acc, ws, N2, S2, hDd, fD2, mD2, rA, lA, _, q⟩
    rw [List.drop_eq_nil_of_le (Nat.le_refl _)] at q
    simp only [dcG, R.bind_ok] at q
    exact q ρ2 Hf2 H _ (N2.ofNew hD) S2 ⟨Dd, rfl, ⟨ws, hDd, rA⟩, fD2, mD2, zD, fun _ _ e => nomatch e⟩
theorem ka_dc (C : KCx X P call G W CX D T0) {kx vx tgE iter : Expr} {ifs : List Expr} {scope : Scope} {own : List (Str × Nat)} {pos : Pos} {it : It} {tg : List Nat} {c : Eo} {ik iv : E} (hi : PI X tgE iter (tI P call G W it)) (ok : blkC X.N X.env.scope scope own = true)
    (hg : ∀ (s : Shared) (H : Hp) (Cc : Addr) (cl : List (Str × Addr)) (fp : List Addr), PG (X.blk s H scope (compEnvC scope cl Cc X.env) fp) tgE (tG G.K tg))
    (ht : ∀ (s : Shared) (H : Hp) (Cc : Addr) (cl : List (Str × Addr)) (fp : List Addr), PTs (X.blk s H scope (compEnvC scope cl Cc X.env) fp) ifs (tCd P call G WF c))
    (hk : ∀ (s : Shared) (H : Hp) (Cc : Addr) (cl : List (Str × Addr)) (fp : List Addr), PE (X.blk s H scope (compEnvC scope cl Cc X.env) fp) kx (tE P call G WF ik))
    (he : ∀ (s : Shared) (H : Hp) (Cc : Addr) (cl : List (Str × Addr)) (fp : List Addr), PE (X.blk s H scope (compEnvC scope cl Cc X.env) fp) vx (tE P call G WF iv)) (hs : ∀ x, foldedSetIterable iter X.env x = pure x := by intro _; rfl)
    (hsub : tg.all (fun i => (own.map (·.2)).contains i) = true := by rfl) (hT : T0.fn.isEmpty = false := by first | assumption | rfl) : PE X (.DictComp kx vx [⟨tgE, iter, ifs, 0⟩] scope pos) (tA P call G W (.dc it tg (own.map (·.2)) c ik iv)) := by
  exact PEimp (pe_dc (C.calm hT) C.nN hi (blkOk_by ok) hg ht hk he hs) (dc_imp hsub)
theorem kp_dc (C : KCx X P call G W CX D T0) {kx vx tgE iter : Expr} {ifs : List Expr} {scope : Scope} (own : List (Str × Nat)) {pos : Pos} {it : It} {tg : List Nat} {c : Eo} {ik iv : E} (hi : PI X tgE iter (tI P call G W it)) (Bk : Blk X P call G CX D T0 scope tgE kx ifs tg c ik) (Bv : Blk X P call G CX D T0 scope tgE vx ifs tg c iv) (ok : blkC X.N X.env.scope scope own = true := by rfl) (hs : ∀ x, foldedSetIterable iter X.env x = pure x := by intro _; rfl)
    (hsub : tg.all (fun i => (own.map (·.2)).contains i) = true := by rfl) {ow : List Nat} (how : ow = own.map (·.2) := by rfl) (hT : T0.fn.isEmpty = false := by first | assumption | rfl) : PE X (.DictComp kx vx [⟨tgE, iter, ifs, 0⟩] scope pos) (tA P call G W (.dc it tg ow c ik iv)) := by
  subst how
  exact ka_dc C hi ok (fun s H Cc cl fp => Bk.g s H Cc cl fp (C.blk hT s H scope _ fp)) (fun s H Cc cl fp => Bk.t s H Cc cl fp (C.blk hT s H scope _ fp)) (fun s H Cc cl fp => Bk.e s H Cc cl fp (C.blk hT s H scope _ fp)) (fun s H Cc cl fp => Bv.e s H Cc cl fp (C.blk hT s H scope _ fp)) hs hsub
end
end Kb
end
section
set_option Elab.async false
set_option linter.all false
set_option maxRecDepth 100000
set_option maxHeartbeats 4000000
set_option autoImplicit false
/-! Kb26: a name set to a dict comprehension; ranges with a step. -/
namespace Kb
open PySem PySem.Spec PyProof.Rows L2
section
variable {X : Cx} {P : Prog} {call : Nat → List T → Hl → R T} {G : Gm} {W : WX} {CX : CXT} {D : Dat} {T0 : Tab} {Wn : Nat}
theorem sw_trueD {kx vx : Expr} {gs : List Comprehension} {scope : Scope} {pos py : Pos} {y : Str} {l : Nat} {env : Env} (hk : env.scope.kind = .function) (hy : env.scope.names.lookup y = some .local) (hl : (py.line == pos.line) = true)
    (ha : (scope.names.any fun (n, k) => n == y && (k == .local || k == .cell)) = false) : swapsWith (.DictComp kx vx gs scope pos) (some (.Name y py)) l env = pure true := by
  have ky : env.kindOf y = some .local := hy
  have hb : env.blockKind = .function := by unfold Env.blockKind; rw [hk]; rfl
  unfold swapsWith
  simp only [hb, ky, ha, Expr.pos, hl]
  rfl
theorem ps_setDc {i : Nat} {y : Str} {py : Pos} {kx vx tg iter : Expr} {ifs : List Expr} {scope : Scope} {own : List (Str × Nat)} {pos spos : Pos} {wi : TI} {g : TG} {tt : TT} {tk tv : TE} (hc : X.calm = true) (hN : X.N.Nodup) (hy : X.N[i]? = some y) (hyl : X.env.scope.names.lookup y = some .local)
    (hsw : swapsWith (.DictComp kx vx [⟨tg, iter, ifs, 0⟩] scope pos) (some (.Name y py)) spos.line X.env = pure true) (hi : PI X tg iter wi) (ok : BlkOk X.N X.env.scope scope own)
    (hg : ∀ (s : Shared) (H : Hp) (Cc : Addr) (cl : List (Str × Addr)) (fp : List Addr), PG (X.blk s H scope (compEnvC scope cl Cc X.env) fp) tg g) (ht : ∀ (s : Shared) (H : Hp) (Cc : Addr) (cl : List (Str × Addr)) (fp : List Addr), PTs (X.blk s H scope (compEnvC scope cl Cc X.env) fp) ifs tt)
    (hk : ∀ (s : Shared) (H : Hp) (Cc : Addr) (cl : List (Str × Addr)) (fp : List Addr), PE (X.blk s H scope (compEnvC scope cl Cc X.env) fp) kx tk)
    (he : ∀ (s : Shared) (H : Hp) (Cc : Addr) (cl : List (Str × Addr)) (fp : List Addr), PE (X.blk s H scope (compEnvC scope cl Cc X.env) fp) vx tv) (hs : ∀ x, foldedSetIterable iter X.env x = pure x) :
    PS X (.Assign [.Name y py] (.DictComp kx vx [⟨tg, iter, ifs, 0⟩] scope pos) spos) (tAsg (tDc wi g tt tk tv (own.map (·.2))) (gName i)) := by
  refine ⟨fun pins s σ H E I h => ?_⟩
  rw [exec_Assign_Name_used _ _ _ _ hsw]
  refine wpAny_bind (wpAny_standAt (wpAny_bind ?_))
  show wpAny _ X.A (do let _ ← comprehension (.DictComp kx vx [⟨tg, iter, ifs, 0⟩] scope pos) scope X.env (firstIterPos [⟨tg, iter, ifs, 0⟩] pos) newDict false (eval iter X.env) (some (assign (.Name y py) X.env))) _ _ s
  have h : tDc wi g tt tk tv (own.map (·.2)) σ H (fun x H1 => gName i x σ H1 E.nx) := h
  refine wpAny_bind (thn (dc_core (Qf := fun _ s' => SP X pins E .next s') hc hN I hi ok hg ht hk he hs h fun L Cc s' m H' I' q hn f => ?_) fun _ s' hq => wpAny_pure (wpAny_pure hq))
  show wpAny _ _ (assign (.Name y py) X.env (.ref L)) _ _ _
  refine wpAny_assign_Name (store_ok2 (v := V.ref L) I' hN hy (.inl hyl) rfl (fun s2 I2 ⟨a, sb, ha⟩ => ?_) (.inr hyl))
  obtain ⟨f0, f1, f2, f3, f4, f5⟩ := f
  have haC : Cc ≠ a := by
    rcases ha with z | z
    · rw [z]; exact f1
    · exact fun e => f4 y a z e.symm
  refine ⟨m, hn.sameBut sb haC, fun h3 sb3 => ?_⟩
  exact ⟨_, H', I2.turned (t' := s2.toks) (fun b o hb e => (sb3.2 b hb).trans e) f0 f1 f3 f4 f5, q⟩
section
variable {kx vx tgE iter : Expr} {ifs : List Expr} {scope : Scope} {pos spos py : Pos} {it : It} {tg : List Nat} {c : Eo} {ik iv : Kb.E} {i : Nat} {y : Str}
theorem s_dc (C : KCx X P call G W CX D T0) (own : List (Str × Nat)) (hy : X.N[i]? = some y) (hyl : X.env.scope.names.lookup y = some .local) (hi : PI X tgE iter (tI P call G W it)) (Bk : Blk X P call G CX D T0 scope tgE kx ifs tg c ik) (Bv : Blk X P call G CX D T0 scope tgE vx ifs tg c iv) (hl : (py.line == pos.line) = true) (hn : (scope.names.any fun (n, k) => n == y && (k == .local || k == .cell)) = false) (hkd : X.env.scope.kind = .function)
    (ok : blkC X.N X.env.scope scope own = true) (hs : ∀ x, foldedSetIterable iter X.env x = pure x) (hT : T0.fn.isEmpty = false := by first | assumption | rfl) :
    PS X (.Assign [.Name y py] (.DictComp kx vx [⟨tgE, iter, ifs, 0⟩] scope pos) spos) (tAsg (tDc (tI P call G W it) (tG G.K tg) (tCd P call G WF c) (tE P call G WF ik) (tE P call G WF iv) (own.map (·.2))) (gName i)) :=
  ps_setDc (C.calm hT) C.nN hy hyl (sw_trueD hkd hyl hl hn) hi (blkOk_by ok) (fun s H Cc cl fp => Bk.g s H Cc cl fp (C.blk hT s H scope _ fp)) (fun s H Cc cl fp => Bk.t s H Cc cl fp (C.blk hT s H scope _ fp)) (fun s H Cc cl fp => Bk.e s H Cc cl fp (C.blk hT s H scope _ fp)) (fun s H Cc cl fp => Bv.e s H Cc cl fp (C.blk hT s H scope _ fp)) hs
theorem kp_dcO (C : KCx X P call G W CX D T0) (own : List (Str × Nat)) (hy : X.N[i]? = some y) (hyl : X.env.scope.names.lookup y = some .local) (hi : PI X tgE iter (tI P call G W it)) (Bk : Blk X P call G CX D T0 scope tgE kx ifs tg c ik) (Bv : Blk X P call G CX D T0 scope tgE vx ifs tg c iv) (hl : (py.line == pos.line) = true := by rfl) (hn : (scope.names.any fun (n, k) => n == y && (k == .local || k == .cell)) = false := by rfl) (hkd : X.env.scope.kind = .function := by rfl)
    (ok : blkC X.N X.env.scope scope own = true := by rfl) (hs : ∀ x, foldedSetIterable iter X.env x = pure x := by intro _; rfl) (hsub : tg.all (fun i => (own.map (·.2)).contains i) = true := by rfl) {ow : List Nat} (how : ow = own.map (·.2) := by rfl) (hT : T0.fn.isEmpty = false := by first | assumption | rfl) :
    PS X (.Assign [.Name y py] (.DictComp kx vx [⟨tgE, iter, ifs, 0⟩] scope pos) spos) (tS P call G W Wn (.own i (.dc it tg ow c ik iv))) := by
  subst how
  exact s_own (s_dc C own hy hyl hi Bk Bv hl hn hkd ok hs) (dc_imp hsub)
theorem kp_dc0 (C : KCx X P call G W CX D T0) (own : List (Str × Nat)) (hy : X.N[i]? = some y) (hyl : X.env.scope.names.lookup y = some .local) (hi : PI X tgE iter (tI P call G W it)) (Bk : Blk X P call G CX D T0 scope tgE kx ifs tg c ik) (Bv : Blk X P call G CX D T0 scope tgE vx ifs tg c iv) (hl : (py.line == pos.line) = true := by rfl) (hn : (scope.names.any fun (n, k) => n == y && (k == .local || k == .cell)) = false := by rfl) (hkd : X.env.scope.kind = .function := by rfl)
    (ok : blkC X.N X.env.scope scope own = true := by rfl) (hs : ∀ x, foldedSetIterable iter X.env x = pure x := by intro _; rfl) (hsub : tg.all (fun i => (own.map (·.2)).contains i) = true := by rfl) {ow : List Nat} (how : ow = own.map (·.2) := by rfl) (hT : T0.fn.isEmpty = false := by first | assumption | rfl) :
    PS X (.Assign [.Name y py] (.DictComp kx vx [⟨tgE, iter, ifs, 0⟩] scope pos) spos) (tS P call G W Wn (.asg i (.al false (.dc it tg ow c ik iv)))) := by
  subst how
  exact s_asg (ps_lockA (s_dc C own hy hyl hi Bk Bv hl hn hkd ok hs)) fun σ H Q h => dc_imp hsub σ H (QL Q) (al0_imp _ σ H Q h)
theorem kp_dc1 (C : KCx X P call G W CX D T0) (own : List (Str × Nat)) (hy : X.N[i]? = some y) (hyl : X.env.scope.names.lookup y = some .local) (hi : PI X tgE iter (tI P call G W it)) (Bk : Blk X P call G CX D T0 scope tgE kx ifs tg c ik) (Bv : Blk X P call G CX D T0 scope tgE vx ifs tg c iv) (hl : (py.line == pos.line) = true := by rfl) (hn : (scope.names.any fun (n, k) => n == y && (k == .local || k == .cell)) = false := by rfl) (hkd : X.env.scope.kind = .function := by rfl)
    (ok : blkC X.N X.env.scope scope own = true := by rfl) (hs : ∀ x, foldedSetIterable iter X.env x = pure x := by intro _; rfl) (hsub : tg.all (fun i => (own.map (·.2)).contains i) = true := by rfl) {ow : List Nat} (how : ow = own.map (·.2) := by rfl) (hT : T0.fn.isEmpty = false := by first | assumption | rfl) :
    PS X (.Assign [.Name y py] (.DictComp kx vx [⟨tgE, iter, ifs, 0⟩] scope pos) spos) (tS P call G W Wn (.asg i (.al true (.dc it tg ow c ik iv)))) := by
  subst how
  exact s_asg (s_dc C own hy hyl hi Bk Bv hl hn hkd ok hs) fun σ H Q h => dc_imp hsub σ H Q (al1_imp _ σ H Q h)
end
end
end Kb
namespace Kb
open PySem PySem.Spec PyProof.Rows L2
section
variable {X : Cx} {P : Prog} {call : Nat → List T → Hl → R T} {G : Gm} {W : WX} {CX : CXT} {D : Dat} {T0 : Tab} {Wn : Nat}
variable {Z : Hp} {ρ : List Addr} {Hf H : Hp}
theorem wr_rngS (m s : Int) (k : Nat) : WalksR G ρ Hf H (rngS m s k) (Itc m s k) := by
  have len : (rngS m s k).length = k := by unfold rngS; rw [List.length_map, List.length_range]
  refine ⟨fun _ => True, fun i H x H' => H' = H ∧ x = .int (m + (i : Int) * s) ∧ i < k, ?_, fun H' e => trivial, fun i H' x H'' _ hy => ?_⟩
  · rw [len]
    exact walk_rangeC.mono (fun _ _ => trivial) fun i H x H' hi _ hy => ⟨hy.1, hy.2, hi⟩
  obtain ⟨rfl, rfl, hi⟩ := hy
  refine ⟨.int (m + (i : Int) * s), ?_, .inl ⟨rfl, .int _⟩⟩
  unfold rngS
  rw [List.getElem?_map, List.getElem?_range hi]; rfl
theorem rgC_of {m n s : Int} (h1 : m.natAbs < 4611686018427387904) (h2 : n.natAbs < 4611686018427387904) (h0 : s ≠ 0) (hs : s.natAbs < 1000000) : RgC m n s (rngN m n s) := by
  have size : Builtin.Range.rangeSize m n s = (rngN m n s : Int) := by
    unfold Builtin.Range.rangeSize rngN
    by_cases c : s > 0
    · rw [if_pos c, if_pos c]
      by_cases d : m < n
      · rw [if_pos d, if_pos d]
        have : 0 ≤ (n - m - 1) / s := Int.ediv_nonneg (by omega) (by omega)
        omega
      · rw [if_neg d, if_neg d]; rfl
    · rw [if_neg c, if_neg c]
      by_cases d : m > n
      · rw [if_pos d, if_pos d]
        have : 0 ≤ (m - n - 1) / (-s) := Int.ediv_nonneg (by omega) (by omega)
        omega
      · rw [if_neg d, if_neg d]; rfl
  have sz : (rngN m n s : Int) < 9223372036854775808 := by
    rw [← size]
    unfold Builtin.Range.rangeSize
    by_cases c : s > 0
    · rw [if_pos c]
      split
      · have := Int.ediv_le_self s (show 0 ≤ n - m - 1 by omega); omega
      · omega
    · rw [if_neg c]
      split
      · have := Int.ediv_le_self (-s) (show 0 ≤ m - n - 1 by omega); omega
      · omega
  refine ⟨h0, by omega, ?_, size⟩
  unfold Builtin.Range.small
  rw [size]
  by_cases c : s > 0
  · simp only [if_pos c, Builtin.Range.rangeFitsLong, Bool.and_eq_true, Bool.or_eq_true, decide_eq_true_eq, beq_iff_eq]
    omega
  · simp only [if_neg c, Builtin.Range.rangeFitsLong, Bool.and_eq_true, Bool.or_eq_true, decide_eq_true_eq, beq_iff_eq]
    omega
theorem ki_rng3 {tg a b c : Expr} {ea eb ec : E} {p pos : Pos} (hg : Gl X "range") (hm : X.mg "range" = none) (ha : PE X a (tE P call G W ea)) (hb : PE X b (tE P call G W eb)) (hc : PE X c (tE P call G W ec)) (hs : starEach [a, b, c] X.env = (false, eval a X.env) :: starEach [b, c] X.env := by rfl) (hs2 : starEach [b, c] X.env = (false, eval b X.env) :: starEach [c] X.env := by rfl) (hs3 : starEach [c] X.env = (false, eval c X.env) :: starEach [] X.env := by rfl) (hpl : (backTo pos (starEach [b, c] X.env)).any (·.1) = false := by rfl) :
    PI X tg (.Call (.Name "range" p) [a, b, c] [] pos) (tI P call G W (.rng3 ea eb ec)) := by
  refine PIimp (pi_range3 hg hm (pa_cons ha (pa_cons hb (pa_cons hc pa_nil hs3) hs2) hs) hs hpl) fun σ H R h => ?_
  obtain ⟨Z, ρ, Hf, lσ, hp, S, L, h⟩ := h
  simp only [evI] at h
  refine go_E S L h fun x h1 ρ1 Hf1 v H1 N1 S1 L1 r1 h => ?_
  refine go_E S1 L1 h fun y h2 ρ2 Hf2 u H2 N2 S2 L2 r2 h => ?_
  refine go_E S2 L2 h fun z h3 ρ3 Hf3 w H3 N3 S3 L3 r3 h => ?_
  cases x with
  | int m =>
    cases y with
    | int n =>
      cases z with
      | int s =>
        obtain rfl := B_int r1
        obtain rfl := B_int r2
        obtain rfl := B_int r3
        simp only at h
        split at h
        · rename_i ok
          simp only [rngOk, Bool.and_eq_true, decide_eq_true_eq] at ok
          exact ⟨m, n, s, _, rfl, rgC_of ok.1.1.1 ok.1.1.2 ok.1.2 ok.2, h.ret S3 (wc_of (wr_rngS m s _))⟩
        · exact h.elim
      | _ => exact h.elim
    | _ => exact h.elim
  | _ => exact h.elim
end
end Kb
end
section
set_option Elab.async false
set_option linter.all false
set_option maxRecDepth 100000
set_option maxHeartbeats 4000000
set_option autoImplicit false
/-! Kb27: a list in a cell is changed within an expression (xs.pop() and the like). -/
namespace Kb
open PySem PySem.Spec PyProof.Rows L2
section
variable {X : Cx} {P : Prog} {call : Nat → List T → Hl → R T} {G : Gm} {W : WX} {CX : CXT} {D : Dat} {T0 : Tab} {Wn : Nat}
variable {Z : Hp} {ρ : List Addr} {Hf H : Hp} {hp : Hl}
theorem Sto.setCell (S : Sto G Z ρ Hf hp H) {n : Nat} {a : Addr} {c : C} {o : HO} (ha : ρ[n]? = some a) (hc : CellR G ρ Hf (upd H a o) a c) : Sto G Z ρ Hf (hp.set n c) (upd H a o) := by
  have hn : n < hp.length := by rw [← S.len]; exact (List.getElem?_eq_some_iff.mp ha).1
  have fa := (S.cell n a hp[n] ha (List.getElem?_eq_getElem hn)).2
  refine ⟨S.ex.updR fa, by rw [List.length_set]; exact S.len, S.nd, fun m b cc e1 e2 => ?_, fun b u e => ?_⟩
  · by_cases q : n = m
    · subst q
      rw [ha] at e1; cases e1
      rw [List.getElem?_set_self hn] at e2; cases e2
      exact ⟨hc, fa⟩
    · rw [List.getElem?_set_ne q] at e2
      obtain ⟨h1, h2⟩ := S.cell m b cc e1 e2
      have nb : b ≠ a := fun z => by
        subst z
        obtain ⟨l1, g1⟩ := List.getElem?_eq_some_iff.mp ha
        obtain ⟨l2, g2⟩ := List.getElem?_eq_some_iff.mp e1
        exact q ((List.getElem_inj S.nd).mp (g1.trans g2.symm))
      exact ⟨h1.mono ⟨[], by simp⟩ (Ex.refl _) fun u z => by rw [upd_ne nb]; exact z, h2⟩
  · by_cases z : b = a
    · subst z; exact ⟨_, upd_same⟩
    · obtain ⟨u', h'⟩ := S.dom b u e
      exact ⟨u', by rw [upd_ne z]; exact h'⟩
theorem Nxt.setCell {a : Addr} {o : HO} (m : a ∈ ρ) : Nxt none ρ Hf H ρ Hf (upd H a o) :=
  ⟨⟨[], by simp⟩, Ex.refl _, fun b u e nb _ => by rw [upd_ne (fun z => nb (by rw [z]; exact m))]; exact e, fun _ h n => (n h).elim, fun b u h n => by rw [n] at h; cases h⟩
theorem k_mbE (C : KCx X P call G W CX D T0) {b : MB} {name : Str} {o : Expr} {es : List Expr} {io : E} {ies : Es} {A0 : TA} {apos cpos : Pos} (ho : PE X o (tE P call G W io)) (hm : MCall X G b name es A0 cpos apos) (hA : ∀ σ H R, tEs P call G W ies σ H R → A0 σ H R) (hb : attributeBase o name X.env (eval o X.env) = eval o X.env := by rfl) :
    PE X (.Call (.Attribute o name apos) es [] cpos) (tE P call G W (.mbE b io ies)) := by
  refine PEimp (hm _ _ ho hb) fun σ H Q h => ?_
  obtain ⟨Z, ρ, Hf, lσ, hp, S, L, h⟩ := h
  simp only [evE] at h
  refine go_E S L h fun x h1 ρ1 Hf1 v H1 N1 S1 L1 r1 h => ?_
  split at h
  · rename_i pre
    obtain ⟨ts, e0⟩ : ∃ ts, lstOf' x h1 = some ts := Option.isSome_iff_exists.mp pre
    refine ⟨tyV_list C.hK S1 r1 e0, hA _ _ _ ?_⟩
    refine go_Es S1 L1 h fun xs h2 ρ2 Hf2 vs H2 N2 S2 L2 r2 h => ?_
    cases x with
    | rf n =>
      simp only at h
      split at h
      · rename_i ys hn
        split at h
        · rename_i w ys' e
          obtain ⟨a, ea, ⟨ws, ha, rF⟩, fa⟩ := S2.at hn
          obtain ⟨a', rfl, eb⟩ := B_rf (r1.nx N2)
          rw [ea] at eb; cases eb
          exact ⟨C.hK, Z, ρ2, Hf2, h2, a, ws, ys, xs, w, ys', rfl, S2, ha, rF, r2, e, fun u ws' q1 q2 => h ρ2 Hf2 _ u (Nxt.setCell (List.mem_of_getElem? ea)) (S2.setCell ea ⟨_, upd_same, q1⟩) q2.toB⟩
        · exact h.elim
      · exact h.elim
    | _ => exact h.elim
  · exact h.elim
end
end Kb
end
section
set_option Elab.async false
set_option linter.all false
set_option maxRecDepth 100000
set_option maxHeartbeats 4000000
set_option autoImplicit false
/-! Kb28: xs[i] += v, xs[i] -= v, for a list in a slot or a cell. -/
namespace Kb
open PySem PySem.Spec PyProof.Rows L2
section
variable {X : Cx} {P : Prog} {call : Nat → List T → Hl → R T} {G : Gm} {W : WX} {CX : CXT} {D : Dat} {T0 : Tab} {Wn : Nat}
variable {En : Ent} {Z : Hp} {ρ : List Addr} {Hf H : Hp} {lσ : Sl} {σ : L2.St} {hp : Hl}
def rGetI (K : PySem.W.Frag) : L2.V → L2.V → Hp → VK → Prop := fun o i H Q => ∃ (p : Addr) (xs : List L2.V) (k : Int) (z : L2.V), o = .ref p ∧ i = .int k ∧ SqL K H p xs ∧ 0 ≤ k ∧ xs[k.toNat]? = some z ∧ Q z H
theorem get_i : PGet X (rGetI X.K) := by
  intro pins s σ H o i ov iv Q I ro ri h
  obtain ⟨p, xs, k, z, rfl, rfl, hq, h0, hz, q⟩ := h
  cases ro
  obtain ⟨t, rfl⟩ := ri
  obtain ⟨its, r, pl, hl⟩ := I.list hq
  obtain ⟨w, ew, rw'⟩ := r.get hz
  have lt := (List.getElem?_eq_some_iff.mp hz).1
  have hn := line63
  have hk : k < 2 ^ 63 := by omega
  exact getItem_listL pl.isList h0 hk ew ⟨z, H, I, rw', q⟩
theorem ip_sub' : PIp X .Sub (ipI fun i j => i - j) := ip_sub
theorem atI_nn {α : Type} {xs : List α} {k : Int} {z : α} (h0 : 0 ≤ k) (e : atI xs k = some z) : xs[k.toNat]? = some z := by
  obtain ⟨n, rfl⟩ := Int.eq_ofNat_of_zero_le h0
  unfold atI ixN at e
  rw [if_pos h0] at e
  split at e
  · exact e
  · cases e
theorem augI_core (A : StA G En ρ Hf lσ hp σ H) {s0 : Nat} {t : T} {u : Vv} (es : lσ[s0]? = some (some t)) (hu : σ[s0]? = some (some u)) (r : RepB G ρ Hf H t u) {k z : Int} {lσ' : Sl} {h' : Hl} (eq : putI (.var s0) lσ t (.int k) (.int z) hp = some (lσ', h')) :
    ∃ a vs j, u = .ref a ∧ H a = some (.lst vs) ∧ L2.ixN vs.length k = some j ∧ St1 G En lσ' h' σ (upd H a (.lst (vs.set j (.int z)))) := by
  cases t with
  | rf n =>
    obtain ⟨a, vs, i, j, e1, e2, e3, e4, e5⟩ := setI_rf (t := .int k) (w := .int k) A r (by exact Rep.int k) (Rep.int z) eq
    cases e2
    exact ⟨a, vs, j, e1, e3, e4, e5⟩
  | bL xs =>
    simp only [putI, Option.map_eq_some_iff] at eq
    obtain ⟨j, ej, eq⟩ := eq
    cases eq
    obtain ⟨a, vs, rfl, ha, rF, fa, ma⟩ := id r
    exact ⟨a, vs, j, rfl, ha, by rw [← rF.length]; exact ej, ⟨ρ, Hf, A.setOwn es rfl hu rfl rfl ⟨a, _, rfl, upd_same, rF.set (Rep.int z) j, fa, ma⟩⟩⟩
  | _ => simp [putI] at eq
theorem augI_end (C : KCx X P call G W CX D T0) {s0 : Nat} {o : L2.V} {E : Ends} {ie : Kb.E} {t : T} {k : Int} {f : Int → Int → Option Int} {tip : TIp} (hip : ∀ (x y z : Int) (Q : VK) (H : Hp), f x y = some z → Q (.int z) H → tip (.int x) (.int y) H Q)
    (A : StA G En ρ Hf lσ hp σ H) (es : lσ[s0]? = some (some t)) (hu : σ[s0]? = some (some o)) (r : RepB G ρ Hf H t o)
    (q : PostS G W En E (if 0 ≤ k then match (lstOf' t hp).bind (fun xs => atI xs k) with
        | some (.int x) => (evE P call ie lσ hp).toS lσ fun y h => match y with
          | .int y => match f x y with
            | some z => match putI (.var s0) lσ t (.int k) (.int z) h with
              | some (σ, h) => .nx σ h
              | none => .stuck
            | none => .stuck
          | _ => .stuck
        | _ => .stuck
      else .stuck)) : rGetI X.K o (.int k) H fun x H3 => tE P call G W ie σ H3 fun y H4 => tip x y H4 fun z H5 => rSetL o (.int k) z H5 fun H6 => E.nx σ H6 := by
  split at q
  · rename_i h0
    split at q
    · rename_i x ex
      obtain ⟨xs, e1, e2⟩ := Option.bind_eq_some_iff.mp ex
      obtain ⟨a, vs, rfl, ha, rx⟩ := lst'_at A.S e1 r
      obtain ⟨v, ev, rv⟩ := rx.get (atI_nn h0 e2)
      obtain rfl := B_int (rv.toB (H := H))
      refine ⟨a, vs, k, .int x, rfl, rfl, SqL.of ha, h0, ev, ?_⟩
      refine go_sE A q fun y h4 ρ4 Hf4 w H4 A4 N4 r4 q => ?_
      cases y with
      | int y =>
        obtain rfl := B_int r4
        simp only at q
        split at q
        · rename_i z ez
          split at q
          · rename_i σ' h' eq
            obtain ⟨b, ws, j, eb, hb, hj, S1⟩ := augI_core A4 es hu (r.nx N4) eq
            exact hip x y z _ _ ez ⟨b, ws, k, j, eb, rfl, hb, hj, q _ _ S1⟩
          · exact False.elim q
        · exact False.elim q
      | _ => exact False.elim q
    · exact False.elim q
  · exact False.elim q
theorem ks_augIa (C : KCx X P call G W CX D T0) {i e : Expr} {ii ie : Kb.E} {s0 : Nat} {z : Str} {pos tpos pz : Pos} (hN : X.N[s0]? = some z) (hvis : visC X.env.scope z = true) (hi : PE X i (tE P call G W ii)) (he : PE X e (tE P call G W ie)) (hd : (z == ("__debug__" : Str)) = false := by decide +kernel) (hcd : (z == ("__classdict__" : Str)) = false := by decide +kernel)
    (ha : ∀ ov iv new, augStore i ov iv new = (do holding [new, ov, iv] (setItem ov iv new); release [new, ov, iv] []; pure .next) := by intros; rfl) : PS X (.AugAssign (.Subscript (.Name z pz) i tpos) .Add e pos) (tS P call G W Wn (.augI (.var s0) ii .add ie)) := by
  refine PSimp (ps_augS (pe_var hN (vis_of hvis) hd hcd) hi get_i he ip_add set_list ha) fun E σ H ⟨En, lσ, hp, ⟨ρ, Hf, A⟩, q⟩ => ?_
  simp only [exS, evE] at q
  split at q
  · rename_i t es
    obtain ⟨u, hu, r2⟩ := A.L.slot s0 t es
    refine ⟨u, hu, ?_⟩
    simp only [R.toS_ok] at q
    refine go_sE A q fun k h3 ρ3 Hf3 w H3 A3 N3 r3 q => ?_
    cases k with
    | int k =>
      obtain rfl := B_int r3
      exact augI_end C (f := fun x y => some (x + y)) (fun x y z Q H e q => ⟨x, y, rfl, rfl, by cases e; exact q⟩) A3 es hu (r2.nx N3) q
    | _ => exact False.elim q
  · exact False.elim q
theorem ks_augIs (C : KCx X P call G W CX D T0) {i e : Expr} {ii ie : Kb.E} {s0 : Nat} {z : Str} {pos tpos pz : Pos} (hN : X.N[s0]? = some z) (hvis : visC X.env.scope z = true) (hi : PE X i (tE P call G W ii)) (he : PE X e (tE P call G W ie)) (hd : (z == ("__debug__" : Str)) = false := by decide +kernel) (hcd : (z == ("__classdict__" : Str)) = false := by decide +kernel)
    (ha : ∀ ov iv new, augStore i ov iv new = (do holding [new, ov, iv] (setItem ov iv new); release [new, ov, iv] []; pure .next) := by intros; rfl) : PS X (.AugAssign (.Subscript (.Name z pz) i tpos) .Sub e pos) (tS P call G W Wn (.augI (.var s0) ii .sub ie)) := by
  refine PSimp (ps_augS (pe_var hN (vis_of hvis) hd hcd) hi get_i he ip_sub' set_list ha) fun E σ H ⟨En, lσ, hp, ⟨ρ, Hf, A⟩, q⟩ => ?_
  simp only [exS, evE] at q
  split at q
  · rename_i t es
    obtain ⟨u, hu, r2⟩ := A.L.slot s0 t es
    refine ⟨u, hu, ?_⟩
    simp only [R.toS_ok] at q
    refine go_sE A q fun k h3 ρ3 Hf3 w H3 A3 N3 r3 q => ?_
    cases k with
    | int k =>
      obtain rfl := B_int r3
      exact augI_end C (f := fun x y => some (x - y)) (fun x y z Q H e q => ⟨x, y, rfl, rfl, by cases e; exact q⟩) A3 es hu (r2.nx N3) q
    | _ => exact False.elim q
  · exact False.elim q
end
end Kb
end
section
set_option Elab.async false
set_option linter.all false
set_option maxRecDepth 100000
set_option maxHeartbeats 4000000
set_option autoImplicit false
/-! Kb29: a list turned round, list(range(n)). -/
namespace Kb
open PySem PySem.Spec PyProof.Rows L2
section
variable {X : Cx} {P : Prog} {call : Nat → List T → Hl → R T} {G : Gm} {W : WX} {CX : CXT} {D : Dat} {T0 : Tab}
theorem ka_rev (C : KCx X P call G W CX D T0) {a : Expr} {ea : E} {k : Nat} {p1 p2 p3 pos : Pos} (ha : PE X a (tE P call G W ea)) : PE X (.Subscript a (.Slice none none (some (.UnaryOp .USub (.Constant (.int 1) k p1) p2)) p3) pos) (tA P call G W (.rev ea)) := by
  refine PEimp (pe_revL ha) fun σ H Q h => ?_
  obtain ⟨Z, ρ, Hf, lσ, hp, S, L, h⟩ := h
  simp only [evA] at h
  refine go_E S L h fun x h1 ρ1 Hf1 v H1 N1 S1 L1 r1 h => ?_
  split at h
  · rename_i xs e
    obtain ⟨b, vs, e1, h2, h3⟩ := lst_at S1 e r1
    exact ⟨b, vs, e1, by rw [C.hK]; exact h2, P_al S1 h3.rev h⟩
  · exact h.elim
theorem reps_rg {ρ : List Addr} {Hf : Hp} (i : Int) : Reps G ρ Hf (rngT 0 i) (rgV 0 i) := by
  have e1 : rngT 0 i = ((List.range (i - 0).toNat).map fun k : Nat => (0 : Int) + (k : Int)).map T.int := by rw [List.map_map]; rfl
  have e2 : rgV 0 i = ((List.range (i - 0).toNat).map fun k : Nat => (0 : Int) + (k : Int)).map L2.V.int := by rw [List.map_map]; rfl
  rw [e1, e2]
  exact reps_ints _
theorem ka_lrg (C : KCx X P call G W CX D T0) {a : Expr} {ea : E} {p p2 pos pos2 : Pos} (hg : Gl X "list") (hm : X.mg "list" = none) (hg2 : Gl X "range") (hm2 : X.mg "range" = none) (ha : PE X a (tE P call G W ea))
    (na : starEach [a] X.env = (false, eval a X.env) :: starEach [] X.env := by rfl) (na2 : starEach [.Call (.Name "range" p) [a] [] pos] X.env = (false, eval (.Call (.Name "range" p) [a] [] pos) X.env) :: starEach [] X.env := by rfl) (hT : T0.fn.isEmpty = false := by first | assumption | rfl) :
    PE X (.Call (.Name "list" p2) [.Call (.Name "range" p) [a] [] pos] [] pos2) (tA P call G W (.lrg ea)) := by
  refine PEimp (pe_listRg (C.calm hT) hg hm (prg_1 hg2 hm2 ha na) na2) fun σ H Q h => ?_
  obtain ⟨Z, ρ, Hf, lσ, hp, S, L, h⟩ := h
  simp only [evA] at h
  refine go_E S L h fun x h1 ρ1 Hf1 v H1 N1 S1 L1 r1 h => ?_
  split at h
  · rename_i i
    split at h
    · rename_i c
      have c : i.natAbs ≤ 16777216 := c
      exact ⟨i, B_int r1, ⟨by omega, by omega, by omega, by omega, by omega⟩, P_al S1 (reps_rg i) h⟩
    · exact h.elim
  · exact h.elim
end
end Kb
end
section
set_option Elab.async false
set_option linter.all false
set_option maxRecDepth 100000
set_option maxHeartbeats 4000000
set_option autoImplicit false
/-! Kb30: what runs while an error is handled. -/
namespace Kb
open PySem PySem.Spec PyProof.Rows L2
open Sem (wp)
theorem FnH_imp {P : Program} {w : World} {K : PySem.W.Frag} {mg : Str → Option Value} {base : Heap} {CX : CXT} {k : Nat} {f : Addr} {fd : FuncData} {ps : List Str} {sp sq : Sp} (F : L2H.FnH P w K mg base CX k f fd ps sp) (h : ∀ vs H Q E, sq vs H Q E → sp vs H Q E) : L2H.FnH P w K mg base CX k f fd ps sq :=
  ⟨fun vs H Q E q => F.len vs H Q E (h vs H Q E q), fun A outer s H args us vs Q E p a b c d e f g => F.run A outer s H args us vs Q E p a b c d e f (h vs H Q E g)⟩
section
variable {G : Gm} {a d C : Addr}
theorem spH_ov {call : Nat → List T → Hl → R T} {f : Nat} (hc : ∀ c, G.cok c → c < 1000000) (hz : G.ca 1000003 = 0) {vs : List V} {H : Hp} {Q : VK} {E : XK} (h : spH (G.ov a d C) call f vs H Q E) : spH G call f vs H Q E := by
  obtain ⟨Z, ρ, Hf, hp, ts, S, r, h⟩ := h
  refine ⟨Z, ρ, Hf, hp, ts, S.ofOv hc, Reps.ofOv hc r, ?_⟩
  generalize (call f ts hp).noErr = x at h
  cases x with
  | ok t h' =>
    intro ρ' Hf' H' v N S' r'
    have ne : isExc t = false := by
      cases t with
      | exc c fs =>
        have := r'.2.1
        rw [hz] at this
        cases this
      | _ => rfl
    exact h ρ' Hf' H' v N (S'.toOv hc) (r'.toOv hc ne)
  | err c fs h' => exact fun ρ' Hf' H' d gs N' S' e1 e2 => h ρ' Hf' H' d gs N' (S'.toOv hc) e1 (RepF.toOv hc e2)
  | stuck => exact h
theorem kd_ov (hc : ∀ c, G.cok c → c < 1000000) (k : KdOk G) : KdOk (G.ov a d C) where
  ty := fun c h => by rw [ov_ca (hc c h)]; exact k.ty c h
  sp := k.sp
  own := fun c q h1 h2 => by
    have e : kdV (G.ov a d C) q = kdV G q := by
      cases q with
      | cls c => show Value.ref _ = _; rw [ov_ca (hc c (h2 c rfl))]; rfl
      | _ => rfl
    rw [ov_ca (hc c h1), e]
    exact k.own c q h1 h2
  blt := fun n c h1 h2 => by rw [ov_ca (hc c h2)]; exact k.blt n c h1 h2
end
section
variable {X : Cx} {P : Prog} {call : Nat → List T → Hl → R T} {G : Gm} {W : WX} {CX : CXT} {D : Dat} {T0 : Tab} {Wn : Nat}
theorem KCx.suite (C : KCx X P call G W CX D T0) (hT : T0.fn.isEmpty = false) {ds : List Nat} (T : ErrT P G ds) {a Ce d : Addr} {oe : Obj} {pn : List (Addr × Obj)} (hz : L2N.Zn (.ref Ce) (some d) oe) (hf : ∃ vs, oe.data = .fields vs) : KCx (X.suite a ((a, oe) :: pn)) P call (G.ov a d Ce) WF CX D T0.hot where
  hK := C.hK
  calm := fun z => by cases z
  room := fun z => by cases z
  rmH := ⟨C.rmH.dp, C.rmH.un⟩
  hot := fun _ => by
    obtain ⟨vs, e⟩ := hf
    exact ⟨(a, oe), ⟨rfl, vs, e, hz.2.2 vs e⟩, List.mem_cons_self⟩
  hfn := fun f x h => by
    obtain ⟨F, h2, h3, h4⟩ := C.hfn f x h
    exact ⟨FnH_imp F fun vs H Q E q => spH_ov T.cok T.z q, h2, h3, h4⟩
  nm := C.nm
  kd := kd_ov T.cok C.kd
  pas := fun σ pins H s e s' I h => C.nil _ _ _ _ _ h
  nil := C.nil
  nN := C.nN
  own := PassesOwn.never
  fn := fun f x h => by cases h
  mt := fun z => by cases z
  ini := fun c kc f x _ _ h => by cases h
  cl := fun c h => by rw [ov_ca (T.cok c h)]; exact C.cl c h
  na := fun c f x h1 h2 h3 => by rw [ov_ca (T.cok c h1)]; exact C.na c f x h1 h2 h3
  sf := fun c h => by rw [ov_ca (T.cok c h)]; exact C.sf c h
  nq := fun c h => by rw [ov_ca (T.cok c h)]; exact C.nq c h
  tk := fun _ _ x => by
    obtain ⟨_, _, _, _, _, _, _, _, _, _, _, _, _, _, _, _, z⟩ := x
    exact z.elim
theorem cmpT_bl {o : COp} {x y t : T} {h h' : Hl} (e : cmpT o x y h = .ok t h') : ∃ b, t = .bl b := by
  rcases oR_cmpT (o := o) (x := x) (y := y) (h := h) with ⟨b, q⟩ | q
  · rw [q] at e; cases e; exact ⟨b, rfl⟩
  · rw [q] at e; cases e
theorem op_cmpN (C : KCx X P call G W CX D T0) (σ0 : L2.St) (o : COp) :
    OpR X (compareOp (copN o)) (fun v u H Q => ∃ Z ρ Hf hp x y, Sto G Z ρ Hf hp H ∧ RepB G ρ Hf H x v ∧ RepB G ρ Hf H y u ∧ Post G Z W σ0 (RepB G) ρ Hf H Q (cmpT o x y hp)) := by
  intro pins s σ H v u vv uv Q I rv ru h
  obtain ⟨Z, ρ, Hf, hp, x, y, S, rx, ry, h⟩ := h
  exact op_cmpT C.hK C.un o pins s σ H v u vv uv Q I rv ru ⟨Z, W, σ0, ρ, Hf, hp, x, y, S, rx, ry, h⟩
theorem k_cmpN (C : KCx X P call G W CX D T0) {o : COp} {op : CmpOp} {a b : Expr} {ea eb : E} {pos : Pos} (ha : PE X a (tE P call G W ea)) (hb : PE X b (tE P call G W eb)) (hop : copN o = op := by rfl) (hm : behindInMarks op b = false := by rfl) :
    PE X (.Compare a [op] [b] pos) (tE P call G W (.cmpN o ea eb)) := by
  subst hop
  refine ⟨fun pins s σ H Q I h => (pe_cmpR (op_cmpN C σ o) ha hb hm).run pins s σ H Q I ?_⟩
  obtain ⟨Z, ρ, Hf, lσ, hp, S, L, h⟩ := h
  simp only [evE] at h
  refine go_E S L h fun x h1 ρ1 Hf1 v H1 N1 S1 L1 r1 h => ?_
  refine go_E S1 L1 h fun y h2 ρ2 Hf2 u H2 N2 S2 L2 r2 h => ?_
  exact ⟨Z, ρ2, Hf2, h2, x, y, S2, r1.nx N2, r2, h⟩
theorem kt_cmpN (C : KCx X P call G W CX D T0) {o : COp} {op : CmpOp} {a b : Expr} {ea eb : E} {pos : Pos} (ha : PE X a (tE P call G W ea)) (hb : PE X b (tE P call G W eb)) (hop : copN o = op := by rfl) (hm : behindInMarks op b = false := by rfl) :
    PT X (.Compare a [op] [b] pos) (tTe P call G W (.cmpN o ea eb)) := by
  subst hop
  refine ⟨fun pins s σ H Q I h => (pt_cmpR (op_cmpN C σ o) ha hb hm).run pins s σ H Q I ?_⟩
  obtain ⟨Z, ρ, Hf, lσ, hp, S, L, h⟩ := h
  simp only [evT, evE, R.bind_assoc] at h
  refine go_E S L h fun x h1 ρ1 Hf1 v H1 N1 S1 L1 r1 h => ?_
  refine go_E S1 L1 h fun y h2 ρ2 Hf2 u H2 N2 S2 L2 r2 h => ?_
  exact ⟨Z, ρ2, Hf2, h2, x, y, S2, r1.nx N2, r2, post_bl (fun t h e => cmpT_bl e) h⟩
/-- a call while an error is handled -/
theorem k_callH (C : KCx X P call G W CX D T0) {f : Nat} {x : Str} {e : Expr} {es : List Expr} {ies : Es} {p pos : Pos} (hx : T0.hf[f]? = some (some x)) (hg : Gl X x) (ha : PA X (e :: es) (tEs P call G W ies)) (hdb : (x == ("__debug__" : Str)) = false := by decide +kernel)
    (he : starEach (e :: es) X.env = (false, eval e X.env) :: starEach es X.env := by rfl) (hpl : (backTo pos (starEach es X.env)).any (·.1) = false := by rfl) (hT : T0.fn.isEmpty = true := by rfl) : PE X (.Call (.Name x p) (e :: es) [] pos) (tE P call G W (.callH f ies)) := by
  obtain ⟨F, hm, hk, hb⟩ := C.hfn f x hx
  refine PEimp (L2H.pe_callH (E := fun _ _ _ _ => False) F (C.rmH.mono (Nat.le_succ _)) (C.hot hT) hg hm hk hb (fun σ pins H s e s' I h => h.elim) ha hdb he hpl) fun σ H Q h => ?_
  obtain ⟨Z, ρ, Hf, lσ, hp, S, L, h⟩ := h
  simp only [evE] at h
  show tEs P call G W ies σ H _
  refine go_Es S L h fun vs h1 ρ1 Hf1 us H1 N1 S1 L1 r1 h => ?_
  split at h
  · rename_i hp2
    refine ⟨Z, ρ1, Hf1, h1, vs, S1, r1.plain hp2, ?_⟩
    generalize call f vs h1 = r at h ⊢
    cases r with
    | ok t h' => exact h
    | err c fs h' => exact h.elim
    | stuck => exact h.elim
  · exact h.elim
/-- for over a range, while an error is handled -/
theorem ks_forH (C : KCx X P call G W CX D T0) {tgE a : Expr} {ea : E} {b : List Stmt} {tg : List Nat} {ib : B} {pos p pos2 : Pos} (hgl : Gl X "range") (hm : X.mg "range" = none) (ha : PE X a (tE P call G W ea)) (hg : PG X tgE (tG G.K tg)) (hb : PSs X b (tB P call G W Wn ib))
    (hs : starEach [a] X.env = [(false, eval a X.env)] := by rfl) (hf : ∀ x, foldedSetIterable (.Call (.Name "range" p) [a] [] pos2) X.env x = pure x := by intro _; rfl) (hT : T0.fn.isEmpty = true := by rfl) : PS X (.For tgE (.Call (.Name "range" p) [a] [] pos2) b [] pos) (tS P call G W Wn (.forS tg (.rng1 ea) ib)) := by
  have hi : L2H.PIH X tgE (.Call (.Name "range" p) [a] [] pos2) (tI P call G W (.rng1 ea)) := by
    refine ⟨fun pins s σ H R I h => (L2H.pi_range1H hgl hm (pa_cons ha pa_nil hs) hs).run pins s σ H R I ?_⟩
    obtain ⟨Z, ρ, Hf, lσ, hp, S, L, h⟩ := h
    simp only [evI] at h
    refine go_E S L h fun x h1 ρ1 Hf1 v H1 N1 S1 L1 r1 h => ?_
    cases x with
    | int n =>
      obtain rfl := B_int r1
      simp only at h
      split at h
      · rename_i ok
        simp only [rngOk, Bool.and_eq_true, decide_eq_true_eq] at ok
        refine ⟨n, rfl, by omega, by omega, ?_⟩
        have e := h.ret S1 (wc_of (wr_rng 0 n))
        rw [Int.sub_zero] at e
        exact e
      · exact h.elim
    | _ => exact h.elim
  exact PSimp (L2H.ps_forH C.own (C.hot hT) hi hg hb hf) fun E σ H q => for_imp E σ H q
end
end Kb
end
section
namespace K02
open Kb
/-- two_to(length) slots length -/
def b_two_to : B := (B.cons (S.ret (E.bin .shl (E.cst (T.int 1)) (E.var 0))) B.nil)
/-- Share.__init__(self, over, under) slots self, over, under, divisor -/
def b_Shareu__initu_ : B := (B.cons (S.ite (E.cmp .eq (E.var 2) (E.cst (T.int 0))) (B.cons (S.rais 1 (Es.cons (E.var 2) Es.nil)) B.nil) B.nil) (B.cons (S.asg 3 (E.bf .gcd (Es.cons (E.var 1) (Es.cons (E.var 2) Es.nil)))) (B.cons (S.ite (E.cmp .lt (E.var 2) (E.cst (T.int 0))) (B.cons (S.asg 3 (E.neg (E.var 3))) B.nil) B.nil) (B.cons (S.setF (E.var 0) 0 (E.bin .fdiv (E.var 1) (E.var 3))) (B.cons (S.setF (E.var 0) 1 (E.bin .fdiv (E.var 2) (E.var 3))) B.nil)))))
/-- Share.__eq__(self, other) slots self, other -/
def b_Shareu__equ_ : B := (B.cons (S.ret (E.and (E.isi (E.var 1) [.cls 2]) (E.and (E.cmp .eq (E.fld (E.var 0) 0) (E.fld (E.var 1) 0)) (E.cmp .eq (E.fld (E.var 0) 1) (E.fld (E.var 1) 1))))) B.nil)
/-- Share.__add__(self, other) slots self, other -/
def b_Shareu__addu_ : B := (B.cons (S.ret (E.new 2 (Es.cons (E.bin .add (E.bin .mul (E.fld (E.var 0) 0) (E.fld (E.var 1) 1)) (E.bin .mul (E.fld (E.var 1) 0) (E.fld (E.var 0) 1))) (Es.cons (E.bin .mul (E.fld (E.var 0) 1) (E.fld (E.var 1) 1)) Es.nil)))) B.nil)
/-- Share.__sub__(self, other) slots self, other -/
def b_Shareu__subu_ : B := (B.cons (S.ret (E.new 2 (Es.cons (E.bin .sub (E.bin .mul (E.fld (E.var 0) 0) (E.fld (E.var 1) 1)) (E.bin .mul (E.fld (E.var 1) 0) (E.fld (E.var 0) 1))) (Es.cons (E.bin .mul (E.fld (E.var 0) 1) (E.fld (E.var 1) 1)) Es.nil)))) B.nil)
/-- Share.__mul__(self, other) slots self, other -/
def b_Shareu__mulu_ : B := (B.cons (S.ret (E.new 2 (Es.cons (E.bin .mul (E.fld (E.var 0) 0) (E.fld (E.var 1) 0)) (Es.cons (E.bin .mul (E.fld (E.var 0) 1) (E.fld (E.var 1) 1)) Es.nil)))) B.nil)
/-- Share.is_below(self, other) slots self, other -/
def b_Share_is_below : B := (B.cons (S.ret (E.cmp .lt (E.bin .mul (E.fld (E.var 0) 0) (E.fld (E.var 1) 1)) (E.bin .mul (E.fld (E.var 1) 0) (E.fld (E.var 0) 1)))) B.nil)
/-- half_of(length) slots length -/
def b_half_of : B := (B.cons (S.ret (E.new 2 (Es.cons (E.cst (T.int 1)) (Es.cons (E.call 0 (Es.cons (E.var 0) Es.nil)) Es.nil)))) B.nil)
def b__law_tape_L1 : B := (B.cons (S.asg 2 (E.bin .mod (E.bf .int (Es.cons (E.bin .add (E.bin .mul (E.var 2) (E.cst (T.int 48271))) (E.bf .int (Es.cons (E.var 3) Es.nil))) Es.nil)) (E.cst (T.int 2147483647)))) (B.cons (S.ite (E.cmp .ge (E.bf .abs (Es.cons (E.bf .int (Es.cons (E.var 3) Es.nil)) Es.nil)) (E.bin .pow (E.cst (T.int 10)) (E.cst (T.int 18)))) (B.cons (S.mb .append (E.var 1) (Es.cons (E.bf .abs (Es.cons (E.bf .int (Es.cons (E.var 3) Es.nil)) Es.nil)) Es.nil)) B.nil) B.nil) B.nil))
/-- _law_tape(script) slots script, great, seed, cell -/
def b__law_tape : B := (B.cons (S.asg 1 (E.al true (A.lst Es.nil))) (B.cons (S.asg 2 (E.cst (T.int 3))) (B.cons (S.forS [3] (It.e (E.sl (E.var 0) Eo.none (Eo.some (E.cst (T.int 63))))) b__law_tape_L1) (B.cons (S.mb .reverse (E.var 1) Es.nil) (B.cons (S.ret (E.al true (A.lst (Es.cons (E.var 1) (Es.cons (E.var 2) (Es.cons (E.cst (T.int 0)) Es.nil)))))) B.nil)))))
/-- _law_draw(tape, limit) slots tape, limit, great, mixed, number -/
def b__law_draw : B := (B.cons (S.asg 2 (E.idx (E.var 0) (E.cst (T.int 0)))) (B.cons (S.ite (E.var 2) (B.cons (S.mbA 4 .pop (E.var 2) Es.nil) (B.cons (S.ite (E.cmp .ge (E.var 4) (E.var 1)) (B.cons (S.mb .append (E.var 2) (Es.cons (E.bin .fdiv (E.var 4) (E.var 1)) Es.nil)) B.nil) B.nil) (B.cons (S.ret (E.bin .mod (E.bf .int (Es.cons (E.var 4) Es.nil)) (E.var 1))) B.nil))) B.nil) (B.cons (S.setI (E.var 0) (E.cst (T.int 2)) (E.bin .add (E.idx (E.var 0) (E.cst (T.int 2))) (E.cst (T.int 1)))) (B.cons (S.asg 3 (E.bin .mod (E.bf .int (Es.cons (E.bin .add (E.bin .mul (E.bf .int (Es.cons (E.bin .add (E.idx (E.var 0) (E.cst (T.int 1))) (E.idx (E.var 0) (E.cst (T.int 2)))) Es.nil)) (E.cst (T.int 69621))) (E.bin .mul (E.bin .mul (E.idx (E.var 0) (E.cst (T.int 2))) (E.idx (E.var 0) (E.cst (T.int 2)))) (E.cst (T.int 40692)))) Es.nil)) (E.cst (T.int 2147483629)))) (B.cons (S.ret (E.bin .mod (E.bin .fdiv (E.bin .mod (E.bf .int (Es.cons (E.bin .add (E.bin .mul (E.var 3) (E.var 3)) (E.bin .mul (E.idx (E.var 0) (E.cst (T.int 2))) (E.cst (T.int 48271)))) Es.nil)) (E.cst (T.int 2147483647))) (E.cst (T.int 11))) (E.var 1))) B.nil)))))
def b__law_number_L1 : B := (B.cons (S.asg 2 (E.bin .mul (E.var 2) (E.bin .add (E.bin .pow (E.cst (T.int 10)) (E.cst (T.int 64))) (E.call 9 (Es.cons (E.var 0) (Es.cons (E.cst (T.int 10000)) Es.nil)))))) B.nil)
/-- _law_number(tape) slots tape, kind, number, k -/
def b__law_number : B := (B.cons (S.asg 1 (E.call 9 (Es.cons (E.var 0) (Es.cons (E.cst (T.int 6)) Es.nil)))) (B.cons (S.asg 2 (E.bin .sub (E.call 9 (Es.cons (E.var 0) (Es.cons (E.cst (T.int 25)) Es.nil))) (E.cst (T.int 12)))) (B.cons (S.ite (E.cmp .eq (E.var 1) (E.cst (T.int 0))) (B.cons (S.asg 2 (E.bin .add (E.bin .pow (E.cst (T.int 10)) (E.cst (T.int 64))) (E.call 9 (Es.cons (E.var 0) (Es.cons (E.cst (T.int 10000)) Es.nil))))) (B.cons (S.forS [3] (It.rng1 (E.call 9 (Es.cons (E.var 0) (Es.cons (E.cst (T.int 6)) Es.nil)))) b__law_number_L1) B.nil)) B.nil) (B.cons (S.ite (E.cmp .eq (E.var 1) (E.cst (T.int 1))) (B.cons (S.asg 2 (E.bin .add (E.bin .mul (E.call 9 (Es.cons (E.var 0) (Es.cons (E.cst (T.int 100000)) Es.nil))) (E.cst (T.int 100000))) (E.call 9 (Es.cons (E.var 0) (Es.cons (E.cst (T.int 100000)) Es.nil))))) B.nil) B.nil) (B.cons (S.ite (E.and (E.cmp .lt (E.var 1) (E.cst (T.int 2))) (E.cmp .eq (E.call 9 (Es.cons (E.var 0) (Es.cons (E.cst (T.int 2)) Es.nil))) (E.cst (T.int 1)))) (B.cons (S.ret (E.neg (E.var 2))) B.nil) B.nil) (B.cons (S.ret (E.var 2)) B.nil))))))
def b__law_lowest_L1 : B := (B.cons (S.ite (E.cmp .eq (E.var 3) (E.cst (T.int 0))) (B.cons S.brk B.nil) B.nil) (B.cons (S.asg 5 (E.bin .mod (E.bf .int (Es.cons (E.var 2) Es.nil)) (E.var 3))) (B.cons (S.asg 2 (E.var 3)) (B.cons (S.asg 3 (E.var 5)) B.nil))))
/-- _law_lowest(over, under) slots over, under, low, rest, k, more -/
def b__law_lowest : B := (B.cons (S.asg 2 (E.bf .abs (Es.cons (E.var 1) Es.nil))) (B.cons (S.asg 3 (E.bf .abs (Es.cons (E.var 0) Es.nil))) (B.cons (S.forS [4] (It.rng1 (E.cst (T.int 9000))) b__law_lowest_L1) (B.cons (S.ite (E.cmp .lt (E.var 1) (E.cst (T.int 0))) (B.cons (S.ret (E.al false (A.lst (Es.cons (E.bin .fdiv (E.neg (E.var 0)) (E.var 2)) (Es.cons (E.bin .fdiv (E.neg (E.var 1)) (E.var 2)) Es.nil))))) B.nil) B.nil) (B.cons (S.ret (E.al false (A.lst (Es.cons (E.bin .fdiv (E.var 0) (E.var 2)) (Es.cons (E.bin .fdiv (E.var 1) (E.var 2)) Es.nil))))) B.nil)))))
/-- _law_integer(told, due) slots told, due -/
def b__law_integer : B := (B.cons (S.ret (E.and (E.isi (E.var 0) [.int]) (E.and (E.not (E.isi (E.var 0) [.bool])) (E.cmp .eq (E.var 0) (E.var 1))))) B.nil)
/-- _law_is(told, due) slots told, due -/
def b__law_is : B := (B.cons (S.ite (E.not (E.isi (E.var 0) [.cls 2])) (B.cons (S.ret (E.cst (T.bl false))) B.nil) B.nil) (B.cons (S.ret (E.and (E.call 12 (Es.cons (E.fld (E.var 0) 0) (Es.cons (E.idx (E.var 1) (E.cst (T.int 0))) Es.nil))) (E.call 12 (Es.cons (E.fld (E.var 0) 1) (Es.cons (E.idx (E.var 1) (E.cst (T.int 1))) Es.nil))))) B.nil))
/-- _law_sum(one, other) slots one, other -/
def b__law_sum : B := (B.cons (S.ret (E.call 11 (Es.cons (E.bin .add (E.bin .mul (E.idx (E.var 0) (E.cst (T.int 0))) (E.idx (E.var 1) (E.cst (T.int 1)))) (E.bin .mul (E.idx (E.var 1) (E.cst (T.int 0))) (E.idx (E.var 0) (E.cst (T.int 1))))) (Es.cons (E.bin .mul (E.idx (E.var 0) (E.cst (T.int 1))) (E.idx (E.var 1) (E.cst (T.int 1)))) Es.nil)))) B.nil)
/-- _law_less(one, other) slots one, other -/
def b__law_less : B := (B.cons (S.ret (E.call 11 (Es.cons (E.bin .sub (E.bin .mul (E.idx (E.var 0) (E.cst (T.int 0))) (E.idx (E.var 1) (E.cst (T.int 1)))) (E.bin .mul (E.idx (E.var 1) (E.cst (T.int 0))) (E.idx (E.var 0) (E.cst (T.int 1))))) (Es.cons (E.bin .mul (E.idx (E.var 0) (E.cst (T.int 1))) (E.idx (E.var 1) (E.cst (T.int 1)))) Es.nil)))) B.nil)
/-- _law_times(one, other) slots one, other -/
def b__law_times : B := (B.cons (S.ret (E.call 11 (Es.cons (E.bin .mul (E.idx (E.var 0) (E.cst (T.int 0))) (E.idx (E.var 1) (E.cst (T.int 0)))) (Es.cons (E.bin .mul (E.idx (E.var 0) (E.cst (T.int 1))) (E.idx (E.var 1) (E.cst (T.int 1)))) Es.nil)))) B.nil)
/-- _law_pair_right(one, other, first, second) slots one, other, first, second, alike, told, below -/
def b__law_pair_right : B := (B.cons (S.ite (E.not (E.call 13 (Es.cons (E.bin .add (E.var 0) (E.var 1)) (Es.cons (E.call 14 (Es.cons (E.var 2) (Es.cons (E.var 3) Es.nil))) Es.nil)))) (B.cons (S.ret (E.cst (T.bl false))) B.nil) B.nil) (B.cons (S.ite (E.not (E.call 13 (Es.cons (E.bin .sub (E.var 0) (E.var 1)) (Es.cons (E.call 15 (Es.cons (E.var 2) (Es.cons (E.var 3) Es.nil))) Es.nil)))) (B.cons (S.ret (E.cst (T.bl false))) B.nil) B.nil) (B.cons (S.ite (E.not (E.call 13 (Es.cons (E.bin .mul (E.var 0) (E.var 1)) (Es.cons (E.call 16 (Es.cons (E.var 2) (Es.cons (E.var 3) Es.nil))) Es.nil)))) (B.cons (S.ret (E.cst (T.bl false))) B.nil) B.nil) (B.cons (S.asg 4 (E.and (E.cmp .eq (E.idx (E.var 2) (E.cst (T.int 0))) (E.idx (E.var 3) (E.cst (T.int 0)))) (E.cmp .eq (E.idx (E.var 2) (E.cst (T.int 1))) (E.idx (E.var 3) (E.cst (T.int 1)))))) (B.cons (S.asg 5 (E.cmp .eq (E.var 0) (E.var 1))) (B.cons (S.ite (E.not (E.ife (E.var 4) (E.cmp .is (E.var 5) (E.cst (T.bl true))) (E.cmp .is (E.var 5) (E.cst (T.bl false))))) (B.cons (S.ret (E.cst (T.bl false))) B.nil) B.nil) (B.cons (S.asg 5 (E.cmp .ne (E.var 0) (E.var 1))) (B.cons (S.ite (E.not (E.ife (E.var 4) (E.cmp .is (E.var 5) (E.cst (T.bl false))) (E.cmp .is (E.var 5) (E.cst (T.bl true))))) (B.cons (S.ret (E.cst (T.bl false))) B.nil) B.nil) (B.cons (S.asg 6 (E.cmp .lt (E.bin .mul (E.idx (E.var 2) (E.cst (T.int 0))) (E.idx (E.var 3) (E.cst (T.int 1)))) (E.bin .mul (E.idx (E.var 3) (E.cst (T.int 0))) (E.idx (E.var 2) (E.cst (T.int 1)))))) (B.cons (S.asg 5 (E.meth (E.var 0) 2 (Es.cons (E.var 1) Es.nil))) (B.cons (S.ite (E.not (E.ife (E.var 6) (E.cmp .is (E.var 5) (E.cst (T.bl true))) (E.cmp .is (E.var 5) (E.cst (T.bl false))))) (B.cons (S.ret (E.cst (T.bl false))) B.nil) B.nil) (B.cons (S.asg 5 (E.methK (E.var 0) 2 Es.nil (Es.cons (E.var 1) Es.nil) [.inl 0])) (B.cons (S.ret (E.ife (E.var 6) (E.cmp .is (E.var 5) (E.cst (T.bl true))) (E.cmp .is (E.var 5) (E.cst (T.bl false))))) B.nil)))))))))))))
def b__law_strangers_right_L1 : B := (B.cons (S.asg 4 (E.cmp .eq (E.var 0) (E.var 3))) (B.cons (S.ite (E.cmp .isNot (E.var 4) (E.cst (T.bl false))) (B.cons (S.ret (E.cst (T.bl false))) B.nil) B.nil) (B.cons (S.asg 4 (E.cmp .ne (E.var 0) (E.var 3))) (B.cons (S.ite (E.cmp .isNot (E.var 4) (E.cst (T.bl true))) (B.cons (S.ret (E.cst (T.bl false))) B.nil) B.nil) B.nil))))
/-- _law_strangers_right(share, due) slots share, due, things, thing, told -/
def b__law_strangers_right : B := (B.cons (S.asg 2 (E.al false (A.lst (Es.cons (E.cst T.non) (Es.cons (E.idx (E.var 1) (E.cst (T.int 0))) (Es.cons (E.cmp .eq (E.idx (E.var 1) (E.cst (T.int 0))) (E.idx (E.var 1) (E.cst (T.int 1)))) (Es.cons (E.tup (Es.cons (E.idx (E.var 1) (E.cst (T.int 0))) (Es.cons (E.idx (E.var 1) (E.cst (T.int 1))) Es.nil))) (Es.cons (E.al false (A.lst (Es.cons (E.idx (E.var 1) (E.cst (T.int 0))) (Es.cons (E.idx (E.var 1) (E.cst (T.int 1))) Es.nil)))) (Es.cons (E.cst (T.str [49])) (Es.cons (E.bin .fdiv (E.idx (E.var 1) (E.cst (T.int 0))) (E.idx (E.var 1) (E.cst (T.int 1)))) Es.nil)))))))))) (B.cons (S.forS [3] (It.e (E.var 2)) b__law_strangers_right_L1) (B.cons (S.ret (E.cst (T.bl true))) B.nil)))
/-- _law_refused(over, by_name) slots over, by_name, e -/
def b__law_refused : B := (B.cons (S.tryS (B.cons (S.ite (E.var 1) (B.cons (S.ex (E.newK 2 Es.nil (Es.cons (E.cst (T.int 0)) (Es.cons (E.var 0) Es.nil)) [.inl 1, .inl 0])) B.nil) (B.cons (S.ex (E.new 2 (Es.cons (E.var 0) (Es.cons (E.cst (T.int 0)) Es.nil)))) B.nil)) B.nil) (Hs.cons 1 (some 2) (B.cons (S.ret (E.callH 23 (Es.cons (E.xf 2 3) (Es.cons (E.cst (T.int 0)) Es.nil)))) B.nil) Hs.nil)) (B.cons (S.ret (E.cst (T.bl false))) B.nil))
def b__law_chain_right_L1 : B := (B.cons (S.asg 4 (E.bin .sub (E.call 9 (Es.cons (E.var 0) (Es.cons (E.cst (T.int 41)) Es.nil))) (E.cst (T.int 20)))) (B.cons (S.asg 5 (E.bin .add (E.call 9 (Es.cons (E.var 0) (Es.cons (E.cst (T.int 12)) Es.nil))) (E.cst (T.int 1)))) (B.cons (S.asg 6 (E.new 2 (Es.cons (E.var 4) (Es.cons (E.var 5) Es.nil)))) (B.cons (S.asg 7 (E.call 9 (Es.cons (E.var 0) (Es.cons (E.cst (T.int 3)) Es.nil)))) (B.cons (S.ite (E.cmp .eq (E.var 7) (E.cst (T.int 0))) (B.cons (S.asg 2 (E.bin .add (E.var 2) (E.var 6))) (B.cons (S.asg 1 (E.call 14 (Es.cons (E.var 1) (Es.cons (E.al false (A.lst (Es.cons (E.var 4) (Es.cons (E.var 5) Es.nil)))) Es.nil)))) B.nil)) B.nil) (B.cons (S.ite (E.cmp .eq (E.var 7) (E.cst (T.int 1))) (B.cons (S.asg 2 (E.bin .sub (E.var 2) (E.var 6))) (B.cons (S.asg 1 (E.call 15 (Es.cons (E.var 1) (Es.cons (E.al false (A.lst (Es.cons (E.var 4) (Es.cons (E.var 5) Es.nil)))) Es.nil)))) B.nil)) B.nil) (B.cons (S.ite (E.cmp .eq (E.var 7) (E.cst (T.int 2))) (B.cons (S.asg 2 (E.bin .mul (E.var 2) (E.var 6))) (B.cons (S.asg 1 (E.call 16 (Es.cons (E.var 1) (Es.cons (E.al false (A.lst (Es.cons (E.var 4) (Es.cons (E.var 5) Es.nil)))) Es.nil)))) B.nil)) B.nil) (B.cons (S.ite (E.not (E.call 13 (Es.cons (E.var 2) (Es.cons (E.var 1) Es.nil)))) (B.cons (S.ret (E.cst (T.bl false))) B.nil) B.nil) B.nil))))))))
/-- _law_chain_right(tape) slots tape, due, share, k, over, under, step, kind -/
def b__law_chain_right : B := (B.cons (S.asg 1 (E.al false (A.lst (Es.cons (E.bin .sub (E.call 9 (Es.cons (E.var 0) (Es.cons (E.cst (T.int 9)) Es.nil))) (E.cst (T.int 4))) (Es.cons (E.cst (T.int 1)) Es.nil))))) (B.cons (S.asg 2 (E.new 2 (Es.cons (E.idx (E.var 1) (E.cst (T.int 0))) (Es.cons (E.cst (T.int 1)) Es.nil)))) (B.cons (S.forS [3] (It.rng1 (E.call 9 (Es.cons (E.var 0) (Es.cons (E.cst (T.int 6)) Es.nil)))) b__law_chain_right_L1) (B.cons (S.ret (E.cst (T.bl true))) B.nil))))
def b__law_asks_L1 : B := (B.cons (S.asg 9 (E.call 10 (Es.cons (E.var 1) Es.nil))) (B.cons (S.ite (E.cmp .eq (E.var 9) (E.cst (T.int 0))) (B.cons (S.asg 9 (E.neg (E.cst (T.int 1)))) B.nil) B.nil) (B.cons (S.mb .append (E.var 2) (Es.cons (E.al false (A.lst (Es.cons (E.call 10 (Es.cons (E.var 1) Es.nil)) (Es.cons (E.var 9) Es.nil)))) Es.nil)) B.nil)))
def b__law_asks_C1 : E := (E.call 11 (Es.cons (E.idx (E.var 7) (E.cst (T.int 0))) (Es.cons (E.idx (E.var 7) (E.cst (T.int 1))) Es.nil)))
def b__law_asks_L2 : B := (B.cons (S.ite (E.or (E.not (E.call 13 (Es.cons (E.idx (E.var 5) (E.var 3)) (Es.cons (E.idx (E.var 6) (E.var 3)) Es.nil)))) (E.not (E.call 18 (Es.cons (E.idx (E.var 5) (E.var 3)) (Es.cons (E.idx (E.var 6) (E.var 3)) Es.nil))))) (B.cons (S.ret (E.cst (T.bl false))) B.nil) B.nil) B.nil)
def b__law_asks_L3 : B := (B.cons (S.ite (E.not (E.call 17 (Es.cons (E.idx (E.var 5) (E.idx (E.var 7) (E.cst (T.int 0)))) (Es.cons (E.idx (E.var 5) (E.idx (E.var 7) (E.cst (T.int 1)))) (Es.cons (E.idx (E.var 6) (E.idx (E.var 7) (E.cst (T.int 0)))) (Es.cons (E.idx (E.var 6) (E.idx (E.var 7) (E.cst (T.int 1)))) Es.nil)))))) (B.cons (S.ret (E.cst (T.bl false))) B.nil) B.nil) B.nil)
def b__law_asks_L4 : B := (B.cons (S.ite (E.not (E.call 13 (Es.cons (E.idx (E.var 5) (E.var 3)) (Es.cons (E.idx (E.var 6) (E.var 3)) Es.nil)))) (B.cons (S.ret (E.cst (T.bl false))) B.nil) B.nil) B.nil)
/-- _law_asks(script) slots script, tape, numbers, k, shape, made, due, pair, length, under, times -/
def b__law_asks : B := (B.cons (S.asg 1 (E.call 8 (Es.cons (E.var 0) Es.nil))) (B.cons (S.own 2 (A.lst Es.nil)) (B.cons (S.forS [3] (It.rng1 (E.cst (T.int 3))) b__law_asks_L1) (B.cons (S.asg 4 (E.call 9 (Es.cons (E.var 1) (Es.cons (E.cst (T.int 4)) Es.nil)))) (B.cons (S.ite (E.cmp .eq (E.var 4) (E.cst (T.int 0))) (B.cons (S.asg 10 (E.bin .sub (E.call 9 (Es.cons (E.var 1) (Es.cons (E.cst (T.int 13)) Es.nil))) (E.cst (T.int 6)))) (B.cons (S.ite (E.cmp .eq (E.var 10) (E.cst (T.int 0))) (B.cons (S.asg 10 (E.neg (E.cst (T.int 7)))) B.nil) B.nil) (B.cons (S.setI (E.var 2) (E.cst (T.int 1)) (E.al false (A.lst (Es.cons (E.bin .mul (E.idx (E.idx (E.var 2) (E.cst (T.int 0))) (E.cst (T.int 0))) (E.var 10)) (Es.cons (E.bin .mul (E.idx (E.idx (E.var 2) (E.cst (T.int 0))) (E.cst (T.int 1))) (E.var 10)) Es.nil))))) B.nil))) B.nil) (B.cons (S.ite (E.cmp .eq (E.var 4) (E.cst (T.int 1))) (B.cons (S.setI (E.var 2) (E.cst (T.int 1)) (E.al false (A.lst (Es.cons (E.bin .add (E.bin .fdiv (E.idx (E.idx (E.var 2) (E.cst (T.int 0))) (E.cst (T.int 0))) (E.cst (T.int 7))) (E.cst (T.int 1))) (Es.cons (E.idx (E.idx (E.var 2) (E.cst (T.int 0))) (E.cst (T.int 1))) Es.nil))))) B.nil) B.nil) (B.cons (S.own 5 (A.lst (Es.cons (E.new 2 (Es.cons (E.idx (E.idx (E.var 2) (E.cst (T.int 0))) (E.cst (T.int 0))) (Es.cons (E.idx (E.idx (E.var 2) (E.cst (T.int 0))) (E.cst (T.int 1))) Es.nil))) (Es.cons (E.newK 2 Es.nil (Es.cons (E.idx (E.idx (E.var 2) (E.cst (T.int 1))) (E.cst (T.int 0))) (Es.cons (E.idx (E.idx (E.var 2) (E.cst (T.int 1))) (E.cst (T.int 1))) Es.nil)) [.inl 0, .inl 1]) Es.nil)))) (B.cons (S.mb .append (E.var 5) (Es.cons (E.new 2 (Es.cons (E.idx (E.idx (E.var 2) (E.cst (T.int 2))) (E.cst (T.int 0))) (Es.cons (E.idx (E.idx (E.var 2) (E.cst (T.int 2))) (E.cst (T.int 1))) Es.nil))) Es.nil)) (B.cons (S.frz 2) (B.cons (S.asg 6 (E.al false (A.lc (It.e (E.var 2)) [7] [7] Eo.none b__law_asks_C1))) (B.cons (S.forS [3] (It.rng1 (E.cst (T.int 3))) b__law_asks_L2) (B.cons (S.forS [7] (It.e (E.al false (A.lst (Es.cons (E.tup (Es.cons (E.cst (T.int 0)) (Es.cons (E.cst (T.int 1)) Es.nil))) (Es.cons (E.tup (Es.cons (E.cst (T.int 1)) (Es.cons (E.cst (T.int 2)) Es.nil))) (Es.cons (E.tup (Es.cons (E.cst (T.int 2)) (Es.cons (E.cst (T.int 0)) Es.nil))) (Es.cons (E.tup (Es.cons (E.cst (T.int 1)) (Es.cons (E.cst (T.int 1)) Es.nil))) Es.nil))))))) b__law_asks_L3) (B.cons (S.forS [3] (It.rng1 (E.cst (T.int 3))) b__law_asks_L4) (B.cons (S.ite (E.or (E.not (E.call 19 (Es.cons (E.idx (E.idx (E.var 2) (E.cst (T.int 0))) (E.cst (T.int 0))) (Es.cons (E.cmp .eq (E.var 4) (E.cst (T.int 2))) Es.nil)))) (E.not (E.call 20 (Es.cons (E.var 1) Es.nil)))) (B.cons (S.ret (E.cst (T.bl false))) B.nil) B.nil) (B.cons (S.asg 8 (E.call 9 (Es.cons (E.var 1) (Es.cons (E.cst (T.int 201)) Es.nil)))) (B.cons (S.ite (E.cmp .eq (E.var 4) (E.cst (T.int 3))) (B.cons (S.asg 8 (E.call 9 (Es.cons (E.var 1) (Es.cons (E.cst (T.int 4)) Es.nil)))) B.nil) B.nil) (B.cons (S.ret (E.and (E.call 13 (Es.cons (E.call 7 (Es.cons (E.var 8) Es.nil)) (Es.cons (E.al false (A.lst (Es.cons (E.cst (T.int 1)) (Es.cons (E.bin .shl (E.cst (T.int 1)) (E.var 8)) Es.nil)))) Es.nil))) (E.call 13 (Es.cons (E.callK 7 Es.nil (Es.cons (E.var 8) Es.nil) [.inl 0]) (Es.cons (E.al false (A.lst (Es.cons (E.cst (T.int 1)) (Es.cons (E.bin .shl (E.cst (T.int 1)) (E.var 8)) Es.nil)))) Es.nil))))) B.nil)))))))))))))))))
/-- law(script) slots script -/
def b_law : B := (B.cons (S.tryN (B.cons (S.ret (E.call 21 (Es.cons (E.var 0) Es.nil))) B.nil)) B.nil)
/-- hot._law_integer(told, due) slots told, due -/
def b_hotu_law_integer : B := (B.cons (S.ret (E.and (E.isi (E.var 0) [.int]) (E.and (E.not (E.isi (E.var 0) [.bool])) (E.cmpN .eq (E.var 0) (E.var 1))))) B.nil)
def prog : Prog where
  defs := [⟨1, 1, b_two_to⟩,
    ⟨3, 4, b_Shareu__initu_⟩,
    ⟨2, 2, b_Shareu__equ_⟩,
    ⟨2, 2, b_Shareu__addu_⟩,
    ⟨2, 2, b_Shareu__subu_⟩,
    ⟨2, 2, b_Shareu__mulu_⟩,
    ⟨2, 2, b_Share_is_below⟩,
    ⟨1, 1, b_half_of⟩,
    ⟨1, 4, b__law_tape⟩,
    ⟨2, 5, b__law_draw⟩,
    ⟨1, 4, b__law_number⟩,
    ⟨2, 6, b__law_lowest⟩,
    ⟨2, 2, b__law_integer⟩,
    ⟨2, 2, b__law_is⟩,
    ⟨2, 2, b__law_sum⟩,
    ⟨2, 2, b__law_less⟩,
    ⟨2, 2, b__law_times⟩,
    ⟨4, 7, b__law_pair_right⟩,
    ⟨2, 5, b__law_strangers_right⟩,
    ⟨2, 3, b__law_refused⟩,
    ⟨1, 8, b__law_chain_right⟩,
    ⟨1, 11, b__law_asks⟩,
    ⟨1, 1, b_law⟩,
    ⟨2, 2, b_hotu_law_integer⟩]
  cls := [⟨2, none, [], [], []⟩,
    ⟨2, none, [], [3], [0]⟩,
    ⟨1, (some 1), [(4, 2), (5, 3), (6, 4), (7, 5), (2, 6)], [], []⟩]
  globs := []
  exc := true
  mAdd := 5
  mSub := 6
  mMul := 7
  mEq := 4
/- names: 0 over, 1 under, 2 is_below, 3 number, 4 __eq__, 5 __add__, 6 __sub__, 7 __mul__ -/
/- classes: 0 BudgetError, 1 InvalidNumber, 2 Share -/
/- defs: 0 two_to, 1 Share.__init__, 2 Share.__eq__, 3 Share.__add__, 4 Share.__sub__, 5 Share.__mul__, 6 Share.is_below, 7 half_of, 8 _law_tape, 9 _law_draw, 10 _law_number, 11 _law_lowest, 12 _law_integer, 13 _law_is, 14 _law_sum, 15 _law_less, 16 _law_times, 17 _law_pair_right, 18 _law_strangers_right, 19 _law_refused, 20 _law_chain_right, 21 _law_asks, 22 law, 23 hot._law_integer -/
end K02
end
section
set_option Elab.async false
set_option linter.all false
set_option maxRecDepth 100000
set_option maxHeartbeats 4000000
set_option autoImplicit false
namespace K02
open Kb PySem PySem.Spec PyProof.Rows L2
def top (i : Nat) : Stmt := PySem.Challenge.pw_keptbudgets_k02_shares_in_lowest_terms.main.body.getD i (.Pass ⟨0, 0, 0, 0⟩)
def nmL : List Str := ["over", "under", "is_below", "number", "__eq__", "__add__", "__sub__", "__mul__"]
def tab : Tab := ⟨[some "two_to", none, none, none, none, none, none, some "half_of", some "_law_tape", some "_law_draw", some "_law_number", some "_law_lowest", some "_law_integer", some "_law_is", some "_law_sum", some "_law_less", some "_law_times", some "_law_pair_right", some "_law_strangers_right", some "_law_refused", some "_law_chain_right", some "_law_asks", some "law", none], [none, none, some "Share"], [true, true, false, true, false, false, false, false], [], [none, none, none, none, none, none, none, none, none, none, none, none, none, none, none, none, none, none, none, none, none, none, none, some "_law_integer"]⟩
def ini : List (Option Nat) := [none, some 2, none, none, none, none, none, none, none, none, none, none, none, none, none, none, none, none, none, none, none, none, none, none]
def cokB : Nat → Bool := fun c => [2].contains c
abbrev gm (K : PySem.W.Frag) (ca : Nat → Addr) : Gm := ⟨K, ca, nmL, fun c => cokB c = true⟩
abbrev okf (f : Nat) : Prop := [0, 1, 2, 3, 4, 5, 6, 7, 8, 9, 10, 11, 12, 13, 14, 15, 16, 17, 18, 19, 20, 21, 22].contains f = true
abbrev okh (f : Nat) : Prop := (([23] : List Nat).contains f) = true
abbrev s_0 : Stmt := top 5
abbrev s_1 : Stmt := inClass (top 6) 0
abbrev s_2 : Stmt := inClass (top 6) 1
abbrev s_3 : Stmt := inClass (top 6) 2
abbrev s_4 : Stmt := inClass (top 6) 3
abbrev s_5 : Stmt := inClass (top 6) 4
abbrev s_6 : Stmt := inClass (top 6) 5
abbrev s_7 : Stmt := top 7
abbrev s_8 : Stmt := top 9
abbrev s_9 : Stmt := top 10
abbrev s_10 : Stmt := top 11
abbrev s_11 : Stmt := top 12
abbrev s_12 : Stmt := top 13
abbrev s_13 : Stmt := top 14
abbrev s_14 : Stmt := top 15
abbrev s_15 : Stmt := top 16
abbrev s_16 : Stmt := top 17
abbrev s_17 : Stmt := top 18
abbrev s_18 : Stmt := top 19
abbrev s_19 : Stmt := top 20
abbrev s_20 : Stmt := top 21
abbrev s_21 : Stmt := top 22
abbrev s_22 : Stmt := top 23
structure Txt (K : PySem.W.Frag) (mg : Str → Option Value) (ca : Nat → Addr) (D : Dat) : Prop where
  z_abs : mg "abs" = none
  z_bool : mg "bool" = none
  z_int : mg "int" = none
  z_isinstance : mg "isinstance" = none
  z_range : mg "range" = none
  g_gcd : mg "gcd" = some (.builtin "math.gcd")
  c_Share : mg "Share" = some (.ref (ca 2))
  m_InvalidNumber : mg "InvalidNumber" = some (.ref (ca 1))
  e_InvalidNumber : ∀ (Pg : Program) (w : World) (base : Heap), ∃ (fI : Addr) (fd : FuncData) (ps : List Str), ErrC K (ca 1) fI ∧ Binds K fd ps [] ∧ FnOk Pg w K mg base CX0 1 fI fd ps (spE (ca 1) ["number"])
  et : ErrT prog (gm K ca) [1]
  xf_number : ErrF prog (gm K ca) 3 "number"
  kb_0 : KBn K (D.fd 6) (D.ps 6) 1 (["other"] : List Str) (fun us ws => arrW (us ++ ws) ([.inl 0, .inl 1] : List (Nat ⊕ T))) (fun vs zs => arrV (vs ++ zs) ([.inl 0, .inl 1] : List (Nat ⊕ T)))
  kb_1 : KBn K (D.fd 1) (D.ps 1) 1 (["under", "over"] : List Str) (fun us ws => arrW (us ++ ws) ([.inl 0, .inl 2, .inl 1] : List (Nat ⊕ T))) (fun vs zs => arrV (vs ++ zs) ([.inl 0, .inl 2, .inl 1] : List (Nat ⊕ T)))
  kb_2 : KBn K (D.fd 7) (D.ps 7) 0 (["length"] : List Str) (fun us ws => arrW (us ++ ws) ([.inl 0] : List (Nat ⊕ T))) (fun vs zs => arrV (vs ++ zs) ([.inl 0] : List (Nat ⊕ T)))
  kb_3 : KBn K (D.fd 1) (D.ps 1) 1 (["over", "under"] : List Str) (fun us ws => arrW (us ++ ws) ([.inl 0, .inl 1, .inl 2] : List (Nat ⊕ T))) (fun vs zs => arrV (vs ++ zs) ([.inl 0, .inl 1, .inl 2] : List (Nat ⊕ T)))
theorem opnm {K : PySem.W.Frag} {ca : Nat → Addr} : OpNm prog (gm K ca) := ⟨fun h => by first | rfl | exact absurd h (by decide), fun h => by first | rfl | exact absurd h (by decide), fun h => by first | rfl | exact absurd h (by decide), fun h => by first | rfl | exact absurd h (by decide), fun c k h m hm => by
  have hk : k ∈ prog.cls := List.mem_of_getElem? h
  have all : ∀ k ∈ prog.cls, ∀ p ∈ k.meths, p.1 < 1000 := by decide
  have key : ∀ l : List (Nat × Nat), (∀ p ∈ l, p.1 < 1000) → lkN m l = none := fun l => by
    induction l with
    | nil => exact fun _ => rfl
    | cons p l ih =>
      intro hp
      have h1 := hp p List.mem_cons_self
      show (if p.1 = m then some p.2 else lkN m l) = none
      rw [if_neg (by omega)]
      exact ih fun q hq => hp q (List.mem_cons_of_mem _ hq)
  exact key _ (all k hk)⟩
theorem mk1_is_below {K : PySem.W.Frag} {D : Dat} {ks : List Str} {g : List Value → List Value → List Value} {gV : List V → List V → List V} (h : KBn K (D.fd 6) (D.ps 6) 1 ks g gV) : ∀ (c f : Nat) (kc : Kb.Cls), prog.cls[c]? = some kc → lkN 2 kc.meths = some f → ∃ g, KBn K (D.fd f) (D.ps f) 1 ks g gV := by
  intro c f kc h1 h2
  have e : f = 6 := by
    have hm := List.mem_of_getElem? h1
    simp only [prog, List.mem_cons, List.not_mem_nil, or_false] at hm
    rcases hm with rfl | rfl | rfl <;> simp [lkN] at h2 <;> omega
  subst e
  exact ⟨g, h⟩
section
variable {Pg : Program} {w : World} {K : PySem.W.Frag} {mg : Str → Option Value} {base : Heap} {ca : Nat → Addr} {D : Dat} {Wn d : Nat}
theorem w_0 (Tx : Txt K mg ca D) (fa : Addr) (cdv : Value) (A : Around) (outer : List Env) (s : Shared) (H : L2.Hp) (E : XK) (C : KCx (cxOf (L2N.CX Pg w) Pg w K mg base (["length"] : List Str) "two_to" (defScope s_0) fa cdv A outer s H E) prog (run prog Wn d) (gm K ca) (WE0 E) (L2N.CX Pg w) (lvD D d) tab) :
    PSs (cxOf (L2N.CX Pg w) Pg w K mg base (["length"] : List Str) "two_to" (defScope s_0) fa cdv A outer s H E) (defBody s_0) (tB prog (run prog Wn d) (gm K ca) (WE0 E) Wn b_two_to) :=
  (kb_cons (ks_ret (k_bin C opnm k_int (k_var (by rfl) (by rfl)))) kb_nil)
theorem w_1 (Tx : Txt K mg ca D) (fa : Addr) (cdv : Value) (A : Around) (outer : List Env) (s : Shared) (H : L2.Hp) (E : XK) (C : KCx (cxOf (L2N.CX Pg w) Pg w K mg base (["self", "over", "under", "divisor"] : List Str) "Share.__init__" (defScope s_1) fa cdv A outer s H E) prog (run prog Wn d) (gm K ca) (WE0 E) (L2N.CX Pg w) (lvD D d) tab) :
    PSs (cxOf (L2N.CX Pg w) Pg w K mg base (["self", "over", "under", "divisor"] : List Str) "Share.__init__" (defScope s_1) fa cdv A outer s H E) (defBody s_1) (tB prog (run prog Wn d) (gm K ca) (WE0 E) Wn b_Shareu__initu_) :=
  (kb_cons (ks_if (kt_cmp C opnm (k_var (by rfl) (by rfl)) k_int) (kb_cons (kp_rais C (by rfl) (by rfl) (by rfl) Tx.e_InvalidNumber Tx.m_InvalidNumber (by rfl) (ka_cons (k_var (by rfl) (by rfl)) ka_nil)) kb_nil) kb_nil) (kb_cons (ks_asg C (by rfl) (by rfl) (k_bfun call_gcdT (by rfl) Tx.g_gcd (ka_cons (k_var (by rfl) (by rfl)) (ka_cons (k_var (by rfl) (by rfl)) ka_nil)))) (kb_cons (ks_if (kt_cmp C opnm (k_var (by rfl) (by rfl)) k_int) (kb_cons (ks_asg C (by rfl) (by rfl) (k_neg (k_var (by rfl) (by rfl)))) kb_nil) kb_nil) (kb_cons (ks_setFv C (by rfl) (by rfl) (by rfl) (by rfl) (k_bin C opnm (k_var (by rfl) (by rfl)) (k_var (by rfl) (by rfl)))) (kb_cons (ks_setFv C (by rfl) (by rfl) (by rfl) (by rfl) (k_bin C opnm (k_var (by rfl) (by rfl)) (k_var (by rfl) (by rfl)))) kb_nil)))))
theorem w_2 (Tx : Txt K mg ca D) (fa : Addr) (cdv : Value) (A : Around) (outer : List Env) (s : Shared) (H : L2.Hp) (E : XK) (C : KCx (cxOf (L2N.CX Pg w) Pg w K mg base (["self", "other"] : List Str) "Share.__eq__" (defScope s_2) fa cdv A outer s H E) prog (run prog Wn d) (gm K ca) (WE0 E) (L2N.CX Pg w) (lvD D d) tab) :
    PSs (cxOf (L2N.CX Pg w) Pg w K mg base (["self", "other"] : List Str) "Share.__eq__" (defScope s_2) fa cdv A outer s H E) (defBody s_2) (tB prog (run prog Wn d) (gm K ca) (WE0 E) Wn b_Shareu__equ_) :=
  (kb_cons (ks_ret (k_and C (k_isi1 C (by rfl) Tx.z_isinstance (k_var (by rfl) (by rfl)) (.cls (by rfl) Tx.c_Share (by rfl) .nil)) (k_and C (k_cmp C opnm (k_fld C (k_var (by rfl) (by rfl)) (by rfl) (by rfl)) (k_fld C (k_var (by rfl) (by rfl)) (by rfl) (by rfl))) (k_one (k_cmp C opnm (k_fld C (k_var (by rfl) (by rfl)) (by rfl) (by rfl)) (k_fld C (k_var (by rfl) (by rfl)) (by rfl) (by rfl))))))) kb_nil)
theorem w_3 (Tx : Txt K mg ca D) (fa : Addr) (cdv : Value) (A : Around) (outer : List Env) (s : Shared) (H : L2.Hp) (E : XK) (C : KCx (cxOf (L2N.CX Pg w) Pg w K mg base (["self", "other"] : List Str) "Share.__add__" (defScope s_3) fa cdv A outer s H E) prog (run prog Wn d) (gm K ca) (WE0 E) (L2N.CX Pg w) (lvD D d) tab) :
    PSs (cxOf (L2N.CX Pg w) Pg w K mg base (["self", "other"] : List Str) "Share.__add__" (defScope s_3) fa cdv A outer s H E) (defBody s_3) (tB prog (run prog Wn d) (gm K ca) (WE0 E) Wn b_Shareu__addu_) :=
  (kb_cons (ks_ret (k_new1 C (by rfl) (by rfl) (by rfl) (by rfl) (ka_cons (k_bin C opnm (k_bin C opnm (k_fld C (k_var (by rfl) (by rfl)) (by rfl) (by rfl)) (k_fld C (k_var (by rfl) (by rfl)) (by rfl) (by rfl))) (k_bin C opnm (k_fld C (k_var (by rfl) (by rfl)) (by rfl) (by rfl)) (k_fld C (k_var (by rfl) (by rfl)) (by rfl) (by rfl)))) (ka_cons (k_bin C opnm (k_fld C (k_var (by rfl) (by rfl)) (by rfl) (by rfl)) (k_fld C (k_var (by rfl) (by rfl)) (by rfl) (by rfl))) ka_nil)))) kb_nil)
theorem w_4 (Tx : Txt K mg ca D) (fa : Addr) (cdv : Value) (A : Around) (outer : List Env) (s : Shared) (H : L2.Hp) (E : XK) (C : KCx (cxOf (L2N.CX Pg w) Pg w K mg base (["self", "other"] : List Str) "Share.__sub__" (defScope s_4) fa cdv A outer s H E) prog (run prog Wn d) (gm K ca) (WE0 E) (L2N.CX Pg w) (lvD D d) tab) :
    PSs (cxOf (L2N.CX Pg w) Pg w K mg base (["self", "other"] : List Str) "Share.__sub__" (defScope s_4) fa cdv A outer s H E) (defBody s_4) (tB prog (run prog Wn d) (gm K ca) (WE0 E) Wn b_Shareu__subu_) :=
  (kb_cons (ks_ret (k_new1 C (by rfl) (by rfl) (by rfl) (by rfl) (ka_cons (k_bin C opnm (k_bin C opnm (k_fld C (k_var (by rfl) (by rfl)) (by rfl) (by rfl)) (k_fld C (k_var (by rfl) (by rfl)) (by rfl) (by rfl))) (k_bin C opnm (k_fld C (k_var (by rfl) (by rfl)) (by rfl) (by rfl)) (k_fld C (k_var (by rfl) (by rfl)) (by rfl) (by rfl)))) (ka_cons (k_bin C opnm (k_fld C (k_var (by rfl) (by rfl)) (by rfl) (by rfl)) (k_fld C (k_var (by rfl) (by rfl)) (by rfl) (by rfl))) ka_nil)))) kb_nil)
theorem w_5 (Tx : Txt K mg ca D) (fa : Addr) (cdv : Value) (A : Around) (outer : List Env) (s : Shared) (H : L2.Hp) (E : XK) (C : KCx (cxOf (L2N.CX Pg w) Pg w K mg base (["self", "other"] : List Str) "Share.__mul__" (defScope s_5) fa cdv A outer s H E) prog (run prog Wn d) (gm K ca) (WE0 E) (L2N.CX Pg w) (lvD D d) tab) :
    PSs (cxOf (L2N.CX Pg w) Pg w K mg base (["self", "other"] : List Str) "Share.__mul__" (defScope s_5) fa cdv A outer s H E) (defBody s_5) (tB prog (run prog Wn d) (gm K ca) (WE0 E) Wn b_Shareu__mulu_) :=
  (kb_cons (ks_ret (k_new1 C (by rfl) (by rfl) (by rfl) (by rfl) (ka_cons (k_bin C opnm (k_fld C (k_var (by rfl) (by rfl)) (by rfl) (by rfl)) (k_fld C (k_var (by rfl) (by rfl)) (by rfl) (by rfl))) (ka_cons (k_bin C opnm (k_fld C (k_var (by rfl) (by rfl)) (by rfl) (by rfl)) (k_fld C (k_var (by rfl) (by rfl)) (by rfl) (by rfl))) ka_nil)))) kb_nil)
theorem w_6 (Tx : Txt K mg ca D) (fa : Addr) (cdv : Value) (A : Around) (outer : List Env) (s : Shared) (H : L2.Hp) (E : XK) (C : KCx (cxOf (L2N.CX Pg w) Pg w K mg base (["self", "other"] : List Str) "Share.is_below" (defScope s_6) fa cdv A outer s H E) prog (run prog Wn d) (gm K ca) (WE0 E) (L2N.CX Pg w) (lvD D d) tab) :
    PSs (cxOf (L2N.CX Pg w) Pg w K mg base (["self", "other"] : List Str) "Share.is_below" (defScope s_6) fa cdv A outer s H E) (defBody s_6) (tB prog (run prog Wn d) (gm K ca) (WE0 E) Wn b_Share_is_below) :=
  (kb_cons (ks_ret (k_cmp C opnm (k_bin C opnm (k_fld C (k_var (by rfl) (by rfl)) (by rfl) (by rfl)) (k_fld C (k_var (by rfl) (by rfl)) (by rfl) (by rfl))) (k_bin C opnm (k_fld C (k_var (by rfl) (by rfl)) (by rfl) (by rfl)) (k_fld C (k_var (by rfl) (by rfl)) (by rfl) (by rfl))))) kb_nil)
theorem w_7 (Tx : Txt K mg ca D) (fa : Addr) (cdv : Value) (A : Around) (outer : List Env) (s : Shared) (H : L2.Hp) (E : XK) (C : KCx (cxOf (L2N.CX Pg w) Pg w K mg base (["length"] : List Str) "half_of" (defScope s_7) fa cdv A outer s H E) prog (run prog Wn d) (gm K ca) (WE0 E) (L2N.CX Pg w) (lvD D d) tab) :
    PSs (cxOf (L2N.CX Pg w) Pg w K mg base (["length"] : List Str) "half_of" (defScope s_7) fa cdv A outer s H E) (defBody s_7) (tB prog (run prog Wn d) (gm K ca) (WE0 E) Wn b_half_of) :=
  (kb_cons (ks_ret (k_new1 C (by rfl) (by rfl) (by rfl) (by rfl) (ka_cons k_int (ka_cons (k_call C (by rfl) (by rfl) (ka_cons (k_var (by rfl) (by rfl)) ka_nil)) ka_nil)))) kb_nil)
theorem w_8 (Tx : Txt K mg ca D) (fa : Addr) (cdv : Value) (A : Around) (outer : List Env) (s : Shared) (H : L2.Hp) (E : XK) (C : KCx (cxOf (L2N.CX Pg w) Pg w K mg base (["script", "great", "seed", "cell"] : List Str) "_law_tape" (defScope s_8) fa cdv A outer s H E) prog (run prog Wn d) (gm K ca) (WE0 E) (L2N.CX Pg w) (lvD D d) tab) :
    PSs (cxOf (L2N.CX Pg w) Pg w K mg base (["script", "great", "seed", "cell"] : List Str) "_law_tape" (defScope s_8) fa cdv A outer s H E) (defBody s_8) (tB prog (run prog Wn d) (gm K ca) (WE0 E) Wn b__law_tape) :=
  (kb_cons (ks_asg C (by rfl) (by rfl) (k_al1 (ka_lst ka_nil))) (kb_cons (ks_asg C (by rfl) (by rfl) k_int) (kb_cons (ks_for C (ki_e C (k_sl C (k_var (by rfl) (by rfl)) ko_none (ko_some k_int))) (kg_name (G := gm K ca) C.nN (by rfl) (by rfl)) (kb_cons (ks_asg C (by rfl) (by rfl) (k_bin C opnm (k_bty call_intT (by rfl) Tx.z_int (by rfl) (ka_cons (k_bin C opnm (k_bin C opnm (k_var (by rfl) (by rfl)) k_int) (k_bty call_intT (by rfl) Tx.z_int (by rfl) (ka_cons (k_var (by rfl) (by rfl)) ka_nil))) ka_nil)) k_int)) (kb_cons (ks_if (kt_cmp C opnm (k_bf call_absT (by rfl) Tx.z_abs (by rfl) (ka_cons (k_bty call_intT (by rfl) Tx.z_int (by rfl) (ka_cons (k_var (by rfl) (by rfl)) ka_nil)) ka_nil)) (k_bin C opnm k_int k_int)) (kb_cons (ks_mbv C (by rfl) (by rfl) (mc_1 (b := .append) PySem.F.slot_list_append PySem.F.type_list_append (ka_cons (k_bf call_absT (by rfl) Tx.z_abs (by rfl) (ka_cons (k_bty call_intT (by rfl) Tx.z_int (by rfl) (ka_cons (k_var (by rfl) (by rfl)) ka_nil)) ka_nil)) ka_nil)) hA_id) kb_nil) kb_nil) kb_nil))) (kb_cons (ks_mbv C (by rfl) (by rfl) (mc_0 (b := .reverse) PySem.F.slot_list_reverse PySem.F.type_list_reverse) hA_nil) (kb_cons (ks_ret (k_al1 (ka_lst (ka_cons (k_var (by rfl) (by rfl)) (ka_cons (k_var (by rfl) (by rfl)) (ka_cons k_int ka_nil)))))) kb_nil)))))
theorem w_9 (Tx : Txt K mg ca D) (fa : Addr) (cdv : Value) (A : Around) (outer : List Env) (s : Shared) (H : L2.Hp) (E : XK) (C : KCx (cxOf (L2N.CX Pg w) Pg w K mg base (["tape", "limit", "great", "mixed", "number"] : List Str) "_law_draw" (defScope s_9) fa cdv A outer s H E) prog (run prog Wn d) (gm K ca) (WE0 E) (L2N.CX Pg w) (lvD D d) tab) :
    PSs (cxOf (L2N.CX Pg w) Pg w K mg base (["tape", "limit", "great", "mixed", "number"] : List Str) "_law_draw" (defScope s_9) fa cdv A outer s H E) (defBody s_9) (tB prog (run prog Wn d) (gm K ca) (WE0 E) Wn b__law_draw) :=
  (kb_cons (ks_asg C (by rfl) (by rfl) (k_idx C (k_var (by rfl) (by rfl)) k_int)) (kb_cons (ks_if (kt_val C (k_var (by rfl) (by rfl))) (kb_cons (ks_mbAv C (by rfl) (by rfl) (by rfl) (by rfl) (mc_0 (b := .pop) PySem.F.slot_list_pop PySem.F.type_list_pop) hA_nil) (kb_cons (ks_if (kt_cmp C opnm (k_var (by rfl) (by rfl)) (k_var (by rfl) (by rfl))) (kb_cons (ks_mbv C (by rfl) (by rfl) (mc_1 (b := .append) PySem.F.slot_list_append PySem.F.type_list_append (ka_cons (k_bin C opnm (k_var (by rfl) (by rfl)) (k_var (by rfl) (by rfl))) ka_nil)) hA_id) kb_nil) kb_nil) (kb_cons (ks_ret (k_bin C opnm (k_bty call_intT (by rfl) Tx.z_int (by rfl) (ka_cons (k_var (by rfl) (by rfl)) ka_nil)) (k_var (by rfl) (by rfl)))) kb_nil))) kb_nil) (kb_cons (ks_setIv C (by rfl) (by rfl) k_int (k_bin C opnm (k_idx C (k_var (by rfl) (by rfl)) k_int) k_int)) (kb_cons (ks_asg C (by rfl) (by rfl) (k_bin C opnm (k_bty call_intT (by rfl) Tx.z_int (by rfl) (ka_cons (k_bin C opnm (k_bin C opnm (k_bty call_intT (by rfl) Tx.z_int (by rfl) (ka_cons (k_bin C opnm (k_idx C (k_var (by rfl) (by rfl)) k_int) (k_idx C (k_var (by rfl) (by rfl)) k_int)) ka_nil)) k_int) (k_bin C opnm (k_bin C opnm (k_idx C (k_var (by rfl) (by rfl)) k_int) (k_idx C (k_var (by rfl) (by rfl)) k_int)) k_int)) ka_nil)) k_int)) (kb_cons (ks_ret (k_bin C opnm (k_bin C opnm (k_bin C opnm (k_bty call_intT (by rfl) Tx.z_int (by rfl) (ka_cons (k_bin C opnm (k_bin C opnm (k_var (by rfl) (by rfl)) (k_var (by rfl) (by rfl))) (k_bin C opnm (k_idx C (k_var (by rfl) (by rfl)) k_int) k_int)) ka_nil)) k_int) k_int) (k_var (by rfl) (by rfl)))) kb_nil)))))
theorem w_10 (Tx : Txt K mg ca D) (fa : Addr) (cdv : Value) (A : Around) (outer : List Env) (s : Shared) (H : L2.Hp) (E : XK) (C : KCx (cxOf (L2N.CX Pg w) Pg w K mg base (["tape", "kind", "number", "k"] : List Str) "_law_number" (defScope s_10) fa cdv A outer s H E) prog (run prog Wn d) (gm K ca) (WE0 E) (L2N.CX Pg w) (lvD D d) tab) :
    PSs (cxOf (L2N.CX Pg w) Pg w K mg base (["tape", "kind", "number", "k"] : List Str) "_law_number" (defScope s_10) fa cdv A outer s H E) (defBody s_10) (tB prog (run prog Wn d) (gm K ca) (WE0 E) Wn b__law_number) :=
  (kb_cons (ks_asg C (by rfl) (by rfl) (k_call C (by rfl) (by rfl) (ka_cons (k_var (by rfl) (by rfl)) (ka_cons k_int ka_nil)))) (kb_cons (ks_asg C (by rfl) (by rfl) (k_bin C opnm (k_call C (by rfl) (by rfl) (ka_cons (k_var (by rfl) (by rfl)) (ka_cons k_int ka_nil))) k_int)) (kb_cons (ks_if (kt_cmp C opnm (k_var (by rfl) (by rfl)) k_int) (kb_cons (ks_asg C (by rfl) (by rfl) (k_bin C opnm (k_bin C opnm k_int k_int) (k_call C (by rfl) (by rfl) (ka_cons (k_var (by rfl) (by rfl)) (ka_cons k_int ka_nil))))) (kb_cons (ks_for C (ki_rng1 (by rfl) Tx.z_range (k_call C (by rfl) (by rfl) (ka_cons (k_var (by rfl) (by rfl)) (ka_cons k_int ka_nil)))) (kg_name (G := gm K ca) C.nN (by rfl) (by rfl)) (kb_cons (ks_asg C (by rfl) (by rfl) (k_bin C opnm (k_var (by rfl) (by rfl)) (k_bin C opnm (k_bin C opnm k_int k_int) (k_call C (by rfl) (by rfl) (ka_cons (k_var (by rfl) (by rfl)) (ka_cons k_int ka_nil)))))) kb_nil)) kb_nil)) kb_nil) (kb_cons (ks_if (kt_cmp C opnm (k_var (by rfl) (by rfl)) k_int) (kb_cons (ks_asg C (by rfl) (by rfl) (k_bin C opnm (k_bin C opnm (k_call C (by rfl) (by rfl) (ka_cons (k_var (by rfl) (by rfl)) (ka_cons k_int ka_nil))) k_int) (k_call C (by rfl) (by rfl) (ka_cons (k_var (by rfl) (by rfl)) (ka_cons k_int ka_nil))))) kb_nil) kb_nil) (kb_cons (ks_if (PW.pt (kw_and (kt_cmp C opnm (k_var (by rfl) (by rfl)) k_int) (kw_and1 (kt_cmp C opnm (k_call C (by rfl) (by rfl) (ka_cons (k_var (by rfl) (by rfl)) (ka_cons k_int ka_nil))) k_int)))) (kb_cons (ks_ret (k_neg (k_var (by rfl) (by rfl)))) kb_nil) kb_nil) (kb_cons (ks_ret (k_var (by rfl) (by rfl))) kb_nil))))))
theorem w_11 (Tx : Txt K mg ca D) (fa : Addr) (cdv : Value) (A : Around) (outer : List Env) (s : Shared) (H : L2.Hp) (E : XK) (C : KCx (cxOf (L2N.CX Pg w) Pg w K mg base (["over", "under", "low", "rest", "k", "more"] : List Str) "_law_lowest" (defScope s_11) fa cdv A outer s H E) prog (run prog Wn d) (gm K ca) (WE0 E) (L2N.CX Pg w) (lvD D d) tab) :
    PSs (cxOf (L2N.CX Pg w) Pg w K mg base (["over", "under", "low", "rest", "k", "more"] : List Str) "_law_lowest" (defScope s_11) fa cdv A outer s H E) (defBody s_11) (tB prog (run prog Wn d) (gm K ca) (WE0 E) Wn b__law_lowest) :=
  (kb_cons (ks_asg C (by rfl) (by rfl) (k_bf call_absT (by rfl) Tx.z_abs (by rfl) (ka_cons (k_var (by rfl) (by rfl)) ka_nil))) (kb_cons (ks_asg C (by rfl) (by rfl) (k_bf call_absT (by rfl) Tx.z_abs (by rfl) (ka_cons (k_var (by rfl) (by rfl)) ka_nil))) (kb_cons (ks_for C (ki_rng1 (by rfl) Tx.z_range k_int) (kg_name (G := gm K ca) C.nN (by rfl) (by rfl)) (kb_cons (ks_if (kt_cmp C opnm (k_var (by rfl) (by rfl)) k_int) (kb_cons ks_brk kb_nil) kb_nil) (kb_cons (ks_asg C (by rfl) (by rfl) (k_bin C opnm (k_bty call_intT (by rfl) Tx.z_int (by rfl) (ka_cons (k_var (by rfl) (by rfl)) ka_nil)) (k_var (by rfl) (by rfl)))) (kb_cons (ks_asg C (by rfl) (by rfl) (k_var (by rfl) (by rfl))) (kb_cons (ks_asg C (by rfl) (by rfl) (k_var (by rfl) (by rfl))) kb_nil))))) (kb_cons (ks_if (kt_cmp C opnm (k_var (by rfl) (by rfl)) k_int) (kb_cons (ks_ret (k_al0 (ka_lst (ka_cons (k_bin C opnm (k_neg (k_var (by rfl) (by rfl))) (k_var (by rfl) (by rfl))) (ka_cons (k_bin C opnm (k_neg (k_var (by rfl) (by rfl))) (k_var (by rfl) (by rfl))) ka_nil))))) kb_nil) kb_nil) (kb_cons (ks_ret (k_al0 (ka_lst (ka_cons (k_bin C opnm (k_var (by rfl) (by rfl)) (k_var (by rfl) (by rfl))) (ka_cons (k_bin C opnm (k_var (by rfl) (by rfl)) (k_var (by rfl) (by rfl))) ka_nil))))) kb_nil)))))
theorem w_12 (Tx : Txt K mg ca D) (fa : Addr) (cdv : Value) (A : Around) (outer : List Env) (s : Shared) (H : L2.Hp) (E : XK) (C : KCx (cxOf (L2N.CX Pg w) Pg w K mg base (["told", "due"] : List Str) "_law_integer" (defScope s_12) fa cdv A outer s H E) prog (run prog Wn d) (gm K ca) (WE0 E) (L2N.CX Pg w) (lvD D d) tab) :
    PSs (cxOf (L2N.CX Pg w) Pg w K mg base (["told", "due"] : List Str) "_law_integer" (defScope s_12) fa cdv A outer s H E) (defBody s_12) (tB prog (run prog Wn d) (gm K ca) (WE0 E) Wn b__law_integer) :=
  (kb_cons (ks_ret (k_and C (k_isi1 C (by rfl) Tx.z_isinstance (k_var (by rfl) (by rfl)) (.ty (by rfl) (by rfl) Tx.z_int (by rfl) .nil)) (k_and C (k_not C (k_isi1 C (by rfl) Tx.z_isinstance (k_var (by rfl) (by rfl)) (.ty (by rfl) (by rfl) Tx.z_bool (by rfl) .nil))) (k_one (k_cmp C opnm (k_var (by rfl) (by rfl)) (k_var (by rfl) (by rfl))))))) kb_nil)
theorem w_13 (Tx : Txt K mg ca D) (fa : Addr) (cdv : Value) (A : Around) (outer : List Env) (s : Shared) (H : L2.Hp) (E : XK) (C : KCx (cxOf (L2N.CX Pg w) Pg w K mg base (["told", "due"] : List Str) "_law_is" (defScope s_13) fa cdv A outer s H E) prog (run prog Wn d) (gm K ca) (WE0 E) (L2N.CX Pg w) (lvD D d) tab) :
    PSs (cxOf (L2N.CX Pg w) Pg w K mg base (["told", "due"] : List Str) "_law_is" (defScope s_13) fa cdv A outer s H E) (defBody s_13) (tB prog (run prog Wn d) (gm K ca) (WE0 E) Wn b__law_is) :=
  (kb_cons (ks_if (kt_not (kt_val C (k_isi1 C (by rfl) Tx.z_isinstance (k_var (by rfl) (by rfl)) (.cls (by rfl) Tx.c_Share (by rfl) .nil)))) (kb_cons (ks_ret k_bl) kb_nil) kb_nil) (kb_cons (ks_ret (k_and C (k_call C (by rfl) (by rfl) (ka_cons (k_fld C (k_var (by rfl) (by rfl)) (by rfl) (by rfl)) (ka_cons (k_idx C (k_var (by rfl) (by rfl)) k_int) ka_nil))) (k_one (k_call C (by rfl) (by rfl) (ka_cons (k_fld C (k_var (by rfl) (by rfl)) (by rfl) (by rfl)) (ka_cons (k_idx C (k_var (by rfl) (by rfl)) k_int) ka_nil)))))) kb_nil))
theorem w_14 (Tx : Txt K mg ca D) (fa : Addr) (cdv : Value) (A : Around) (outer : List Env) (s : Shared) (H : L2.Hp) (E : XK) (C : KCx (cxOf (L2N.CX Pg w) Pg w K mg base (["one", "other"] : List Str) "_law_sum" (defScope s_14) fa cdv A outer s H E) prog (run prog Wn d) (gm K ca) (WE0 E) (L2N.CX Pg w) (lvD D d) tab) :
    PSs (cxOf (L2N.CX Pg w) Pg w K mg base (["one", "other"] : List Str) "_law_sum" (defScope s_14) fa cdv A outer s H E) (defBody s_14) (tB prog (run prog Wn d) (gm K ca) (WE0 E) Wn b__law_sum) :=
  (kb_cons (ks_ret (k_call C (by rfl) (by rfl) (ka_cons (k_bin C opnm (k_bin C opnm (k_idx C (k_var (by rfl) (by rfl)) k_int) (k_idx C (k_var (by rfl) (by rfl)) k_int)) (k_bin C opnm (k_idx C (k_var (by rfl) (by rfl)) k_int) (k_idx C (k_var (by rfl) (by rfl)) k_int))) (ka_cons (k_bin C opnm (k_idx C (k_var (by rfl) (by rfl)) k_int) (k_idx C (k_var (by rfl) (by rfl)) k_int)) ka_nil)))) kb_nil)
theorem w_15 (Tx : Txt K mg ca D) (fa : Addr) (cdv : Value) (A : Around) (outer : List Env) (s : Shared) (H : L2.Hp) (E : XK) (C : KCx (cxOf (L2N.CX Pg w) Pg w K mg base (["one", "other"] : List Str) "_law_less" (defScope s_15) fa cdv A outer s H E) prog (run prog Wn d) (gm K ca) (WE0 E) (L2N.CX Pg w) (lvD D d) tab) :
    PSs (cxOf (L2N.CX Pg w) Pg w K mg base (["one", "other"] : List Str) "_law_less" (defScope s_15) fa cdv A outer s H E) (defBody s_15) (tB prog (run prog Wn d) (gm K ca) (WE0 E) Wn b__law_less) :=
  (kb_cons (ks_ret (k_call C (by rfl) (by rfl) (ka_cons (k_bin C opnm (k_bin C opnm (k_idx C (k_var (by rfl) (by rfl)) k_int) (k_idx C (k_var (by rfl) (by rfl)) k_int)) (k_bin C opnm (k_idx C (k_var (by rfl) (by rfl)) k_int) (k_idx C (k_var (by rfl) (by rfl)) k_int))) (ka_cons (k_bin C opnm (k_idx C (k_var (by rfl) (by rfl)) k_int) (k_idx C (k_var (by rfl) (by rfl)) k_int)) ka_nil)))) kb_nil)
theorem w_16 (Tx : Txt K mg ca D) (fa : Addr) (cdv : Value) (A : Around) (outer : List Env) (s : Shared) (H : L2.Hp) (E : XK) (C : KCx (cxOf (L2N.CX Pg w) Pg w K mg base (["one", "other"] : List Str) "_law_times" (defScope s_16) fa cdv A outer s H E) prog (run prog Wn d) (gm K ca) (WE0 E) (L2N.CX Pg w) (lvD D d) tab) :
    PSs (cxOf (L2N.CX Pg w) Pg w K mg base (["one", "other"] : List Str) "_law_times" (defScope s_16) fa cdv A outer s H E) (defBody s_16) (tB prog (run prog Wn d) (gm K ca) (WE0 E) Wn b__law_times) :=
  (kb_cons (ks_ret (k_call C (by rfl) (by rfl) (ka_cons (k_bin C opnm (k_idx C (k_var (by rfl) (by rfl)) k_int) (k_idx C (k_var (by rfl) (by rfl)) k_int)) (ka_cons (k_bin C opnm (k_idx C (k_var (by rfl) (by rfl)) k_int) (k_idx C (k_var (by rfl) (by rfl)) k_int)) ka_nil)))) kb_nil)
theorem w_17 (Tx : Txt K mg ca D) (fa : Addr) (cdv : Value) (A : Around) (outer : List Env) (s : Shared) (H : L2.Hp) (E : XK) (C : KCx (cxOf (L2N.CX Pg w) Pg w K mg base (["one", "other", "first", "second", "alike", "told", "below"] : List Str) "_law_pair_right" (defScope s_17) fa cdv A outer s H E) prog (run prog Wn d) (gm K ca) (WE0 E) (L2N.CX Pg w) (lvD D d) tab) :
    PSs (cxOf (L2N.CX Pg w) Pg w K mg base (["one", "other", "first", "second", "alike", "told", "below"] : List Str) "_law_pair_right" (defScope s_17) fa cdv A outer s H E) (defBody s_17) (tB prog (run prog Wn d) (gm K ca) (WE0 E) Wn b__law_pair_right) :=
  (kb_cons (ks_if (kt_not (kt_val C (k_call C (by rfl) (by rfl) (ka_cons (k_bin C opnm (k_var (by rfl) (by rfl)) (k_var (by rfl) (by rfl))) (ka_cons (k_call C (by rfl) (by rfl) (ka_cons (k_var (by rfl) (by rfl)) (ka_cons (k_var (by rfl) (by rfl)) ka_nil))) ka_nil))))) (kb_cons (ks_ret k_bl) kb_nil) kb_nil) (kb_cons (ks_if (kt_not (kt_val C (k_call C (by rfl) (by rfl) (ka_cons (k_bin C opnm (k_var (by rfl) (by rfl)) (k_var (by rfl) (by rfl))) (ka_cons (k_call C (by rfl) (by rfl) (ka_cons (k_var (by rfl) (by rfl)) (ka_cons (k_var (by rfl) (by rfl)) ka_nil))) ka_nil))))) (kb_cons (ks_ret k_bl) kb_nil) kb_nil) (kb_cons (ks_if (kt_not (kt_val C (k_call C (by rfl) (by rfl) (ka_cons (k_bin C opnm (k_var (by rfl) (by rfl)) (k_var (by rfl) (by rfl))) (ka_cons (k_call C (by rfl) (by rfl) (ka_cons (k_var (by rfl) (by rfl)) (ka_cons (k_var (by rfl) (by rfl)) ka_nil))) ka_nil))))) (kb_cons (ks_ret k_bl) kb_nil) kb_nil) (kb_cons (ks_asg C (by rfl) (by rfl) (k_and C (k_cmp C opnm (k_idx C (k_var (by rfl) (by rfl)) k_int) (k_idx C (k_var (by rfl) (by rfl)) k_int)) (k_one (k_cmp C opnm (k_idx C (k_var (by rfl) (by rfl)) k_int) (k_idx C (k_var (by rfl) (by rfl)) k_int))))) (kb_cons (ks_asg C (by rfl) (by rfl) (k_cmp C opnm (k_var (by rfl) (by rfl)) (k_var (by rfl) (by rfl)))) (kb_cons (ks_if (kt_not (kt_ife (kt_val C (k_var (by rfl) (by rfl))) (kt_cmp C opnm (k_var (by rfl) (by rfl)) k_bl) (kt_cmp C opnm (k_var (by rfl) (by rfl)) k_bl))) (kb_cons (ks_ret k_bl) kb_nil) kb_nil) (kb_cons (ks_asg C (by rfl) (by rfl) (k_cmp C opnm (k_var (by rfl) (by rfl)) (k_var (by rfl) (by rfl)))) (kb_cons (ks_if (kt_not (kt_ife (kt_val C (k_var (by rfl) (by rfl))) (kt_cmp C opnm (k_var (by rfl) (by rfl)) k_bl) (kt_cmp C opnm (k_var (by rfl) (by rfl)) k_bl))) (kb_cons (ks_ret k_bl) kb_nil) kb_nil) (kb_cons (ks_asg C (by rfl) (by rfl) (k_cmp C opnm (k_bin C opnm (k_idx C (k_var (by rfl) (by rfl)) k_int) (k_idx C (k_var (by rfl) (by rfl)) k_int)) (k_bin C opnm (k_idx C (k_var (by rfl) (by rfl)) k_int) (k_idx C (k_var (by rfl) (by rfl)) k_int)))) (kb_cons (ks_asg C (by rfl) (by rfl) (k_meth C (by rfl) (k_var (by rfl) (by rfl)) (ka_cons (k_var (by rfl) (by rfl)) ka_nil))) (kb_cons (ks_if (kt_not (kt_ife (kt_val C (k_var (by rfl) (by rfl))) (kt_cmp C opnm (k_var (by rfl) (by rfl)) k_bl) (kt_cmp C opnm (k_var (by rfl) (by rfl)) k_bl))) (kb_cons (ks_ret k_bl) kb_nil) kb_nil) (kb_cons (ks_asg C (by rfl) (by rfl) (k_methK0 C (by rfl) (k_var (by rfl) (by rfl)) (kk_cons (k_var (by rfl) (by rfl)) kk_nil) (mk1_is_below Tx.kb_0))) (kb_cons (ks_ret (k_ife (kt_val C (k_var (by rfl) (by rfl))) (k_cmp C opnm (k_var (by rfl) (by rfl)) k_bl) (k_cmp C opnm (k_var (by rfl) (by rfl)) k_bl))) kb_nil)))))))))))))
theorem w_18 (Tx : Txt K mg ca D) (fa : Addr) (cdv : Value) (A : Around) (outer : List Env) (s : Shared) (H : L2.Hp) (E : XK) (C : KCx (cxOf (L2N.CX Pg w) Pg w K mg base (["share", "due", "things", "thing", "told"] : List Str) "_law_strangers_right" (defScope s_18) fa cdv A outer s H E) prog (run prog Wn d) (gm K ca) (WE0 E) (L2N.CX Pg w) (lvD D d) tab) :
    PSs (cxOf (L2N.CX Pg w) Pg w K mg base (["share", "due", "things", "thing", "told"] : List Str) "_law_strangers_right" (defScope s_18) fa cdv A outer s H E) (defBody s_18) (tB prog (run prog Wn d) (gm K ca) (WE0 E) Wn b__law_strangers_right) :=
  (kb_cons (ks_asg C (by rfl) (by rfl) (k_al0 (ka_lst (ka_cons k_non (ka_cons (k_idx C (k_var (by rfl) (by rfl)) k_int) (ka_cons (k_cmp C opnm (k_idx C (k_var (by rfl) (by rfl)) k_int) (k_idx C (k_var (by rfl) (by rfl)) k_int)) (ka_cons (k_tup (ka_cons (k_idx C (k_var (by rfl) (by rfl)) k_int) (ka_cons (k_idx C (k_var (by rfl) (by rfl)) k_int) ka_nil))) (ka_cons (k_al0 (ka_lst (ka_cons (k_idx C (k_var (by rfl) (by rfl)) k_int) (ka_cons (k_idx C (k_var (by rfl) (by rfl)) k_int) ka_nil)))) (ka_cons (k_str) (ka_cons (k_bin C opnm (k_idx C (k_var (by rfl) (by rfl)) k_int) (k_idx C (k_var (by rfl) (by rfl)) k_int)) ka_nil)))))))))) (kb_cons (ks_for C (ki_e C (k_var (by rfl) (by rfl))) (kg_name (G := gm K ca) C.nN (by rfl) (by rfl)) (kb_cons (ks_asg C (by rfl) (by rfl) (k_cmp C opnm (k_var (by rfl) (by rfl)) (k_var (by rfl) (by rfl)))) (kb_cons (ks_if (kt_cmp C opnm (k_var (by rfl) (by rfl)) k_bl) (kb_cons (ks_ret k_bl) kb_nil) kb_nil) (kb_cons (ks_asg C (by rfl) (by rfl) (k_cmp C opnm (k_var (by rfl) (by rfl)) (k_var (by rfl) (by rfl)))) (kb_cons (ks_if (kt_cmp C opnm (k_var (by rfl) (by rfl)) k_bl) (kb_cons (ks_ret k_bl) kb_nil) kb_nil) kb_nil))))) (kb_cons (ks_ret k_bl) kb_nil)))
theorem w_19 (Tx : Txt K mg ca D) (fa : Addr) (cdv : Value) (A : Around) (outer : List Env) (s : Shared) (H : L2.Hp) (E : XK) (C : KCx (cxOf (L2N.CX Pg w) Pg w K mg base (["over", "by_name", "e"] : List Str) "_law_refused" (defScope s_19) fa cdv A outer s H E) prog (run prog Wn d) (gm K ca) (WE0 E) (L2N.CX Pg w) (lvD D d) tab) :
    PSs (cxOf (L2N.CX Pg w) Pg w K mg base (["over", "by_name", "e"] : List Str) "_law_refused" (defScope s_19) fa cdv A outer s H E) (defBody s_19) (tB prog (run prog Wn d) (gm K ca) (WE0 E) Wn b__law_refused) :=
  (kb_cons (kt_try C Tx.et rfl rfl (fun _ pn xe C => (kb_cons (ks_if (kt_val C (k_var (by rfl) (by rfl))) (kb_cons (ks_expr (k_newK0 C (by rfl) (by rfl) (by rfl) (by rfl) (kk_cons k_int (kk_cons (k_var (by rfl) (by rfl)) kk_nil)) Tx.kb_1)) kb_nil) (kb_cons (ks_expr (k_new1 C (by rfl) (by rfl) (by rfl) (by rfl) (ka_cons (k_var (by rfl) (by rfl)) (ka_cons k_int ka_nil)))) kb_nil)) kb_nil)) (.named (by rfl) Tx.m_InvalidNumber (by rfl) (by rfl) (by rfl) (fun a oe Ce d pn hz hf => (fun C => (kb_cons (ks_ret (k_callH C (by rfl) (by rfl) (ka_cons (kx_fld rfl Tx.xf_number hz hf (by rfl) (by rfl)) (ka_cons k_int ka_nil)))) kb_nil)) (KCx.suite (a := a) (pn := pn) C (by rfl) Tx.et hz hf)) .nil)) (kb_cons (ks_ret k_bl) kb_nil))
theorem w_20 (Tx : Txt K mg ca D) (fa : Addr) (cdv : Value) (A : Around) (outer : List Env) (s : Shared) (H : L2.Hp) (E : XK) (C : KCx (cxOf (L2N.CX Pg w) Pg w K mg base (["tape", "due", "share", "k", "over", "under", "step", "kind"] : List Str) "_law_chain_right" (defScope s_20) fa cdv A outer s H E) prog (run prog Wn d) (gm K ca) (WE0 E) (L2N.CX Pg w) (lvD D d) tab) :
    PSs (cxOf (L2N.CX Pg w) Pg w K mg base (["tape", "due", "share", "k", "over", "under", "step", "kind"] : List Str) "_law_chain_right" (defScope s_20) fa cdv A outer s H E) (defBody s_20) (tB prog (run prog Wn d) (gm K ca) (WE0 E) Wn b__law_chain_right) :=
  (kb_cons (ks_asg C (by rfl) (by rfl) (k_al0 (ka_lst (ka_cons (k_bin C opnm (k_call C (by rfl) (by rfl) (ka_cons (k_var (by rfl) (by rfl)) (ka_cons k_int ka_nil))) k_int) (ka_cons k_int ka_nil))))) (kb_cons (ks_asg C (by rfl) (by rfl) (k_new1 C (by rfl) (by rfl) (by rfl) (by rfl) (ka_cons (k_idx C (k_var (by rfl) (by rfl)) k_int) (ka_cons k_int ka_nil)))) (kb_cons (ks_for C (ki_rng1 (by rfl) Tx.z_range (k_call C (by rfl) (by rfl) (ka_cons (k_var (by rfl) (by rfl)) (ka_cons k_int ka_nil)))) (kg_name (G := gm K ca) C.nN (by rfl) (by rfl)) (kb_cons (ks_asg C (by rfl) (by rfl) (k_bin C opnm (k_call C (by rfl) (by rfl) (ka_cons (k_var (by rfl) (by rfl)) (ka_cons k_int ka_nil))) k_int)) (kb_cons (ks_asg C (by rfl) (by rfl) (k_bin C opnm (k_call C (by rfl) (by rfl) (ka_cons (k_var (by rfl) (by rfl)) (ka_cons k_int ka_nil))) k_int)) (kb_cons (ks_asg C (by rfl) (by rfl) (k_new1 C (by rfl) (by rfl) (by rfl) (by rfl) (ka_cons (k_var (by rfl) (by rfl)) (ka_cons (k_var (by rfl) (by rfl)) ka_nil)))) (kb_cons (ks_asg C (by rfl) (by rfl) (k_call C (by rfl) (by rfl) (ka_cons (k_var (by rfl) (by rfl)) (ka_cons k_int ka_nil)))) (kb_cons (ks_if (kt_cmp C opnm (k_var (by rfl) (by rfl)) k_int) (kb_cons (ks_asg C (by rfl) (by rfl) (k_bin C opnm (k_var (by rfl) (by rfl)) (k_var (by rfl) (by rfl)))) (kb_cons (ks_asg C (by rfl) (by rfl) (k_call C (by rfl) (by rfl) (ka_cons (k_var (by rfl) (by rfl)) (ka_cons (k_al0 (ka_lst (ka_cons (k_var (by rfl) (by rfl)) (ka_cons (k_var (by rfl) (by rfl)) ka_nil)))) ka_nil)))) kb_nil)) kb_nil) (kb_cons (ks_if (kt_cmp C opnm (k_var (by rfl) (by rfl)) k_int) (kb_cons (ks_asg C (by rfl) (by rfl) (k_bin C opnm (k_var (by rfl) (by rfl)) (k_var (by rfl) (by rfl)))) (kb_cons (ks_asg C (by rfl) (by rfl) (k_call C (by rfl) (by rfl) (ka_cons (k_var (by rfl) (by rfl)) (ka_cons (k_al0 (ka_lst (ka_cons (k_var (by rfl) (by rfl)) (ka_cons (k_var (by rfl) (by rfl)) ka_nil)))) ka_nil)))) kb_nil)) kb_nil) (kb_cons (ks_if (kt_cmp C opnm (k_var (by rfl) (by rfl)) k_int) (kb_cons (ks_asg C (by rfl) (by rfl) (k_bin C opnm (k_var (by rfl) (by rfl)) (k_var (by rfl) (by rfl)))) (kb_cons (ks_asg C (by rfl) (by rfl) (k_call C (by rfl) (by rfl) (ka_cons (k_var (by rfl) (by rfl)) (ka_cons (k_al0 (ka_lst (ka_cons (k_var (by rfl) (by rfl)) (ka_cons (k_var (by rfl) (by rfl)) ka_nil)))) ka_nil)))) kb_nil)) kb_nil) (kb_cons (ks_if (kt_not (kt_val C (k_call C (by rfl) (by rfl) (ka_cons (k_var (by rfl) (by rfl)) (ka_cons (k_var (by rfl) (by rfl)) ka_nil))))) (kb_cons (ks_ret k_bl) kb_nil) kb_nil) kb_nil))))))))) (kb_cons (ks_ret k_bl) kb_nil))))
theorem w_21 (Tx : Txt K mg ca D) (fa : Addr) (cdv : Value) (A : Around) (outer : List Env) (s : Shared) (H : L2.Hp) (E : XK) (C : KCx (cxOf (L2N.CX Pg w) Pg w K mg base (["script", "tape", "numbers", "k", "shape", "made", "due", "pair", "length", "under", "times"] : List Str) "_law_asks" (defScope s_21) fa cdv A outer s H E) prog (run prog Wn d) (gm K ca) (WE0 E) (L2N.CX Pg w) (lvD D d) tab) :
    PSs (cxOf (L2N.CX Pg w) Pg w K mg base (["script", "tape", "numbers", "k", "shape", "made", "due", "pair", "length", "under", "times"] : List Str) "_law_asks" (defScope s_21) fa cdv A outer s H E) (defBody s_21) (tB prog (run prog Wn d) (gm K ca) (WE0 E) Wn b__law_asks) :=
  (kb_cons (ks_asg C (by rfl) (by rfl) (k_call C (by rfl) (by rfl) (ka_cons (k_var (by rfl) (by rfl)) ka_nil))) (kb_cons (ks_own C (by rfl) (by rfl) (ka_lst ka_nil)) (kb_cons (ks_for C (ki_rng1 (by rfl) Tx.z_range k_int) (kg_name (G := gm K ca) C.nN (by rfl) (by rfl)) (kb_cons (ks_asg C (by rfl) (by rfl) (k_call C (by rfl) (by rfl) (ka_cons (k_var (by rfl) (by rfl)) ka_nil))) (kb_cons (ks_if (kt_cmp C opnm (k_var (by rfl) (by rfl)) k_int) (kb_cons (ks_asg C (by rfl) (by rfl) (k_neg k_int)) kb_nil) kb_nil) (kb_cons (ks_mbv C (by rfl) (by rfl) (mc_1 (b := .append) PySem.F.slot_list_append PySem.F.type_list_append (ka_cons (k_al0 (ka_lst (ka_cons (k_call C (by rfl) (by rfl) (ka_cons (k_var (by rfl) (by rfl)) ka_nil)) (ka_cons (k_var (by rfl) (by rfl)) ka_nil)))) ka_nil)) hA_id) kb_nil)))) (kb_cons (ks_asg C (by rfl) (by rfl) (k_call C (by rfl) (by rfl) (ka_cons (k_var (by rfl) (by rfl)) (ka_cons k_int ka_nil)))) (kb_cons (ks_if (kt_cmp C opnm (k_var (by rfl) (by rfl)) k_int) (kb_cons (ks_asg C (by rfl) (by rfl) (k_bin C opnm (k_call C (by rfl) (by rfl) (ka_cons (k_var (by rfl) (by rfl)) (ka_cons k_int ka_nil))) k_int)) (kb_cons (ks_if (kt_cmp C opnm (k_var (by rfl) (by rfl)) k_int) (kb_cons (ks_asg C (by rfl) (by rfl) (k_neg k_int)) kb_nil) kb_nil) (kb_cons (ks_setIv C (by rfl) (by rfl) k_int (k_al0 (ka_lst (ka_cons (k_bin C opnm (k_idx C (k_idx C (k_var (by rfl) (by rfl)) k_int) k_int) (k_var (by rfl) (by rfl))) (ka_cons (k_bin C opnm (k_idx C (k_idx C (k_var (by rfl) (by rfl)) k_int) k_int) (k_var (by rfl) (by rfl))) ka_nil))))) kb_nil))) kb_nil) (kb_cons (ks_if (kt_cmp C opnm (k_var (by rfl) (by rfl)) k_int) (kb_cons (ks_setIv C (by rfl) (by rfl) k_int (k_al0 (ka_lst (ka_cons (k_bin C opnm (k_bin C opnm (k_idx C (k_idx C (k_var (by rfl) (by rfl)) k_int) k_int) k_int) k_int) (ka_cons (k_idx C (k_idx C (k_var (by rfl) (by rfl)) k_int) k_int) ka_nil))))) kb_nil) kb_nil) (kb_cons (ks_own C (by rfl) (by rfl) (ka_lst (ka_cons (k_new1 C (by rfl) (by rfl) (by rfl) (by rfl) (ka_cons (k_idx C (k_idx C (k_var (by rfl) (by rfl)) k_int) k_int) (ka_cons (k_idx C (k_idx C (k_var (by rfl) (by rfl)) k_int) k_int) ka_nil))) (ka_cons (k_newK0 C (by rfl) (by rfl) (by rfl) (by rfl) (kk_cons (k_idx C (k_idx C (k_var (by rfl) (by rfl)) k_int) k_int) (kk_cons (k_idx C (k_idx C (k_var (by rfl) (by rfl)) k_int) k_int) kk_nil)) Tx.kb_3) ka_nil)))) (kb_cons (ks_mbv C (by rfl) (by rfl) (mc_1 (b := .append) PySem.F.slot_list_append PySem.F.type_list_append (ka_cons (k_new1 C (by rfl) (by rfl) (by rfl) (by rfl) (ka_cons (k_idx C (k_idx C (k_var (by rfl) (by rfl)) k_int) k_int) (ka_cons (k_idx C (k_idx C (k_var (by rfl) (by rfl)) k_int) k_int) ka_nil))) ka_nil)) hA_id) (kb_frz (kb_cons (kp_lc0 C [("pair", 7)] (by rfl) (by rfl) (ki_e C (k_var (by rfl) (by rfl))) ⟨fun s H Cc cl fp C => (kg_name (G := gm K ca) C.nN (by rfl) (by rfl)), fun s H Cc cl fp C => kc_none, fun s H Cc cl fp C => (k_call C (by rfl) (by rfl) (ka_cons (k_idx C (k_var (by rfl) (by rfl)) k_int) (ka_cons (k_idx C (k_var (by rfl) (by rfl)) k_int) ka_nil)))⟩) (kb_cons (ks_for C (ki_rng1 (by rfl) Tx.z_range k_int) (kg_name (G := gm K ca) C.nN (by rfl) (by rfl)) (kb_cons (ks_if (PW.pt (kw_or (kt_not (kt_val C (k_call C (by rfl) (by rfl) (ka_cons (k_idx C (k_var (by rfl) (by rfl)) (k_var (by rfl) (by rfl))) (ka_cons (k_idx C (k_var (by rfl) (by rfl)) (k_var (by rfl) (by rfl))) ka_nil))))) (kw_or1 (kt_not (kt_val C (k_call C (by rfl) (by rfl) (ka_cons (k_idx C (k_var (by rfl) (by rfl)) (k_var (by rfl) (by rfl))) (ka_cons (k_idx C (k_var (by rfl) (by rfl)) (k_var (by rfl) (by rfl))) ka_nil)))))))) (kb_cons (ks_ret k_bl) kb_nil) kb_nil) kb_nil)) (kb_cons (ks_for C (ki_e C (k_al0 (ka_lst (ka_cons (k_tup (ka_cons k_int (ka_cons k_int ka_nil))) (ka_cons (k_tup (ka_cons k_int (ka_cons k_int ka_nil))) (ka_cons (k_tup (ka_cons k_int (ka_cons k_int ka_nil))) (ka_cons (k_tup (ka_cons k_int (ka_cons k_int ka_nil))) ka_nil))))))) (kg_name (G := gm K ca) C.nN (by rfl) (by rfl)) (kb_cons (ks_if (kt_not (kt_val C (k_call C (by rfl) (by rfl) (ka_cons (k_idx C (k_var (by rfl) (by rfl)) (k_idx C (k_var (by rfl) (by rfl)) k_int)) (ka_cons (k_idx C (k_var (by rfl) (by rfl)) (k_idx C (k_var (by rfl) (by rfl)) k_int)) (ka_cons (k_idx C (k_var (by rfl) (by rfl)) (k_idx C (k_var (by rfl) (by rfl)) k_int)) (ka_cons (k_idx C (k_var (by rfl) (by rfl)) (k_idx C (k_var (by rfl) (by rfl)) k_int)) ka_nil))))))) (kb_cons (ks_ret k_bl) kb_nil) kb_nil) kb_nil)) (kb_cons (ks_for C (ki_rng1 (by rfl) Tx.z_range k_int) (kg_name (G := gm K ca) C.nN (by rfl) (by rfl)) (kb_cons (ks_if (kt_not (kt_val C (k_call C (by rfl) (by rfl) (ka_cons (k_idx C (k_var (by rfl) (by rfl)) (k_var (by rfl) (by rfl))) (ka_cons (k_idx C (k_var (by rfl) (by rfl)) (k_var (by rfl) (by rfl))) ka_nil))))) (kb_cons (ks_ret k_bl) kb_nil) kb_nil) kb_nil)) (kb_cons (ks_if (PW.pt (kw_or (kt_not (kt_val C (k_call C (by rfl) (by rfl) (ka_cons (k_idx C (k_idx C (k_var (by rfl) (by rfl)) k_int) k_int) (ka_cons (k_cmp C opnm (k_var (by rfl) (by rfl)) k_int) ka_nil))))) (kw_or1 (kt_not (kt_val C (k_call C (by rfl) (by rfl) (ka_cons (k_var (by rfl) (by rfl)) ka_nil))))))) (kb_cons (ks_ret k_bl) kb_nil) kb_nil) (kb_cons (ks_asg C (by rfl) (by rfl) (k_call C (by rfl) (by rfl) (ka_cons (k_var (by rfl) (by rfl)) (ka_cons k_int ka_nil)))) (kb_cons (ks_if (kt_cmp C opnm (k_var (by rfl) (by rfl)) k_int) (kb_cons (ks_asg C (by rfl) (by rfl) (k_call C (by rfl) (by rfl) (ka_cons (k_var (by rfl) (by rfl)) (ka_cons k_int ka_nil)))) kb_nil) kb_nil) (kb_cons (ks_ret (k_and C (k_call C (by rfl) (by rfl) (ka_cons (k_call C (by rfl) (by rfl) (ka_cons (k_var (by rfl) (by rfl)) ka_nil)) (ka_cons (k_al0 (ka_lst (ka_cons k_int (ka_cons (k_bin C opnm k_int (k_var (by rfl) (by rfl))) ka_nil)))) ka_nil))) (k_one (k_call C (by rfl) (by rfl) (ka_cons (k_callK0 C (by rfl) (by rfl) (kk_cons (k_var (by rfl) (by rfl)) kk_nil) Tx.kb_2) (ka_cons (k_al0 (ka_lst (ka_cons k_int (ka_cons (k_bin C opnm k_int (k_var (by rfl) (by rfl))) ka_nil)))) ka_nil)))))) kb_nil)))))))))))))))))
theorem w_22 (Tx : Txt K mg ca D) (fa : Addr) (cdv : Value) (A : Around) (outer : List Env) (s : Shared) (H : L2.Hp) (E : XK) (C : KCx (cxOf (L2N.CX Pg w) Pg w K mg base (["script"] : List Str) "law" (defScope s_22) fa cdv A outer s H E) prog (run prog Wn d) (gm K ca) (WE0 E) (L2N.CX Pg w) (lvD D d) tab) :
    PSs (cxOf (L2N.CX Pg w) Pg w K mg base (["script"] : List Str) "law" (defScope s_22) fa cdv A outer s H E) (defBody s_22) (tB prog (run prog Wn d) (gm K ca) (WE0 E) Wn b_law) :=
  (kb_cons (kp_try C fun C => (kb_cons (ks_ret (k_call C (by rfl) (by rfl) (ka_cons (k_var (by rfl) (by rfl)) ka_nil))) kb_nil)) kb_nil)
theorem w_23 (Tx : Txt K mg ca D) (fa : Addr) (cdv : Value) (A : Around) (outer : List Env) (s : Shared) (H : L2.Hp) (E : XK) (p : Addr × Obj) (C : KCx (L2H.cxH CX0 Pg w K mg base (["told", "due"] : List Str) "_law_integer" (defScope s_12) fa cdv A outer s H E p) prog (run prog Wn d) (gm K ca) WF CX0 (lvD D d) tab.hot) :
    PSs (L2H.cxH CX0 Pg w K mg base (["told", "due"] : List Str) "_law_integer" (defScope s_12) fa cdv A outer s H E p) (defBody s_12) (tB prog (run prog Wn d) (gm K ca) WF Wn b_hotu_law_integer) :=
  (kb_cons (ks_ret (k_and C (k_isi1 C (by rfl) Tx.z_isinstance (k_var (by rfl) (by rfl)) (.ty (by rfl) (by rfl) Tx.z_int (by rfl) .nil)) (k_and C (k_not C (k_isi1 C (by rfl) Tx.z_isinstance (k_var (by rfl) (by rfl)) (.ty (by rfl) (by rfl) Tx.z_bool (by rfl) .nil))) (k_one (k_cmpN C (k_var (by rfl) (by rfl)) (k_var (by rfl) (by rfl))))))) kb_nil)
end
end K02
end
section
set_option Elab.async false
set_option linter.all false
set_option maxRecDepth 100000
set_option maxHeartbeats 4000000
set_option autoImplicit false
namespace K02
abbrev WF0 : Nat := 100000
end K02
namespace K02
open Kb PySem PySem.Spec PyProof.Rows L2
structure Funs (K : PySem.W.Frag) (D : Dat) : Prop where
  f_0 : Fun K "two_to" "two_to" s_0 (D.ad 0) (D.fd 0)
  p_0 : D.ps 0 = (["length"] : List Str)
  f_1 : Fun K "__init__" "Share.__init__" s_1 (D.ad 1) (D.fd 1)
  p_1 : D.ps 1 = (["self", "over", "under"] : List Str)
  f_2 : Fun K "__eq__" "Share.__eq__" s_2 (D.ad 2) (D.fd 2)
  p_2 : D.ps 2 = (["self", "other"] : List Str)
  f_3 : Fun K "__add__" "Share.__add__" s_3 (D.ad 3) (D.fd 3)
  p_3 : D.ps 3 = (["self", "other"] : List Str)
  f_4 : Fun K "__sub__" "Share.__sub__" s_4 (D.ad 4) (D.fd 4)
  p_4 : D.ps 4 = (["self", "other"] : List Str)
  f_5 : Fun K "__mul__" "Share.__mul__" s_5 (D.ad 5) (D.fd 5)
  p_5 : D.ps 5 = (["self", "other"] : List Str)
  f_6 : Fun K "is_below" "Share.is_below" s_6 (D.ad 6) (D.fd 6)
  p_6 : D.ps 6 = (["self", "other"] : List Str)
  f_7 : Fun K "half_of" "half_of" s_7 (D.ad 7) (D.fd 7)
  p_7 : D.ps 7 = (["length"] : List Str)
  f_8 : Fun K "_law_tape" "_law_tape" s_8 (D.ad 8) (D.fd 8)
  p_8 : D.ps 8 = (["script"] : List Str)
  f_9 : Fun K "_law_draw" "_law_draw" s_9 (D.ad 9) (D.fd 9)
  p_9 : D.ps 9 = (["tape", "limit"] : List Str)
  f_10 : Fun K "_law_number" "_law_number" s_10 (D.ad 10) (D.fd 10)
  p_10 : D.ps 10 = (["tape"] : List Str)
  f_11 : Fun K "_law_lowest" "_law_lowest" s_11 (D.ad 11) (D.fd 11)
  p_11 : D.ps 11 = (["over", "under"] : List Str)
  f_12 : Fun K "_law_integer" "_law_integer" s_12 (D.ad 12) (D.fd 12)
  p_12 : D.ps 12 = (["told", "due"] : List Str)
  f_13 : Fun K "_law_is" "_law_is" s_13 (D.ad 13) (D.fd 13)
  p_13 : D.ps 13 = (["told", "due"] : List Str)
  f_14 : Fun K "_law_sum" "_law_sum" s_14 (D.ad 14) (D.fd 14)
  p_14 : D.ps 14 = (["one", "other"] : List Str)
  f_15 : Fun K "_law_less" "_law_less" s_15 (D.ad 15) (D.fd 15)
  p_15 : D.ps 15 = (["one", "other"] : List Str)
  f_16 : Fun K "_law_times" "_law_times" s_16 (D.ad 16) (D.fd 16)
  p_16 : D.ps 16 = (["one", "other"] : List Str)
  f_17 : Fun K "_law_pair_right" "_law_pair_right" s_17 (D.ad 17) (D.fd 17)
  p_17 : D.ps 17 = (["one", "other", "first", "second"] : List Str)
  f_18 : Fun K "_law_strangers_right" "_law_strangers_right" s_18 (D.ad 18) (D.fd 18)
  p_18 : D.ps 18 = (["share", "due"] : List Str)
  f_19 : Fun K "_law_refused" "_law_refused" s_19 (D.ad 19) (D.fd 19)
  p_19 : D.ps 19 = (["over", "by_name"] : List Str)
  f_20 : Fun K "_law_chain_right" "_law_chain_right" s_20 (D.ad 20) (D.fd 20)
  p_20 : D.ps 20 = (["tape"] : List Str)
  f_21 : Fun K "_law_asks" "_law_asks" s_21 (D.ad 21) (D.fd 21)
  p_21 : D.ps 21 = (["script"] : List Str)
  f_22 : Fun K "law" "law" s_22 (D.ad 22) (D.fd 22)
  p_22 : D.ps 22 = (["script"] : List Str)
  f_23 : Fun K "_law_integer" "_law_integer" s_12 (D.ad 23) (D.fd 23)
  p_23 : D.ps 23 = (["told", "due"] : List Str)
theorem sc_0 : FnScope ["length"] ["length"] (defScope s_0) := ⟨rfl, rfl, rfl, by decide +kernel, rfl, by decide +kernel, by decide +kernel⟩
theorem sc_1 : FnScope ["self", "over", "under", "divisor"] ["self", "over", "under"] (defScope s_1) := ⟨rfl, rfl, rfl, by decide +kernel, rfl, by decide +kernel, by decide +kernel⟩
theorem sc_2 : FnScope ["self", "other"] ["self", "other"] (defScope s_2) := ⟨rfl, rfl, rfl, by decide +kernel, rfl, by decide +kernel, by decide +kernel⟩
theorem sc_3 : FnScope ["self", "other"] ["self", "other"] (defScope s_3) := ⟨rfl, rfl, rfl, by decide +kernel, rfl, by decide +kernel, by decide +kernel⟩
theorem sc_4 : FnScope ["self", "other"] ["self", "other"] (defScope s_4) := ⟨rfl, rfl, rfl, by decide +kernel, rfl, by decide +kernel, by decide +kernel⟩
theorem sc_5 : FnScope ["self", "other"] ["self", "other"] (defScope s_5) := ⟨rfl, rfl, rfl, by decide +kernel, rfl, by decide +kernel, by decide +kernel⟩
theorem sc_6 : FnScope ["self", "other"] ["self", "other"] (defScope s_6) := ⟨rfl, rfl, rfl, by decide +kernel, rfl, by decide +kernel, by decide +kernel⟩
theorem sc_7 : FnScope ["length"] ["length"] (defScope s_7) := ⟨rfl, rfl, rfl, by decide +kernel, rfl, by decide +kernel, by decide +kernel⟩
theorem sc_8 : FnScope ["script", "great", "seed", "cell"] ["script"] (defScope s_8) := ⟨rfl, rfl, rfl, by decide +kernel, rfl, by decide +kernel, by decide +kernel⟩
theorem sc_9 : FnScope ["tape", "limit", "great", "mixed", "number"] ["tape", "limit"] (defScope s_9) := ⟨rfl, rfl, rfl, by decide +kernel, rfl, by decide +kernel, by decide +kernel⟩
theorem sc_10 : FnScope ["tape", "kind", "number", "k"] ["tape"] (defScope s_10) := ⟨rfl, rfl, rfl, by decide +kernel, rfl, by decide +kernel, by decide +kernel⟩
theorem sc_11 : FnScope ["over", "under", "low", "rest", "k", "more"] ["over", "under"] (defScope s_11) := ⟨rfl, rfl, rfl, by decide +kernel, rfl, by decide +kernel, by decide +kernel⟩
theorem sc_12 : FnScope ["told", "due"] ["told", "due"] (defScope s_12) := ⟨rfl, rfl, rfl, by decide +kernel, rfl, by decide +kernel, by decide +kernel⟩
theorem sc_13 : FnScope ["told", "due"] ["told", "due"] (defScope s_13) := ⟨rfl, rfl, rfl, by decide +kernel, rfl, by decide +kernel, by decide +kernel⟩
theorem sc_14 : FnScope ["one", "other"] ["one", "other"] (defScope s_14) := ⟨rfl, rfl, rfl, by decide +kernel, rfl, by decide +kernel, by decide +kernel⟩
theorem sc_15 : FnScope ["one", "other"] ["one", "other"] (defScope s_15) := ⟨rfl, rfl, rfl, by decide +kernel, rfl, by decide +kernel, by decide +kernel⟩
theorem sc_16 : FnScope ["one", "other"] ["one", "other"] (defScope s_16) := ⟨rfl, rfl, rfl, by decide +kernel, rfl, by decide +kernel, by decide +kernel⟩
theorem sc_17 : FnScope ["one", "other", "first", "second", "alike", "told", "below"] ["one", "other", "first", "second"] (defScope s_17) := ⟨rfl, rfl, rfl, by decide +kernel, rfl, by decide +kernel, by decide +kernel⟩
theorem sc_18 : FnScope ["share", "due", "things", "thing", "told"] ["share", "due"] (defScope s_18) := ⟨rfl, rfl, rfl, by decide +kernel, rfl, by decide +kernel, by decide +kernel⟩
theorem sc_19 : FnScope ["over", "by_name", "e"] ["over", "by_name"] (defScope s_19) := ⟨rfl, rfl, rfl, by decide +kernel, rfl, by decide +kernel, by decide +kernel⟩
theorem sc_20 : FnScope ["tape", "due", "share", "k", "over", "under", "step", "kind"] ["tape"] (defScope s_20) := ⟨rfl, rfl, rfl, by decide +kernel, rfl, by decide +kernel, by decide +kernel⟩
theorem sc_21 : FnScope ["script", "tape", "numbers", "k", "shape", "made", "due", "pair", "length", "under", "times"] ["script"] (defScope s_21) := ⟨rfl, rfl, rfl, by decide +kernel, rfl, by decide +kernel, by decide +kernel⟩
theorem sc_22 : FnScope ["script"] ["script"] (defScope s_22) := ⟨rfl, rfl, rfl, by decide +kernel, rfl, by decide +kernel, by decide +kernel⟩
abbrev sX_1 : Stmt := inClass (top 3) 0
theorem scX_1 : FnScope ["self", "number"] ["self", "number"] (defScope sX_1) := ⟨rfl, rfl, rfl, by decide +kernel, rfl, by decide +kernel, by decide +kernel⟩
section
variable {Pg : Program} {w : World} {K : PySem.W.Frag} {mg : Str → Option Value} {base : Heap} {ca : Nat → Addr} {D : Dat} {Wn d : Nat}
theorem step (Tx : Txt K mg ca D) (Fs : Funs K D) (St : Stat K mg prog (gm K ca) D tab ini okf okh) (d : Nat) (IHh : ∀ f, okh f → L2H.FnH Pg w K mg base CX0 (2 * d + 2) (D.ad f) (D.fd f) (D.ps f) (spH (gm K ca) (run prog Wn d) f)) (IH : ∀ f, okf f → FnOk Pg w K mg base (L2N.CX Pg w) (2 * d + 2) (D.ad f) (D.fd f) (D.ps f) (spOf ini (gm K ca) (run prog Wn d) f)) :
    ∀ f, okf f → FnOk Pg w K mg base (L2N.CX Pg w) (2 * d + 4) (D.ad f) (D.fd f) (D.ps f) (spOf ini (gm K ca) (run prog Wn (d + 1)) f) := by
  intro f hf
  have hm : f ∈ [0, 1, 2, 3, 4, 5, 6, 7, 8, 9, 10, 11, 12, 13, 14, 15, 16, 17, 18, 19, 20, 21, 22] := List.contains_iff_mem.mp hf
  simp only [List.mem_cons, List.not_mem_nil, or_false] at hm
  rcases hm with rfl | rfl | rfl | rfl | rfl | rfl | rfl | rfl | rfl | rfl | rfl | rfl | rfl | rfl | rfl | rfl | rfl | rfl | rfl | rfl | rfl | rfl | rfl
  · rw [Fs.p_0, spOf_n (by intro c e; cases e)]; exact fn_walk St IH IHh Fs.f_0 sc_0 rfl rfl (by decide) (fun cdv A outer s H E C => w_0 Tx _ cdv A outer s H E C)
  · rw [Fs.p_1, spOf_i (c := 2) (by rfl)]; exact ini_walk St IH IHh Fs.f_1 sc_1 rfl rfl (by decide) (fun cdv A outer s H E C => w_1 Tx _ cdv A outer s H E C)
  · rw [Fs.p_2, spOf_n (by intro c e; cases e)]; exact fn_walk St IH IHh Fs.f_2 sc_2 rfl rfl (by decide) (fun cdv A outer s H E C => w_2 Tx _ cdv A outer s H E C)
  · rw [Fs.p_3, spOf_n (by intro c e; cases e)]; exact fn_walk St IH IHh Fs.f_3 sc_3 rfl rfl (by decide) (fun cdv A outer s H E C => w_3 Tx _ cdv A outer s H E C)
  · rw [Fs.p_4, spOf_n (by intro c e; cases e)]; exact fn_walk St IH IHh Fs.f_4 sc_4 rfl rfl (by decide) (fun cdv A outer s H E C => w_4 Tx _ cdv A outer s H E C)
  · rw [Fs.p_5, spOf_n (by intro c e; cases e)]; exact fn_walk St IH IHh Fs.f_5 sc_5 rfl rfl (by decide) (fun cdv A outer s H E C => w_5 Tx _ cdv A outer s H E C)
  · rw [Fs.p_6, spOf_n (by intro c e; cases e)]; exact fn_walk St IH IHh Fs.f_6 sc_6 rfl rfl (by decide) (fun cdv A outer s H E C => w_6 Tx _ cdv A outer s H E C)
  · rw [Fs.p_7, spOf_n (by intro c e; cases e)]; exact fn_walk St IH IHh Fs.f_7 sc_7 rfl rfl (by decide) (fun cdv A outer s H E C => w_7 Tx _ cdv A outer s H E C)
  · rw [Fs.p_8, spOf_n (by intro c e; cases e)]; exact fn_walk St IH IHh Fs.f_8 sc_8 rfl rfl (by decide) (fun cdv A outer s H E C => w_8 Tx _ cdv A outer s H E C)
  · rw [Fs.p_9, spOf_n (by intro c e; cases e)]; exact fn_walk St IH IHh Fs.f_9 sc_9 rfl rfl (by decide) (fun cdv A outer s H E C => w_9 Tx _ cdv A outer s H E C)
  · rw [Fs.p_10, spOf_n (by intro c e; cases e)]; exact fn_walk St IH IHh Fs.f_10 sc_10 rfl rfl (by decide) (fun cdv A outer s H E C => w_10 Tx _ cdv A outer s H E C)
  · rw [Fs.p_11, spOf_n (by intro c e; cases e)]; exact fn_walk St IH IHh Fs.f_11 sc_11 rfl rfl (by decide) (fun cdv A outer s H E C => w_11 Tx _ cdv A outer s H E C)
  · rw [Fs.p_12, spOf_n (by intro c e; cases e)]; exact fn_walk St IH IHh Fs.f_12 sc_12 rfl rfl (by decide) (fun cdv A outer s H E C => w_12 Tx _ cdv A outer s H E C)
  · rw [Fs.p_13, spOf_n (by intro c e; cases e)]; exact fn_walk St IH IHh Fs.f_13 sc_13 rfl rfl (by decide) (fun cdv A outer s H E C => w_13 Tx _ cdv A outer s H E C)
  · rw [Fs.p_14, spOf_n (by intro c e; cases e)]; exact fn_walk St IH IHh Fs.f_14 sc_14 rfl rfl (by decide) (fun cdv A outer s H E C => w_14 Tx _ cdv A outer s H E C)
  · rw [Fs.p_15, spOf_n (by intro c e; cases e)]; exact fn_walk St IH IHh Fs.f_15 sc_15 rfl rfl (by decide) (fun cdv A outer s H E C => w_15 Tx _ cdv A outer s H E C)
  · rw [Fs.p_16, spOf_n (by intro c e; cases e)]; exact fn_walk St IH IHh Fs.f_16 sc_16 rfl rfl (by decide) (fun cdv A outer s H E C => w_16 Tx _ cdv A outer s H E C)
  · rw [Fs.p_17, spOf_n (by intro c e; cases e)]; exact fn_walk St IH IHh Fs.f_17 sc_17 rfl rfl (by decide) (fun cdv A outer s H E C => w_17 Tx _ cdv A outer s H E C)
  · rw [Fs.p_18, spOf_n (by intro c e; cases e)]; exact fn_walk St IH IHh Fs.f_18 sc_18 rfl rfl (by decide) (fun cdv A outer s H E C => w_18 Tx _ cdv A outer s H E C)
  · rw [Fs.p_19, spOf_n (by intro c e; cases e)]; exact fn_walk St IH IHh Fs.f_19 sc_19 rfl rfl (by decide) (fun cdv A outer s H E C => w_19 Tx _ cdv A outer s H E C)
  · rw [Fs.p_20, spOf_n (by intro c e; cases e)]; exact fn_walk St IH IHh Fs.f_20 sc_20 rfl rfl (by decide) (fun cdv A outer s H E C => w_20 Tx _ cdv A outer s H E C)
  · rw [Fs.p_21, spOf_n (by intro c e; cases e)]; exact fn_walk St IH IHh Fs.f_21 sc_21 rfl rfl (by decide) (fun cdv A outer s H E C => w_21 Tx _ cdv A outer s H E C)
  · rw [Fs.p_22, spOf_n (by intro c e; cases e)]; exact fn_walk St IH IHh Fs.f_22 sc_22 rfl rfl (by decide) (fun cdv A outer s H E C => w_22 Tx _ cdv A outer s H E C)
theorem stepH (Tx : Txt K mg ca D) (Fs : Funs K D) (St : Stat K mg prog (gm K ca) D tab ini okf okh) (d : Nat) (IHh : ∀ f, okh f → L2H.FnH Pg w K mg base CX0 (2 * d + 2) (D.ad f) (D.fd f) (D.ps f) (spH (gm K ca) (run prog Wn d) f)) :
    ∀ f, okh f → L2H.FnH Pg w K mg base CX0 (2 * d + 4) (D.ad f) (D.fd f) (D.ps f) (spH (gm K ca) (run prog Wn (d + 1)) f) := by
  intro f hf
  have hm : f ∈ ([23] : List Nat) := List.contains_iff_mem.mp hf
  simp only [List.mem_cons, List.not_mem_nil, or_false] at hm
  rcases hm with rfl
  · rw [Fs.p_23]; exact hot_walk St IHh Fs.f_23 sc_12 rfl rfl (by decide) (fun cdv A outer s H E p C => w_23 Tx _ cdv A outer s H E p C)
end
theorem all_mk (lawT : ∀ ns : List Int, ns.length ≤ 63 → ∃ h, run prog WF0 24 22 [.kl ns] [] = .ok (.bl true) h) {l : PySem.W.OpenLaw} {w : World} {K : PySem.W.Frag} {h : Heap} {mg : Str → Option Value} {fa C2 f0 f1 f2 f3 f4 f5 f6 f7 f8 f9 f10 f11 f12 f13 f14 f15 f16 f17 f18 f19 f20 f21 f22 X0 X1 fX1 : Addr} (X : K.In h) (G : h.Ns mainGlobals mg) (hfa : mg "law" = some (.ref fa))
    {od0 an0 : Option Addr} {sl0 : Array (Option Value)} {oc0 kV0 dc0 pm0 cd0 ct0 : Value}
    {od1 an1 : Option Addr} {sl1 : Array (Option Value)} {oc1 kV1 dc1 pm1 cd1 ct1 : Value}
    {od2 an2 : Option Addr} {sl2 : Array (Option Value)} {oc2 kV2 dc2 pm2 cd2 ct2 : Value}
    {od3 an3 : Option Addr} {sl3 : Array (Option Value)} {oc3 kV3 dc3 pm3 cd3 ct3 : Value}
    {od4 an4 : Option Addr} {sl4 : Array (Option Value)} {oc4 kV4 dc4 pm4 cd4 ct4 : Value}
    {od5 an5 : Option Addr} {sl5 : Array (Option Value)} {oc5 kV5 dc5 pm5 cd5 ct5 : Value}
    {od6 an6 : Option Addr} {sl6 : Array (Option Value)} {oc6 kV6 dc6 pm6 cd6 ct6 : Value}
    {od7 an7 : Option Addr} {sl7 : Array (Option Value)} {oc7 kV7 dc7 pm7 cd7 ct7 : Value}
    {od8 an8 : Option Addr} {sl8 : Array (Option Value)} {oc8 kV8 dc8 pm8 cd8 ct8 : Value}
    {od9 an9 : Option Addr} {sl9 : Array (Option Value)} {oc9 kV9 dc9 pm9 cd9 ct9 : Value}
    {od10 an10 : Option Addr} {sl10 : Array (Option Value)} {oc10 kV10 dc10 pm10 cd10 ct10 : Value}
    {od11 an11 : Option Addr} {sl11 : Array (Option Value)} {oc11 kV11 dc11 pm11 cd11 ct11 : Value}
    {od12 an12 : Option Addr} {sl12 : Array (Option Value)} {oc12 kV12 dc12 pm12 cd12 ct12 : Value}
    {od13 an13 : Option Addr} {sl13 : Array (Option Value)} {oc13 kV13 dc13 pm13 cd13 ct13 : Value}
    {od14 an14 : Option Addr} {sl14 : Array (Option Value)} {oc14 kV14 dc14 pm14 cd14 ct14 : Value}
    {od15 an15 : Option Addr} {sl15 : Array (Option Value)} {oc15 kV15 dc15 pm15 cd15 ct15 : Value}
    {od16 an16 : Option Addr} {sl16 : Array (Option Value)} {oc16 kV16 dc16 pm16 cd16 ct16 : Value}
    {od17 an17 : Option Addr} {sl17 : Array (Option Value)} {oc17 kV17 dc17 pm17 cd17 ct17 : Value}
    {od18 an18 : Option Addr} {sl18 : Array (Option Value)} {oc18 kV18 dc18 pm18 cd18 ct18 : Value}
    {od19 an19 : Option Addr} {sl19 : Array (Option Value)} {oc19 kV19 dc19 pm19 cd19 ct19 : Value}
    {od20 an20 : Option Addr} {sl20 : Array (Option Value)} {oc20 kV20 dc20 pm20 cd20 ct20 : Value}
    {od21 an21 : Option Addr} {sl21 : Array (Option Value)} {oc21 kV21 dc21 pm21 cd21 ct21 : Value}
    {od22 an22 : Option Addr} {sl22 : Array (Option Value)} {oc22 kV22 dc22 pm22 cd22 ct22 : Value}
    {xnm1 xq1 : Str} {xN1 : Addr} {xbs1 : List Value} {xsn1 : List Str} {xsub1 : List Value} {xab1 : Bool} {xcol1 : Option Bool} {xdd1 : Option Addr} {xa1 xb1 xc1 xd1 xe1 : Option Value}
    {xod1 xan1 : Option Addr} {xsl1 : Array (Option Value)} {xoc1 xkV1 xdc1 xpm1 xcd1 xct1 : Value}
    (aC2 : PySem.W.nsIn K mainGlobals "Share" = some (some (.ref C2)))
    (a0 : PySem.W.nsIn K mainGlobals "two_to" = some (some (.ref f0)))
    (l0 : K.lookup f0 = some ⟨oc0, od0, .func (PySem.W.fnOf "two_to" "two_to" (defArgs s_0) (defBody s_0) (defScope s_0) .none kV0 dc0 pm0 an0 cd0 ct0), sl0⟩)
    (c0 : PySem.W.codeIn K cd0 "two_to" = true)
    (k0 : PySem.W.keepIn K (.ref f0) = true)
    (a1 : PySem.W.findIn K (.ref C2) "__init__" = some (some (.ref f1)))
    (i1 : PySem.W.isFn K (.ref f1) = true)
    (l1 : K.lookup f1 = some ⟨oc1, od1, .func (PySem.W.fnOf "__init__" "Share.__init__" (defArgs s_1) (defBody s_1) (defScope s_1) .none kV1 dc1 pm1 an1 cd1 ct1), sl1⟩)
    (c1 : PySem.W.codeIn K cd1 "Share.__init__" = true)
    (k1 : PySem.W.keepIn K (.ref f1) = true)
    (a2 : PySem.W.findIn K (.ref C2) "__eq__" = some (some (.ref f2)))
    (i2 : PySem.W.isFn K (.ref f2) = true)
    (l2 : K.lookup f2 = some ⟨oc2, od2, .func (PySem.W.fnOf "__eq__" "Share.__eq__" (defArgs s_2) (defBody s_2) (defScope s_2) .none kV2 dc2 pm2 an2 cd2 ct2), sl2⟩)
    (c2 : PySem.W.codeIn K cd2 "Share.__eq__" = true)
    (k2 : PySem.W.keepIn K (.ref f2) = true)
    (a3 : PySem.W.findIn K (.ref C2) "__add__" = some (some (.ref f3)))
    (i3 : PySem.W.isFn K (.ref f3) = true)
    (l3 : K.lookup f3 = some ⟨oc3, od3, .func (PySem.W.fnOf "__add__" "Share.__add__" (defArgs s_3) (defBody s_3) (defScope s_3) .none kV3 dc3 pm3 an3 cd3 ct3), sl3⟩)
    (c3 : PySem.W.codeIn K cd3 "Share.__add__" = true)
    (k3 : PySem.W.keepIn K (.ref f3) = true)
    (a4 : PySem.W.findIn K (.ref C2) "__sub__" = some (some (.ref f4)))
    (i4 : PySem.W.isFn K (.ref f4) = true)
    (l4 : K.lookup f4 = some ⟨oc4, od4, .func (PySem.W.fnOf "__sub__" "Share.__sub__" (defArgs s_4) (defBody s_4) (defScope s_4) .none kV4 dc4 pm4 an4 cd4 ct4), sl4⟩)
    (c4 : PySem.W.codeIn K cd4 "Share.__sub__" = true)
    (k4 : PySem.W.keepIn K (.ref f4) = true)
    (a5 : PySem.W.findIn K (.ref C2) "__mul__" = some (some (.ref f5)))
    (i5 : PySem.W.isFn K (.ref f5) = true)
    (l5 : K.lookup f5 = some ⟨oc5, od5, .func (PySem.W.fnOf "__mul__" "Share.__mul__" (defArgs s_5) (defBody s_5) (defScope s_5) .none kV5 dc5 pm5 an5 cd5 ct5), sl5⟩)
    (c5 : PySem.W.codeIn K cd5 "Share.__mul__" = true)
    (k5 : PySem.W.keepIn K (.ref f5) = true)
    (a6 : PySem.W.findIn K (.ref C2) "is_below" = some (some (.ref f6)))
    (i6 : PySem.W.isFn K (.ref f6) = true)
    (l6 : K.lookup f6 = some ⟨oc6, od6, .func (PySem.W.fnOf "is_below" "Share.is_below" (defArgs s_6) (defBody s_6) (defScope s_6) .none kV6 dc6 pm6 an6 cd6 ct6), sl6⟩)
    (c6 : PySem.W.codeIn K cd6 "Share.is_below" = true)
    (k6 : PySem.W.keepIn K (.ref f6) = true)
    (a7 : PySem.W.nsIn K mainGlobals "half_of" = some (some (.ref f7)))
    (l7 : K.lookup f7 = some ⟨oc7, od7, .func (PySem.W.fnOf "half_of" "half_of" (defArgs s_7) (defBody s_7) (defScope s_7) .none kV7 dc7 pm7 an7 cd7 ct7), sl7⟩)
    (c7 : PySem.W.codeIn K cd7 "half_of" = true)
    (k7 : PySem.W.keepIn K (.ref f7) = true)
    (a8 : PySem.W.nsIn K mainGlobals "_law_tape" = some (some (.ref f8)))
    (l8 : K.lookup f8 = some ⟨oc8, od8, .func (PySem.W.fnOf "_law_tape" "_law_tape" (defArgs s_8) (defBody s_8) (defScope s_8) .none kV8 dc8 pm8 an8 cd8 ct8), sl8⟩)
    (c8 : PySem.W.codeIn K cd8 "_law_tape" = true)
    (k8 : PySem.W.keepIn K (.ref f8) = true)
    (a9 : PySem.W.nsIn K mainGlobals "_law_draw" = some (some (.ref f9)))
    (l9 : K.lookup f9 = some ⟨oc9, od9, .func (PySem.W.fnOf "_law_draw" "_law_draw" (defArgs s_9) (defBody s_9) (defScope s_9) .none kV9 dc9 pm9 an9 cd9 ct9), sl9⟩)
    (c9 : PySem.W.codeIn K cd9 "_law_draw" = true)
    (k9 : PySem.W.keepIn K (.ref f9) = true)
    (a10 : PySem.W.nsIn K mainGlobals "_law_number" = some (some (.ref f10)))
    (l10 : K.lookup f10 = some ⟨oc10, od10, .func (PySem.W.fnOf "_law_number" "_law_number" (defArgs s_10) (defBody s_10) (defScope s_10) .none kV10 dc10 pm10 an10 cd10 ct10), sl10⟩)
    (c10 : PySem.W.codeIn K cd10 "_law_number" = true)
    (k10 : PySem.W.keepIn K (.ref f10) = true)
    (a11 : PySem.W.nsIn K mainGlobals "_law_lowest" = some (some (.ref f11)))
    (l11 : K.lookup f11 = some ⟨oc11, od11, .func (PySem.W.fnOf "_law_lowest" "_law_lowest" (defArgs s_11) (defBody s_11) (defScope s_11) .none kV11 dc11 pm11 an11 cd11 ct11), sl11⟩)
    (c11 : PySem.W.codeIn K cd11 "_law_lowest" = true)
    (k11 : PySem.W.keepIn K (.ref f11) = true)
    (a12 : PySem.W.nsIn K mainGlobals "_law_integer" = some (some (.ref f12)))
    (l12 : K.lookup f12 = some ⟨oc12, od12, .func (PySem.W.fnOf "_law_integer" "_law_integer" (defArgs s_12) (defBody s_12) (defScope s_12) .none kV12 dc12 pm12 an12 cd12 ct12), sl12⟩)
    (c12 : PySem.W.codeIn K cd12 "_law_integer" = true)
    (k12 : PySem.W.keepIn K (.ref f12) = true)
    (a13 : PySem.W.nsIn K mainGlobals "_law_is" = some (some (.ref f13)))
    (l13 : K.lookup f13 = some ⟨oc13, od13, .func (PySem.W.fnOf "_law_is" "_law_is" (defArgs s_13) (defBody s_13) (defScope s_13) .none kV13 dc13 pm13 an13 cd13 ct13), sl13⟩)
    (c13 : PySem.W.codeIn K cd13 "_law_is" = true)
    (k13 : PySem.W.keepIn K (.ref f13) = true)
    (a14 : PySem.W.nsIn K mainGlobals "_law_sum" = some (some (.ref f14)))
    (l14 : K.lookup f14 = some ⟨oc14, od14, .func (PySem.W.fnOf "_law_sum" "_law_sum" (defArgs s_14) (defBody s_14) (defScope s_14) .none kV14 dc14 pm14 an14 cd14 ct14), sl14⟩)
    (c14 : PySem.W.codeIn K cd14 "_law_sum" = true)
    (k14 : PySem.W.keepIn K (.ref f14) = true)
    (a15 : PySem.W.nsIn K mainGlobals "_law_less" = some (some (.ref f15)))
    (l15 : K.lookup f15 = some ⟨oc15, od15, .func (PySem.W.fnOf "_law_less" "_law_less" (defArgs s_15) (defBody s_15) (defScope s_15) .none kV15 dc15 pm15 an15 cd15 ct15), sl15⟩)
    (c15 : PySem.W.codeIn K cd15 "_law_less" = true)
    (k15 : PySem.W.keepIn K (.ref f15) = true)
    (a16 : PySem.W.nsIn K mainGlobals "_law_times" = some (some (.ref f16)))
    (l16 : K.lookup f16 = some ⟨oc16, od16, .func (PySem.W.fnOf "_law_times" "_law_times" (defArgs s_16) (defBody s_16) (defScope s_16) .none kV16 dc16 pm16 an16 cd16 ct16), sl16⟩)
    (c16 : PySem.W.codeIn K cd16 "_law_times" = true)
    (k16 : PySem.W.keepIn K (.ref f16) = true)
    (a17 : PySem.W.nsIn K mainGlobals "_law_pair_right" = some (some (.ref f17)))
    (l17 : K.lookup f17 = some ⟨oc17, od17, .func (PySem.W.fnOf "_law_pair_right" "_law_pair_right" (defArgs s_17) (defBody s_17) (defScope s_17) .none kV17 dc17 pm17 an17 cd17 ct17), sl17⟩)
    (c17 : PySem.W.codeIn K cd17 "_law_pair_right" = true)
    (k17 : PySem.W.keepIn K (.ref f17) = true)
    (a18 : PySem.W.nsIn K mainGlobals "_law_strangers_right" = some (some (.ref f18)))
    (l18 : K.lookup f18 = some ⟨oc18, od18, .func (PySem.W.fnOf "_law_strangers_right" "_law_strangers_right" (defArgs s_18) (defBody s_18) (defScope s_18) .none kV18 dc18 pm18 an18 cd18 ct18), sl18⟩)
    (c18 : PySem.W.codeIn K cd18 "_law_strangers_right" = true)
    (k18 : PySem.W.keepIn K (.ref f18) = true)
    (a19 : PySem.W.nsIn K mainGlobals "_law_refused" = some (some (.ref f19)))
    (l19 : K.lookup f19 = some ⟨oc19, od19, .func (PySem.W.fnOf "_law_refused" "_law_refused" (defArgs s_19) (defBody s_19) (defScope s_19) .none kV19 dc19 pm19 an19 cd19 ct19), sl19⟩)
    (c19 : PySem.W.codeIn K cd19 "_law_refused" = true)
    (k19 : PySem.W.keepIn K (.ref f19) = true)
    (a20 : PySem.W.nsIn K mainGlobals "_law_chain_right" = some (some (.ref f20)))
    (l20 : K.lookup f20 = some ⟨oc20, od20, .func (PySem.W.fnOf "_law_chain_right" "_law_chain_right" (defArgs s_20) (defBody s_20) (defScope s_20) .none kV20 dc20 pm20 an20 cd20 ct20), sl20⟩)
    (c20 : PySem.W.codeIn K cd20 "_law_chain_right" = true)
    (k20 : PySem.W.keepIn K (.ref f20) = true)
    (a21 : PySem.W.nsIn K mainGlobals "_law_asks" = some (some (.ref f21)))
    (l21 : K.lookup f21 = some ⟨oc21, od21, .func (PySem.W.fnOf "_law_asks" "_law_asks" (defArgs s_21) (defBody s_21) (defScope s_21) .none kV21 dc21 pm21 an21 cd21 ct21), sl21⟩)
    (c21 : PySem.W.codeIn K cd21 "_law_asks" = true)
    (k21 : PySem.W.keepIn K (.ref f21) = true)
    (a22 : PySem.W.nsIn K mainGlobals "law" = some (some (.ref f22)))
    (l22 : K.lookup f22 = some ⟨oc22, od22, .func (PySem.W.fnOf "law" "law" (defArgs s_22) (defBody s_22) (defScope s_22) .none kV22 dc22 pm22 an22 cd22 ct22), sl22⟩)
    (c22 : PySem.W.codeIn K cd22 "law" = true)
    (k22 : PySem.W.keepIn K (.ref f22) = true)
    (pg2 : PySem.W.plainGet K C2 Str.empty = true)
    (hd2 : PySem.W.hasDictIn K C2 = true)
    (po2 : PySem.W.plainOver K C2 = true)
    (sa2 : PySem.W.findIn K (.ref C2) "__setattr__" = some (some (.builtin "object.__setattr__")))
    (mk2 : PySem.W.makesIn K C2 = true)
    (kc2 : PySem.W.keepIn K (.ref C2) = true)
    (sf2 : PySem.W.selfFirst K C2 = true)
    (dc_2 : PySem.W.findIn K (.ref C2) "__class__" = some (some (.builtin "object.__class__")))
    (mo2 : PySem.W.mroIn K C2 (.type "object") = some true)
    (nq2 : PySem.W.findIn K (.ref C2) "__ne__" = some (some (.builtin "object.__ne__")))
    (n2_number : PySem.W.findIn K (.ref C2) "number" = some none)
    (n2_over : PySem.W.findIn K (.ref C2) "over" = some none)
    (n2_under : PySem.W.findIn K (.ref C2) "under" = some none)
    (ko2_int : PySem.W.kitOne K (.ref C2) (.type "int") = some false)
    (ko2_bool : PySem.W.kitOne K (.ref C2) (.type "bool") = some false)
    (ko2_str : PySem.W.kitOne K (.ref C2) (.type "str") = some false)
    (ko2_tuple : PySem.W.kitOne K (.ref C2) (.type "tuple") = some false)
    (ko2_list : PySem.W.kitOne K (.ref C2) (.type "list") = some false)
    (kk2_2 : PySem.W.kitOne K (.ref C2) (.ref C2) = some true)
    (kb2_NoneType : PySem.W.kitOne K (.type "NoneType") (.ref C2) = some false)
    (kb2_bool : PySem.W.kitOne K (.type "bool") (.ref C2) = some false)
    (kb2_int : PySem.W.kitOne K (.type "int") (.ref C2) = some false)
    (kb2_str : PySem.W.kitOne K (.type "str") (.ref C2) = some false)
    (kb2_tuple : PySem.W.kitOne K (.type "tuple") (.ref C2) = some false)
    (kb2_list : PySem.W.kitOne K (.type "list") (.ref C2) = some false)
    (sp1 : PySem.W.specialIn K (.builtin "object.__class__") "__get__" = some (some (.builtin "getset_descriptor.__get__")))
    (sp2 : PySem.W.takesIn K (.builtin "object.__class__") = some true)
    (aX0 : PySem.W.nsIn K mainGlobals "BudgetError" = some (some (.ref X0)))
    (aX1 : PySem.W.nsIn K mainGlobals "InvalidNumber" = some (some (.ref X1)))
    (xg0 : PySem.W.findIn K (.ref X0) "__getattribute__" = some (some (.builtin "BaseException.__getattribute__")))
    (xh0 : PySem.W.findIn K (.ref X0) "__getattr__" = some none)
    (xB0 : PySem.W.subIn K (.ref X0) (.type "BaseException") = some true)
    (xT0 : PySem.W.typeIn K (.ref X0) = some (.type "type"))
    (xD0 : PySem.W.hasDictIn K X0 = true)
    (xC0 : PySem.W.isClsIn K X0 = true)
    (xn0_number : PySem.W.findIn K (.ref X0) "number" = some none)
    (xS0_1 : PySem.W.subIn K (.ref X0) (.ref X1) = some false)
    (xL1 : K.lookup X1 = some (excClassObj xnm1 xq1 X1 xN1 xbs1 [.ref X0, .type "ValueError", .type "Exception", .type "BaseException", .type "object"] true xsn1 xsub1 xab1 xcol1 xdd1 xa1 xb1 xc1 xd1 xe1 "ValueError.__new__"))
    (xs1 : PySem.W.findIn K (.ref X1) "__setattr__" = some (some (.builtin "object.__setattr__")))
    (xk1 : PySem.W.keepIn K (.ref X1) = true)
    (xi1 : PySem.W.findIn K (.ref X1) "__init__" = some (some (.ref fX1)))
    (xt1 : PySem.W.typeIn K (.ref fX1) = some (.type "function"))
    (xl1 : K.lookup fX1 = some ⟨xoc1, xod1, .func (PySem.W.fnOf "__init__" "InvalidNumber.__init__" (defArgs sX_1) (defBody sX_1) (defScope sX_1) .none xkV1 xdc1 xpm1 xan1 xcd1 xct1), xsl1⟩)
    (xc1 : PySem.W.codeIn K xcd1 "InvalidNumber.__init__" = true)
    (xp1 : PySem.W.keepIn K (.ref fX1) = true)
    (xg1 : PySem.W.findIn K (.ref X1) "__getattribute__" = some (some (.builtin "BaseException.__getattribute__")))
    (xh1 : PySem.W.findIn K (.ref X1) "__getattr__" = some none)
    (xB1 : PySem.W.subIn K (.ref X1) (.type "BaseException") = some true)
    (xT1 : PySem.W.typeIn K (.ref X1) = some (.type "type"))
    (xD1 : PySem.W.hasDictIn K X1 = true)
    (xC1 : PySem.W.isClsIn K X1 = true)
    (xn1_number : PySem.W.findIn K (.ref X1) "number" = some none)
    (xS1_1 : PySem.W.subIn K (.ref X1) (.ref X1) = some true)
    (z_abs : PySem.W.nsIn K mainGlobals "abs" = some none)
    (z_bool : PySem.W.nsIn K mainGlobals "bool" = some none)
    (z_int : PySem.W.nsIn K mainGlobals "int" = some none)
    (z_isinstance : PySem.W.nsIn K mainGlobals "isinstance" = some none)
    (z_range : PySem.W.nsIn K mainGlobals "range" = some none)
    (g_gcd : PySem.W.nsIn K mainGlobals "gcd" = some (some (.builtin "math.gcd")))
    : ∃ fd : FuncData, (∀ (s : Shared) (v : Value), BindsTo s fd ⟨[v], []⟩ [("script", v)]) ∧ ∀ base : Heap, K.In base → base.Ns mainGlobals mg → FnOk l.prog w K mg base CX0 65 fa fd ["script"] (spLaw K) := by
  have e := hfa.symm.trans (PySem.W.mg_of X G a22)
  cases e
  have F0 := fun_mk (st := s_0) l0 c0 k0
  have F1 := fun_mk (st := s_1) l1 c1 k1
  have F2 := fun_mk (st := s_2) l2 c2 k2
  have F3 := fun_mk (st := s_3) l3 c3 k3
  have F4 := fun_mk (st := s_4) l4 c4 k4
  have F5 := fun_mk (st := s_5) l5 c5 k5
  have F6 := fun_mk (st := s_6) l6 c6 k6
  have F7 := fun_mk (st := s_7) l7 c7 k7
  have F8 := fun_mk (st := s_8) l8 c8 k8
  have F9 := fun_mk (st := s_9) l9 c9 k9
  have F10 := fun_mk (st := s_10) l10 c10 k10
  have F11 := fun_mk (st := s_11) l11 c11 k11
  have F12 := fun_mk (st := s_12) l12 c12 k12
  have F13 := fun_mk (st := s_13) l13 c13 k13
  have F14 := fun_mk (st := s_14) l14 c14 k14
  have F15 := fun_mk (st := s_15) l15 c15 k15
  have F16 := fun_mk (st := s_16) l16 c16 k16
  have F17 := fun_mk (st := s_17) l17 c17 k17
  have F18 := fun_mk (st := s_18) l18 c18 k18
  have F19 := fun_mk (st := s_19) l19 c19 k19
  have F20 := fun_mk (st := s_20) l20 c20 k20
  have F21 := fun_mk (st := s_21) l21 c21 k21
  have F22 := fun_mk (st := s_22) l22 c22 k22
  let D : Dat := ⟨(fun c => ([f0, f1, f2, f3, f4, f5, f6, f7, f8, f9, f10, f11, f12, f13, f14, f15, f16, f17, f18, f19, f20, f21, fa, f12] : List Addr).getD c 0), (fun c => ([PySem.W.fnOf "two_to" "two_to" (defArgs s_0) (defBody s_0) (defScope s_0) .none kV0 dc0 pm0 an0 cd0 ct0, PySem.W.fnOf "__init__" "Share.__init__" (defArgs s_1) (defBody s_1) (defScope s_1) .none kV1 dc1 pm1 an1 cd1 ct1, PySem.W.fnOf "__eq__" "Share.__eq__" (defArgs s_2) (defBody s_2) (defScope s_2) .none kV2 dc2 pm2 an2 cd2 ct2, PySem.W.fnOf "__add__" "Share.__add__" (defArgs s_3) (defBody s_3) (defScope s_3) .none kV3 dc3 pm3 an3 cd3 ct3, PySem.W.fnOf "__sub__" "Share.__sub__" (defArgs s_4) (defBody s_4) (defScope s_4) .none kV4 dc4 pm4 an4 cd4 ct4, PySem.W.fnOf "__mul__" "Share.__mul__" (defArgs s_5) (defBody s_5) (defScope s_5) .none kV5 dc5 pm5 an5 cd5 ct5, PySem.W.fnOf "is_below" "Share.is_below" (defArgs s_6) (defBody s_6) (defScope s_6) .none kV6 dc6 pm6 an6 cd6 ct6, PySem.W.fnOf "half_of" "half_of" (defArgs s_7) (defBody s_7) (defScope s_7) .none kV7 dc7 pm7 an7 cd7 ct7, PySem.W.fnOf "_law_tape" "_law_tape" (defArgs s_8) (defBody s_8) (defScope s_8) .none kV8 dc8 pm8 an8 cd8 ct8, PySem.W.fnOf "_law_draw" "_law_draw" (defArgs s_9) (defBody s_9) (defScope s_9) .none kV9 dc9 pm9 an9 cd9 ct9, PySem.W.fnOf "_law_number" "_law_number" (defArgs s_10) (defBody s_10) (defScope s_10) .none kV10 dc10 pm10 an10 cd10 ct10, PySem.W.fnOf "_law_lowest" "_law_lowest" (defArgs s_11) (defBody s_11) (defScope s_11) .none kV11 dc11 pm11 an11 cd11 ct11, PySem.W.fnOf "_law_integer" "_law_integer" (defArgs s_12) (defBody s_12) (defScope s_12) .none kV12 dc12 pm12 an12 cd12 ct12, PySem.W.fnOf "_law_is" "_law_is" (defArgs s_13) (defBody s_13) (defScope s_13) .none kV13 dc13 pm13 an13 cd13 ct13, PySem.W.fnOf "_law_sum" "_law_sum" (defArgs s_14) (defBody s_14) (defScope s_14) .none kV14 dc14 pm14 an14 cd14 ct14, PySem.W.fnOf "_law_less" "_law_less" (defArgs s_15) (defBody s_15) (defScope s_15) .none kV15 dc15 pm15 an15 cd15 ct15, PySem.W.fnOf "_law_times" "_law_times" (defArgs s_16) (defBody s_16) (defScope s_16) .none kV16 dc16 pm16 an16 cd16 ct16, PySem.W.fnOf "_law_pair_right" "_law_pair_right" (defArgs s_17) (defBody s_17) (defScope s_17) .none kV17 dc17 pm17 an17 cd17 ct17, PySem.W.fnOf "_law_strangers_right" "_law_strangers_right" (defArgs s_18) (defBody s_18) (defScope s_18) .none kV18 dc18 pm18 an18 cd18 ct18, PySem.W.fnOf "_law_refused" "_law_refused" (defArgs s_19) (defBody s_19) (defScope s_19) .none kV19 dc19 pm19 an19 cd19 ct19, PySem.W.fnOf "_law_chain_right" "_law_chain_right" (defArgs s_20) (defBody s_20) (defScope s_20) .none kV20 dc20 pm20 an20 cd20 ct20, PySem.W.fnOf "_law_asks" "_law_asks" (defArgs s_21) (defBody s_21) (defScope s_21) .none kV21 dc21 pm21 an21 cd21 ct21, PySem.W.fnOf "law" "law" (defArgs s_22) (defBody s_22) (defScope s_22) .none kV22 dc22 pm22 an22 cd22 ct22, PySem.W.fnOf "_law_integer" "_law_integer" (defArgs s_12) (defBody s_12) (defScope s_12) .none kV12 dc12 pm12 an12 cd12 ct12] : List FuncData).getD c (PySem.W.fnOf "law" "law" (defArgs s_22) (defBody s_22) (defScope s_22) .none kV22 dc22 pm22 an22 cd22 ct22)), (fun c => ([["length"], ["self", "over", "under"], ["self", "other"], ["self", "other"], ["self", "other"], ["self", "other"], ["self", "other"], ["length"], ["script"], ["tape", "limit"], ["tape"], ["over", "under"], ["told", "due"], ["told", "due"], ["one", "other"], ["one", "other"], ["one", "other"], ["one", "other", "first", "second"], ["share", "due"], ["over", "by_name"], ["tape"], ["script"], ["script"], ["told", "due"]] : List (List Str)).getD c []), 0⟩
  let ca : Nat → Addr := (fun c => ([X0, X1, C2] : List Addr).getD c 0)
  have Fs : Funs K D := ⟨F0, rfl, F1, rfl, F2, rfl, F3, rfl, F4, rfl, F5, rfl, F6, rfl, F7, rfl, F8, rfl, F9, rfl, F10, rfl, F11, rfl, F12, rfl, F13, rfl, F14, rfl, F15, rfl, F16, rfl, F17, rfl, F18, rfl, F19, rfl, F20, rfl, F21, rfl, F22, rfl, F12, rfl⟩
  have b0 : Binds K (D.fd 0) (D.ps 0) [] := F0.binds (ps := ["length"]) fun _ _ _ _ _ _ us hl => match us, hl with | [_], _ => rfl
  have b1 : Binds K (D.fd 1) (D.ps 1) [] := F1.binds (ps := ["self", "over", "under"]) fun _ _ _ _ _ _ us hl => match us, hl with | [_, _, _], _ => rfl
  have b2 : Binds K (D.fd 2) (D.ps 2) [] := F2.binds (ps := ["self", "other"]) fun _ _ _ _ _ _ us hl => match us, hl with | [_, _], _ => rfl
  have b3 : Binds K (D.fd 3) (D.ps 3) [] := F3.binds (ps := ["self", "other"]) fun _ _ _ _ _ _ us hl => match us, hl with | [_, _], _ => rfl
  have b4 : Binds K (D.fd 4) (D.ps 4) [] := F4.binds (ps := ["self", "other"]) fun _ _ _ _ _ _ us hl => match us, hl with | [_, _], _ => rfl
  have b5 : Binds K (D.fd 5) (D.ps 5) [] := F5.binds (ps := ["self", "other"]) fun _ _ _ _ _ _ us hl => match us, hl with | [_, _], _ => rfl
  have b6 : Binds K (D.fd 6) (D.ps 6) [] := F6.binds (ps := ["self", "other"]) fun _ _ _ _ _ _ us hl => match us, hl with | [_, _], _ => rfl
  have b7 : Binds K (D.fd 7) (D.ps 7) [] := F7.binds (ps := ["length"]) fun _ _ _ _ _ _ us hl => match us, hl with | [_], _ => rfl
  have b8 : Binds K (D.fd 8) (D.ps 8) [] := F8.binds (ps := ["script"]) fun _ _ _ _ _ _ us hl => match us, hl with | [_], _ => rfl
  have b9 : Binds K (D.fd 9) (D.ps 9) [] := F9.binds (ps := ["tape", "limit"]) fun _ _ _ _ _ _ us hl => match us, hl with | [_, _], _ => rfl
  have b10 : Binds K (D.fd 10) (D.ps 10) [] := F10.binds (ps := ["tape"]) fun _ _ _ _ _ _ us hl => match us, hl with | [_], _ => rfl
  have b11 : Binds K (D.fd 11) (D.ps 11) [] := F11.binds (ps := ["over", "under"]) fun _ _ _ _ _ _ us hl => match us, hl with | [_, _], _ => rfl
  have b12 : Binds K (D.fd 12) (D.ps 12) [] := F12.binds (ps := ["told", "due"]) fun _ _ _ _ _ _ us hl => match us, hl with | [_, _], _ => rfl
  have b13 : Binds K (D.fd 13) (D.ps 13) [] := F13.binds (ps := ["told", "due"]) fun _ _ _ _ _ _ us hl => match us, hl with | [_, _], _ => rfl
  have b14 : Binds K (D.fd 14) (D.ps 14) [] := F14.binds (ps := ["one", "other"]) fun _ _ _ _ _ _ us hl => match us, hl with | [_, _], _ => rfl
  have b15 : Binds K (D.fd 15) (D.ps 15) [] := F15.binds (ps := ["one", "other"]) fun _ _ _ _ _ _ us hl => match us, hl with | [_, _], _ => rfl
  have b16 : Binds K (D.fd 16) (D.ps 16) [] := F16.binds (ps := ["one", "other"]) fun _ _ _ _ _ _ us hl => match us, hl with | [_, _], _ => rfl
  have b17 : Binds K (D.fd 17) (D.ps 17) [] := F17.binds (ps := ["one", "other", "first", "second"]) fun _ _ _ _ _ _ us hl => match us, hl with | [_, _, _, _], _ => rfl
  have b18 : Binds K (D.fd 18) (D.ps 18) [] := F18.binds (ps := ["share", "due"]) fun _ _ _ _ _ _ us hl => match us, hl with | [_, _], _ => rfl
  have b19 : Binds K (D.fd 19) (D.ps 19) [] := F19.binds (ps := ["over", "by_name"]) fun _ _ _ _ _ _ us hl => match us, hl with | [_, _], _ => rfl
  have b20 : Binds K (D.fd 20) (D.ps 20) [] := F20.binds (ps := ["tape"]) fun _ _ _ _ _ _ us hl => match us, hl with | [_], _ => rfl
  have b21 : Binds K (D.fd 21) (D.ps 21) [] := F21.binds (ps := ["script"]) fun _ _ _ _ _ _ us hl => match us, hl with | [_], _ => rfl
  have b22 : Binds K (D.fd 22) (D.ps 22) [] := F22.binds (ps := ["script"]) fun _ _ _ _ _ _ us hl => match us, hl with | [_], _ => rfl
  have oX1 : OexC K X1 := ⟨⟨_, _, _, _, _, _, _, _, _, _, _, _, _, _, _, xL1, by first | rfl | decide +kernel⟩, xs1, xB1, xT1, xk1⟩
  have FX1 := fun_mk (st := sX_1) xl1 xc1 xp1
  have bX1 := FX1.binds (ps := ["self", "number"]) fun _ _ _ _ _ _ us hl => match us, hl with | [_, _], _ => rfl
  have Tx : Txt K mg ca D := ⟨PySem.W.mg_none_of X G z_abs, PySem.W.mg_none_of X G z_bool, PySem.W.mg_none_of X G z_int, PySem.W.mg_none_of X G z_isinstance, PySem.W.mg_none_of X G z_range, PySem.W.mg_of X G g_gcd, PySem.W.mg_of X G aC2, PySem.W.mg_of X G aX1, fun Pg w base => ⟨fX1, _, _, ⟨oX1, xg1, xh1, xi1, xt1, xD1⟩, bX1, fnE1 oX1 xn1_number FX1 scX_1 (fun cdv A outer s H E => pss_one (ps_ost (pv 0) (pv 1)))⟩, ⟨(by intro c hc; have hc2 : c = 2 := (by simpa [cokB] using (show cokB c = true from hc)); omega), (by
    intro c k h
    match c, h with
    | 0, h => omega
    | 1, h => omega
    | 2, h => omega
    | n + 3, h => cases (show (none : Option Kb.Cls) = some k from h)), rfl, (by
    intro c k h m2
    match c, h with
    | 0, h => cases (show prog.cls[0]? = some k from h); (intro d hd; have hd2 : d = 1 := (by simpa using hd); rcases hd2 with rfl <;> first | exact exm_by xB1 xC1 xT1 xS0_1)
    | 1, h => cases (show prog.cls[1]? = some k from h); (intro d hd; have hd2 : d = 1 := (by simpa using hd); rcases hd2 with rfl <;> first | exact exm_by xB1 xC1 xT1 xS1_1)
    | 2, h => cases (show prog.cls[2]? = some k from h); cases m2
    | n + 3, h => cases (show (none : Option Kb.Cls) = some k from h))⟩, ⟨rfl, (show nmL.Nodup by decide +kernel), (by
    intro c k h m2
    match c, h with
    | 0, h => cases (show prog.cls[0]? = some k from h); exact ⟨by omega, xg0, xh0, xB0, xD0, xn0_number⟩
    | 1, h => cases (show prog.cls[1]? = some k from h); exact ⟨by omega, xg1, xh1, xB1, xD1, xn1_number⟩
    | 2, h => cases (show prog.cls[2]? = some k from h); cases m2
    | n + 3, h => cases (show (none : Option Kb.Cls) = some k from h))⟩, (kbn_of (n := 1) (ks := ["other"]) (arr := [.inl 0, .inl 1]) F6 fun _ _ _ _ _ _ us ws h1 h2 => match us, ws, h1, h2 with | [_], [_], _, _ => rfl), (kbn_of (n := 1) (ks := ["under", "over"]) (arr := [.inl 0, .inl 2, .inl 1]) F1 fun _ _ _ _ _ _ us ws h1 h2 => match us, ws, h1, h2 with | [_], [_, _], _, _ => rfl), (kbn_of (n := 0) (ks := ["length"]) (arr := [.inl 0]) F7 fun _ _ _ _ _ _ us ws h1 h2 => match us, ws, h1, h2 with | [], [_], _, _ => rfl), (kbn_of (n := 1) (ks := ["over", "under"]) (arr := [.inl 0, .inl 1, .inl 2]) F1 fun _ _ _ _ _ _ us ws h1 h2 => match us, ws, h1, h2 with | [_], [_, _], _, _ => rfl)⟩
  have St : Stat K mg prog (gm K ca) D tab ini okf okh := by
    refine ⟨rfl, (show nmL.Nodup by decide +kernel), ?kd, ?fn, ?mt, ?ini, ?hf, rfl, ?cl, ?na, ?sf, ?nq⟩
    case kd =>
      refine ⟨?ty, ⟨sp1, sp2⟩, ?own, ?blt⟩
      case ty =>
        intro c hk
        have hc : c = 2 := by simpa [cokB] using hk
        rcases hc with rfl
        · exact ⟨⟨pg2, hd2, po2, sa2⟩, dc_2, mo2⟩
      case own =>
        intro c k hk hd
        have hc : c = 2 := by simpa [cokB] using hk
        rcases hc with rfl
        · cases k with
          | int => exact ko2_int
          | bool => exact ko2_bool
          | str => exact ko2_str
          | tuple => exact ko2_tuple
          | list => exact ko2_list
          | cls d =>
            have hd2 : cokB d = true := hd d rfl
            have hd3 : d = 2 := by simpa [cokB] using hd2
            rcases hd3 with rfl
            · exact kk2_2
      case blt =>
        intro n c hn hk
        simp only [List.mem_cons, List.not_mem_nil, or_false] at hn
        have hc : c = 2 := by simpa [cokB] using hk
        rcases hc with rfl
        · rcases hn with rfl | rfl | rfl | rfl | rfl | rfl
          · exact kb2_NoneType
          · exact kb2_bool
          · exact kb2_int
          · exact kb2_str
          · exact kb2_tuple
          · exact kb2_list
    case fn =>
      intro f x h
      match f, h with
      | 0, h => have e : some (some ("two_to" : Str)) = some (some x) := h; cases e; exact ⟨rfl, (by intro c e; cases e), PySem.W.mg_of X G a0, k0, (fun _ => b0)⟩
      | 1, h => have e : some (none : Option Str) = some (some x) := h; cases e
      | 2, h => have e : some (none : Option Str) = some (some x) := h; cases e
      | 3, h => have e : some (none : Option Str) = some (some x) := h; cases e
      | 4, h => have e : some (none : Option Str) = some (some x) := h; cases e
      | 5, h => have e : some (none : Option Str) = some (some x) := h; cases e
      | 6, h => have e : some (none : Option Str) = some (some x) := h; cases e
      | 7, h => have e : some (some ("half_of" : Str)) = some (some x) := h; cases e; exact ⟨rfl, (by intro c e; cases e), PySem.W.mg_of X G a7, k7, (fun _ => b7)⟩
      | 8, h => have e : some (some ("_law_tape" : Str)) = some (some x) := h; cases e; exact ⟨rfl, (by intro c e; cases e), PySem.W.mg_of X G a8, k8, (fun _ => b8)⟩
      | 9, h => have e : some (some ("_law_draw" : Str)) = some (some x) := h; cases e; exact ⟨rfl, (by intro c e; cases e), PySem.W.mg_of X G a9, k9, (fun _ => b9)⟩
      | 10, h => have e : some (some ("_law_number" : Str)) = some (some x) := h; cases e; exact ⟨rfl, (by intro c e; cases e), PySem.W.mg_of X G a10, k10, (fun _ => b10)⟩
      | 11, h => have e : some (some ("_law_lowest" : Str)) = some (some x) := h; cases e; exact ⟨rfl, (by intro c e; cases e), PySem.W.mg_of X G a11, k11, (fun _ => b11)⟩
      | 12, h => have e : some (some ("_law_integer" : Str)) = some (some x) := h; cases e; exact ⟨rfl, (by intro c e; cases e), PySem.W.mg_of X G a12, k12, (fun _ => b12)⟩
      | 13, h => have e : some (some ("_law_is" : Str)) = some (some x) := h; cases e; exact ⟨rfl, (by intro c e; cases e), PySem.W.mg_of X G a13, k13, (fun _ => b13)⟩
      | 14, h => have e : some (some ("_law_sum" : Str)) = some (some x) := h; cases e; exact ⟨rfl, (by intro c e; cases e), PySem.W.mg_of X G a14, k14, (fun _ => b14)⟩
      | 15, h => have e : some (some ("_law_less" : Str)) = some (some x) := h; cases e; exact ⟨rfl, (by intro c e; cases e), PySem.W.mg_of X G a15, k15, (fun _ => b15)⟩
      | 16, h => have e : some (some ("_law_times" : Str)) = some (some x) := h; cases e; exact ⟨rfl, (by intro c e; cases e), PySem.W.mg_of X G a16, k16, (fun _ => b16)⟩
      | 17, h => have e : some (some ("_law_pair_right" : Str)) = some (some x) := h; cases e; exact ⟨rfl, (by intro c e; cases e), PySem.W.mg_of X G a17, k17, (fun _ => b17)⟩
      | 18, h => have e : some (some ("_law_strangers_right" : Str)) = some (some x) := h; cases e; exact ⟨rfl, (by intro c e; cases e), PySem.W.mg_of X G a18, k18, (fun _ => b18)⟩
      | 19, h => have e : some (some ("_law_refused" : Str)) = some (some x) := h; cases e; exact ⟨rfl, (by intro c e; cases e), PySem.W.mg_of X G a19, k19, (fun _ => b19)⟩
      | 20, h => have e : some (some ("_law_chain_right" : Str)) = some (some x) := h; cases e; exact ⟨rfl, (by intro c e; cases e), PySem.W.mg_of X G a20, k20, (fun _ => b20)⟩
      | 21, h => have e : some (some ("_law_asks" : Str)) = some (some x) := h; cases e; exact ⟨rfl, (by intro c e; cases e), PySem.W.mg_of X G a21, k21, (fun _ => b21)⟩
      | 22, h => have e : some (some ("law" : Str)) = some (some x) := h; cases e; exact ⟨rfl, (by intro c e; cases e), PySem.W.mg_of X G a22, k22, (fun _ => b22)⟩
      | 23, h => have e : some (none : Option Str) = some (some x) := h; cases e
      | n + 24, h => have e : (none : Option (Option Str)) = some (some x) := h; cases e
    case mt =>
      intro c kc m f x h1 h2 h3 h4
      have hc : c = 2 := by simpa [cokB] using h4
      rcases hc with rfl
      · have e1 : prog.cls[2]? = some kc := h1
        cases e1
        by_cases q0 : 4 = m
        · subst q0
          have e2 : some 2 = some f := h2
          cases e2
          have e3 : some ("__eq__" : Str) = some x := h3
          cases e3
          exact ⟨rfl, (by intro c e; cases e), ⟨a2, i2, k2⟩, b2⟩
        by_cases q1 : 5 = m
        · subst q1
          have e2 : some 3 = some f := h2
          cases e2
          have e3 : some ("__add__" : Str) = some x := h3
          cases e3
          exact ⟨rfl, (by intro c e; cases e), ⟨a3, i3, k3⟩, b3⟩
        by_cases q2 : 6 = m
        · subst q2
          have e2 : some 4 = some f := h2
          cases e2
          have e3 : some ("__sub__" : Str) = some x := h3
          cases e3
          exact ⟨rfl, (by intro c e; cases e), ⟨a4, i4, k4⟩, b4⟩
        by_cases q3 : 7 = m
        · subst q3
          have e2 : some 5 = some f := h2
          cases e2
          have e3 : some ("__mul__" : Str) = some x := h3
          cases e3
          exact ⟨rfl, (by intro c e; cases e), ⟨a5, i5, k5⟩, b5⟩
        by_cases q4 : 2 = m
        · subst q4
          have e2 : some 6 = some f := h2
          cases e2
          have e3 : some ("is_below" : Str) = some x := h3
          cases e3
          exact ⟨rfl, (by intro c e; cases e), ⟨a6, i6, k6⟩, b6⟩
        · exfalso
          simp [lkN, q0, q1, q2, q3, q4] at h2
    case ini =>
      intro c kc f x h1 h2 h3
      match c, h1, h3 with
      | 0, h1, h3 => have e : some (none : Option Str) = some (some x) := h3; cases e
      | 1, h1, h3 => have e : some (none : Option Str) = some (some x) := h3; cases e
      | 2, h1, h3 => have e1 : prog.cls[2]? = some kc := h1; cases e1; have e2 : some 1 = some f := h2; cases e2; have e3 : some (some ("Share" : Str)) = some (some x) := h3; cases e3; exact ⟨rfl, by first | exact rfl | (intro c e; cases e), ⟨mk2, a1, i1, kc2⟩, PySem.W.mg_of X G aC2, rfl, (fun _ => b1)⟩
      | n + 3, h1, h3 => have e : (none : Option (Option Str)) = some (some x) := h3; cases e
    case hf =>
      intro f x h
      match f, h with
      | 0, h => have e : some (none : Option Str) = some (some x) := h; cases e
      | 1, h => have e : some (none : Option Str) = some (some x) := h; cases e
      | 2, h => have e : some (none : Option Str) = some (some x) := h; cases e
      | 3, h => have e : some (none : Option Str) = some (some x) := h; cases e
      | 4, h => have e : some (none : Option Str) = some (some x) := h; cases e
      | 5, h => have e : some (none : Option Str) = some (some x) := h; cases e
      | 6, h => have e : some (none : Option Str) = some (some x) := h; cases e
      | 7, h => have e : some (none : Option Str) = some (some x) := h; cases e
      | 8, h => have e : some (none : Option Str) = some (some x) := h; cases e
      | 9, h => have e : some (none : Option Str) = some (some x) := h; cases e
      | 10, h => have e : some (none : Option Str) = some (some x) := h; cases e
      | 11, h => have e : some (none : Option Str) = some (some x) := h; cases e
      | 12, h => have e : some (none : Option Str) = some (some x) := h; cases e
      | 13, h => have e : some (none : Option Str) = some (some x) := h; cases e
      | 14, h => have e : some (none : Option Str) = some (some x) := h; cases e
      | 15, h => have e : some (none : Option Str) = some (some x) := h; cases e
      | 16, h => have e : some (none : Option Str) = some (some x) := h; cases e
      | 17, h => have e : some (none : Option Str) = some (some x) := h; cases e
      | 18, h => have e : some (none : Option Str) = some (some x) := h; cases e
      | 19, h => have e : some (none : Option Str) = some (some x) := h; cases e
      | 20, h => have e : some (none : Option Str) = some (some x) := h; cases e
      | 21, h => have e : some (none : Option Str) = some (some x) := h; cases e
      | 22, h => have e : some (none : Option Str) = some (some x) := h; cases e
      | 23, h => have e : some (some ("_law_integer" : Str)) = some (some x) := h; cases e; exact ⟨rfl, PySem.W.mg_of X G a12, k12, b12⟩
      | n + 24, h => have e : (none : Option (Option Str)) = some (some x) := h; cases e
    case cl =>
      intro c hk
      have hc : c = 2 := by simpa [cokB] using hk
      rcases hc with rfl
      · exact ⟨pg2, hd2, po2, sa2⟩
    case sf =>
      intro c hk
      have hc : c = 2 := by simpa [cokB] using hk
      rcases hc with rfl
      · exact sf2
    case nq =>
      intro c hk
      have hc : c = 2 := by simpa [cokB] using hk
      rcases hc with rfl
      · exact ⟨nq2, mo2⟩
    case na =>
      intro c f x hk h2 h3
      have hc : c = 2 := by simpa [cokB] using hk
      rcases hc with rfl
      · match f, h2, h3 with
        | 0, h2, h3 => have e : some ("over" : Str) = some x := h3; cases e; exact n2_over
        | 1, h2, h3 => have e : some ("under" : Str) = some x := h3; cases e; exact n2_under
        | 2, h2, h3 => have e : some false = some true := h2; cases e
        | 3, h2, h3 => have e : some ("number" : Str) = some x := h3; cases e; exact n2_number
        | 4, h2, h3 => have e : some false = some true := h2; cases e
        | 5, h2, h3 => have e : some false = some true := h2; cases e
        | 6, h2, h3 => have e : some false = some true := h2; cases e
        | 7, h2, h3 => have e : some false = some true := h2; cases e
        | n + 8, h2, h3 => have e : (none : Option Bool) = some true := h2; cases e
  refine ⟨PySem.W.fnOf "law" "law" (defArgs s_22) (defBody s_22) (defScope s_22) .none kV22 dc22 pm22 an22 cd22 ct22, fun s v => .of_eq rfl, fun base _ _ => ?_⟩
  have A := all_fn (Pg := l.prog) (w := w) (base := base) (Wn := WF0) St (fun d IH => step Tx Fs St d (all_hot (fun d => stepH Tx Fs St d) d) IH) 24 22 rfl
  rw [spOf_n (by intro c e; cases e)] at A
  exact cx0_of (A.mono (by decide : 2 * 24 + 2 ≤ 65)) (fun vs H Q E h => by obtain ⟨a, ns, rfl, _⟩ := h; rfl) fun vs H Q E h => law_sp (G := gm K ca) rfl lawT (E := fun _ _ _ => False) (by obtain ⟨a, ns, e, h1, h2, h3⟩ := h; exact ⟨a, ns, e, h1, h2, h3⟩)
theorem walk {l : PySem.W.OpenLaw} {q : Program} {loose : List Str} {XP : (Str → Option Value) → Heap → Prop} {YP : World → Heap → Prop} {d : DefRec} {K : Params → PySem.W.Frag} (hn : l.most = some 63) (hdf : d.params.defaults = [])
    (hY : ∀ (w : World) (h : Heap), YP w h → (K w.params).In h)
    (F : ∀ (w : World) (mg : Str → Option Value) (fa : Addr) (h : Heap), (K w.params).In h → h.Ns mainGlobals mg → mg d.name = some (.ref fa) →
      ∃ fd : FuncData, (∀ (s : Shared) (u : Value), BindsTo s fd ⟨[u], []⟩ [("script", u)]) ∧ ∀ base : Heap, (K w.params).In base → base.Ns mainGlobals mg → FnOk l.prog w (K w.params) mg base CX0 65 fa fd ["script"] (spLaw (K w.params))) :
    PySem.W.WalkO q loose XP YP l.row.toRowW d [] (fun f vs => PySem.call f vs) :=
  L2.walk_of (n := 63) (k := 65) (x := "script") (CX := fun _ => CX0) (sp := fun w => spLaw (K w.params)) hn (by decide) hdf ⟨rfl, by decide, by decide⟩ hY F (fun _ _ a ns hl _ hS => ⟨a, ns, rfl, hS, hl, fun _ => rfl⟩) fun _ _ _ _ _ z => z
end K02
end
section
/-! Kbx: how simp runs the interpreter: the head first; the law's tape (box) and its draw. -/
set_option autoImplicit false
set_option linter.all false
set_option maxRecDepth 100000
noncomputable section
namespace Kb
/-! simp must not look into a continuation before the head is done: a head with a tag that leans on the continuation keeps simp out of it -/
inductive Tg {α : Type} (f : α) : Type where
  | mk
def R.bindH {α β : Type} (x : R α) (f : α → Hl → R β) (_t : Tg f) : R β := x.bind f
def R.toSH {α : Type} (x : R α) (σ : Sl) (f : α → Hl → RS) (_t : Tg f) : RS := x.toS σ f
def RS.thnH (x : RS) (f : Sl → Hl → RS) (_t : Tg f) : RS := x.thn f
theorem R.bind_H {α β : Type} (x : R α) (f : α → Hl → R β) : x.bind f = R.bindH x f Tg.mk := by unfold R.bindH; exact Eq.refl _
theorem R.toS_H {α : Type} (x : R α) (σ : Sl) (f : α → Hl → RS) : x.toS σ f = R.toSH x σ f Tg.mk := by unfold R.toSH; exact Eq.refl _
theorem RS.thn_H (x : RS) (f : Sl → Hl → RS) : x.thn f = RS.thnH x f Tg.mk := by unfold RS.thnH; exact Eq.refl _
theorem R.bindH_ok {α β : Type} (a : α) (h : Hl) (f : α → Hl → R β) (t : Tg f) : R.bindH (R.ok a h) f t = f a h := by unfold R.bindH; exact Eq.refl _
theorem R.toSH_ok {α : Type} (a : α) (h : Hl) (σ : Sl) (f : α → Hl → RS) (t : Tg f) : R.toSH (R.ok a h) σ f t = f a h := by unfold R.toSH; exact Eq.refl _
theorem RS.thnH_nx (σ : Sl) (h : Hl) (f : Sl → Hl → RS) (t : Tg f) : RS.thnH (RS.nx σ h) f t = f σ h := by unfold RS.thnH; exact Eq.refl _
theorem RS.thnH_rt (v : T) (h : Hl) (f : Sl → Hl → RS) (t : Tg f) : RS.thnH (RS.rt v h) f t = RS.rt v h := by unfold RS.thnH; exact Eq.refl _
theorem R.bindH_ite {α β : Type} (c : Prop) [Decidable c] (x y : R α) (f : α → Hl → R β) (t : Tg f) : R.bindH (if c then x else y) f t = if c then R.bindH x f t else R.bindH y f t := by split <;> exact Eq.refl _
theorem R.toSH_ite {α : Type} (c : Prop) [Decidable c] (x y : R α) (σ : Sl) (f : α → Hl → RS) (t : Tg f) : R.toSH (if c then x else y) σ f t = if c then R.toSH x σ f t else R.toSH y σ f t := by split <;> exact Eq.refl _
theorem RS.thnH_ite (c : Prop) [Decidable c] (x y : RS) (f : Sl → Hl → RS) (t : Tg f) : RS.thnH (if c then x else y) f t = if c then RS.thnH x f t else RS.thnH y f t := by split <;> exact Eq.refl _
theorem atI_0 {α : Type} (a : α) (l : List α) : atI (a :: l) 0 = some a := by
  unfold atI ixN
  rw [if_pos (by decide), if_pos (by simp only [List.length_cons]; omega)]; rfl
theorem atI_1 {α : Type} (a b : α) (l : List α) : atI (a :: b :: l) 1 = some b := by
  unfold atI ixN
  rw [if_pos (by decide), if_pos (by simp only [List.length_cons]; omega)]; rfl
theorem atI_2 {α : Type} (a b c : α) (l : List α) : atI (a :: b :: c :: l) 2 = some c := by
  unfold atI ixN
  rw [if_pos (by decide), if_pos (by simp only [List.length_cons]; omega)]; rfl
theorem atI_3 {α : Type} (a b c d : α) (l : List α) : atI (a :: b :: c :: d :: l) 3 = some d := by
  unfold atI ixN
  rw [if_pos (by decide), if_pos (by simp only [List.length_cons]; omega)]; rfl
theorem atI_4 {α : Type} (a b c d e : α) (l : List α) : atI (a :: b :: c :: d :: e :: l) 4 = some e := by
  unfold atI ixN
  rw [if_pos (by decide), if_pos (by simp only [List.length_cons]; omega)]; rfl
theorem atI_nat {α : Type} (l : List α) (k : Nat) : atI l (k : Int) = l[k]? := by
  unfold atI ixN
  rw [if_pos (by omega)]
  by_cases h : k < l.length
  · rw [if_pos (by omega)]; simp
  · rw [if_neg (by omega), List.getElem?_eq_none (by omega)]; rfl
theorem ixN_nat (n k : Nat) (h : k < n) : ixN n (k : Int) = some k := by
  unfold ixN
  rw [if_pos (by omega), if_pos (by omega)]; simp
theorem ix51 : ixN 5 1 = some 1 := by decide
theorem ix52 : ixN 5 2 = some 2 := by decide
theorem ix53 : ixN 5 3 = some 3 := by decide
theorem ix54 : ixN 5 4 = some 4 := by decide
theorem log2_lt (i : Int) (n : Nat) (h1 : -(2 ^ n) < i) (h2 : i < 2 ^ n) (hn : 0 < n) : i.natAbs.log2 < n := by
  by_cases z : i.natAbs = 0
  · rw [z]; simpa using hn
  · have e : ((2 ^ n : Nat) : Int) = (2 : Int) ^ n := by simp
    exact (Nat.log2_lt z).mpr (by omega)
theorem mulOk_of {i j : Int} (h1 : -(2 ^ 200) < i) (h2 : i < 2 ^ 200) (h3 : -(2 ^ 200) < j) (h4 : j < 2 ^ 200) : mulOk i j = true := by
  have a := log2_lt i 200 h1 h2 (by decide)
  have b := log2_lt j 200 h3 h4 (by decide)
  simp only [mulOk, decide_eq_true_eq]; omega
theorem divOk_of {j : Int} (h0 : j ≠ 0) (h3 : -(2 ^ 200) < j) (h4 : j < 2 ^ 200) : divOk j = true := by
  have b := log2_lt j 200 h3 h4 (by decide)
  simp only [divOk, Bool.and_eq_true, decide_eq_true_eq]; exact ⟨h0, by omega⟩
/-! ### the tape -/
structure Bx where
  cells : List Int
  p : Nat
  q : Int
  s : Int
  t : Int
def bxC (st : Bx) : C := .lst [.lst (st.cells.map T.int), .int st.p, .int st.q, .int st.s, .int st.t]
/-- k: how many draws there may have been -/
structure BxOk (st : Bx) (k : Nat) : Prop where
  q0 : 0 ≤ st.q
  s0 : 0 ≤ st.s
  s1 : st.s < 4294967296
  t0 : 0 ≤ st.t
  t1 : st.t ≤ k
def drawB : B := (B.cons (S.ite (E.and (E.cmp .le (E.idx (E.var 0) (E.cst (T.int 2))) (E.cst (T.int 0))) (E.cmp .lt (E.idx (E.var 0) (E.cst (T.int 1))) (E.bf .len (Es.cons (E.idx (E.var 0) (E.cst (T.int 0))) Es.nil)))) (B.cons (S.asg 3 (E.idx (E.idx (E.var 0) (E.cst (T.int 0))) (E.idx (E.var 0) (E.cst (T.int 1))))) (B.cons (S.setI (E.var 0) (E.cst (T.int 1)) (E.bin .add (E.idx (E.var 0) (E.cst (T.int 1))) (E.cst (T.int 1)))) (B.cons (S.ite (E.cmp .ge (E.var 3) (E.bin .pow (E.cst (T.int 10)) (E.cst (T.int 18)))) (B.cons (S.setI (E.var 0) (E.cst (T.int 2)) (E.var 3)) B.nil) (B.cons (S.setI (E.var 0) (E.cst (T.int 3)) (E.bin .mod (E.bf .int (Es.cons (E.bin .add (E.bin .mul (E.idx (E.var 0) (E.cst (T.int 3))) (E.cst (T.int 8191))) (E.var 3)) Es.nil)) (E.cst (T.int 2147483647)))) B.nil)) B.nil))) B.nil) (B.cons (S.ite (E.cmp .gt (E.idx (E.var 0) (E.cst (T.int 2))) (E.cst (T.int 0))) (B.cons (S.asg 4 (E.bin .mod (E.bf .int (Es.cons (E.idx (E.var 0) (E.cst (T.int 2))) Es.nil)) (E.var 1))) (B.cons (S.setI (E.var 0) (E.cst (T.int 2)) (E.bin .fdiv (E.bf .int (Es.cons (E.idx (E.var 0) (E.cst (T.int 2))) Es.nil)) (E.var 1))) (B.cons (S.ret (E.var 4)) B.nil))) B.nil) (B.cons (S.setI (E.var 0) (E.cst (T.int 4)) (E.bin .add (E.idx (E.var 0) (E.cst (T.int 4))) (E.cst (T.int 1)))) (B.cons (S.asg 2 (E.bin .mod (E.bf .int (Es.cons (E.bin .add (E.bin .mul (E.idx (E.var 0) (E.cst (T.int 3))) (E.cst (T.int 48271))) (E.bin .mul (E.idx (E.var 0) (E.cst (T.int 4))) (E.cst (T.int 69621)))) Es.nil)) (E.cst (T.int 2147483647)))) (B.cons (S.asg 2 (E.bin .mod (E.bf .int (Es.cons (E.bin .add (E.bin .mul (E.bin .fdiv (E.var 2) (E.cst (T.int 7))) (E.cst (T.int 16807))) (E.bin .mul (E.idx (E.var 0) (E.cst (T.int 4))) (E.cst (T.int 40692)))) Es.nil)) (E.cst (T.int 2147483629)))) (B.cons (S.setI (E.var 0) (E.cst (T.int 3)) (E.var 2)) (B.cons (S.ret (E.bin .mod (E.bf .int (Es.cons (E.bin .fdiv (E.var 2) (E.cst (T.int 13))) Es.nil)) (E.var 1))) B.nil)))))))
/-- a slot's free, a value's plain: by computation -/
theorem plain_int (i : Int) : plainT (.int i) = true := rfl
theorem fmod_pos {i m : Int} (h : 0 < m) : fmodI i m = i % m := by unfold fmodI; rw [if_pos h]
theorem fdiv_pos {i m : Int} (h : 0 < m) : fdivI i m = i / m := by unfold fdivI; rw [if_pos h]
theorem modOk {m : Int} (h : 0 < m) : decide (m ≠ 0) = true := by simp; omega
def drawB2 : B := match drawB with
  | .cons _ b => b
  | _ => .nil
def drawS1 : S := match drawB with
  | .cons s _ => s
  | _ => .pass
section
variable (P : Prog) (call : Nat → List T → Hl → R T) (W : Nat)
theorem drawB_2 (m : Int) (x3 : Option T) (cells : List Int) (p : Nat) (q s t : Int) (hs : Hl) (h0 : 0 < m) (h1 : m < 2 ^ 200) (hq : 0 ≤ q) (s0 : 0 ≤ s) (s1 : s < 4294967296) (t0 : 0 ≤ t) (t1 : t < 2 ^ 100) :
    exB P call W drawB2 [some (.rf 0), some (.int m), none, x3, none] (bxC ⟨cells, p, q, s, t⟩ :: hs) =
      if 0 < q then .rt (.int (q % m)) (bxC ⟨cells, p, q / m, s, t⟩ :: hs)
      else .rt (.int ((((s * 48271 + (t + 1) * 69621) % 2147483647) / 7 * 16807 + (t + 1) * 40692) % 2147483629 / 13 % m)) (bxC ⟨cells, p, q, (((s * 48271 + (t + 1) * 69621) % 2147483647) / 7 * 16807 + (t + 1) * 40692) % 2147483629, t + 1⟩ :: hs) := by
  have dm : divOk m = true := divOk_of (by omega) (by omega) (by omega)
  have mm : decide (m ≠ 0) = true := modOk h0
  by_cases c : 0 < q
  · rw [if_pos c]
    simp only [drawB2, drawB, exB, exS, evE, evEs, evT, tru, truT, binE, binT, intT, isIns, insOf, cmpE, cmpT, icmp, oR, idxT, idxSq, bfT, intF, seqOf, putI, bxC, plainT, isBor, isExc, ↓R.bind_H, R.bindH_ok, ↓R.toS_H, R.toSH_ok, ↓RS.thn_H, RS.thnH_nx, RS.thnH_rt, R.bindH_ite, R.toSH_ite, RS.thnH_ite, List.length_cons, List.length_nil, List.getElem?_cons_zero, List.getElem?_cons_succ, List.set_cons_zero, List.set_cons_succ, atI_0, atI_1, atI_2, atI_3, atI_4, ix51, ix52, ix53, ix54, Option.map_some, Option.isSome_none, if_true, if_false, Bool.false_eq_true, Bool.and_false, Bool.false_and, Bool.not_false, Bool.and_true, Bool.true_and, Nat.reduceAdd, Nat.reduceSub, freeS, dm, mm, c, decide_true, fmod_pos h0, fdiv_pos h0]
  · rw [if_neg c]
    have hx1 : mulOk s 48271 = true := mulOk_of (by omega) (by omega) (by decide) (by decide)
    have hx2 : mulOk (t + 1) 69621 = true := mulOk_of (by omega) (by omega) (by decide) (by decide)
    have hx3 : mulOk (t + 1) 40692 = true := mulOk_of (by omega) (by omega) (by decide) (by decide)
    have hx4 : mulOk ((s * 48271 + (t + 1) * 69621) % 2147483647 / 7) 16807 = true := mulOk_of (by omega) (by omega) (by decide) (by decide)
    have d1 : decide ((2147483647 : Int) ≠ 0) = true := by decide
    have d2 : decide ((2147483629 : Int) ≠ 0) = true := by decide
    have d3 : divOk 7 = true := by decide
    have d4 : divOk 13 = true := by decide
    have f1 : ∀ i, fmodI i 2147483647 = i % 2147483647 := fun i => fmod_pos (by decide)
    have f2 : ∀ i, fmodI i 2147483629 = i % 2147483629 := fun i => fmod_pos (by decide)
    have f3 : ∀ i, fdivI i 7 = i / 7 := fun i => fdiv_pos (by decide)
    have f4 : ∀ i, fdivI i 13 = i / 13 := fun i => fdiv_pos (by decide)
    simp only [drawB2, drawB, exB, exS, evE, evEs, evT, tru, truT, binE, binT, addT, mulT, intT, isIns, insOf, cmpE, cmpT, icmp, oR, idxT, idxSq, bfT, intF, seqOf, putI, bxC, plainT, isBor, isExc, ↓R.bind_H, R.bindH_ok, ↓R.toS_H, R.toSH_ok, ↓RS.thn_H, RS.thnH_nx, RS.thnH_rt, R.bindH_ite, R.toSH_ite, RS.thnH_ite, List.length_cons, List.length_nil, List.getElem?_cons_zero, List.getElem?_cons_succ, List.set_cons_zero, List.set_cons_succ, atI_0, atI_1, atI_2, atI_3, atI_4, ix51, ix52, ix53, ix54, Option.map_some, Option.isSome_none, if_true, if_false, Bool.false_eq_true, Bool.and_false, Bool.false_and, Bool.not_false, Bool.and_true, Bool.true_and, Nat.reduceAdd, Nat.reduceSub, freeS, dm, mm, c, decide_false, fmod_pos h0, hx1, hx2, hx3, hx4, d1, d2, d3, d4, f1, f2, f3, f4]
theorem drawS_1 (m : Int) (st : Bx) (hs : Hl) (k : Nat) (ok : BxOk st k) :
    ∃ x3 st', exS P call W drawS1 [some (.rf 0), some (.int m), none, none, none] (bxC st :: hs) = .nx [some (.rf 0), some (.int m), none, x3, none] (bxC st' :: hs) ∧ BxOk st' k := by
  obtain ⟨cells, p, q, s, t⟩ := st
  have c18 : powOk 10 18 = true := by decide
  have d1 : decide ((2147483647 : Int) ≠ 0) = true := by decide
  have f1 : ∀ i, fmodI i 2147483647 = i % 2147483647 := fun i => fmod_pos (by decide)
  obtain ⟨q0, s0, s1, t0, t1⟩ := ok
  simp only at q0 s0 s1 t0 t1
  have hx1 : mulOk s 8191 = true := mulOk_of (by omega) (by omega) (by decide) (by decide)
  by_cases c : q ≤ 0
  · by_cases c2 : p < cells.length
    · have e1 : atI (List.map T.int cells) (p : Int) = some (.int cells[p]) := by
        rw [atI_nat, List.getElem?_map, List.getElem?_eq_getElem c2]; rfl
      have l1 : ((p : Int) < ((List.map T.int cells).length : Int)) = True := by rw [List.length_map]; simp; exact c2
      by_cases c3 : (10 : Int) ^ (18 : Int).toNat ≤ cells[p]
      · refine ⟨some (.int cells[p]), ⟨cells, p + 1, cells[p], s, t⟩, ?_, ⟨?_, s0, s1, t0, t1⟩⟩
        · simp only [drawS1, drawB, exB, exS, evE, evEs, evT, tru, truT, binE, binT, addT, mulT, intT, isIns, insOf, cmpE, cmpT, icmp, oR, idxT, idxSq, bfT, intF, lenF, lenT, seqOf, putI, bxC, plainT, isBor, isExc, ↓R.bind_H, R.bindH_ok, ↓R.toS_H, R.toSH_ok, ↓RS.thn_H, RS.thnH_nx, RS.thnH_rt, R.bindH_ite, R.toSH_ite, RS.thnH_ite, List.length_cons, List.length_nil, List.getElem?_cons_zero, List.getElem?_cons_succ, List.set_cons_zero, List.set_cons_succ, atI_0, atI_1, atI_2, atI_3, atI_4, ix51, ix52, ix53, ix54, Option.map_some, Option.isSome_none, if_true, if_false, Bool.false_eq_true, Bool.and_false, Bool.false_and, Bool.not_false, Bool.and_true, Bool.true_and, Nat.reduceAdd, Nat.reduceSub, freeS, c, decide_true, c18, d1, f1, hx1, e1, l1, c3]
          rfl
        · show 0 ≤ cells[p]
          have : (0 : Int) ≤ 10 ^ (18 : Int).toNat := by decide
          omega
      · refine ⟨some (.int cells[p]), ⟨cells, p + 1, q, (s * 8191 + cells[p]) % 2147483647, t⟩, ?_, ⟨q0, ?_, ?_, t0, t1⟩⟩
        · simp only [drawS1, drawB, exB, exS, evE, evEs, evT, tru, truT, binE, binT, addT, mulT, intT, isIns, insOf, cmpE, cmpT, icmp, oR, idxT, idxSq, bfT, intF, lenF, lenT, seqOf, putI, bxC, plainT, isBor, isExc, ↓R.bind_H, R.bindH_ok, ↓R.toS_H, R.toSH_ok, ↓RS.thn_H, RS.thnH_nx, RS.thnH_rt, R.bindH_ite, R.toSH_ite, RS.thnH_ite, List.length_cons, List.length_nil, List.getElem?_cons_zero, List.getElem?_cons_succ, List.set_cons_zero, List.set_cons_succ, atI_0, atI_1, atI_2, atI_3, atI_4, ix51, ix52, ix53, ix54, Option.map_some, Option.isSome_none, if_true, if_false, Bool.false_eq_true, Bool.and_false, Bool.false_and, Bool.not_false, Bool.and_true, Bool.true_and, Nat.reduceAdd, Nat.reduceSub, freeS, c, decide_true, decide_false, c18, d1, f1, hx1, e1, l1, c3]
          rfl
        · show 0 ≤ (s * 8191 + cells[p]) % 2147483647; omega
        · show (s * 8191 + cells[p]) % 2147483647 < 4294967296; omega
    · have l1 : ((p : Int) < ((List.map T.int cells).length : Int)) = False := by rw [List.length_map]; simp; omega
      refine ⟨none, ⟨cells, p, q, s, t⟩, ?_, ⟨q0, s0, s1, t0, t1⟩⟩
      simp only [drawS1, drawB, exB, exS, evE, evEs, evT, tru, truT, binE, binT, addT, mulT, intT, isIns, insOf, cmpE, cmpT, icmp, oR, idxT, idxSq, bfT, intF, lenF, lenT, seqOf, putI, bxC, plainT, isBor, isExc, ↓R.bind_H, R.bindH_ok, ↓R.toS_H, R.toSH_ok, ↓RS.thn_H, RS.thnH_nx, RS.thnH_rt, R.bindH_ite, R.toSH_ite, RS.thnH_ite, List.length_cons, List.length_nil, List.getElem?_cons_zero, List.getElem?_cons_succ, List.set_cons_zero, List.set_cons_succ, atI_0, atI_1, atI_2, atI_3, atI_4, Option.map_some, Option.isSome_none, if_true, if_false, Bool.false_eq_true, Bool.and_false, Bool.false_and, Bool.not_false, Bool.and_true, Bool.true_and, Nat.reduceAdd, Nat.reduceSub, c, decide_true, decide_false, l1]
  · refine ⟨none, ⟨cells, p, q, s, t⟩, ?_, ⟨q0, s0, s1, t0, t1⟩⟩
    simp only [drawS1, drawB, exB, exS, evE, evEs, evT, tru, truT, binE, binT, addT, mulT, intT, isIns, insOf, cmpE, cmpT, icmp, oR, idxT, idxSq, bfT, intF, lenF, lenT, seqOf, putI, bxC, plainT, isBor, isExc, ↓R.bind_H, R.bindH_ok, ↓R.toS_H, R.toSH_ok, ↓RS.thn_H, RS.thnH_nx, RS.thnH_rt, R.bindH_ite, R.toSH_ite, RS.thnH_ite, List.length_cons, List.length_nil, List.getElem?_cons_zero, List.getElem?_cons_succ, List.set_cons_zero, List.set_cons_succ, atI_0, atI_1, atI_2, atI_3, atI_4, Option.map_some, Option.isSome_none, if_true, if_false, Bool.false_eq_true, Bool.and_false, Bool.false_and, Bool.not_false, Bool.and_true, Bool.true_and, Nat.reduceAdd, Nat.reduceSub, c, decide_true, decide_false]
theorem draw_run (d f : Nat) (hf : P.defs[f]? = some ⟨2, 5, drawB⟩) (st : Bx) (hs : Hl) (k : Nat) (ok : BxOk st k) (hk : k < 1000000) (m : Int) (h0 : 0 < m) (h1 : m < 2 ^ 200) :
    ∃ r st', run P W (d + 1) f [.rf 0, .int m] (bxC st :: hs) = .ok (.int r) (bxC st' :: hs) ∧ 0 ≤ r ∧ r < m ∧ BxOk st' (k + 1) := by
  obtain ⟨x3, st1, e1, ok1⟩ := drawS_1 P (run P W d) W m st hs k ok
  obtain ⟨cells, p, q, s, t⟩ := st1
  obtain ⟨q0, s0, s1, t0, t1⟩ := ok1
  simp only at q0 s0 s1 t0 t1
  have e2 := drawB_2 P (run P W d) W m x3 cells p q s t hs h0 h1 q0 s0 s1 t0 (by omega)
  have eb : exB P (run P W d) W drawB (startT 2 5 [.rf 0, .int m]) (bxC st :: hs) = exB P (run P W d) W drawB2 [some (.rf 0), some (.int m), none, x3, none] (bxC ⟨cells, p, q, s, t⟩ :: hs) := by
    show (exS P (run P W d) W drawS1 [some (.rf 0), some (.int m), none, none, none] (bxC st :: hs)).thn (fun σ h => exB P (run P W d) W drawB2 σ h) = _
    rw [e1]; rfl
  by_cases c : 0 < q
  · refine ⟨q % m, ⟨cells, p, q / m, s, t⟩, ?_, Int.emod_nonneg _ (by omega), Int.emod_lt_of_pos _ h0, ⟨Int.ediv_nonneg q0 (by omega), s0, s1, t0, by simp only; omega⟩⟩
    rw [if_pos c] at e2
    simp only [run, hf]
    rw [eb, e2]; rfl
  · refine ⟨(((s * 48271 + (t + 1) * 69621) % 2147483647) / 7 * 16807 + (t + 1) * 40692) % 2147483629 / 13 % m, ⟨cells, p, q, (((s * 48271 + (t + 1) * 69621) % 2147483647) / 7 * 16807 + (t + 1) * 40692) % 2147483629, t + 1⟩, ?_, Int.emod_nonneg _ (by omega), Int.emod_lt_of_pos _ h0, ⟨q0, by simp only; omega, by simp only; omega, by simp only; omega, by simp only; omega⟩⟩
    rw [if_neg c] at e2
    simp only [run, hf]
    rw [eb, e2]; rfl
end
theorem eqT_int (h : Hl) (a b : Int) : eqT h (.int a) (.int b) = some (a == b) := rfl
theorem eqT_bl (h : Hl) (a b : Bool) : eqT h (.bl a) (.bl b) = some (a == b) := rfl
theorem mapO_ints (h : Hl) (n : Nat) : ∀ xs : List Int, mapO (dat h n) (xs.map T.int) = some (xs.map D.int)
  | [] => rfl
  | x :: xs => by
    have e : dat h n (.int x) = some (.int x) := by cases n <;> rfl
    simp only [List.map_cons, mapO, e, mapO_ints h n xs]
theorem eqDs_ints : ∀ xs ys : List Int, eqDs (xs.map D.int) (ys.map D.int) = decide (xs = ys)
  | [], [] => rfl
  | [], _ :: _ => by simp [eqDs]
  | _ :: _, [] => by simp [eqDs]
  | x :: xs, y :: ys => by
    simp only [List.map_cons, eqDs, eqDs_ints xs ys, eqD, List.cons.injEq]
    by_cases h : x = y <;> simp [h]
theorem eqT_ints (h : Hl) (xs ys : List Int) : eqT h (.lst (xs.map T.int)) (.lst (ys.map T.int)) = some (decide (xs = ys)) := by
  unfold eqT
  have e : ∀ zs : List Int, dat h 60 (.lst (zs.map T.int)) = some (.lst (zs.map D.int)) := fun zs => by
    show (mapO (dat h 59) (zs.map T.int)).map D.lst = _
    rw [mapO_ints]; rfl
  rw [e, e]
  show some (eqD (.lst _) (.lst _)) = _
  rw [eqD, eqDs_ints]
theorem allInts_ints : ∀ xs : List Int, allInts (xs.map T.int) = some xs
  | [] => rfl
  | x :: xs => by simp only [List.map_cons, allInts, allInts_ints xs, Option.map_some]
/-- a loop by an invariant -/
theorem forG_run {f : Sl → Hl → RS} {i : Nat} {I : Nat → Sl → Hl → Prop} : ∀ (xs : List T) (n : Nat), (∀ (j : Nat) (x : T) (σ : Sl) (h : Hl), xs[j]? = some x → I (n + j) σ h → freeS σ i = true ∧ ∃ σ' h', (f (σ.set i (some x)) h = .nx σ' h' ∨ f (σ.set i (some x)) h = .ct σ' h') ∧ I (n + j + 1) σ' h') →
    ∀ (σ : Sl) (h : Hl), I n σ h → ∃ σ' h', forG f [i] xs σ h = .nx σ' h' ∧ I (n + xs.length) σ' h' := by
  intro xs
  induction xs with
  | nil => intro n _ σ h h0; exact ⟨σ, h, by rw [forG], h0⟩
  | cons x xs ih =>
    intro n step σ h h0
    obtain ⟨fr, σ1, h1, e1, i1⟩ := step 0 x σ h rfl h0
    obtain ⟨σ2, h2, e2, i2⟩ := ih (n + 1) (fun j y σ h hy hi => by
      have := step (j + 1) y σ h (by simpa using hy) (by rw [show n + (j + 1) = n + 1 + j by omega]; exact hi)
      rw [show n + (j + 1) + 1 = n + 1 + j + 1 by omega] at this
      exact this) σ1 h1 i1
    refine ⟨σ2, h2, ?_, by rw [List.length_cons, show n + (xs.length + 1) = n + 1 + xs.length by omega]; exact i2⟩
    have fr2 : freeTg σ [i] = true := by simp [freeTg, fr]
    rw [forG, if_pos fr2]
    show (match f (σ.set i (some x)) h with
      | .nx σ h => forG f [i] xs σ h
      | .ct σ h => forG f [i] xs σ h
      | .bk σ h => .nx σ h
      | r => r) = _
    rcases e1 with e1 | e1 <;> rw [e1] <;> exact e2
theorem rngT_get {lo hi : Int} {j : Nat} {x : T} (h : (rngT lo hi)[j]? = some x) : x = .int (lo + j) ∧ j < (hi - lo).toNat := by
  unfold rngT at h
  rw [List.getElem?_map] at h
  by_cases c : j < (hi - lo).toNat
  · rw [List.getElem?_range c] at h; cases h; exact ⟨rfl, c⟩
  · rw [List.getElem?_eq_none (by rw [List.length_range]; omega)] at h; cases h
theorem rngT_len (lo hi : Int) : (rngT lo hi).length = (hi - lo).toNat := by simp [rngT]
/-- a slot that is empty or an int -/
def oi (o : Option Int) : Option T := o.map T.int
theorem free_oi (o : Option Int) : (match (some (oi o) : Option (Option T)) with
  | some (some (.bI _ _)) => false
  | some _ => true
  | none => false) = true := by cases o <;> rfl
/-- a loop's body, closed to simp -/
def bodyF (P : Prog) (call : Nat → List T → Hl → R T) (W : Nat) (b : B) (σ : Sl) (h : Hl) : RS := exB P call W b σ h
def bodyT (P : Prog) (call : Nat → List T → Hl → R T) (e : E) (σ : Sl) (h : Hl) : R Bool := evT P call e σ h
def bodyL (P : Prog) (call : Nat → List T → Hl → R T) (c : Eo) (e : E) (σ : Sl) (h : Hl) : R (Option T) := (evC P call c σ h).bind fun b h => if b then (evE P call e σ h).bind fun y h => .ok (some y) h else .ok none h
theorem exS_for (P : Prog) (call : Nat → List T → Hl → R T) (W : Nat) (tg : List Nat) (it : It) (b : B) (σ : Sl) (h : Hl) : exS P call W (.forS tg it b) σ h = (evI P call it σ h).toS σ fun xs h' => forC (gdI it σ h) (bodyF P call W b) tg xs σ h' := rfl
theorem exS_whl (P : Prog) (call : Nat → List T → Hl → R T) (W : Nat) (c : E) (b : B) (σ : Sl) (h : Hl) : exS P call W (.whl c b) σ h = whlG (bodyT P call c) (bodyF P call W b) W σ h := rfl
theorem evA_lc (P : Prog) (call : Nat → List T → Hl → R T) (it : It) (tg own : List Nat) (c : Eo) (e : E) (σ : Sl) (h : Hl) : evA P call (.lc it tg own c e) σ h = (evI P call it σ h).bind fun xs h' => if xs.length ≤ maxLen then (lcC (gdI it σ h) (bodyL P call c e) tg (wipeT σ own) xs h').bind fun ys h => .ok (.lst ys) h else .stuck := rfl
/-- a def's end -/
def endR (P : Prog) (vs : List T) (r : RS) : R T := match r with
  | .nx σ h => fin σ h vs
  | .rt t h => match vs with
    | .bI _ _ :: _ => .stuck
    | _ => .ok t h
  | .err c fs σ h => if P.exc then .err c fs h else .stuck
  | _ => .stuck
theorem run_eq {P : Prog} {W d f : Nat} {k : Def} (hf : P.defs[f]? = some k) {vs : List T} (hl : vs.length = k.np) (h : Hl) : run P W (d + 1) f vs h = endR P vs (exB P (run P W d) W k.body (startT k.np k.ns vs) h) := by
  simp only [run, hf, if_pos hl]; rfl
theorem forG_till {f : Sl → Hl → RS} {i : Nat} {I : Nat → Sl → Hl → Prop} {t : T} {h2 : Hl} : ∀ (xs : List T) (n F : Nat), F < xs.length →
    (∀ (j : Nat) (x : T) (σ : Sl) (h : Hl), j < F → xs[j]? = some x → I (n + j) σ h → freeS σ i = true ∧ ∃ σ' h', f (σ.set i (some x)) h = .nx σ' h' ∧ I (n + j + 1) σ' h') →
    (∀ (x : T) (σ : Sl) (h : Hl), xs[F]? = some x → I (n + F) σ h → freeS σ i = true ∧ f (σ.set i (some x)) h = .rt t h2) → ∀ (σ : Sl) (h : Hl), I n σ h → forG f [i] xs σ h = .rt t h2 := by
  intro xs
  induction xs with
  | nil => intro n F hF; simp at hF
  | cons x xs ih =>
    intro n F hF step last σ h h0
    have body : ∀ r, f (σ.set i (some x)) h = r → freeS σ i = true → forG f [i] (x :: xs) σ h = (match r with
      | .nx σ h => forG f [i] xs σ h
      | .ct σ h => forG f [i] xs σ h
      | .bk σ h => .nx σ h
      | r => r) := fun r e fr => by
      have fr2 : freeTg σ [i] = true := by simp [freeTg, fr]
      rw [forG, if_pos fr2, ← e]; rfl
    cases F with
    | zero =>
      obtain ⟨fr, e⟩ := last x σ h rfl h0
      rw [body _ e fr]
    | succ F =>
      obtain ⟨fr, σ1, h1, e1, i1⟩ := step 0 x σ h (by omega) rfl h0
      rw [body _ e1 fr]
      exact ih (n + 1) F (by simpa using hF) (fun j y σ h hj hy hi => by
        have := step (j + 1) y σ h (by omega) (by simpa using hy) (by rw [show n + (j + 1) = n + 1 + j by omega]; exact hi)
        rw [show n + (j + 1) + 1 = n + 1 + j + 1 by omega] at this
        exact this) (fun y σ h hy hi => last y σ h (by simpa using hy) (by rw [show n + (F + 1) = n + 1 + F by omega]; exact hi)) σ1 h1 i1
theorem whl_count {c : Sl → Hl → R Bool} {f : Sl → Hl → RS} (σ : Nat → Sl) (h : Hl) (F : Nat) (hc : ∀ j, j < F → c (σ j) h = .ok true h) (hf : ∀ j, j < F → f (σ j) h = .nx (σ (j + 1)) h) (hF : c (σ F) h = .ok false h) :
    ∀ (k j fuel : Nat), j + k = F → k < fuel → whlG c f fuel (σ j) h = .nx (σ F) h := by
  intro k
  induction k with
  | zero =>
    intro j fuel e hk
    obtain rfl : j = F := by omega
    cases fuel with
    | zero => omega
    | succ n => rw [whlG, hF]; rfl
  | succ k ih =>
    intro j fuel e hk
    cases fuel with
    | zero => omega
    | succ n =>
      rw [whlG, hc j (by omega)]
      show (match f (σ j) h with
        | .nx σ h => whlG c f n σ h
        | .ct σ h => whlG c f n σ h
        | .bk σ h => .nx σ h
        | r => r) = _
      rw [hf j (by omega)]
      exact ih (j + 1) n (by omega) (by omega)
/-! ### the law's gcd -/
def gcdB : B := (B.cons (S.whl (E.cmp .gt (E.var 1) (E.cst (T.int 0))) (B.cons (S.asg 2 (E.bin .mod (E.bf .int (Es.cons (E.var 0) Es.nil)) (E.var 1))) (B.cons (S.asg 0 (E.var 1)) (B.cons (S.asg 1 (E.var 2)) B.nil)))) (B.cons (S.ret (E.var 0)) B.nil))
section
variable (P : Prog) (call : Nat → List T → Hl → R T) (W : Nat)
theorem gcd_step (a b : Int) (o : Option Int) (h : Hl) (hb : 0 < b) : bodyF P call W (B.cons (S.asg 2 (E.bin .mod (E.bf .int (Es.cons (E.var 0) Es.nil)) (E.var 1))) (B.cons (S.asg 0 (E.var 1)) (B.cons (S.asg 1 (E.var 2)) B.nil))) [some (.int a), some (.int b), oi o] h = .nx [some (.int b), some (.int (a % b)), oi (some (a % b))] h := by
  have m1 : decide (b ≠ 0) = true := modOk hb
  have f1 := fmod_pos (i := a) hb
  cases o <;> simp only [bodyF, oi, exB, exS, evE, evEs, binE, binT, intT, isIns, insOf, bfT, intF, plainT, isBor, isExc, ↓R.bind_H, R.bindH_ok, ↓R.toS_H, R.toSH_ok, ↓RS.thn_H, RS.thnH_nx, List.getElem?_cons_zero, List.getElem?_cons_succ, List.set_cons_zero, List.set_cons_succ, Option.map_some, Option.map_none, Option.isSome_none, if_true, if_false, Bool.false_eq_true, Bool.not_false, Bool.and_true, freeS, m1, f1]
theorem gcd_cond (a b : Int) (o : Option Int) (h : Hl) : bodyT P call (E.cmp .gt (E.var 1) (E.cst (T.int 0))) [some (.int a), some (.int b), oi o] h = .ok (decide (0 < b)) h := by
  simp only [bodyT, evT, evE, cmpE, isIns, insOf, cmpT, icmp, oR, tru, truT, ↓R.bind_H, R.bindH_ok, List.getElem?_cons_zero, List.getElem?_cons_succ, Option.isSome_none, Bool.false_and, if_false, Bool.false_eq_true]
theorem gcd_loop (h : Hl) : ∀ (j fuel : Nat) (a b : Int) (o : Option Int), 0 ≤ a → 0 ≤ b → b < 2 ^ j → 2 * j < fuel →
    ∃ o', whlG (bodyT P call (E.cmp .gt (E.var 1) (E.cst (T.int 0)))) (bodyF P call W (B.cons (S.asg 2 (E.bin .mod (E.bf .int (Es.cons (E.var 0) Es.nil)) (E.var 1))) (B.cons (S.asg 0 (E.var 1)) (B.cons (S.asg 1 (E.var 2)) B.nil)))) fuel [some (.int a), some (.int b), oi o] h = .nx [some (.int ((Nat.gcd a.natAbs b.natAbs : Nat) : Int)), some (.int 0), oi o'] h := by
  have stop : ∀ (fuel : Nat) (a : Int) (o : Option Int), 0 ≤ a → 0 < fuel → whlG (bodyT P call (E.cmp .gt (E.var 1) (E.cst (T.int 0)))) (bodyF P call W (B.cons (S.asg 2 (E.bin .mod (E.bf .int (Es.cons (E.var 0) Es.nil)) (E.var 1))) (B.cons (S.asg 0 (E.var 1)) (B.cons (S.asg 1 (E.var 2)) B.nil)))) fuel [some (.int a), some (.int 0), oi o] h = .nx [some (.int ((Nat.gcd a.natAbs (0 : Int).natAbs : Nat) : Int)), some (.int 0), oi o] h := fun fuel a o ha hf => by
    cases fuel with
    | zero => omega
    | succ n =>
      rw [whlG, gcd_cond]
      have : ((Nat.gcd a.natAbs (0 : Int).natAbs : Nat) : Int) = a := by
        show ((Nat.gcd a.natAbs 0 : Nat) : Int) = a
        rw [Nat.gcd_zero_right]; omega
      rw [this]; rfl
  have one : ∀ (n : Nat) (a b : Int) (o : Option Int), 0 < b → whlG (bodyT P call (E.cmp .gt (E.var 1) (E.cst (T.int 0)))) (bodyF P call W (B.cons (S.asg 2 (E.bin .mod (E.bf .int (Es.cons (E.var 0) Es.nil)) (E.var 1))) (B.cons (S.asg 0 (E.var 1)) (B.cons (S.asg 1 (E.var 2)) B.nil)))) (n + 1) [some (.int a), some (.int b), oi o] h =
      whlG (bodyT P call (E.cmp .gt (E.var 1) (E.cst (T.int 0)))) (bodyF P call W (B.cons (S.asg 2 (E.bin .mod (E.bf .int (Es.cons (E.var 0) Es.nil)) (E.var 1))) (B.cons (S.asg 0 (E.var 1)) (B.cons (S.asg 1 (E.var 2)) B.nil)))) n [some (.int b), some (.int (a % b)), oi (some (a % b))] h := fun n a b o hb => by
    rw [whlG, gcd_cond, show decide (0 < b) = true from by simpa using hb]
    show (match bodyF P call W _ [some (.int a), some (.int b), oi o] h with
      | .nx σ h => whlG _ _ n σ h
      | .ct σ h => whlG _ _ n σ h
      | .bk σ h => .nx σ h
      | r => r) = _
    rw [gcd_step P call W a b o h hb]
  have red : ∀ (a b : Int), 0 ≤ a → 0 < b → (Nat.gcd a.natAbs b.natAbs : Nat) = Nat.gcd b.natAbs (a % b).natAbs := fun a b ha hb => by
    have e : (a % b).natAbs = a.natAbs % b.natAbs := by
      obtain ⟨x, rfl⟩ := Int.eq_ofNat_of_zero_le ha
      obtain ⟨y, rfl⟩ := Int.eq_ofNat_of_zero_le (Int.le_of_lt hb)
      rfl
    rw [e, Nat.gcd_comm a.natAbs, Nat.gcd_rec b.natAbs a.natAbs, Nat.gcd_comm]
  intro j
  induction j with
  | zero =>
    intro fuel a b o ha hb hj hf
    obtain rfl : b = 0 := by have : (2 : Int) ^ 0 = 1 := rfl; omega
    exact ⟨o, stop fuel a o ha (by omega)⟩
  | succ j ih =>
    intro fuel a b o ha hb hj hf
    by_cases z : b = 0
    · subst z; exact ⟨o, stop fuel a o ha (by omega)⟩
    · have hb2 : 0 < b := by omega
      obtain ⟨n, rfl⟩ : ∃ n, fuel = n + 1 + 1 := ⟨fuel - 2, by omega⟩
      rw [one (n + 1) a b o hb2, red a b ha hb2]
      have r0 : 0 ≤ a % b := Int.emod_nonneg _ (by omega)
      have r1 : a % b < b := Int.emod_lt_of_pos _ hb2
      by_cases z2 : a % b = 0
      · rw [z2]; exact ⟨_, stop (n + 1) b _ hb (by omega)⟩
      · have r2 : 0 < a % b := by omega
        rw [one n b (a % b) _ r2, red b (a % b) hb r2]
        have s0 : 0 ≤ b % (a % b) := Int.emod_nonneg _ (by omega)
        have s1 : b % (a % b) < a % b := Int.emod_lt_of_pos _ r2
        have s2 : 2 * (b % (a % b)) < b := by
          have e := Int.emod_add_mul_ediv b (a % b)
          have q : 1 ≤ b / (a % b) := (Int.le_ediv_iff_mul_le r2).mpr (by omega)
          have : a % b ≤ (a % b) * (b / (a % b)) := by
            have := Int.mul_le_mul_of_nonneg_left q (show 0 ≤ a % b by omega)
            rw [Int.mul_one] at this; exact this
          omega
        rw [Int.pow_succ] at hj
        exact ih n (a % b) (b % (a % b)) _ r0 s0 (by omega) (by omega)
theorem gcd_runJ (j d f : Nat) (hf : P.defs[f]? = some ⟨2, 3, gcdB⟩) (a b : Int) (h : Hl) (ha : 0 ≤ a) (hb : 0 ≤ b) (hb2 : b < 2 ^ j) (hW : 2 * j < W) : run P W (d + 1) f [.int a, .int b] h = .ok (.int ((Nat.gcd a.natAbs b.natAbs : Nat) : Int)) h := by
  obtain ⟨o', e⟩ := gcd_loop P (run P W d) W h j W a b none ha hb hb2 hW
  rw [run_eq hf rfl]
  show endR P _ ((exS P (run P W d) W (S.whl _ _) [some (.int a), some (.int b), none] h).thn fun σ h => exB P (run P W d) W (B.cons (S.ret (E.var 0)) B.nil) σ h) = _
  rw [exS_whl]
  have e : whlG (bodyT P (run P W d) (E.cmp .gt (E.var 1) (E.cst (T.int 0)))) (bodyF P (run P W d) W (B.cons (S.asg 2 (E.bin .mod (E.bf .int (Es.cons (E.var 0) Es.nil)) (E.var 1))) (B.cons (S.asg 0 (E.var 1)) (B.cons (S.asg 1 (E.var 2)) B.nil)))) W [some (.int a), some (.int b), none] h = _ := e
  rw [e]; rfl
theorem gcd_run (d f : Nat) (hf : P.defs[f]? = some ⟨2, 3, gcdB⟩) (a b : Int) (h : Hl) (ha : 0 ≤ a) (hb : 0 ≤ b) (hb2 : b < 2 ^ 400) (hW : 1000 < W) : run P W (d + 1) f [.int a, .int b] h = .ok (.int ((Nat.gcd a.natAbs b.natAbs : Nat) : Int)) h := gcd_runJ P W 400 d f hf a b h ha hb hb2 (by omega)
end
theorem lcG_map {f : Sl → Hl → R (Option T)} {i : Nat} {σ : Sl} {h : Hl} (g : Nat → T) (hp : ∀ j, plainT (g j) = true) : ∀ (xs : List T) (n : Nat), (∀ (j : Nat) (x : T), xs[j]? = some x → f (σ.set i (some x)) h = .ok (some (g (n + j))) h) →
    lcG f [i] σ xs h = .ok ((List.range xs.length).map fun j => g (n + j)) h := by
  intro xs
  induction xs with
  | nil => intro n _; rw [lcG]; rfl
  | cons x xs ih =>
    intro n hf
    have e0 := hf 0 x rfl
    have e1 := ih (n + 1) (fun j y hy => by
      have := hf (j + 1) y (by simpa using hy)
      rw [show n + (j + 1) = n + 1 + j by omega] at this; exact this)
    rw [lcG]
    show ((f (σ.set i (some x)) h).noErr.bind _) = _
    rw [e0]
    show (if plainT (g (n + 0)) = true then (lcG f [i] σ xs h).bind _ else R.stuck) = _
    rw [if_pos (hp _), e1]
    show R.ok (g (n + 0) :: _) h = _
    rw [List.length_cons, List.range_succ_eq_map, List.map_cons, List.map_map]
    congr 3
    funext j
    show g (n + 1 + j) = g (n + (j + 1))
    rw [show n + 1 + j = n + (j + 1) by omega]
end Kb
end
end
section
/-! Kp: plain words for plain proofs: loops, comprehensions, shares as rationals. -/
set_option autoImplicit false
set_option linter.all false
set_option maxRecDepth 100000
namespace Kb
/-! ### what is plain -/
def isRf' : T → Bool
  | .rf _ => true
  | _ => false
theorem pl_non : plainT (T.non) = true := by unfold plainT; exact Eq.refl _
theorem pl_bl (b : Bool) : plainT (T.bl b) = true := by unfold plainT; exact Eq.refl _
theorem pl_int (i : Int) : plainT (T.int i) = true := by unfold plainT; exact Eq.refl _
theorem pl_str (s : List Nat) : plainT (T.str s) = true := by unfold plainT; exact Eq.refl _
theorem pl_lst (xs : List T) : plainT (T.lst xs) = true := by unfold plainT; exact Eq.refl _
theorem pl_tup (xs : List T) : plainT (T.tup xs) = true := by unfold plainT; exact Eq.refl _
theorem pl_ins (c : Nat) (fs : List (Nat × T)) : plainT (T.ins c fs) = true := by unfold plainT; exact Eq.refl _
theorem pl_dct (kvs : List (T × T)) : plainT (T.dct kvs) = true := by unfold plainT; exact Eq.refl _
theorem pl_rf (n : Nat) : plainT (T.rf n) = true := by unfold plainT; exact Eq.refl _
theorem pl_kl (xs : List Int) : plainT (T.kl xs) = true := by unfold plainT; exact Eq.refl _
theorem pl_exc (c : Nat) (fs : List (Nat × T)) : plainT (T.exc c fs) = false := by unfold plainT; exact Eq.refl _
theorem pl_bL (xs : List T) : plainT (T.bL xs) = false := by unfold plainT; exact Eq.refl _
theorem pl_bD (kvs : List (T × T)) : plainT (T.bD kvs) = false := by unfold plainT; exact Eq.refl _
theorem pl_bI (c : Nat) (fs : List (Nat × T)) : plainT (T.bI c fs) = false := by unfold plainT; exact Eq.refl _
theorem rngOk_of {i : Int} (h0 : -1000000 ≤ i) (h : i ≤ 1000000) : rngOk i = true := by simp only [rngOk, decide_eq_true_eq]; omega
theorem lt_of' {n : Nat} (h : n ≤ 1000000) : decide (n < maxLen) = true := decide_eq_true (by unfold maxLen; omega)
theorem le_of' {n : Nat} (h : n ≤ 1000000) : (n ≤ maxLen) = True := eq_true (by unfold maxLen; omega)
theorem len_of {n : Nat} (h : n ≤ 1000000) : n ≤ maxLen := by simp only [maxLen]; omega
theorem shlOk_of {i n : Int} (h1 : -(2 ^ 200) < i) (h2 : i < 2 ^ 200) (h3 : 0 ≤ n) (h4 : n ≤ 1000000) : shlOk i n = true := by
  have b := log2_lt i 200 h1 h2 (by decide)
  simp only [shlOk, Bool.and_eq_true, decide_eq_true_eq]; exact ⟨⟨h3, by omega⟩, by omega⟩
/-! ### walks and kinds by form -/
theorem walkOf_lst (xs : List T) : walkOf (.lst xs) = some xs := by unfold walkOf; exact Eq.refl _
theorem walkOf_tup (xs : List T) : walkOf (.tup xs) = some xs := by unfold walkOf; exact Eq.refl _
theorem walkOf_kl (xs : List Int) : walkOf (.kl xs) = some (xs.map T.int) := by unfold walkOf; exact Eq.refl _
theorem walkOf_str (s : List Nat) (h : decide (s.length ≤ maxLen) = true) : walkOf (.str s) = some (s.map fun c => T.str [c]) := by
  show (if s.length ≤ maxLen then some (s.map fun c => T.str [c]) else none) = _
  rw [if_pos (of_decide_eq_true h)]
theorem walkOf_rf (n : Nat) : walkOf (.rf n) = none := by unfold walkOf; exact Eq.refl _
def lstC : Option C → Option (List T)
  | some (.lst xs) => some xs
  | _ => none
def gdC (n : Nat) : Option C → List (Nat × List T)
  | some (.lst xs) => [(n, xs)]
  | _ => []
def gdO (o : Option (Option T)) (h : Hl) : List (Nat × List T) := match o with
  | some (some x) => gdT x h
  | _ => []
theorem lstC_lst (xs : List T) : lstC (some (.lst xs)) = some xs := by unfold lstC; exact Eq.refl _
theorem gdC_lst (n : Nat) (xs : List T) : gdC n (some (.lst xs)) = [(n, xs)] := by unfold gdC; exact Eq.refl _
theorem gdO_some (x : T) (h : Hl) : gdO (some (some x)) h = gdT x h := by unfold gdO; exact Eq.refl _
theorem gdO_none (h : Hl) : gdO none h = [] := by unfold gdO; exact Eq.refl _
theorem gdO_sn (h : Hl) : gdO (some none) h = [] := by unfold gdO; exact Eq.refl _
theorem gdT_of {x : T} {xs : List T} {h : Hl} (e : walkOf x = some xs) : gdT x h = [] := by unfold gdT; rw [e]
theorem gdT_no {x : T} {h : Hl} (e : isRf' x = false) : gdT x h = [] := by
  unfold gdT
  cases hw : walkOf x with
  | some xs => exact Eq.refl _
  | none => cases x <;> first | rfl | cases e
theorem gdT_lst (xs : List T) (h : Hl) : gdT (.lst xs) h = [] := gdT_no rfl
theorem gdT_tup (xs : List T) (h : Hl) : gdT (.tup xs) h = [] := gdT_no rfl
theorem gdT_kl (xs : List Int) (h : Hl) : gdT (.kl xs) h = [] := gdT_no rfl
theorem gdT_str (s : List Nat) (h : Hl) : gdT (.str s) h = [] := gdT_no rfl
theorem gdT_int (s : Int) (h : Hl) : gdT (.int s) h = [] := gdT_no rfl
theorem gdT_bl (s : Bool) (h : Hl) : gdT (.bl s) h = [] := gdT_no rfl
theorem gdT_non (h : Hl) : gdT .non h = [] := gdT_no rfl
theorem gdT_ins (c : Nat) (fs : List (Nat × T)) (h : Hl) : gdT (.ins c fs) h = [] := gdT_no rfl
theorem gdT_bI (c : Nat) (fs : List (Nat × T)) (h : Hl) : gdT (.bI c fs) h = [] := gdT_no rfl
theorem gdT_bL (xs : List T) (h : Hl) : gdT (.bL xs) h = [] := gdT_no rfl
theorem gdT_rf (n : Nat) (h : Hl) : gdT (.rf n) h = gdC n h[n]? := by
  unfold gdT gdC
  rw [walkOf_rf] <;> rfl
theorem wk_some {v : Bool} {x : T} {xs : List T} {h : Hl} (e : walkOf x = some xs) : wk v x h = some xs := by unfold wk; rw [e]
theorem wk_lst (v : Bool) (xs : List T) (h : Hl) : wk v (.lst xs) h = some xs := wk_some (walkOf_lst xs)
theorem wk_tup (v : Bool) (xs : List T) (h : Hl) : wk v (.tup xs) h = some xs := wk_some (walkOf_tup xs)
theorem wk_kl (v : Bool) (xs : List Int) (h : Hl) : wk v (.kl xs) h = some (xs.map T.int) := wk_some (walkOf_kl xs)
theorem wk_rf (n : Nat) (h : Hl) : wk true (.rf n) h = lstC h[n]? := by
  unfold wk cellL lstC
  rw [walkOf_rf] <;> rfl
theorem wk_nw (x : T) (h : Hl) : wk false x h = walkOf x := by unfold wk; cases walkOf x <;> rfl
theorem wk_str' (v : Bool) (s : List Nat) (h : Hl) (q : decide (s.length ≤ maxLen) = true) : wk v (.str s) h = some (s.map fun c => T.str [c]) := wk_some (walkOf_str s q)
def wkM (v : Bool) (x : T) (h : Hl) (o : Option (List T)) : Option (List T) := match o with
  | some xs => some xs
  | none => if v then cellL x h else none
theorem wk_eq (v : Bool) (x : T) (h : Hl) : wk v x h = wkM v x h (walkOf x) := by unfold wk wkM; exact Eq.refl _
theorem wkM_some (v : Bool) (x : T) (h : Hl) (xs : List T) : wkM v x h (some xs) = some xs := by unfold wkM; exact Eq.refl _
theorem wkM_nw (x : T) (h : Hl) : wkM false x h none = none := by unfold wkM; exact Eq.refl _
theorem wkM_rf (n : Nat) (h : Hl) : wkM true (.rf n) h none = lstC h[n]? := by unfold wkM cellL lstC; exact Eq.refl _
def gdM (x : T) (h : Hl) (o : Option (List T)) : List (Nat × List T) := match o with
  | some _ => []
  | none => match x with
    | .rf n => match h[n]? with
      | some (.lst xs) => [(n, xs)]
      | _ => []
    | _ => []
theorem gdT_eq (x : T) (h : Hl) : gdT x h = gdM x h (walkOf x) := by unfold gdT gdM; exact Eq.refl _
theorem gdM_some (x : T) (h : Hl) (xs : List T) : gdM x h (some xs) = [] := by unfold gdM; exact Eq.refl _
theorem gdM_rf (n : Nat) (h : Hl) : gdM (.rf n) h none = gdC n h[n]? := by unfold gdM gdC; exact Eq.refl _
theorem gdV_var (i : Nat) (σ : Sl) (h : Hl) : gdV (.var i) σ h = gdO σ[i]? h := by unfold gdV gdO; exact Eq.refl _
theorem gdV_no {e : E} (σ : Sl) (h : Hl) (q : isVarE' e = false) : gdV e σ h = [] := by
  unfold gdV; cases e <;> first | rfl | cases q
theorem keysT_dct (kvs : List (T × T)) : keysT (.dct kvs) = some (kvs.map (·.1)) := by unfold keysT; exact Eq.refl _
theorem keysT_rf (n : Nat) : keysT (.rf n) = none := by unfold keysT; exact Eq.refl _
theorem cellL_rf (n : Nat) (h : Hl) : cellL (.rf n) h = lstC h[n]? := by unfold cellL lstC; exact Eq.refl _
theorem walkOf_dct (kvs : List (T × T)) : walkOf (.dct kvs) = none := by unfold walkOf; exact Eq.refl _
theorem wkM_dct (v : Bool) (kvs : List (T × T)) (h : Hl) : wkM v (.dct kvs) h none = none := by unfold wkM cellL; cases v <;> exact Eq.refl _
def gdFR (r : R T) (h : Hl) : List (Nat × List T) := match r with
  | .ok x _ => gdT x h
  | _ => []
def gdFO (o : Option (Option T)) (f : Nat) (h : Hl) : List (Nat × List T) := match o with
  | some (some y) => gdFR (fldT y f h) h
  | _ => []
theorem gdF_eq (i f : Nat) (σ : Sl) (h : Hl) : gdF (.fld (.var i) f) σ h = gdFO σ[i]? f h := by unfold gdF gdFO gdFR; exact Eq.refl _
theorem gdFO_some (y : T) (f : Nat) (h : Hl) : gdFO (some (some y)) f h = gdFR (fldT y f h) h := by unfold gdFO; exact Eq.refl _
theorem gdFR_ok (x : T) (h' h : Hl) : gdFR (.ok x h') h = gdT x h := by unfold gdFR; exact Eq.refl _
theorem isF_fldv (i f : Nat) : isFV (.fld (.var i) f) = true := by unfold isFV; exact Eq.refl _
theorem isF_fldf (a : E) (g f : Nat) : isFV (.fld (.fld a g) f) = false := by unfold isFV; exact Eq.refl _
theorem isF_fldg (g f : Nat) : isFV (.fld (.glo g) f) = false := by unfold isFV; exact Eq.refl _
theorem isF_fldi (a b : E) (f : Nat) : isFV (.fld (.idx a b) f) = false := by unfold isFV; exact Eq.refl _
theorem isF_fldm (o : E) (m : Nat) (a : Es) (f : Nat) : isFV (.fld (.meth o m a) f) = false := by unfold isFV; exact Eq.refl _
theorem isF_fldc (m : Nat) (a : Es) (f : Nat) : isFV (.fld (.call m a) f) = false := by unfold isFV; exact Eq.refl _
theorem isF_var (i : Nat) : isFV (.var i) = false := by unfold isFV; exact Eq.refl _
theorem isF_cst (t : T) : isFV (.cst t) = false := by unfold isFV; exact Eq.refl _
theorem isF_glo (k : Nat) : isFV (.glo k) = false := by unfold isFV; exact Eq.refl _
theorem isF_idx (a b : E) : isFV (.idx a b) = false := by unfold isFV; exact Eq.refl _
theorem isF_tup (a : Es) : isFV (.tup a) = false := by unfold isFV; exact Eq.refl _
theorem isF_sl (a : E) (b c : Eo) : isFV (.sl a b c) = false := by unfold isFV; exact Eq.refl _
theorem isF_call (f : Nat) (a : Es) : isFV (.call f a) = false := by unfold isFV; exact Eq.refl _
theorem isF_callK (f : Nat) (a b : Es) (c : List (Nat ⊕ T)) : isFV (.callK f a b c) = false := by unfold isFV; exact Eq.refl _
theorem isF_meth (o : E) (f : Nat) (a : Es) : isFV (.meth o f a) = false := by unfold isFV; exact Eq.refl _
theorem isF_methK (o : E) (f : Nat) (a b : Es) (c : List (Nat ⊕ T)) : isFV (.methK o f a b c) = false := by unfold isFV; exact Eq.refl _
theorem isF_bf (f : BF) (a : Es) : isFV (.bf f a) = false := by unfold isFV; exact Eq.refl _
theorem isF_bm (f : BM) (o : E) (a : Es) : isFV (.bm f o a) = false := by unfold isFV; exact Eq.refl _
theorem isF_bin (o : BOp) (a b : E) : isFV (.bin o a b) = false := by unfold isFV; exact Eq.refl _
theorem isF_ife (c a b : E) : isFV (.ife c a b) = false := by unfold isFV; exact Eq.refl _
theorem isF_al (w : Bool) (a : A) : isFV (.al w a) = false := by unfold isFV; exact Eq.refl _
theorem gdI_e0 (e : E) (σ : Sl) (h : Hl) : gdI (.e e) σ h = if isFV e = true then gdF e σ h else gdV e σ h := by unfold gdI; exact Eq.refl _
theorem gdI_e {e : E} (σ : Sl) (h : Hl) (q : isFV e = false) : gdI (.e e) σ h = gdV e σ h := by rw [gdI_e0, q]; rfl
theorem gdI_fld (i f : Nat) (σ : Sl) (h : Hl) : gdI (.e (.fld (.var i) f)) σ h = gdF (.fld (.var i) f) σ h := by rw [gdI_e0]; rfl
theorem gdI_enum (e : E) (σ : Sl) (h : Hl) : gdI (.enum e) σ h = gdV e σ h := by unfold gdI; exact Eq.refl _
theorem gdI_rng1 (a : E) (σ : Sl) (h : Hl) : gdI (.rng1 a) σ h = [] := by unfold gdI; exact Eq.refl _
theorem gdI_rng2 (a b : E) (σ : Sl) (h : Hl) : gdI (.rng2 a b) σ h = [] := by unfold gdI; exact Eq.refl _
theorem gdI_rng3 (a b c : E) (σ : Sl) (h : Hl) : gdI (.rng3 a b c) σ h = [] := by unfold gdI; exact Eq.refl _
theorem gdI_zip (a b : E) (σ : Sl) (h : Hl) : gdI (.zip a b) σ h = if isVarE' a && isVarE' b then gdV a σ h ++ gdV b σ h else [] := by unfold gdI; exact Eq.refl _
theorem isV_var (i : Nat) : isVarE' (.var i) = true := by unfold isVarE'; exact Eq.refl _
theorem isV_fld (a : E) (f : Nat) : isVarE' (.fld a f) = false := by unfold isVarE'; exact Eq.refl _
theorem isV_cst (t : T) : isVarE' (.cst t) = false := by unfold isVarE'; exact Eq.refl _
theorem isV_glo (k : Nat) : isVarE' (.glo k) = false := by unfold isVarE'; exact Eq.refl _
theorem isV_idx (a b : E) : isVarE' (.idx a b) = false := by unfold isVarE'; exact Eq.refl _
theorem isV_tup (a : Es) : isVarE' (.tup a) = false := by unfold isVarE'; exact Eq.refl _
theorem isV_sl (a : E) (b c : Eo) : isVarE' (.sl a b c) = false := by unfold isVarE'; exact Eq.refl _
theorem isV_call (f : Nat) (a : Es) : isVarE' (.call f a) = false := by unfold isVarE'; exact Eq.refl _
theorem isV_callK (f : Nat) (a b : Es) (c : List (Nat ⊕ T)) : isVarE' (.callK f a b c) = false := by unfold isVarE'; exact Eq.refl _
theorem isV_meth (o : E) (f : Nat) (a : Es) : isVarE' (.meth o f a) = false := by unfold isVarE'; exact Eq.refl _
theorem isV_methK (o : E) (f : Nat) (a b : Es) (c : List (Nat ⊕ T)) : isVarE' (.methK o f a b c) = false := by unfold isVarE'; exact Eq.refl _
theorem isV_bf (f : BF) (a : Es) : isVarE' (.bf f a) = false := by unfold isVarE'; exact Eq.refl _
theorem isV_bm (f : BM) (o : E) (a : Es) : isVarE' (.bm f o a) = false := by unfold isVarE'; exact Eq.refl _
theorem isV_bin (o : BOp) (a b : E) : isVarE' (.bin o a b) = false := by unfold isVarE'; exact Eq.refl _
theorem isV_ife (c a b : E) : isVarE' (.ife c a b) = false := by unfold isVarE'; exact Eq.refl _
theorem isV_al (w : Bool) (a : A) : isVarE' (.al w a) = false := by unfold isVarE'; exact Eq.refl _
theorem forC_nil (f : Sl → Hl → RS) (tg : List Nat) (xs : List T) (σ : Sl) (h : Hl) : forC [] f tg xs σ h = forG f tg xs σ h := by unfold forC; exact Eq.refl _
theorem lcC_nil (f : Sl → Hl → R (Option T)) (tg : List Nat) (σ : Sl) (xs : List T) (h : Hl) : lcC [] f tg σ xs h = lcG f tg σ xs h := by unfold lcC; exact Eq.refl _
theorem kd_non (k : Kd) (h : Hl) : kdOf k .non h = some false := by unfold kdOf; exact Eq.refl _
theorem kd_bl (k : Kd) (b : Bool) (h : Hl) : kdOf k (.bl b) h = some (decide (k = .int ∨ k = .bool)) := by unfold kdOf; exact Eq.refl _
theorem kd_int (k : Kd) (i : Int) (h : Hl) : kdOf k (.int i) h = some (decide (k = .int)) := by unfold kdOf; exact Eq.refl _
theorem kd_str (k : Kd) (s : List Nat) (h : Hl) : kdOf k (.str s) h = some (decide (k = .str)) := by unfold kdOf; exact Eq.refl _
theorem kd_tup (k : Kd) (xs : List T) (h : Hl) : kdOf k (.tup xs) h = some (decide (k = .tuple)) := by unfold kdOf; exact Eq.refl _
theorem kd_lst (k : Kd) (xs : List T) (h : Hl) : kdOf k (.lst xs) h = some (decide (k = .list)) := by unfold kdOf; exact Eq.refl _
theorem kd_bL (k : Kd) (xs : List T) (h : Hl) : kdOf k (.bL xs) h = some (decide (k = .list)) := by unfold kdOf; exact Eq.refl _
theorem kd_kl (k : Kd) (xs : List Int) (h : Hl) : kdOf k (.kl xs) h = some (decide (k = .list)) := by unfold kdOf; exact Eq.refl _
theorem kd_ins (k : Kd) (c : Nat) (fs : List (Nat × T)) (h : Hl) : kdOf k (.ins c fs) h = some (decide (k = .cls c)) := by unfold kdOf; exact Eq.refl _
theorem kk_ii : decide (Kd.int = Kd.int) = true := by decide
theorem kk_ib : decide (Kd.int = Kd.bool) = false := by decide
theorem kk_bi : decide (Kd.bool = Kd.int) = false := by decide
theorem kk_bb : decide (Kd.bool = Kd.bool) = true := by decide
theorem kk_ss : decide (Kd.str = Kd.str) = true := by decide
theorem kk_tt : decide (Kd.tuple = Kd.tuple) = true := by decide
theorem kk_ll : decide (Kd.list = Kd.list) = true := by decide
theorem kk_tl : decide (Kd.tuple = Kd.list) = false := by decide
theorem kk_lt : decide (Kd.list = Kd.tuple) = false := by decide
theorem kk_is : decide (Kd.int = Kd.str) = false := by decide
theorem kk_si : decide (Kd.str = Kd.int) = false := by decide
theorem kk_it : decide (Kd.int = Kd.tuple) = false := by decide
theorem kk_il : decide (Kd.int = Kd.list) = false := by decide
theorem kk_ti : decide (Kd.tuple = Kd.int) = false := by decide
theorem kk_li : decide (Kd.list = Kd.int) = false := by decide
theorem kk_st : decide (Kd.str = Kd.tuple) = false := by decide
theorem kk_sl : decide (Kd.str = Kd.list) = false := by decide
theorem kk_ts : decide (Kd.tuple = Kd.str) = false := by decide
theorem kk_ls : decide (Kd.list = Kd.str) = false := by decide
/-! ### which values are instances -/
section
variable (P : Prog) (call : Nat → List T → Hl → R T)
theorem insOf_non  (h : Hl) : insOf T.non h = none := by unfold insOf; exact Eq.refl _
theorem binE_non (o : BOp)  (y : T) (h : Hl) : binE P call o T.non y h = binT o T.non y h := by unfold binE isIns; rw [insOf_non]; exact Eq.refl _
theorem cmE_non (o : COp)  (y : T) (h : Hl) : cmpE P call o T.non y h = cmpT o T.non y h := by unfold cmpE isIns; rw [insOf_non]; exact Eq.refl _
theorem insOf_bl (b : Bool) (h : Hl) : insOf (T.bl b) h = none := by unfold insOf; exact Eq.refl _
theorem binE_bl (o : BOp) (b : Bool) (y : T) (h : Hl) : binE P call o (T.bl b) y h = binT o (T.bl b) y h := by unfold binE isIns; rw [insOf_bl]; exact Eq.refl _
theorem cmE_bl (o : COp) (b : Bool) (y : T) (h : Hl) : cmpE P call o (T.bl b) y h = cmpT o (T.bl b) y h := by unfold cmpE isIns; rw [insOf_bl]; exact Eq.refl _
theorem insOf_int (i : Int) (h : Hl) : insOf (T.int i) h = none := by unfold insOf; exact Eq.refl _
theorem binE_int (o : BOp) (i : Int) (y : T) (h : Hl) : binE P call o (T.int i) y h = binT o (T.int i) y h := by unfold binE isIns; rw [insOf_int]; exact Eq.refl _
theorem cmE_int (o : COp) (i : Int) (y : T) (h : Hl) : cmpE P call o (T.int i) y h = cmpT o (T.int i) y h := by unfold cmpE isIns; rw [insOf_int]; exact Eq.refl _
theorem insOf_str (s : List Nat) (h : Hl) : insOf (T.str s) h = none := by unfold insOf; exact Eq.refl _
theorem binE_str (o : BOp) (s : List Nat) (y : T) (h : Hl) : binE P call o (T.str s) y h = binT o (T.str s) y h := by unfold binE isIns; rw [insOf_str]; exact Eq.refl _
theorem cmE_str (o : COp) (s : List Nat) (y : T) (h : Hl) : cmpE P call o (T.str s) y h = cmpT o (T.str s) y h := by unfold cmpE isIns; rw [insOf_str]; exact Eq.refl _
theorem insOf_lst (xs : List T) (h : Hl) : insOf (T.lst xs) h = none := by unfold insOf; exact Eq.refl _
theorem binE_lst (o : BOp) (xs : List T) (y : T) (h : Hl) : binE P call o (T.lst xs) y h = binT o (T.lst xs) y h := by unfold binE isIns; rw [insOf_lst]; exact Eq.refl _
theorem cmE_lst (o : COp) (xs : List T) (y : T) (h : Hl) : cmpE P call o (T.lst xs) y h = cmpT o (T.lst xs) y h := by unfold cmpE isIns; rw [insOf_lst]; exact Eq.refl _
theorem insOf_tup (xs : List T) (h : Hl) : insOf (T.tup xs) h = none := by unfold insOf; exact Eq.refl _
theorem binE_tup (o : BOp) (xs : List T) (y : T) (h : Hl) : binE P call o (T.tup xs) y h = binT o (T.tup xs) y h := by unfold binE isIns; rw [insOf_tup]; exact Eq.refl _
theorem cmE_tup (o : COp) (xs : List T) (y : T) (h : Hl) : cmpE P call o (T.tup xs) y h = cmpT o (T.tup xs) y h := by unfold cmpE isIns; rw [insOf_tup]; exact Eq.refl _
theorem insOf_dct (kvs : List (T × T)) (h : Hl) : insOf (T.dct kvs) h = none := by unfold insOf; exact Eq.refl _
theorem binE_dct (o : BOp) (kvs : List (T × T)) (y : T) (h : Hl) : binE P call o (T.dct kvs) y h = binT o (T.dct kvs) y h := by unfold binE isIns; rw [insOf_dct]; exact Eq.refl _
theorem cmE_dct (o : COp) (kvs : List (T × T)) (y : T) (h : Hl) : cmpE P call o (T.dct kvs) y h = cmpT o (T.dct kvs) y h := by unfold cmpE isIns; rw [insOf_dct]; exact Eq.refl _
theorem insOf_kl (xs : List Int) (h : Hl) : insOf (T.kl xs) h = none := by unfold insOf; exact Eq.refl _
theorem binE_kl (o : BOp) (xs : List Int) (y : T) (h : Hl) : binE P call o (T.kl xs) y h = binT o (T.kl xs) y h := by unfold binE isIns; rw [insOf_kl]; exact Eq.refl _
theorem cmE_kl (o : COp) (xs : List Int) (y : T) (h : Hl) : cmpE P call o (T.kl xs) y h = cmpT o (T.kl xs) y h := by unfold cmpE isIns; rw [insOf_kl]; exact Eq.refl _
theorem insOf_bL (xs : List T) (h : Hl) : insOf (T.bL xs) h = none := by unfold insOf; exact Eq.refl _
theorem binE_bL (o : BOp) (xs : List T) (y : T) (h : Hl) : binE P call o (T.bL xs) y h = binT o (T.bL xs) y h := by unfold binE isIns; rw [insOf_bL]; exact Eq.refl _
theorem cmE_bL (o : COp) (xs : List T) (y : T) (h : Hl) : cmpE P call o (T.bL xs) y h = cmpT o (T.bL xs) y h := by unfold cmpE isIns; rw [insOf_bL]; exact Eq.refl _
theorem insOf_bD (kvs : List (T × T)) (h : Hl) : insOf (T.bD kvs) h = none := by unfold insOf; exact Eq.refl _
theorem binE_bD (o : BOp) (kvs : List (T × T)) (y : T) (h : Hl) : binE P call o (T.bD kvs) y h = binT o (T.bD kvs) y h := by unfold binE isIns; rw [insOf_bD]; exact Eq.refl _
theorem cmE_bD (o : COp) (kvs : List (T × T)) (y : T) (h : Hl) : cmpE P call o (T.bD kvs) y h = cmpT o (T.bD kvs) y h := by unfold cmpE isIns; rw [insOf_bD]; exact Eq.refl _
theorem insOf_ins (c : Nat) (fs : List (Nat × T)) (h : Hl) : insOf (T.ins c fs) h = some (c, fs) := by unfold insOf; exact Eq.refl _
theorem insOf_bI (c : Nat) (fs : List (Nat × T)) (h : Hl) : insOf (T.bI c fs) h = some (c, fs) := by unfold insOf; exact Eq.refl _
theorem insOf_rf (n : Nat) (h : Hl) : insOf (T.rf n) h = (match h[n]? with
  | some (.ins c fs) => some (c, fs)
  | _ => none) := by unfold insOf; exact Eq.refl _
theorem binE_rf (o : BOp) (n : Nat) (y : T) (h : Hl) (q : insOf (T.rf n) h = none) : binE P call o (T.rf n) y h = binT o (T.rf n) y h := by unfold binE isIns; rw [q]; exact Eq.refl _
theorem cmE_rf (o : COp) (n : Nat) (y : T) (h : Hl) (q : insOf (T.rf n) h = none) : cmpE P call o (T.rf n) y h = cmpT o (T.rf n) y h := by unfold cmpE isIns; rw [q]; exact Eq.refl _
theorem cmE_is (o : COp) (x y : T) (h : Hl) (q : (decide (o = .eq) || decide (o = .ne)) = false) : cmpE P call o x y h = cmpT o x y h := by unfold cmpE; rw [q]; simp
theorem fldT_ins (c : Nat) (fs : List (Nat × T)) (f : Nat) (h : Hl) : fldT (T.ins c fs) f h = (match lkF f fs with
  | some t => .ok t h
  | none => .stuck) := by unfold fldT; exact Eq.refl _
theorem fldT_bI (c : Nat) (fs : List (Nat × T)) (f : Nat) (h : Hl) : fldT (T.bI c fs) f h = (match lkF f fs with
  | some t => .ok t h
  | none => .stuck) := by unfold fldT; exact Eq.refl _
theorem fldT_rf (n : Nat) (c : Nat) (fs : List (Nat × T)) (f : Nat) (h : Hl) (q : insOf (T.rf n) h = some (c, fs)) : fldT (T.rf n) f h = (match lkF f fs with
  | some t => .ok t h
  | none => .stuck) := by unfold fldT; simp only [q] <;> cases lkF f fs <;> rfl
end
theorem mx_0 : (0 ≤ maxLen) = True := by simp
theorem mx_1 : (1 ≤ maxLen) = True := by simp [maxLen]
theorem mx_2 : (2 ≤ maxLen) = True := by simp [maxLen]
theorem mx_3 : (3 ≤ maxLen) = True := by simp [maxLen]
theorem mx_4 : (4 ≤ maxLen) = True := by simp [maxLen]
theorem mx_5 : (5 ≤ maxLen) = True := by simp [maxLen]
theorem mx_01 : (0 + 1 ≤ maxLen) = True := by simp [maxLen]
theorem mx_02 : (0 + 1 + 1 ≤ maxLen) = True := by simp [maxLen]
theorem mx_03 : (0 + 1 + 1 + 1 ≤ maxLen) = True := by simp [maxLen]
theorem mx_04 : (0 + 1 + 1 + 1 + 1 ≤ maxLen) = True := by simp [maxLen]
theorem mx_05 : (0 + 1 + 1 + 1 + 1 + 1 ≤ maxLen) = True := by simp [maxLen]
theorem mx_06 : (0 + 1 + 1 + 1 + 1 + 1 + 1 ≤ maxLen) = True := by simp [maxLen]
theorem mx_07 : (0 + 1 + 1 + 1 + 1 + 1 + 1 + 1 ≤ maxLen) = True := by simp [maxLen]
theorem mx_08 : (0 + 1 + 1 + 1 + 1 + 1 + 1 + 1 + 1 ≤ maxLen) = True := by simp [maxLen]
theorem mx_09 : (0 + 1 + 1 + 1 + 1 + 1 + 1 + 1 + 1 + 1 ≤ maxLen) = True := by simp [maxLen]
theorem mx_10 : (0 + 1 + 1 + 1 + 1 + 1 + 1 + 1 + 1 + 1 + 1 ≤ maxLen) = True := by simp [maxLen]
theorem mx_11 : (0 + 1 + 1 + 1 + 1 + 1 + 1 + 1 + 1 + 1 + 1 + 1 ≤ maxLen) = True := by simp [maxLen]
theorem mx_12 : (0 + 1 + 1 + 1 + 1 + 1 + 1 + 1 + 1 + 1 + 1 + 1 + 1 ≤ maxLen) = True := by simp [maxLen]
theorem mx_13 : (0 + 1 + 1 + 1 + 1 + 1 + 1 + 1 + 1 + 1 + 1 + 1 + 1 + 1 ≤ maxLen) = True := by simp [maxLen]
theorem mx_14 : (0 + 1 + 1 + 1 + 1 + 1 + 1 + 1 + 1 + 1 + 1 + 1 + 1 + 1 + 1 ≤ maxLen) = True := by simp [maxLen]
theorem mx_15 : (0 + 1 + 1 + 1 + 1 + 1 + 1 + 1 + 1 + 1 + 1 + 1 + 1 + 1 + 1 + 1 ≤ maxLen) = True := by simp [maxLen]
/-! ### loops -/
theorem BxOk.mono {st : Bx} {k k' : Nat} (o : BxOk st k) (h : k ≤ k') : BxOk st k' := ⟨o.q0, o.s0, o.s1, o.t0, by have := o.t1; omega⟩
/-- a loop's body: on to the next turn (or continue) -/
def Goes (x : RS) (N : Sl → Hl → Prop) : Prop := ∃ σ h, (x = .nx σ h ∨ x = .ct σ h) ∧ N σ h
theorem Goes.nx {σ : Sl} {h : Hl} {N : Sl → Hl → Prop} (n : N σ h) : Goes (.nx σ h) N := ⟨σ, h, .inl rfl, n⟩
theorem Goes.ct {σ : Sl} {h : Hl} {N : Sl → Hl → Prop} (n : N σ h) : Goes (.ct σ h) N := ⟨σ, h, .inr rfl, n⟩
theorem Goes.ite {c : Prop} [Decidable c] {x y : RS} {N : Sl → Hl → Prop} (a : c → Goes x N) (b : ¬ c → Goes y N) : Goes (if c then x else y) N := by
  by_cases q : c
  · rw [if_pos q]; exact a q
  · rw [if_neg q]; exact b q
theorem forG_step {f : Sl → Hl → RS} {tg : List Nat} {x : T} {xs : List T} {σ σ1 : Sl} {h : Hl} (fr : freeTg σ tg = true) (st : setT tg x σ = some σ1) :
    forG f tg (x :: xs) σ h = (match f σ1 h with
      | .nx σ h => forG f tg xs σ h
      | .ct σ h => forG f tg xs σ h
      | .bk σ h => .nx σ h
      | r => r) := by
  rw [forG, if_pos fr, st] <;> rfl
/-- every turn goes on -/
theorem for_all {f : Sl → Hl → RS} {tg : List Nat} (I : Nat → Sl → Hl → Prop) : ∀ (xs : List T) (n : Nat) (σ : Sl) (h : Hl), I n σ h →
    (∀ (j : Nat) (x : T) (σ : Sl) (h : Hl), xs[j]? = some x → I (n + j) σ h → freeTg σ tg = true ∧ ∃ σ1, setT tg x σ = some σ1 ∧ Goes (f σ1 h) (I (n + j + 1))) →
    ∃ σ' h', forG f tg xs σ h = .nx σ' h' ∧ I (n + xs.length) σ' h' := by
  intro xs
  induction xs with
  | nil => intro n σ h h0 _; exact ⟨σ, h, by rw [forG], h0⟩
  | cons x xs ih =>
    intro n σ h h0 step
    obtain ⟨fr, σ1, st, σ2, h2, e, i2⟩ := step 0 x σ h rfl h0
    obtain ⟨σ3, h3, e3, i3⟩ := ih (n + 1) σ2 h2 i2 fun j y σ h hy hi => by
      have := step (j + 1) y σ h (by simpa using hy) (by rw [show n + (j + 1) = n + 1 + j by omega]; exact hi)
      rw [show n + (j + 1) + 1 = n + 1 + j + 1 by omega] at this
      exact this
    refine ⟨σ3, h3, ?_, by rw [List.length_cons, show n + (xs.length + 1) = n + 1 + xs.length by omega]; exact i3⟩
    rw [forG_step fr st]
    rcases e with e | e <;> rw [e] <;> exact e3
/-- .. over items of one kind, one slot -/
theorem for_list {f : Sl → Hl → RS} {i : Nat} {α : Type} (enc : α → T) (I : Nat → Sl → Hl → Prop) (as : List α) (σ : Sl) (h : Hl) (h0 : I 0 σ h)
    (step : ∀ (j : Nat) (a : α) (σ : Sl) (h : Hl), as[j]? = some a → I j σ h → freeS σ i = true ∧ Goes (f (σ.set i (some (enc a))) h) (I (j + 1))) :
    ∃ σ' h', forG f [i] (as.map enc) σ h = .nx σ' h' ∧ I as.length σ' h' := by
  obtain ⟨σ', h', e, q⟩ := for_all (f := f) (tg := [i]) I (as.map enc) 0 σ h h0 fun j x σ h hx hi => by
    rw [List.getElem?_map] at hx
    cases ha : as[j]? with
    | none => rw [ha] at hx; cases hx
    | some a =>
      rw [ha] at hx; cases hx
      rw [Nat.zero_add] at hi ⊢
      obtain ⟨fr, g⟩ := step j a σ h ha hi
      exact ⟨by simp [freeTg, fr], _, rfl, g⟩
  rw [List.length_map, Nat.zero_add] at q
  exact ⟨σ', h', e, q⟩
theorem for_rng {f : Sl → Hl → RS} {i : Nat} (I : Nat → Sl → Hl → Prop) (lo hi : Int) (σ : Sl) (h : Hl) (h0 : I 0 σ h)
    (step : ∀ (j : Nat) (σ : Sl) (h : Hl), j < (hi - lo).toNat → I j σ h → freeS σ i = true ∧ Goes (f (σ.set i (some (.int (lo + j)))) h) (I (j + 1))) :
    ∃ σ' h', forG f [i] (rngT lo hi) σ h = .nx σ' h' ∧ I (hi - lo).toNat σ' h' := by
  unfold rngT
  obtain ⟨σ', h', e, q⟩ := for_list (f := f) (i := i) (fun k : Nat => T.int (lo + (k : Int))) I (List.range (hi - lo).toNat) σ h h0 fun j a σ h ha hi2 => by
    have : a = j ∧ j < (hi - lo).toNat := by
      have hl := (List.getElem?_eq_some_iff.mp ha)
      obtain ⟨q1, q2⟩ := hl
      rw [List.length_range] at q1
      rw [List.getElem_range] at q2
      exact ⟨q2.symm, q1⟩
    obtain ⟨rfl, hl⟩ := this
    exact step a σ h hl hi2
  rw [List.length_range] at q
  exact ⟨σ', h', e, q⟩
/-! ### block by block -/
def B.nth : B → Nat → S
  | .nil, _ => .pass
  | .cons s _, 0 => s
  | .cons _ b, n + 1 => B.nth b n
def B.drop : B → Nat → B
  | b, 0 => b
  | .nil, _ + 1 => .nil
  | .cons _ b, n + 1 => B.drop b n
def B.len : B → Nat
  | .nil => 0
  | .cons _ b => B.len b + 1
theorem B.drop_cons : ∀ (b : B) (i : Nat), i < b.len → b.drop i = .cons (b.nth i) (b.drop (i + 1))
  | .nil, _, h => by simp [B.len] at h
  | .cons s b, 0, _ => by cases b <;> rfl
  | .cons s b, i + 1, h => by
    have := B.drop_cons b i (by simp [B.len] at h; omega)
    show B.drop b i = .cons (B.nth b i) (B.drop (.cons s b) (i + 1 + 1))
    rw [this]; rfl
theorem exB_go {P : Prog} {call : Nat → List T → Hl → R T} {W : Nat} {b : B} {i : Nat} {σ σ' : Sl} {h h' : Hl} (hi : i < b.len) (q : exS P call W (b.nth i) σ h = .nx σ' h') : exB P call W (b.drop i) σ h = exB P call W (b.drop (i + 1)) σ' h' := by
  rw [B.drop_cons b i hi, exB, q]; rfl
theorem exB_rt {P : Prog} {call : Nat → List T → Hl → R T} {W : Nat} {b : B} {i : Nat} {σ : Sl} {h h' : Hl} {t : T} (hi : i < b.len) (q : exS P call W (b.nth i) σ h = .rt t h') : exB P call W (b.drop i) σ h = .rt t h' := by
  rw [B.drop_cons b i hi, exB, q]; rfl
theorem Goes.go {P : Prog} {call : Nat → List T → Hl → R T} {W : Nat} {b : B} {i : Nat} {σ σ' : Sl} {h h' : Hl} {N : Sl → Hl → Prop} (hi : i < b.len) (q : exS P call W (b.nth i) σ h = .nx σ' h') (k : Goes (exB P call W (b.drop (i + 1)) σ' h') N) : Goes (exB P call W (b.drop i) σ h) N := by
  rw [exB_go hi q]; exact k
theorem Goes.go0 {P : Prog} {call : Nat → List T → Hl → R T} {W : Nat} {b : B} {σ : Sl} {h : Hl} {N : Sl → Hl → Prop} (k : Goes (exB P call W (b.drop 0) σ h) N) : Goes (bodyF P call W b σ h) N := by
  cases b <;> exact k
/-- a def's body ends with a value -/
def Ends (P : Prog) (vs : List T) (x : RS) (Q : T → Hl → Prop) : Prop := ∃ v h, endR P vs x = .ok v h ∧ Q v h
theorem Ends.go {P : Prog} {call : Nat → List T → Hl → R T} {W : Nat} {b : B} {i : Nat} {σ σ' : Sl} {h h' : Hl} {vs : List T} {Q : T → Hl → Prop} (hi : i < b.len) (q : exS P call W (b.nth i) σ h = .nx σ' h') (k : Ends P vs (exB P call W (b.drop (i + 1)) σ' h') Q) : Ends P vs (exB P call W (b.drop i) σ h) Q := by
  rw [exB_go hi q]; exact k
/-- what is asked of a call -/
def Wp (x : R T) (Q : T → Hl → Prop) : Prop := ∃ v h, x = .ok v h ∧ Q v h
theorem Wp.run {P : Prog} {W d f : Nat} {np ns : Nat} {b : B} (hf : P.defs[f]? = some ⟨np, ns, b⟩) {vs : List T} {h : Hl} {Q : T → Hl → Prop} (hl : vs.length = np) (k : Ends P vs (exB P (run P W d) W (b.drop 0) (startT np ns vs) h) Q) : Wp (run P W (d + 1) f vs h) Q := by
  obtain ⟨v, h', e, q⟩ := k
  refine ⟨v, h', ?_, q⟩
  rw [run_eq hf hl]
  cases b <;> exact e
/-! ### a def's end -/
def isBI : T → Bool
  | .bI _ _ => true | _ => false
def iniV : List T → Bool
  | [] => false
  | x :: _ => isBI x
theorem isBI_int (i : Int) : isBI (.int i) = false := by unfold isBI; exact Eq.refl _
theorem isBI_str (i : List Nat) : isBI (.str i) = false := by unfold isBI; exact Eq.refl _
theorem isBI_lst (i : List T) : isBI (.lst i) = false := by unfold isBI; exact Eq.refl _
theorem isBI_tup (i : List T) : isBI (.tup i) = false := by unfold isBI; exact Eq.refl _
theorem isBI_ins (c : Nat) (i : List (Nat × T)) : isBI (.ins c i) = false := by unfold isBI; exact Eq.refl _
theorem isBI_rf (n : Nat) : isBI (.rf n) = false := by unfold isBI; exact Eq.refl _
theorem isBI_bl (n : Bool) : isBI (.bl n) = false := by unfold isBI; exact Eq.refl _
theorem isBI_kl (n : List Int) : isBI (.kl n) = false := by unfold isBI; exact Eq.refl _
theorem isBI_non : isBI .non = false := by unfold isBI; exact Eq.refl _
theorem isBI_dct (i : List (T × T)) : isBI (.dct i) = false := by unfold isBI; exact Eq.refl _
theorem iniV_nil : iniV [] = false := by unfold iniV; exact Eq.refl _
theorem iniV_cons (x : T) (l : List T) : iniV (x :: l) = isBI x := by unfold iniV; exact Eq.refl _
theorem endR_rt {P : Prog} {vs : List T} {t : T} {h : Hl} (q : iniV vs = false) : endR P vs (.rt t h) = .ok t h := by
  cases vs with
  | nil => rfl
  | cons x l => cases x <;> first | rfl | cases q
theorem endR_nx {P : Prog} {vs : List T} {σ : Sl} {h : Hl} (q : iniV vs = false) : endR P vs (.nx σ h) = .ok .non h := by
  cases vs with
  | nil => rfl
  | cons x l => cases x <;> first | rfl | cases q
theorem Ends.rt {P : Prog} {call : Nat → List T → Hl → R T} {W : Nat} {b : B} {i : Nat} {σ : Sl} {h h' : Hl} {vs : List T} {t : T} {Q : T → Hl → Prop} (hi : i < b.len) (q : exS P call W (b.nth i) σ h = .rt t h') (iv : iniV vs = false) (k : Q t h') : Ends P vs (exB P call W (b.drop i) σ h) Q := by
  rw [exB_rt hi q]; exact ⟨t, h', endR_rt iv, k⟩
/-- a slot that may be overwritten -/
def freeO : Option (Option T) → Bool
  | some (some t) => !isBI t
  | some none => true
  | none => false
theorem freeS_eq (σ : Sl) (i : Nat) : freeS σ i = freeO σ[i]? := by
  unfold freeS freeO
  cases σ[i]? with
  | none => rfl
  | some o => cases o with
    | none => rfl
    | some t => cases t <;> rfl
theorem freeO_none : freeO (some none) = true := by unfold freeO; exact Eq.refl _
theorem freeO_some (t : T) : freeO (some (some t)) = !isBI t := by unfold freeO; exact Eq.refl _
theorem endR_ini {P : Prog} {c c' : Nat} {fs fs' : List (Nat × T)} {l : List T} {σ : Sl} {h : Hl} : endR P (.bI c fs :: l) (.nx (some (.bI c' fs') :: σ) h) = .ok (.bI c' fs') h := rfl
theorem endR_ite {P : Prog} {vs : List T} (c : Prop) [Decidable c] (x y : RS) : endR P vs (if c then x else y) = if c then endR P vs x else endR P vs y := by split <;> rfl
/-! ### comprehensions -/
theorem lcG_cons {f : Sl → Hl → R (Option T)} {tg : List Nat} {x : T} {xs : List T} {σ σ1 : Sl} {h h' : Hl} {y : T} (st : setT tg x σ = some σ1) (e : f σ1 h = .ok (some y) h') (p : plainT y = true) :
    lcG f tg σ (x :: xs) h = (lcG f tg σ xs h').bind fun ys h => .ok (y :: ys) h := by
  rw [lcG, st]
  show ((f σ1 h).noErr.bind _) = _
  rw [e]
  show (if plainT y = true then _ else _) = _
  rw [if_pos p]
theorem lcG_skip {f : Sl → Hl → R (Option T)} {tg : List Nat} {x : T} {xs : List T} {σ σ1 : Sl} {h h' : Hl} (st : setT tg x σ = some σ1) (e : f σ1 h = .ok none h') :
    lcG f tg σ (x :: xs) h = lcG f tg σ xs h' := by
  rw [lcG, st]
  show ((f σ1 h).noErr.bind _) = _
  rw [e]; rfl
/-- pure items -/
theorem lc_pure {f : Sl → Hl → R (Option T)} {tg : List Nat} {σ : Sl} {h : Hl} {α : Type} (enc : α → T) (g : α → T) : ∀ (as : List α),
    (∀ a ∈ as, plainT (g a) = true ∧ ∃ σ1, setT tg (enc a) σ = some σ1 ∧ f σ1 h = .ok (some (g a)) h) → lcG f tg σ (as.map enc) h = .ok (as.map g) h := by
  intro as
  induction as with
  | nil => intro _; rw [List.map_nil, lcG]; rfl
  | cons a as ih =>
    intro q
    obtain ⟨p, σ1, st, e⟩ := q a List.mem_cons_self
    rw [List.map_cons, lcG_cons st e p, ih fun b hb => q b (List.mem_cons_of_mem _ hb)]; rfl
theorem lc_rng {f : Sl → Hl → R (Option T)} {i : Nat} {σ : Sl} {h : Hl} (g : Nat → T) (lo hi : Int)
    (q : ∀ j : Nat, j < (hi - lo).toNat → plainT (g j) = true ∧ f (σ.set i (some (.int (lo + j)))) h = .ok (some (g j)) h) : lcG f [i] σ (rngT lo hi) h = .ok ((List.range (hi - lo).toNat).map g) h := by
  unfold rngT
  refine lc_pure _ g _ fun a ha => ?_
  obtain ⟨p, e⟩ := q a (List.mem_range.mp ha)
  exact ⟨p, _, rfl, e⟩
/-- pure items, some left out -/
theorem lc_filter {f : Sl → Hl → R (Option T)} {tg : List Nat} {σ : Sl} {h : Hl} {α : Type} (enc : α → T) (g : α → T) (c : α → Bool) : ∀ (as : List α),
    (∀ a ∈ as, ∃ σ1, setT tg (enc a) σ = some σ1 ∧ if c a then plainT (g a) = true ∧ f σ1 h = .ok (some (g a)) h else f σ1 h = .ok none h) → lcG f tg σ (as.map enc) h = .ok ((as.filter c).map g) h := by
  intro as
  induction as with
  | nil => intro _; rw [List.map_nil, lcG]; rfl
  | cons a as ih =>
    intro q
    obtain ⟨σ1, st, e⟩ := q a List.mem_cons_self
    have ih := ih fun b hb => q b (List.mem_cons_of_mem _ hb)
    cases hc : c a with
    | true =>
      rw [hc, if_pos rfl] at e
      rw [List.map_cons, lcG_cons st e.2 e.1, ih, List.filter_cons_of_pos hc]; rfl
    | false =>
      rw [hc, if_neg (by decide)] at e
      rw [List.map_cons, lcG_skip st e, ih, List.filter_cons_of_neg (by simp [hc])]
/-- items that change the cells -/
theorem lc_st {f : Sl → Hl → R (Option T)} {tg : List Nat} {σ : Sl} {β : Type} (enc : β → T) (I : Nat → Hl → Prop) (P : Nat → β → Prop) : ∀ (xs : List T) (n : Nat) (h : Hl), I n h →
    (∀ (j : Nat) (x : T) (h : Hl), xs[j]? = some x → I (n + j) h → ∃ σ1 b h', setT tg x σ = some σ1 ∧ f σ1 h = .ok (some (enc b)) h' ∧ plainT (enc b) = true ∧ P (n + j) b ∧ I (n + j + 1) h') →
    ∃ (bs : List β) (h' : Hl), lcG f tg σ xs h = .ok (bs.map enc) h' ∧ bs.length = xs.length ∧ (∀ (j : Nat) (b : β), bs[j]? = some b → P (n + j) b) ∧ I (n + xs.length) h' := by
  intro xs
  induction xs with
  | nil => intro n h h0 _; exact ⟨[], h, by rw [lcG]; rfl, rfl, fun j b e => by simp at e, h0⟩
  | cons x xs ih =>
    intro n h h0 step
    obtain ⟨σ1, b, h1, st, e, p, pb, i1⟩ := step 0 x h rfl h0
    obtain ⟨bs, h2, e2, l2, p2, i2⟩ := ih (n + 1) h1 i1 fun j y h hy hi => by
      have := step (j + 1) y h (by simpa using hy) (by rw [show n + (j + 1) = n + 1 + j by omega]; exact hi)
      rw [show n + (j + 1) + 1 = n + 1 + j + 1 by omega, show n + (j + 1) = n + 1 + j by omega] at this
      exact this
    refine ⟨b :: bs, h2, by rw [lcG_cons st e p, e2]; rfl, by rw [List.length_cons, List.length_cons, l2], fun j c hc => ?_, by rw [List.length_cons, show n + (xs.length + 1) = n + 1 + xs.length by omega]; exact i2⟩
    cases j with
    | zero => cases hc; exact pb
    | succ j =>
      have := p2 j c (by simpa using hc)
      rw [show n + (j + 1) = n + 1 + j by omega]; exact this
/-! ### while -/
theorem whl_run {c : Sl → Hl → R Bool} {f : Sl → Hl → RS} (I : Nat → Sl → Hl → Prop) (Q : Sl → Hl → Prop) (step : ∀ n σ h, I n σ h → (∃ h', c σ h = .ok false h' ∧ Q σ h') ∨ ∃ h' m, c σ h = .ok true h' ∧ m < n ∧ Goes (f σ h') (I m)) :
    ∀ (n fuel : Nat) (σ : Sl) (h : Hl), I n σ h → n < fuel → ∃ σ' h', whlG c f fuel σ h = .nx σ' h' ∧ Q σ' h' := by
  intro n
  induction n using Nat.strongRecOn with
  | ind n ih =>
    intro fuel σ h hi hf
    cases fuel with
    | zero => omega
    | succ fuel =>
      rcases step n σ h hi with ⟨h', e, q⟩ | ⟨h', m, e, hm, σ2, h2, e2, i2⟩
      · exact ⟨σ, h', by rw [whlG, e]; rfl, q⟩
      · obtain ⟨σ3, h3, e3, q3⟩ := ih m hm fuel σ2 h2 i2 (by omega)
        refine ⟨σ3, h3, ?_, q3⟩
        rw [whlG, e]
        show (match f σ h' with
          | .nx σ h => whlG c f fuel σ h
          | .ct σ h => whlG c f fuel σ h
          | .bk σ h => .nx σ h
          | r => r) = _
        rcases e2 with e2 | e2 <;> rw [e2] <;> exact e3
/-! ### shares as rationals -/
def gg (a b : Int) : Int := ((Nat.gcd a.natAbs b.natAbs : Nat) : Int)
/-- what divides, with its sign -/
def gs (a b : Int) : Int := if b < 0 then -(gg a b) else gg a b
theorem gg_dvd (a b : Int) : gg a b ∣ a ∧ gg a b ∣ b := by
  unfold gg
  exact ⟨Int.ofNat_dvd_left.mpr (Nat.gcd_dvd_left _ _), Int.ofNat_dvd_left.mpr (Nat.gcd_dvd_right _ _)⟩
theorem gg_pos (a b : Int) (hb : b ≠ 0) : 0 < gg a b := by
  have h1 : 0 < b.natAbs := by omega
  have h3 : 0 < Nat.gcd a.natAbs b.natAbs := Nat.gcd_pos_of_pos_right _ h1
  unfold gg
  omega
theorem gg_le (a b : Int) (hb : b ≠ 0) : gg a b ≤ b.natAbs := by
  have h1 : 0 < b.natAbs := by omega
  have h2 : Nat.gcd a.natAbs b.natAbs ≤ b.natAbs := Nat.gcd_le_right _ h1
  unfold gg
  omega
theorem fdivI_gs (a b x : Int) (hb : b ≠ 0) (hx : gg a b ∣ x) : fdivI x (gs a b) = (if b < 0 then -x else x) / gg a b := by
  have g0 := gg_pos a b hb
  have e : gs a b = if b < 0 then -(gg a b) else gg a b := rfl
  rw [e]
  clear e
  generalize gg a b = g at *
  obtain ⟨k, rfl⟩ := hx
  unfold fdivI
  by_cases c : b < 0
  · rw [if_pos c, if_pos c, if_neg (by omega), ← Int.mul_neg, Int.mul_ediv_cancel_left _ (by omega), Int.fdiv_eq_ediv_of_dvd (Int.neg_dvd.mpr (Int.dvd_mul_right _ _)), Int.ediv_neg, Int.mul_ediv_cancel_left _ (by omega)]
  · rw [if_neg c, if_neg c, if_pos g0]
theorem share_num (a b : Int) (hb : b ≠ 0) : fdivI a (gs a b) = ((a : Rat) / (b : Rat)).num ∧ fdivI b (gs a b) = ((((a : Rat) / (b : Rat)).den : Nat) : Int) := by
  rw [fdivI_gs a b a hb (gg_dvd a b).1, fdivI_gs a b b hb (gg_dvd a b).2, ← Rat.divInt_eq_div, Rat.num_divInt, Rat.den_divInt, if_neg hb]
  have e : gg a b = ((b.gcd a : Nat) : Int) := by unfold gg Int.gcd; rw [Nat.gcd_comm]
  rw [e]
  have e2 : b.sign * a = if b < 0 then -a else a := by
    by_cases c : b < 0
    · rw [if_pos c, Int.sign_eq_neg_one_of_neg c]; omega
    · rw [if_neg c, Int.sign_eq_one_of_pos (by omega)]; omega
  have e3 : (if b < 0 then -b else b) = (b.natAbs : Int) := by split <;> omega
  rw [e2, e3]
  exact ⟨rfl, rfl⟩
end Kb
end
section
/-! Kw: what must hold of a run's head (Wq), with the rest kept out of simp's sight. -/
set_option autoImplicit false
set_option linter.all false
set_option maxRecDepth 100000
namespace Kb
/-- a structure: no reduction looks into a run -/
structure Wq {β : Type} (x : β) (Q : β → Prop) (_t : Tg Q) : Prop where
  intro ::
  q : Q x
theorem Wq_def {β : Type} (x : β) (Q : β → Prop) (t : Tg Q) : Wq x Q t = Q x := propext ⟨Wq.q, Wq.intro⟩
def bindQ {α β : Type} (f : α → Hl → R β) (Q : R β → Prop) : R α → Prop
  | .ok a h => Wq (f a h) Q Tg.mk
  | .err c fs h => Q (.err c fs h)
  | .stuck => Q .stuck
def toSQ {α : Type} (σ : Sl) (f : α → Hl → RS) (Q : RS → Prop) : R α → Prop
  | .ok a h => Wq (f a h) Q Tg.mk
  | .err c fs h => Q (.err c fs σ h)
  | .stuck => Q .stuck
def thnQ (f : Sl → Hl → RS) (Q : RS → Prop) : RS → Prop
  | .nx σ h => Wq (f σ h) Q Tg.mk
  | r => Q r
def endQ (P : Prog) (vs : List T) (Q : R T → Prop) (r : RS) : Prop := Q (endR P vs r)
def noQ {α : Type} (Q : R α → Prop) (r : R α) : Prop := Q r.noErr
/-- an answer without error -/
def okQ {α : Type} (Q : α → Hl → Prop) : R α → Prop
  | .ok v h => Q v h
  | _ => False
/-- a loop's turn -/
def goQ (N : Sl → Hl → Prop) (Q : RS → Prop) : RS → Prop
  | .nx σ h => N σ h
  | .ct σ h => N σ h
  | .bk σ h => Q (.nx σ h)
  | .rt v h => Q (.rt v h)
  | .err c fs σ h => Q (.err c fs σ h)
  | .stuck => False
/-- a comprehension's item -/
def itemQ (N : List T → Hl → Prop) (acc : List T) : R (Option T) → Prop
  | .ok (some y) h => plainT y = true ∧ N (acc ++ [y]) h
  | .ok none h => N acc h
  | _ => False
def tryNQ (Q : RS → Prop) : RS → Prop
  | .err _ _ _ _ => Q .stuck
  | r => Q r
def whlQ (f : Sl → Hl → RS) (N : Sl → Hl → Prop) (σ : Sl) (Q : RS → Prop) : R Bool → Prop
  | .ok true h => Wq (f σ h) (goQ N Q) Tg.mk
  | .ok false h => Q (.nx σ h)
  | _ => False
structure IfQ {β : Type} (c : Prop) [Decidable c] (x y : β) (Q : β → Prop) (_t : Tg (x, y, Q)) : Prop where
  intro ::
  q : Q (if c then x else y)
theorem IfQ_def {β : Type} (c : Prop) [Decidable c] (x y : β) (Q : β → Prop) (t : Tg (x, y, Q)) : IfQ c x y Q t = Q (if c then x else y) := propext ⟨IfQ.q, IfQ.intro⟩
def IfH {β : Type} (c : Prop) [Decidable c] (x y : β) (_t : Tg (x, y)) : β := if c then x else y
section
variable {α β : Type}
theorem ite_HR (c : Prop) [Decidable c] (x y : R α) : (if c then x else y) = IfH c x y Tg.mk := by unfold IfH; exact Eq.refl _
theorem ite_HS (c : Prop) [Decidable c] (x y : RS) : (if c then x else y) = IfH c x y Tg.mk := by unfold IfH; exact Eq.refl _
theorem IfH_true {i : Decidable True} (x y : β) (t : Tg (x, y)) : @IfH β True i x y t = x := by unfold IfH; rw [if_pos trivial]
theorem IfH_false {i : Decidable False} (x y : β) (t : Tg (x, y)) : @IfH β False i x y t = y := by unfold IfH; rw [if_neg id]
theorem Wq_IfH (c : Prop) [Decidable c] (x y : β) (u : Tg (x, y)) (Q : β → Prop) (t : Tg Q) : Wq (IfH c x y u) Q t = IfQ c x y Q Tg.mk := by rw [Wq_def, IfQ_def]; exact Eq.refl _
theorem Wq_bindH (x : R α) (f : α → Hl → R β) (u : Tg f) (Q : R β → Prop) (t : Tg Q) : Wq (R.bindH x f u) Q t = Wq x (bindQ f Q) Tg.mk := by
  rw [Wq_def, Wq_def]
  cases x with
  | ok a h => exact (Wq_def _ _ _).symm
  | err c fs h => rfl
  | stuck => rfl
theorem Wq_toSH (x : R α) (σ : Sl) (f : α → Hl → RS) (u : Tg f) (Q : RS → Prop) (t : Tg Q) : Wq (R.toSH x σ f u) Q t = Wq x (toSQ σ f Q) Tg.mk := by
  rw [Wq_def, Wq_def]
  cases x with
  | ok a h => exact (Wq_def _ _ _).symm
  | err c fs h => rfl
  | stuck => rfl
theorem Wq_thnH (x : RS) (f : Sl → Hl → RS) (u : Tg f) (Q : RS → Prop) (t : Tg Q) : Wq (RS.thnH x f u) Q t = Wq x (thnQ f Q) Tg.mk := by
  rw [Wq_def, Wq_def]
  cases x <;> first | exact (Wq_def _ _ _).symm | rfl
theorem Wq_bind (x : R α) (f : α → Hl → R β) (Q : R β → Prop) (t : Tg Q) : Wq (x.bind f) Q t = Wq x (bindQ f Q) Tg.mk := by
  rw [Wq_def, Wq_def]
  cases x with
  | ok a h => exact (Wq_def _ _ _).symm
  | err c fs h => rfl
  | stuck => rfl
theorem Wq_toS (x : R α) (σ : Sl) (f : α → Hl → RS) (Q : RS → Prop) (t : Tg Q) : Wq (x.toS σ f) Q t = Wq x (toSQ σ f Q) Tg.mk := by
  rw [Wq_def, Wq_def]
  cases x with
  | ok a h => exact (Wq_def _ _ _).symm
  | err c fs h => rfl
  | stuck => rfl
theorem Wq_thn (x : RS) (f : Sl → Hl → RS) (Q : RS → Prop) (t : Tg Q) : Wq (x.thn f) Q t = Wq x (thnQ f Q) Tg.mk := by
  rw [Wq_def, Wq_def]
  cases x <;> first | exact (Wq_def _ _ _).symm | rfl
theorem Wq_end (P : Prog) (vs : List T) (x : RS) (Q : R T → Prop) (t : Tg Q) : Wq (endR P vs x) Q t = Wq x (endQ P vs Q) Tg.mk := by rw [Wq_def, Wq_def]; exact Eq.refl _
theorem Wq_noErr (x : R α) (Q : R α → Prop) (t : Tg Q) : Wq x.noErr Q t = Wq x (noQ Q) Tg.mk := by rw [Wq_def, Wq_def]; exact Eq.refl _
theorem Wq_ite (c : Prop) [Decidable c] (x y : β) (Q : β → Prop) (t : Tg Q) : Wq (if c then x else y) Q t = IfQ c x y Q Tg.mk := by rw [Wq_def, IfQ_def]
theorem IfQ_true {i : Decidable True} (x y : β) (Q : β → Prop) (t : Tg (x, y, Q)) : @IfQ β True i x y Q t = Wq x Q Tg.mk := by rw [Wq_def, IfQ_def, if_pos trivial]
theorem IfQ_false {i : Decidable False} (x y : β) (Q : β → Prop) (t : Tg (x, y, Q)) : @IfQ β False i x y Q t = Wq y Q Tg.mk := by rw [Wq_def, IfQ_def, if_neg id]
theorem Wq_ok (a : α) (h : Hl) (Q : R α → Prop) (t : Tg Q) : Wq (R.ok a h) Q t = Q (R.ok a h) := Wq_def _ _ _
theorem Wq_err (c : Nat) (fs : List (Nat × T)) (h : Hl) (Q : R α → Prop) (t : Tg Q) : Wq (R.err c fs h) Q t = Q (R.err c fs h) := Wq_def _ _ _
theorem Wq_nx (σ : Sl) (h : Hl) (Q : RS → Prop) (t : Tg Q) : Wq (RS.nx σ h) Q t = Q (RS.nx σ h) := Wq_def _ _ _
theorem Wq_rt (v : T) (h : Hl) (Q : RS → Prop) (t : Tg Q) : Wq (RS.rt v h) Q t = Q (RS.rt v h) := Wq_def _ _ _
theorem Wq_ct (σ : Sl) (h : Hl) (Q : RS → Prop) (t : Tg Q) : Wq (RS.ct σ h) Q t = Q (RS.ct σ h) := Wq_def _ _ _
theorem Wq_bk (σ : Sl) (h : Hl) (Q : RS → Prop) (t : Tg Q) : Wq (RS.bk σ h) Q t = Q (RS.bk σ h) := Wq_def _ _ _
theorem Wq_er (c : Nat) (fs : List (Nat × T)) (σ : Sl) (h : Hl) (Q : RS → Prop) (t : Tg Q) : Wq (RS.err c fs σ h) Q t = Q (RS.err c fs σ h) := Wq_def _ _ _
theorem bindQ_ok (f : α → Hl → R β) (Q : R β → Prop) (a : α) (h : Hl) : bindQ f Q (.ok a h) = Wq (f a h) Q Tg.mk := by unfold bindQ; exact Eq.refl _
theorem bindQ_err (f : α → Hl → R β) (Q : R β → Prop) (c : Nat) (fs : List (Nat × T)) (h : Hl) : bindQ f Q (.err c fs h) = Q (.err c fs h) := by unfold bindQ; exact Eq.refl _
theorem toSQ_ok (σ : Sl) (f : α → Hl → RS) (Q : RS → Prop) (a : α) (h : Hl) : toSQ σ f Q (.ok a h) = Wq (f a h) Q Tg.mk := by unfold toSQ; exact Eq.refl _
theorem toSQ_err (σ : Sl) (f : α → Hl → RS) (Q : RS → Prop) (c : Nat) (fs : List (Nat × T)) (h : Hl) : toSQ σ f Q (.err c fs h) = Q (.err c fs σ h) := by unfold toSQ; exact Eq.refl _
theorem thnQ_nx (f : Sl → Hl → RS) (Q : RS → Prop) (σ : Sl) (h : Hl) : thnQ f Q (.nx σ h) = Wq (f σ h) Q Tg.mk := by unfold thnQ; exact Eq.refl _
theorem thnQ_rt (f : Sl → Hl → RS) (Q : RS → Prop) (v : T) (h : Hl) : thnQ f Q (.rt v h) = Q (.rt v h) := by unfold thnQ; exact Eq.refl _
theorem thnQ_ct (f : Sl → Hl → RS) (Q : RS → Prop) (σ : Sl) (h : Hl) : thnQ f Q (.ct σ h) = Q (.ct σ h) := by unfold thnQ; exact Eq.refl _
theorem thnQ_bk (f : Sl → Hl → RS) (Q : RS → Prop) (σ : Sl) (h : Hl) : thnQ f Q (.bk σ h) = Q (.bk σ h) := by unfold thnQ; exact Eq.refl _
theorem thnQ_err (f : Sl → Hl → RS) (Q : RS → Prop) (c : Nat) (fs : List (Nat × T)) (σ : Sl) (h : Hl) : thnQ f Q (.err c fs σ h) = Q (.err c fs σ h) := by unfold thnQ; exact Eq.refl _
theorem endQ_rt {P : Prog} {vs : List T} (Q : R T → Prop) (v : T) (h : Hl) (q : iniV vs = false) : endQ P vs Q (.rt v h) = Q (.ok v h) := by unfold endQ; rw [endR_rt q]
theorem endQ_nx {P : Prog} {vs : List T} (Q : R T → Prop) (σ : Sl) (h : Hl) (q : iniV vs = false) : endQ P vs Q (.nx σ h) = Q (.ok .non h) := by unfold endQ; rw [endR_nx q]
theorem endQ_ini {P : Prog} {c c' : Nat} {fs fs' : List (Nat × T)} {l : List T} {σ : Sl} {h : Hl} (Q : R T → Prop) : endQ P (.bI c fs :: l) Q (.nx (some (.bI c' fs') :: σ) h) = Q (.ok (.bI c' fs') h) := by unfold endQ; rw [endR_ini]
theorem noQ_ok (Q : R α → Prop) (a : α) (h : Hl) : noQ Q (.ok a h) = Q (.ok a h) := by unfold noQ; rw [R.noErr_ok]
theorem okQ_ok (Q : α → Hl → Prop) (a : α) (h : Hl) : okQ Q (.ok a h) = Q a h := by unfold okQ; exact Eq.refl _
theorem goQ_nx (N : Sl → Hl → Prop) (Q : RS → Prop) (σ : Sl) (h : Hl) : goQ N Q (.nx σ h) = N σ h := by unfold goQ; exact Eq.refl _
theorem goQ_ct (N : Sl → Hl → Prop) (Q : RS → Prop) (σ : Sl) (h : Hl) : goQ N Q (.ct σ h) = N σ h := by unfold goQ; exact Eq.refl _
theorem goQ_bk (N : Sl → Hl → Prop) (Q : RS → Prop) (σ : Sl) (h : Hl) : goQ N Q (.bk σ h) = Q (.nx σ h) := by unfold goQ; exact Eq.refl _
theorem goQ_rt (N : Sl → Hl → Prop) (Q : RS → Prop) (v : T) (h : Hl) : goQ N Q (.rt v h) = Q (.rt v h) := by unfold goQ; exact Eq.refl _
theorem itemQ_some (N : List T → Hl → Prop) (acc : List T) (y : T) (h : Hl) : itemQ N acc (.ok (some y) h) = (plainT y = true ∧ N (acc ++ [y]) h) := by unfold itemQ; exact Eq.refl _
theorem itemQ_none (N : List T → Hl → Prop) (acc : List T) (h : Hl) : itemQ N acc (.ok none h) = N acc h := by unfold itemQ; exact Eq.refl _
theorem tryNQ_rt (Q : RS → Prop) (v : T) (h : Hl) : tryNQ Q (.rt v h) = Q (.rt v h) := by unfold tryNQ; exact Eq.refl _
theorem tryNQ_nx (Q : RS → Prop) (σ : Sl) (h : Hl) : tryNQ Q (.nx σ h) = Q (.nx σ h) := by unfold tryNQ; exact Eq.refl _
theorem whlQ_true (f : Sl → Hl → RS) (N : Sl → Hl → Prop) (σ : Sl) (Q : RS → Prop) (h : Hl) : whlQ f N σ Q (.ok true h) = Wq (f σ h) (goQ N Q) Tg.mk := by unfold whlQ; exact Eq.refl _
theorem whlQ_false (f : Sl → Hl → RS) (N : Sl → Hl → Prop) (σ : Sl) (Q : RS → Prop) (h : Hl) : whlQ f N σ Q (.ok false h) = Q (.nx σ h) := by unfold whlQ; exact Eq.refl _
theorem Wq_tryN (P : Prog) (call : Nat → List T → Hl → R T) (W : Nat) (b : B) (σ : Sl) (h : Hl) (Q : RS → Prop) (t : Tg Q) : Wq (exS P call W (.tryN b) σ h) Q t = Wq (exB P call W b σ h) (tryNQ Q) Tg.mk := by
  rw [Wq_def, Wq_def]
  show Q _ = tryNQ Q _
  rw [exS]
  cases exB P call W b σ h <;> rfl
theorem allBls_map {α : Type} (g : α → Bool) : ∀ l : List α, allBls (l.map fun a => T.bl (g a)) = some (l.map g)
  | [] => rfl
  | x :: xs => by simp only [List.map_cons, allBls, allBls_map g xs, Option.map_some]
theorem all_map {α : Type} (g : α → Bool) (l : List α) (h : Hl) : allF [.lst (l.map fun a => T.bl (g a))] h = .ok (.bl (l.all g)) h := by
  show (match (some (l.map fun a => T.bl (g a))).bind allBls with
    | some ns => R.ok (T.bl (ns.all id)) h
    | none => .stuck) = _
  rw [Option.bind_some, allBls_map]
  show R.ok (T.bl ((l.map g).all id)) h = _
  rw [List.all_map]; rfl
theorem any_map {α : Type} (g : α → Bool) (l : List α) (h : Hl) : anyF [.lst (l.map fun a => T.bl (g a))] h = .ok (.bl (l.any g)) h := by
  show (match (some (l.map fun a => T.bl (g a))).bind allBls with
    | some ns => R.ok (T.bl (ns.any id)) h
    | none => .stuck) = _
  rw [Option.bind_some, allBls_map]
  show R.ok (T.bl ((l.map g).any id)) h = _
  rw [List.any_map]; rfl
theorem all_trues {α : Type} (l : List α) (h : Hl) : allF [.lst (l.map fun _ => T.bl true)] h = .ok (.bl true) h := by
  rw [all_map (fun _ => true)]
  have : (l.all fun _ => true) = true := by simp
  rw [this]
/-- a slot that may be overwritten -/
def nb (o : Option T) : Prop := freeO (some o) = true
theorem nb_none : nb none := rfl
theorem nb_i (i : Int) : nb (some (.int i)) := rfl
theorem nb_of {t : T} (h : isBI t = false) : nb (some t) := by unfold nb; rw [freeO_some, h]; rfl
theorem take_S {α : Type} {xs : List α} {j : Nat} {x : α} (h : xs[j]? = some x) : xs.take (j + 1) = xs.take j ++ [x] := by
  rw [List.take_succ, h]; rfl
/-! ### rules -/
theorem IfQ.split {c : Prop} [Decidable c] {x y : β} {Q : β → Prop} {t : Tg (x, y, Q)} (p : c → Wq x Q Tg.mk) (n : ¬ c → Wq y Q Tg.mk) : IfQ c x y Q t := by
  rw [IfQ_def]
  by_cases h : c
  · rw [if_pos h]; exact (p h).q
  · rw [if_neg h]; exact (n h).q
theorem IfQ.yes {c : Prop} [Decidable c] {x y : β} {Q : β → Prop} {t : Tg (x, y, Q)} (h : c) (p : Wq x Q Tg.mk) : IfQ c x y Q t := by
  rw [IfQ_def, if_pos h]; exact p.q
theorem IfQ.no {c : Prop} [Decidable c] {x y : β} {Q : β → Prop} {t : Tg (x, y, Q)} (h : ¬ c) (p : Wq y Q Tg.mk) : IfQ c x y Q t := by
  rw [IfQ_def, if_neg h]; exact p.q
theorem Wq.fact {x y : β} {Q : β → Prop} {t : Tg Q} (e : x = y) (k : Wq y Q Tg.mk) : Wq x Q t := by subst e; exact ⟨k.q⟩
theorem Wq.spec {x : R α} {Q : R α → Prop} {t : Tg Q} {Q0 : α → Hl → Prop} (s : ∃ v h, x = .ok v h ∧ Q0 v h) (k : ∀ v h, Q0 v h → Q (.ok v h)) : Wq x Q t := by
  obtain ⟨v, h, rfl, q⟩ := s
  exact ⟨k v h q⟩
theorem Wq.out {x : R α} {Q : α → Hl → Prop} (k : Wq x (okQ Q) Tg.mk) : ∃ v h, x = .ok v h ∧ Q v h := by
  have k := k.q
  cases x with
  | ok v h => exact ⟨v, h, rfl, k⟩
  | err c fs h => exact k.elim
  | stuck => exact k.elim
theorem Wq.run {P : Prog} {W d f np ns : Nat} {b : B} (hf : P.defs[f]? = some ⟨np, ns, b⟩) {vs : List T} {h : Hl} {Q : T → Hl → Prop} (hl : vs.length = np) (k : Wq (exB P (run P W d) W b (startT np ns vs) h) (endQ P vs (okQ Q)) Tg.mk) : ∃ v h', run P W (d + 1) f vs h = .ok v h' ∧ Q v h' := by
  refine Wq.out ⟨?_⟩
  rw [run_eq hf hl]
  exact k.q
theorem Wq_for_nil (f : Sl → Hl → RS) (tg : List Nat) (σ : Sl) (h : Hl) (Q : RS → Prop) (t : Tg Q) : Wq (forG f tg [] σ h) Q t = Q (.nx σ h) := by rw [Wq_def, forG]
theorem goQ_def {N : Sl → Hl → Prop} {Q : RS → Prop} (r : RS) (q : goQ N Q r) : goQ N Q r := q
theorem Wq_for_cons {f : Sl → Hl → RS} {i : Nat} {x : T} {xs : List T} {σ : Sl} {h : Hl} {Q : RS → Prop} {t : Tg Q} (fr : freeO σ[i]? = true)
    (k : Wq (f (σ.set i (some x)) h) (goQ (fun σ h => Wq (forG f [i] xs σ h) Q Tg.mk) Q) Tg.mk) : Wq (forG f [i] (x :: xs) σ h) Q t := by
  have k : goQ (fun σ h => Wq (forG f [i] xs σ h) Q Tg.mk) Q (f (σ.set i (some x)) h) := k.q
  refine ⟨?_⟩
  rw [forG_step (tg := [i]) (σ1 := σ.set i (some x)) (by simp [freeTg, freeS_eq, fr]) rfl]
  cases e : f (σ.set i (some x)) h with
  | nx σ2 h2 => rw [e] at k; exact k.q
  | ct σ2 h2 => rw [e] at k; exact k.q
  | bk σ2 h2 => rw [e] at k; exact k
  | rt v h2 => rw [e] at k; exact k
  | err c fs σ2 h2 => rw [e] at k; exact k
  | stuck => rw [e] at k; exact k.elim
theorem Wq.forI {f : Sl → Hl → RS} {tg : List Nat} {xs : List T} {σ : Sl} {h : Hl} {Q : RS → Prop} {t : Tg Q} (I : Nat → Sl → Hl → Prop) (h0 : I 0 σ h)
    (step : ∀ j x σ h, xs[j]? = some x → I j σ h → freeTg σ tg = true ∧ ∃ σ1, setT tg x σ = some σ1 ∧ Wq (f σ1 h) (goQ (I (j + 1)) Q) Tg.mk)
    (fin : ∀ σ h, I xs.length σ h → Q (.nx σ h)) : Wq (forG f tg xs σ h) Q t := by
  refine ⟨?_⟩
  suffices H : ∀ (xs : List T) (n : Nat) (σ : Sl) (h : Hl), I n σ h → (∀ j x σ h, xs[j]? = some x → I (n + j) σ h → freeTg σ tg = true ∧ ∃ σ1, setT tg x σ = some σ1 ∧ Wq (f σ1 h) (goQ (I (n + j + 1)) Q) Tg.mk) → (∀ σ h, I (n + xs.length) σ h → Q (.nx σ h)) → Q (forG f tg xs σ h) from
    H xs 0 σ h h0 (fun j x σ h hx hi => by rw [Nat.zero_add] at hi ⊢; exact step j x σ h hx hi) (fun σ h hi => by rw [Nat.zero_add] at hi; exact fin σ h hi)
  intro xs
  induction xs with
  | nil => intro n σ h hi _ fin; rw [forG]; exact fin σ h hi
  | cons x xs ih =>
    intro n σ h hi step fin
    obtain ⟨fr, σ1, st, w⟩ := step 0 x σ h rfl hi
    rw [forG_step fr st]
    have ih := fun σ h hi => ih (n + 1) σ h hi (fun j y σ h hy hi => by
      have := step (j + 1) y σ h (by simpa using hy) (by rw [show n + (j + 1) = n + 1 + j by omega]; exact hi)
      rw [show n + (j + 1) + 1 = n + 1 + j + 1 by omega] at this
      exact this) (fun σ h hi => fin σ h (by rw [List.length_cons, show n + (xs.length + 1) = n + 1 + xs.length by omega]; exact hi))
    have w : goQ (I (n + 0 + 1)) Q (f σ1 h) := w.q
    cases e : f σ1 h with
    | nx σ2 h2 => rw [e] at w; exact ih σ2 h2 w
    | ct σ2 h2 => rw [e] at w; exact ih σ2 h2 w
    | bk σ2 h2 => rw [e] at w; exact w
    | rt v h2 => rw [e] at w; exact w
    | err c fs σ2 h2 => rw [e] at w; exact w
    | stuck => rw [e] at w; exact w.elim
/-- items of one kind, one slot -/
theorem Wq.for1 {f : Sl → Hl → RS} {i : Nat} {α : Type} {enc : α → T} {as : List α} {σ : Sl} {h : Hl} {Q : RS → Prop} {t : Tg Q} (I : Nat → Sl → Hl → Prop) (h0 : I 0 σ h)
    (step : ∀ j a σ h, as[j]? = some a → I j σ h → freeO σ[i]? = true ∧ Wq (f (σ.set i (some (enc a))) h) (goQ (I (j + 1)) Q) Tg.mk)
    (fin : ∀ σ h, I as.length σ h → Q (.nx σ h)) : Wq (forG f [i] (as.map enc) σ h) Q t := by
  refine Wq.forI I h0 (fun j x σ h hx hi => ?_) (fun σ h hi => fin σ h (by rw [List.length_map] at hi; exact hi))
  rw [List.getElem?_map] at hx
  cases ha : as[j]? with
  | none => rw [ha] at hx; cases hx
  | some a =>
    rw [ha] at hx; cases hx
    obtain ⟨fr, w⟩ := step j a σ h ha hi
    exact ⟨by simp [freeTg, freeS_eq, fr], _, rfl, w⟩
theorem Wq.forR {f : Sl → Hl → RS} {i : Nat} {lo hi : Int} {σ : Sl} {h : Hl} {Q : RS → Prop} {t : Tg Q} (I : Nat → Sl → Hl → Prop) (h0 : I 0 σ h)
    (step : ∀ (j : Nat) σ h, j < (hi - lo).toNat → I j σ h → freeO σ[i]? = true ∧ Wq (f (σ.set i (some (.int (lo + (j : Int))))) h) (goQ (I (j + 1)) Q) Tg.mk)
    (fin : ∀ σ h, I (hi - lo).toNat σ h → Q (.nx σ h)) : Wq (forG f [i] (rngT lo hi) σ h) Q t := by
  refine Wq.forI I h0 (fun j x σ h hx hi => ?_) (fun σ h hi => fin σ h (by rw [rngT_len] at hi; exact hi))
  obtain ⟨rfl, hj⟩ := rngT_get hx
  obtain ⟨fr, w⟩ := step j σ h hj hi
  exact ⟨by simp [freeTg, freeS_eq, fr], _, rfl, w⟩
theorem Wq.whl {c : Sl → Hl → R Bool} {f : Sl → Hl → RS} {fuel : Nat} {σ : Sl} {h : Hl} {Q : RS → Prop} {t : Tg Q} (I : Nat → Sl → Hl → Prop) (n : Nat) (h0 : I n σ h) (hn : n < fuel)
    (step : ∀ n σ h, I n σ h → Wq (c σ h) (whlQ f (fun σ h => ∃ m, m < n ∧ I m σ h) σ Q) Tg.mk) : Wq (whlG c f fuel σ h) Q t := by
  refine ⟨?_⟩
  suffices H : ∀ (n fuel : Nat) (σ : Sl) (h : Hl), I n σ h → n < fuel → Q (whlG c f fuel σ h) from H n fuel σ h h0 hn
  intro n
  induction n using Nat.strongRecOn with
  | ind n ih =>
    intro fuel σ h hi hf
    cases fuel with
    | zero => omega
    | succ fuel =>
      have w := step n σ h hi
      have w : whlQ f (fun σ h => ∃ m, m < n ∧ I m σ h) σ Q (c σ h) := w.q
      rw [whlG]
      cases e : c σ h with
      | ok b h' =>
        rw [e] at w
        cases b with
        | false => exact w
        | true =>
          have w : goQ _ Q (f σ h') := w.q
          show Q (match f σ h' with
            | .nx σ h => whlG c f fuel σ h
            | .ct σ h => whlG c f fuel σ h
            | .bk σ h => .nx σ h
            | r => r)
          cases e2 : f σ h' with
          | nx σ2 h2 => rw [e2] at w; obtain ⟨m, hm, q⟩ := w; exact ih m hm fuel σ2 h2 q (by omega)
          | ct σ2 h2 => rw [e2] at w; obtain ⟨m, hm, q⟩ := w; exact ih m hm fuel σ2 h2 q (by omega)
          | bk σ2 h2 => rw [e2] at w; exact w
          | rt v h2 => rw [e2] at w; exact w
          | err c fs σ2 h2 => rw [e2] at w; exact w
          | stuck => rw [e2] at w; exact w.elim
      | err c' fs h' => rw [e] at w; exact w.elim
      | stuck => rw [e] at w; exact w.elim
theorem Wq.lc {f : Sl → Hl → R (Option T)} {tg : List Nat} {σ : Sl} {xs : List T} {h : Hl} {Q : R (List T) → Prop} {t : Tg Q} (I : Nat → List T → Hl → Prop) (h0 : I 0 [] h)
    (step : ∀ j x acc h, xs[j]? = some x → I j acc h → ∃ σ1, setT tg x σ = some σ1 ∧ Wq (f σ1 h) (itemQ (I (j + 1)) acc) Tg.mk)
    (fin : ∀ ys h, I xs.length ys h → Q (.ok ys h)) : Wq (lcG f tg σ xs h) Q t := by
  refine ⟨?_⟩
  suffices H : ∀ (xs : List T) (n : Nat) (acc : List T) (h : Hl), I n acc h → (∀ j x acc h, xs[j]? = some x → I (n + j) acc h → ∃ σ1, setT tg x σ = some σ1 ∧ Wq (f σ1 h) (itemQ (I (n + j + 1)) acc) Tg.mk) → ∃ ys h', lcG f tg σ xs h = .ok ys h' ∧ I (n + xs.length) (acc ++ ys) h' by
    obtain ⟨ys, h', e, q⟩ := H xs 0 [] h h0 (fun j x acc h hx hi => by rw [Nat.zero_add] at hi ⊢; exact step j x acc h hx hi)
    rw [Nat.zero_add, List.nil_append] at q
    rw [e]; exact fin ys h' q
  intro xs
  induction xs with
  | nil => intro n acc h hi _; exact ⟨[], h, by rw [lcG], by rw [List.append_nil]; exact hi⟩
  | cons x xs ih =>
    intro n acc h hi step
    obtain ⟨σ1, st, w⟩ := step 0 x acc h rfl hi
    have w : itemQ (I (n + 0 + 1)) acc (f σ1 h) := w.q
    have ih := fun acc h hi => ih (n + 1) acc h hi (fun j y acc h hy hi => by
      have := step (j + 1) y acc h (by simpa using hy) (by rw [show n + (j + 1) = n + 1 + j by omega]; exact hi)
      rw [show n + (j + 1) + 1 = n + 1 + j + 1 by omega] at this
      exact this)
    cases e : f σ1 h with
    | ok o h2 =>
      rw [e] at w
      cases o with
      | some y =>
        obtain ⟨p, q⟩ := w
        obtain ⟨ys, h3, e3, q3⟩ := ih _ h2 q
        refine ⟨y :: ys, h3, by rw [lcG_cons st e p, e3]; rfl, ?_⟩
        rw [List.length_cons, show n + (xs.length + 1) = n + 1 + xs.length by omega]
        rw [List.append_assoc] at q3; exact q3
      | none =>
        obtain ⟨ys, h3, e3, q3⟩ := ih _ h2 w
        refine ⟨ys, h3, by rw [lcG_skip st e, e3], ?_⟩
        rw [List.length_cons, show n + (xs.length + 1) = n + 1 + xs.length by omega]
        exact q3
    | err c fs h2 => rw [e] at w; exact w.elim
    | stuck => rw [e] at w; exact w.elim
/-- items that change the cells, by their own kind -/
def itemS {β : Type} (enc : β → T) (P : β → Prop) (N : Hl → Prop) : R (Option T) → Prop := fun r => ∃ b h', r = .ok (some (enc b)) h' ∧ plainT (enc b) = true ∧ P b ∧ N h'
theorem itemS_ok {β : Type} (enc : β → T) (P : β → Prop) (N : Hl → Prop) (v : T) (h : Hl) : itemS enc P N (.ok (some v) h) = ∃ b, v = enc b ∧ plainT (enc b) = true ∧ P b ∧ N h := by
  refine propext ⟨fun ⟨b, h', e, q⟩ => ?_, fun ⟨b, e, q⟩ => ⟨b, h, by rw [e], q⟩⟩
  cases e; exact ⟨b, rfl, q⟩
theorem Wq.lcS {β : Type} {f : Sl → Hl → R (Option T)} {tg : List Nat} {σ : Sl} {xs : List T} {h : Hl} {Q : R (List T) → Prop} {t : Tg Q} (enc : β → T) (I : Nat → Hl → Prop) (P : β → Prop) (h0 : I 0 h)
    (step : ∀ j x h, xs[j]? = some x → I j h → ∃ σ1, setT tg x σ = some σ1 ∧ Wq (f σ1 h) (itemS enc P (I (j + 1))) Tg.mk)
    (fin : ∀ (bs : List β) (h' : Hl), bs.length = xs.length → (∀ b ∈ bs, P b) → I xs.length h' → Q (.ok (bs.map enc) h')) : Wq (lcG f tg σ xs h) Q t := by
  obtain ⟨bs, h', e, l, p, i⟩ := lc_st (f := f) (tg := tg) (σ := σ) enc I (fun _ b => P b) xs 0 h h0 fun j x h hx hi => by
    rw [Nat.zero_add] at hi ⊢
    obtain ⟨σ1, st, ⟨b, h', e, p, pb, i⟩⟩ := step j x h hx hi
    exact ⟨σ1, b, h', st, e, p, pb, i⟩
  rw [Nat.zero_add] at i
  refine Wq.fact e ⟨fin bs h' l (fun b hb => ?_) i⟩
  obtain ⟨j, hj, q⟩ := List.mem_iff_getElem.mp hb
  exact p j b (by rw [List.getElem?_eq_getElem hj, q])
end
end Kb
end
section
/-! Kx: a block cut in two: what holds between its parts. -/
set_option autoImplicit false
set_option linter.all false
set_option maxRecDepth 100000
namespace Kb
def B.take : B → Nat → B
  | _, 0 => .nil
  | .nil, _ + 1 => .nil
  | .cons s b, n + 1 => .cons s (B.take b n)
def cutQ (N : Sl → Hl → Prop) (Q : RS → Prop) : RS → Prop
  | .nx σ h => N σ h
  | r => Q r
theorem cutQ_nx (N : Sl → Hl → Prop) (Q : RS → Prop) (σ : Sl) (h : Hl) : cutQ N Q (.nx σ h) = N σ h := by unfold cutQ; exact Eq.refl _
theorem cutQ_rt (N : Sl → Hl → Prop) (Q : RS → Prop) (v : T) (h : Hl) : cutQ N Q (.rt v h) = Q (.rt v h) := by unfold cutQ; exact Eq.refl _
theorem cutQ_bk (N : Sl → Hl → Prop) (Q : RS → Prop) (σ : Sl) (h : Hl) : cutQ N Q (.bk σ h) = Q (.bk σ h) := by unfold cutQ; exact Eq.refl _
theorem cutQ_ct (N : Sl → Hl → Prop) (Q : RS → Prop) (σ : Sl) (h : Hl) : cutQ N Q (.ct σ h) = Q (.ct σ h) := by unfold cutQ; exact Eq.refl _
theorem cutQ_err (N : Sl → Hl → Prop) (Q : RS → Prop) (c : Nat) (fs : List (Nat × T)) (σ : Sl) (h : Hl) : cutQ N Q (.err c fs σ h) = Q (.err c fs σ h) := by unfold cutQ; exact Eq.refl _
theorem thn_assoc (x : RS) (f g : Sl → Hl → RS) : (x.thn f).thn g = x.thn fun σ h => (f σ h).thn g := by cases x <;> rfl
theorem exB_cut (P : Prog) (call : Nat → List T → Hl → R T) (W : Nat) : ∀ (b : B) (n : Nat) (σ : Sl) (h : Hl), exB P call W b σ h = (exB P call W (b.take n) σ h).thn fun σ h => exB P call W (b.drop n) σ h
  | b, 0, σ, h => by cases b <;> (rw [B.take, exB]; rfl)
  | .nil, n + 1, σ, h => by rw [B.take, exB]; rfl
  | .cons s b, n + 1, σ, h => by
    rw [B.take, exB, exB, thn_assoc]
    congr 1
    funext σ h
    exact exB_cut P call W b n σ h
theorem Wq.cut {P : Prog} {call : Nat → List T → Hl → R T} {W : Nat} {b : B} {σ : Sl} {h : Hl} {Q : RS → Prop} {t : Tg Q} (n : Nat) (N : Sl → Hl → Prop) (k1 : Wq (exB P call W (b.take n) σ h) (cutQ N Q) Tg.mk)
    (k2 : ∀ σ h, N σ h → Wq (exB P call W (b.drop n) σ h) Q Tg.mk) : Wq (exB P call W b σ h) Q t := by
  refine ⟨?_⟩
  rw [exB_cut P call W b n]
  have k1 : cutQ N Q (exB P call W (b.take n) σ h) := k1.q
  cases e : exB P call W (b.take n) σ h with
  | nx σ' h' => rw [e] at k1; exact (k2 σ' h' k1).q
  | rt v h' => rw [e] at k1; exact k1
  | bk σ' h' => rw [e] at k1; exact k1
  | ct σ' h' => rw [e] at k1; exact k1
  | err c fs σ' h' => rw [e] at k1; exact k1
  | stuck => rw [e] at k1; exact k1
/-! ### walks over lists that stand in cells -/
theorem chk_nil (h : Hl) : chk [] h := fun p m => by cases m
theorem chk_one {n : Nat} {xs : List T} {h : Hl} (e : h[n]? = some (C.lst xs)) : chk [(n, xs)] h := fun p m => by
  rcases List.mem_cons.mp m with rfl | m
  · exact e
  · cases m
theorem chk_two {n m : Nat} {xs ys : List T} {h : Hl} (e : h[n]? = some (C.lst xs)) (f : h[m]? = some (C.lst ys)) : chk [(n, xs), (m, ys)] h := fun p q => by
  rcases List.mem_cons.mp q with rfl | q
  · exact e
  · exact chk_one f p q
theorem ckR_ok {α : Type} {gs : List (Nat × List T)} {a : α} {h : Hl} (c : chk gs h) : ckR gs (R.ok a h) = .ok a h := by
  show (if chk gs h then R.ok a h else .stuck) = _
  rw [if_pos c]
theorem Wq.ckS {gs : List (Nat × List T)} {r : RS} {N : Sl → Hl → Prop} {Q : RS → Prop} {t : Tg (goQ N Q)} (hN : ∀ σ h, N σ h → chk gs h) (k : Wq r (goQ N Q) Tg.mk) : Wq (ckS gs r) (goQ N Q) t := by
  refine ⟨?_⟩
  have k : goQ N Q r := k.q
  cases r with
  | nx σ h =>
    show goQ N Q (if chk gs h then RS.nx σ h else .stuck)
    rw [if_pos (hN _ _ k)]; exact k
  | ct σ h =>
    show goQ N Q (if chk gs h then RS.ct σ h else .stuck)
    rw [if_pos (hN _ _ k)]; exact k
  | _ => exact k
theorem ckS_nil' (r : RS) : Kb.ckS [] r = r := by
  cases r <;> first | rfl | (show (if chk [] _ then _ else _) = _; rw [if_pos (chk_nil _)])
theorem ckR_nil' {α : Type} (r : R α) : Kb.ckR [] r = r := by
  cases r <;> first | rfl | (show (if chk [] _ then _ else _) = _; rw [if_pos (chk_nil _)])
theorem forC_gd {gs : List (Nat × List T)} (f : Sl → Hl → RS) (tg : List Nat) (xs : List T) (σ : Sl) {h : Hl} (c : chk gs h) : forC gs f tg xs σ h = forG (fun σ h => Kb.ckS gs (f σ h)) tg xs σ h := by
  cases gs with
  | nil => rw [forC_nil]; congr 1; funext σ h; rw [ckS_nil']
  | cons g gs =>
    show (if chk (g :: gs) h then _ else RS.stuck) = _
    rw [if_pos c]
theorem lcC_gd {gs : List (Nat × List T)} (f : Sl → Hl → R (Option T)) (tg : List Nat) (σ : Sl) (xs : List T) {h : Hl} (c : chk gs h) : lcC gs f tg σ xs h = lcG (fun σ h => ckR gs (f σ h)) tg σ xs h := by
  cases gs with
  | nil => rw [lcC_nil]; congr 1; funext σ h; rw [ckR_nil']
  | cons g gs =>
    show (if chk (g :: gs) h then _ else R.stuck) = _
    rw [if_pos c]
/-- a walk with guards: the walk's invariant keeps them -/
theorem Wq.forC {gs : List (Nat × List T)} {f : Sl → Hl → RS} {tg : List Nat} {xs : List T} {σ : Sl} {h : Hl} {Q : RS → Prop} {t : Tg Q} (I : Nat → Sl → Hl → Prop) (h0 : I 0 σ h) (hI : ∀ j σ h, I j σ h → chk gs h)
    (step : ∀ j x σ h, xs[j]? = some x → I j σ h → freeTg σ tg = true ∧ ∃ σ1, setT tg x σ = some σ1 ∧ Wq (f σ1 h) (goQ (I (j + 1)) Q) Tg.mk)
    (fin : ∀ σ h, I xs.length σ h → Q (.nx σ h)) : Wq (Kb.forC gs f tg xs σ h) Q t := by
  rw [forC_gd f tg xs σ (hI _ _ _ h0)]
  refine Wq.forI I h0 (fun j x σ h hx hi => ?_) fin
  obtain ⟨a, σ1, b, c⟩ := step j x σ h hx hi
  exact ⟨a, σ1, b, Wq.ckS (hI _) c⟩
theorem Wq.forC1 {gs : List (Nat × List T)} {f : Sl → Hl → RS} {i : Nat} {α : Type} {enc : α → T} {as : List α} {σ : Sl} {h : Hl} {Q : RS → Prop} {t : Tg Q} (I : Nat → Sl → Hl → Prop) (h0 : I 0 σ h) (hI : ∀ j σ h, I j σ h → chk gs h)
    (step : ∀ j a σ h, as[j]? = some a → I j σ h → freeO σ[i]? = true ∧ Wq (f (σ.set i (some (enc a))) h) (goQ (I (j + 1)) Q) Tg.mk)
    (fin : ∀ σ h, I as.length σ h → Q (.nx σ h)) : Wq (Kb.forC gs f [i] (as.map enc) σ h) Q t := by
  rw [forC_gd f [i] (as.map enc) σ (hI _ _ _ h0)]
  refine Wq.for1 I h0 (fun j x σ h hx hi => ?_) fin
  obtain ⟨a, c⟩ := step j x σ h hx hi
  exact ⟨a, Wq.ckS (hI _) c⟩
/-- items that change no cell -/
theorem lcC_enc {α : Type} {gs : List (Nat × List T)} {f : Sl → Hl → R (Option T)} {tg : List Nat} {σ : Sl} {h : Hl} (c : chk gs h) (enc g : α → T) (as : List α)
    (q : ∀ a ∈ as, plainT (g a) = true ∧ ∃ σ1, setT tg (enc a) σ = some σ1 ∧ f σ1 h = .ok (some (g a)) h) : lcC gs f tg σ (as.map enc) h = .ok (as.map g) h := by
  rw [lcC_gd _ _ _ _ c]
  refine lc_pure enc g as fun a m => ?_
  obtain ⟨p, σ1, s, e⟩ := q a m
  exact ⟨p, σ1, s, by rw [e, ckR_ok c]⟩
theorem lcC_fil {α : Type} {gs : List (Nat × List T)} {f : Sl → Hl → R (Option T)} {tg : List Nat} {σ : Sl} {h : Hl} (k : chk gs h) (enc g : α → T) (c : α → Bool) (as : List α)
    (q : ∀ a ∈ as, ∃ σ1, setT tg (enc a) σ = some σ1 ∧ if c a then plainT (g a) = true ∧ f σ1 h = .ok (some (g a)) h else f σ1 h = .ok none h) : lcC gs f tg σ (as.map enc) h = .ok ((as.filter c).map g) h := by
  rw [lcC_gd _ _ _ _ k]
  refine lc_filter enc g c as fun a m => ?_
  obtain ⟨σ1, s, e⟩ := q a m
  refine ⟨σ1, s, ?_⟩
  cases hc : c a with
  | true => rw [hc] at e; simp only [if_true] at e ⊢; exact ⟨e.1, by rw [e.2, ckR_ok k]⟩
  | false => rw [hc] at e; simp only [Bool.false_eq_true, if_false] at e ⊢; rw [e, ckR_ok k]
end Kb
end
section
/-! Ky: plain proofs about errors: raised, passed on, caught. -/
set_option autoImplicit false
set_option linter.all false
set_option maxRecDepth 100000
namespace Kb
theorem R.bindH_err {α β : Type} (c : Nat) (fs : List (Nat × T)) (h : Hl) (f : α → Hl → R β) (t : Tg f) : R.bindH (R.err c fs h) f t = R.err c fs h := by unfold R.bindH; exact Eq.refl _
theorem R.toSH_err {α : Type} (c : Nat) (fs : List (Nat × T)) (h : Hl) (σ : Sl) (f : α → Hl → RS) (t : Tg f) : R.toSH (R.err c fs h) σ f t = RS.err c fs σ h := by unfold R.toSH; exact Eq.refl _
theorem RS.thnH_err (c : Nat) (fs : List (Nat × T)) (σ : Sl) (h : Hl) (f : Sl → Hl → RS) (t : Tg f) : RS.thnH (RS.err c fs σ h) f t = RS.err c fs σ h := by unfold RS.thnH; exact Eq.refl _
theorem endR_err {P : Prog} {vs : List T} {c : Nat} {fs : List (Nat × T)} {σ : Sl} {h : Hl} (q : P.exc = true) : endR P vs (.err c fs σ h) = .err c fs h := by
  unfold endR; exact if_pos q
theorem endQ_err {P : Prog} {vs : List T} (Q : R T → Prop) (c : Nat) (fs : List (Nat × T)) (σ : Sl) (h : Hl) (q : P.exc = true) : endQ P vs Q (.err c fs σ h) = Q (.err c fs h) := by unfold endQ; rw [endR_err q]
/-- an answer that is an error -/
def erQ (Q : Nat → List (Nat × T) → Hl → Prop) : R T → Prop
  | .err c fs h => Q c fs h
  | _ => False
theorem erQ_err (Q : Nat → List (Nat × T) → Hl → Prop) (c : Nat) (fs : List (Nat × T)) (h : Hl) : erQ Q (.err c fs h) = Q c fs h := by unfold erQ; exact Eq.refl _
theorem Wq_runQ {P : Prog} {W d f np ns : Nat} {b : B} (hf : P.defs[f]? = some ⟨np, ns, b⟩) {vs : List T} {h : Hl} {Q : R T → Prop} (hl : vs.length = np) (k : Wq (exB P (run P W d) W b (startT np ns vs) h) (endQ P vs Q) Tg.mk) : Q (run P W (d + 1) f vs h) := by
  rw [run_eq hf hl]
  exact k.q
def tryQ (P : Prog) (call : Nat → List T → Hl → R T) (W : Nat) (hs : Hs) (Q : RS → Prop) : RS → Prop
  | .err c fs σ h => Wq (exH P call W hs c fs σ h) Q Tg.mk
  | r => Q r
theorem Wq_tryS (P : Prog) (call : Nat → List T → Hl → R T) (W : Nat) (b : B) (hs : Hs) (σ : Sl) (h : Hl) (Q : RS → Prop) (t : Tg Q) : Wq (exS P call W (.tryS b hs) σ h) Q t = Wq (exB P call W b σ h) (tryQ P call W hs Q) Tg.mk := by
  rw [Wq_def, Wq_def]
  show Q _ = tryQ P call W hs Q _
  rw [exS]
  cases exB P call W b σ h <;> first | rfl | exact (Wq_def _ _ _).symm
section
variable {P : Prog} {call : Nat → List T → Hl → R T} {W : Nat} {hs : Hs} (Q : RS → Prop)
theorem tryQ_rt (v : T) (h : Hl) : tryQ P call W hs Q (.rt v h) = Q (.rt v h) := by unfold tryQ; exact Eq.refl _
theorem tryQ_nx (σ : Sl) (h : Hl) : tryQ P call W hs Q (.nx σ h) = Q (.nx σ h) := by unfold tryQ; exact Eq.refl _
theorem tryQ_ct (σ : Sl) (h : Hl) : tryQ P call W hs Q (.ct σ h) = Q (.ct σ h) := by unfold tryQ; exact Eq.refl _
theorem tryQ_bk (σ : Sl) (h : Hl) : tryQ P call W hs Q (.bk σ h) = Q (.bk σ h) := by unfold tryQ; exact Eq.refl _
theorem tryQ_err (c : Nat) (fs : List (Nat × T)) (σ : Sl) (h : Hl) : tryQ P call W hs Q (.err c fs σ h) = Wq (exH P call W hs c fs σ h) Q Tg.mk := by unfold tryQ; exact Eq.refl _
end
/-- which handler takes an error -/
def selH (P : Prog) : Hs → Nat → Option (Option Nat × B)
  | .nil, _ => none
  | .cons d i b r, c => match P.cls[c]? with
    | some k => if k.mode = 2 then if c == d || k.sup.contains d then some (i, b) else selH P r c else none
    | none => none
def hndQ (Q : RS → Prop) : RS → Prop
  | .rt v h => Q (.rt v h)
  | _ => False
theorem hndQ_rt (Q : RS → Prop) (v : T) (h : Hl) : hndQ Q (.rt v h) = Q (.rt v h) := by unfold hndQ; exact Eq.refl _
def hndS (i : Option Nat) (c : Nat) (fs : List (Nat × T)) (σ : Sl) : Sl := match i with
  | some i => σ.set i (some (.exc c fs))
  | none => σ
theorem exH_cons (P : Prog) (call : Nat → List T → Hl → R T) (W d : Nat) (i : Option Nat) (b : B) (r : Hs) (c : Nat) (fs : List (Nat × T)) (σ : Sl) (h : Hl) : exH P call W (.cons d i b r) c fs σ h = match P.cls[c]? with
    | some k => if k.mode = 2 then if c == d || k.sup.contains d then match exB P call W b (hndS i c fs σ) h with
          | .rt t h => .rt t h
          | _ => .stuck
        else exH P call W r c fs σ h
      else .stuck
      | none => .stuck := by cases i <;> rfl
theorem exH_sel {P : Prog} {call : Nat → List T → Hl → R T} {W : Nat} {c : Nat} {fs : List (Nat × T)} {σ : Sl} {h : Hl} {i : Option Nat} {b : B} {v : T} {h' : Hl} (q : exB P call W b (hndS i c fs σ) h = .rt v h') : ∀ {hs : Hs}, selH P hs c = some (i, b) → exH P call W hs c fs σ h = .rt v h'
  | .nil, e => by rw [selH] at e; cases e
  | .cons d j a r, e => by
    rw [selH] at e
    rw [exH_cons]
    cases hk : P.cls[c]? with
    | none => rw [hk] at e; cases e
    | some k =>
      rw [hk] at e
      by_cases m : k.mode = 2
      · simp only [m, if_true] at e ⊢
        by_cases z : (c == d || k.sup.contains d) = true
        · simp only [z, if_true] at e ⊢
          cases e
          rw [q]
        · simp only [z, if_false] at e ⊢
          exact exH_sel q e
      · simp only [m, if_false] at e; cases e
theorem Wq.exH {P : Prog} {call : Nat → List T → Hl → R T} {W : Nat} {c : Nat} {fs : List (Nat × T)} {σ : Sl} {h : Hl} {hs : Hs} {Q : RS → Prop} {t : Tg Q} {i : Option Nat} {b : B} (e : selH P hs c = some (i, b)) (k : Wq (exB P call W b (hndS i c fs σ) h) (hndQ Q) Tg.mk) : Wq (Kb.exH P call W hs c fs σ h) Q t := by
  have k : hndQ Q (exB P call W b (hndS i c fs σ) h) := k.q
  cases q : exB P call W b (hndS i c fs σ) h with
  | rt v h' => rw [q] at k; exact ⟨by rw [exH_sel q e]; exact k⟩
  | nx σ h' => rw [q] at k; exact k.elim
  | ct σ h' => rw [q] at k; exact k.elim
  | bk σ h' => rw [q] at k; exact k.elim
  | err c fs σ h' => rw [q] at k; exact k.elim
  | stuck => rw [q] at k; exact k.elim
theorem hndS_some (i c : Nat) (fs : List (Nat × T)) (σ : Sl) : hndS (some i) c fs σ = σ.set i (some (.exc c fs)) := rfl
theorem hndS_none (c : Nat) (fs : List (Nat × T)) (σ : Sl) : hndS none c fs σ = σ := rfl
/-- a loop's turn that ends the loop by an error or an answer, or goes on: as goQ -/
theorem goQ_err (N : Sl → Hl → Prop) (Q : RS → Prop) (c : Nat) (fs : List (Nat × T)) (σ : Sl) (h : Hl) : goQ N Q (.err c fs σ h) = Q (.err c fs σ h) := by unfold goQ; exact Eq.refl _
theorem Wq.err {α : Type} {x : R α} {Q : R α → Prop} {t : Tg Q} {c : Nat} {fs : List (Nat × T)} {h : Hl} (e : x = .err c fs h) (k : Q (.err c fs h)) : Wq x Q t := by subst e; exact ⟨k⟩
end Kb
end
section
set_option maxRecDepth 100000
open Kb
local macro_rules
  | `(tactic| simp only [zzO, $as,*]) => `(tactic| simp only [exB, ↓exS_for, ↓exS_whl, ↓evA_lc, exS, evE, evEs, evT, evO, evA, evI, evC, tru, truT, binT, addT, mulT, intT, isIns, insOf_non, binE_non, cmE_non, insOf_bl, binE_bl, cmE_bl, insOf_int, binE_int, cmE_int, insOf_str, binE_str, cmE_str, insOf_lst, binE_lst, cmE_lst, insOf_tup, binE_tup, cmE_tup, insOf_dct, binE_dct, cmE_dct, insOf_kl, binE_kl, cmE_kl, insOf_bL, binE_bL, cmE_bL, insOf_bD, binE_bD, cmE_bD, insOf_ins, insOf_bI, insOf_rf, binE_rf, cmE_rf, fldT_ins, fldT_bI, fldT_rf, mx_0, mx_1, mx_2, mx_3, mx_4, mx_5, mx_01, mx_02, mx_03, mx_04, mx_05, mx_06, mx_07, mx_08, mx_09, mx_10, mx_11, mx_12, mx_13, mx_14, mx_15, cmpT, icmp, oR, idxT, idxSq, slT, bfT, intF, lenF, lenT, absF, gcdF, min2F, max2F, tupF, sumF, seqOf, lstOf, lstOf', walkOf_lst, walkOf_tup, walkOf_kl, walkOf_str, walkOf_rf, gdI_e, gdI_fld, gdF_eq, gdFO_some, gdFR_ok, isF_fldv, isF_fldf, isF_fldg, isF_fldi, isF_fldm, isF_fldc, isF_var, isF_cst, isF_glo, isF_idx, isF_tup, isF_sl, isF_call, isF_callK, isF_meth, isF_methK, isF_bf, isF_bm, isF_bin, isF_ife, isF_al, keysT_dct, keysT_rf, cellL_rf, walkOf_dct, wkM_dct, gdI_enum, gdI_rng1, gdI_rng2, gdI_rng3, gdI_zip, gdV_var, gdV_no, gdO_some, gdO_none, gdO_sn, gdT_eq, gdM_some, gdM_rf, gdC_lst, wk_eq, wkM_some, wkM_rf, wkM_nw, lstC_lst, isV_var, isV_fld, isV_cst, isV_glo, isV_idx, isV_tup, isV_sl, isV_call, isV_callK, isV_meth, isV_methK, isV_bf, isV_bm, isV_bin, isV_ife, isV_al, forC_nil, lcC_nil, List.nil_append, putI, stF, lkF, putF, lkN, kdAny, kd_non, kd_bl, kd_int, kd_str, kd_tup, kd_lst, kd_bL, kd_kl, kd_ins, kk_ii, kk_ib, kk_bi, kk_bb, kk_ss, kk_tt, kk_ll, kk_tl, kk_lt, kk_is, kk_si, kk_it, kk_il, kk_ti, kk_li, kk_st, kk_sl, kk_ts, kk_ls, onL, mbT, pl_non, pl_bl, pl_int, pl_str, pl_lst, pl_tup, pl_ins, pl_dct, pl_rf, pl_kl, pl_exc, pl_bL, pl_bD, pl_bI, arrT, isExc, isT, isNon, isBlv, ↓R.bind_H, R.bindH_ok, ↓R.toS_H, R.toSH_ok, R.noErr_ok, ↓RS.thn_H, R.bindH_err, R.toSH_err, RS.thnH_err, endR_err, RS.thnH_nx, RS.thnH_rt, R.bindH_ite, R.toSH_ite, RS.thnH_ite, startT, setT, wipeT, freeTg, eqT_int, eqT_bl, List.all_cons, List.all_nil, List.map_cons, List.map_nil, List.zip_cons_cons, List.zip_nil_left, List.zip_nil_right, List.foldl_cons, List.foldl_nil, List.cons_append, List.nil_append, List.replicate, List.length_cons, List.length_nil, List.getElem?_cons_zero, List.getElem?_cons_succ, List.set_cons_zero, List.set_cons_succ, List.isEmpty_cons, List.isEmpty_nil, atI_0, atI_1, atI_2, atI_3, atI_4, ix51, ix52, ix53, ix54, Option.map_some, Option.map_none, Option.isSome_none, Option.isSome_some, Option.isNone_none, Option.isNone_some, eq_self, Option.bind_some, if_true, if_false, Bool.false_eq_true, Bool.and_false, Bool.false_and, Bool.not_false, Bool.not_true, Bool.and_true, Bool.true_and, Bool.or_false, Bool.or_true, Bool.false_or, Bool.true_or, Nat.reduceAdd, Nat.reduceSub, Nat.reduceEqDiff, freeS_eq, freeO_none, freeO_some, decide_true, decide_false, reduceCtorEq, endR_rt, endR_nx, endR_ini, endR_ite, iniV_nil, iniV_cons, isBI_int, isBI_str, isBI_lst, isBI_tup, isBI_ins, isBI_rf, isBI_bl, isBI_kl, isBI_non, isBI_dct, Nat.reduceLT, Nat.one_ne_zero, Nat.zero_ne_one, $as,*])
  | `(tactic| simp only [zzR, $as,*]) => `(tactic| simp -dsimp only [↓Wq_for_nil, Wq_for_nil, ↓Wq_tryN, ↓Wq_end, ↓IfQ_true, ↓IfQ_false, ↓Wq_ok, ↓Wq_err, ↓Wq_nx, ↓Wq_rt, ↓Wq_ct, ↓Wq_bk, ↓Wq_er, Wq_tryN, Wq_end, Wq_noErr, IfQ_true, IfQ_false, Wq_ok, Wq_err, Wq_nx, Wq_rt, Wq_ct, Wq_bk, Wq_er, ↓bindQ_ok, ↓bindQ_err, ↓toSQ_ok, ↓toSQ_err, ↓thnQ_nx, ↓thnQ_rt, ↓thnQ_ct, ↓thnQ_bk, ↓thnQ_err, ↓endQ_rt, ↓endQ_nx, ↓endQ_ini, ↓noQ_ok, ↓okQ_ok, ↓goQ_nx, ↓goQ_ct, ↓goQ_bk, ↓goQ_rt, ↓Wq_tryS, Wq_tryS, ↓tryQ_rt, ↓tryQ_nx, ↓tryQ_ct, ↓tryQ_bk, ↓tryQ_err, ↓endQ_err, ↓erQ_err, ↓hndQ_rt, hndS_some, hndS_none, ↓goQ_err, ↓cutQ_err, ↓itemQ_some, ↓itemQ_none, ↓itemS_ok, ↓tryNQ_rt, ↓tryNQ_nx, ↓whlQ_true, ↓whlQ_false, cutQ_nx, cutQ_rt, ↓ite_HR, ↓ite_HS, ↓IfH_true, ↓IfH_false, IfH_true, IfH_false, Wq_IfH, Wq_bindH, Wq_toSH, Wq_thnH, exB, ↓exS_for, ↓exS_whl, ↓evA_lc, exS, evE, evEs, evT, evO, evA, evI, evC, tru, truT, binT, addT, mulT, intT, isIns, insOf_non, binE_non, cmE_non, insOf_bl, binE_bl, cmE_bl, insOf_int, binE_int, cmE_int, insOf_str, binE_str, cmE_str, insOf_lst, binE_lst, cmE_lst, insOf_tup, binE_tup, cmE_tup, insOf_dct, binE_dct, cmE_dct, insOf_kl, binE_kl, cmE_kl, insOf_bL, binE_bL, cmE_bL, insOf_bD, binE_bD, cmE_bD, insOf_ins, insOf_bI, insOf_rf, binE_rf, cmE_rf, fldT_ins, fldT_bI, fldT_rf, mx_0, mx_1, mx_2, mx_3, mx_4, mx_5, mx_01, mx_02, mx_03, mx_04, mx_05, mx_06, mx_07, mx_08, mx_09, mx_10, mx_11, mx_12, mx_13, mx_14, mx_15, cmpT, icmp, oR, idxT, idxSq, slT, bfT, intF, lenF, lenT, absF, gcdF, min2F, max2F, tupF, sumF, seqOf, lstOf, lstOf', walkOf_lst, walkOf_tup, walkOf_kl, walkOf_str, walkOf_rf, gdI_e, gdI_fld, gdF_eq, gdFO_some, gdFR_ok, isF_fldv, isF_fldf, isF_fldg, isF_fldi, isF_fldm, isF_fldc, isF_var, isF_cst, isF_glo, isF_idx, isF_tup, isF_sl, isF_call, isF_callK, isF_meth, isF_methK, isF_bf, isF_bm, isF_bin, isF_ife, isF_al, keysT_dct, keysT_rf, cellL_rf, walkOf_dct, wkM_dct, gdI_enum, gdI_rng1, gdI_rng2, gdI_rng3, gdI_zip, gdV_var, gdV_no, gdO_some, gdO_none, gdO_sn, gdT_eq, gdM_some, gdM_rf, gdC_lst, wk_eq, wkM_some, wkM_rf, wkM_nw, lstC_lst, isV_var, isV_fld, isV_cst, isV_glo, isV_idx, isV_tup, isV_sl, isV_call, isV_callK, isV_meth, isV_methK, isV_bf, isV_bm, isV_bin, isV_ife, isV_al, forC_nil, lcC_nil, List.nil_append, putI, stF, lkF, putF, lkN, kdAny, kd_non, kd_bl, kd_int, kd_str, kd_tup, kd_lst, kd_bL, kd_kl, kd_ins, kk_ii, kk_ib, kk_bi, kk_bb, kk_ss, kk_tt, kk_ll, kk_tl, kk_lt, kk_is, kk_si, kk_it, kk_il, kk_ti, kk_li, kk_st, kk_sl, kk_ts, kk_ls, onL, mbT, pl_non, pl_bl, pl_int, pl_str, pl_lst, pl_tup, pl_ins, pl_dct, pl_rf, pl_kl, pl_exc, pl_bL, pl_bD, pl_bI, arrT, isExc, isT, isNon, isBlv, ↓R.bind_H, R.bindH_ok, ↓R.toS_H, R.toSH_ok, ↓RS.thn_H, R.bindH_err, R.toSH_err, RS.thnH_err, endR_err, RS.thnH_nx, RS.thnH_rt, startT, setT, wipeT, freeTg, eqT_int, eqT_bl, List.all_cons, List.all_nil, List.map_cons, List.map_nil, List.zip_cons_cons, List.zip_nil_left, List.zip_nil_right, List.foldl_cons, List.foldl_nil, List.cons_append, List.nil_append, List.replicate, List.length_cons, List.length_nil, List.getElem?_cons_zero, List.getElem?_cons_succ, List.set_cons_zero, List.set_cons_succ, List.isEmpty_cons, List.isEmpty_nil, atI_0, atI_1, atI_2, atI_3, atI_4, ix51, ix52, ix53, ix54, Option.map_some, Option.map_none, Option.isSome_none, Option.isSome_some, Option.isNone_none, Option.isNone_some, eq_self, Option.bind_some, if_true, if_false, Bool.false_eq_true, Bool.and_false, Bool.false_and, Bool.not_false, Bool.not_true, Bool.and_true, Bool.true_and, Bool.or_false, Bool.or_true, Bool.false_or, Bool.true_or, Nat.reduceAdd, Nat.reduceSub, Nat.reduceEqDiff, freeS_eq, freeO_none, freeO_some, decide_true, decide_false, reduceCtorEq, endR_rt, endR_nx, endR_ini, iniV_nil, iniV_cons, isBI_int, isBI_str, isBI_lst, isBI_tup, isBI_ins, isBI_rf, isBI_bl, isBI_kl, isBI_non, isBI_dct, Nat.reduceLT, Nat.one_ne_zero, Nat.zero_ne_one, $as,*])
  | `(tactic| simp only [zzG, $as,*]) => `(tactic| (simp -dsimp only [↓Wq_for_nil, Wq_for_nil, ↓Wq_tryN, ↓Wq_end, ↓IfQ_true, ↓IfQ_false, ↓Wq_ok, ↓Wq_err, ↓Wq_nx, ↓Wq_rt, ↓Wq_ct, ↓Wq_bk, ↓Wq_er, Wq_tryN, Wq_end, Wq_noErr, IfQ_true, IfQ_false, Wq_ok, Wq_err, Wq_nx, Wq_rt, Wq_ct, Wq_bk, Wq_er, ↓bindQ_ok, ↓bindQ_err, ↓toSQ_ok, ↓toSQ_err, ↓thnQ_nx, ↓thnQ_rt, ↓thnQ_ct, ↓thnQ_bk, ↓thnQ_err, ↓endQ_rt, ↓endQ_nx, ↓endQ_ini, ↓noQ_ok, ↓okQ_ok, ↓goQ_nx, ↓goQ_ct, ↓goQ_bk, ↓goQ_rt, ↓Wq_tryS, Wq_tryS, ↓tryQ_rt, ↓tryQ_nx, ↓tryQ_ct, ↓tryQ_bk, ↓tryQ_err, ↓endQ_err, ↓erQ_err, ↓hndQ_rt, hndS_some, hndS_none, ↓goQ_err, ↓cutQ_err, ↓itemQ_some, ↓itemQ_none, ↓itemS_ok, ↓tryNQ_rt, ↓tryNQ_nx, ↓whlQ_true, ↓whlQ_false, cutQ_nx, cutQ_rt, ↓ite_HR, ↓ite_HS, ↓IfH_true, ↓IfH_false, IfH_true, IfH_false, Wq_IfH, Wq_bindH, Wq_toSH, Wq_thnH, exB, ↓exS_for, ↓exS_whl, ↓evA_lc, exS, evE, evEs, evT, evO, evA, evI, evC, tru, truT, binT, addT, mulT, intT, isIns, insOf_non, binE_non, cmE_non, insOf_bl, binE_bl, cmE_bl, insOf_int, binE_int, cmE_int, insOf_str, binE_str, cmE_str, insOf_lst, binE_lst, cmE_lst, insOf_tup, binE_tup, cmE_tup, insOf_dct, binE_dct, cmE_dct, insOf_kl, binE_kl, cmE_kl, insOf_bL, binE_bL, cmE_bL, insOf_bD, binE_bD, cmE_bD, insOf_ins, insOf_bI, insOf_rf, binE_rf, cmE_rf, fldT_ins, fldT_bI, fldT_rf, mx_0, mx_1, mx_2, mx_3, mx_4, mx_5, mx_01, mx_02, mx_03, mx_04, mx_05, mx_06, mx_07, mx_08, mx_09, mx_10, mx_11, mx_12, mx_13, mx_14, mx_15, cmpT, icmp, oR, idxT, idxSq, slT, bfT, intF, lenF, lenT, absF, gcdF, min2F, max2F, tupF, sumF, seqOf, lstOf, lstOf', walkOf_lst, walkOf_tup, walkOf_kl, walkOf_str, walkOf_rf, gdI_e, gdI_fld, gdF_eq, gdFO_some, gdFR_ok, isF_fldv, isF_fldf, isF_fldg, isF_fldi, isF_fldm, isF_fldc, isF_var, isF_cst, isF_glo, isF_idx, isF_tup, isF_sl, isF_call, isF_callK, isF_meth, isF_methK, isF_bf, isF_bm, isF_bin, isF_ife, isF_al, keysT_dct, keysT_rf, cellL_rf, walkOf_dct, wkM_dct, gdI_enum, gdI_rng1, gdI_rng2, gdI_rng3, gdI_zip, gdV_var, gdV_no, gdO_some, gdO_none, gdO_sn, gdT_eq, gdM_some, gdM_rf, gdC_lst, wk_eq, wkM_some, wkM_rf, wkM_nw, lstC_lst, isV_var, isV_fld, isV_cst, isV_glo, isV_idx, isV_tup, isV_sl, isV_call, isV_callK, isV_meth, isV_methK, isV_bf, isV_bm, isV_bin, isV_ife, isV_al, forC_nil, lcC_nil, List.nil_append, putI, stF, lkF, putF, lkN, kdAny, kd_non, kd_bl, kd_int, kd_str, kd_tup, kd_lst, kd_bL, kd_kl, kd_ins, kk_ii, kk_ib, kk_bi, kk_bb, kk_ss, kk_tt, kk_ll, kk_tl, kk_lt, kk_is, kk_si, kk_it, kk_il, kk_ti, kk_li, kk_st, kk_sl, kk_ts, kk_ls, onL, mbT, pl_non, pl_bl, pl_int, pl_str, pl_lst, pl_tup, pl_ins, pl_dct, pl_rf, pl_kl, pl_exc, pl_bL, pl_bD, pl_bI, arrT, isExc, isT, isNon, isBlv, ↓R.bind_H, R.bindH_ok, ↓R.toS_H, R.toSH_ok, ↓RS.thn_H, R.bindH_err, R.toSH_err, RS.thnH_err, endR_err, RS.thnH_nx, RS.thnH_rt, startT, setT, wipeT, freeTg, eqT_int, eqT_bl, List.all_cons, List.all_nil, List.map_cons, List.map_nil, List.zip_cons_cons, List.zip_nil_left, List.zip_nil_right, List.foldl_cons, List.foldl_nil, List.cons_append, List.nil_append, List.replicate, List.length_cons, List.length_nil, List.getElem?_cons_zero, List.getElem?_cons_succ, List.set_cons_zero, List.set_cons_succ, List.isEmpty_cons, List.isEmpty_nil, atI_0, atI_1, atI_2, atI_3, atI_4, ix51, ix52, ix53, ix54, Option.map_some, Option.map_none, Option.isSome_none, Option.isSome_some, Option.isNone_none, Option.isNone_some, eq_self, Option.bind_some, if_true, if_false, Bool.false_eq_true, Bool.and_false, Bool.false_and, Bool.not_false, Bool.not_true, Bool.and_true, Bool.true_and, Bool.or_false, Bool.or_true, Bool.false_or, Bool.true_or, Nat.reduceAdd, Nat.reduceSub, Nat.reduceEqDiff, freeS_eq, freeO_none, freeO_some, decide_true, decide_false, reduceCtorEq, endR_rt, endR_nx, endR_ini, iniV_nil, iniV_cons, isBI_int, isBI_str, isBI_lst, isBI_tup, isBI_ins, isBI_rf, isBI_bl, isBI_kl, isBI_non, isBI_dct, Nat.reduceLT, Nat.one_ne_zero, Nat.zero_ne_one, $as,*]; repeat (first | refine IfQ.yes (mulOk_of (by omega) (by omega) (by omega) (by omega)) ?_ | refine IfQ.yes (divOk_of (by omega) (by omega) (by omega)) ?_ | refine IfQ.yes (by decide) ?_ | refine IfQ.no (by decide) ?_ | refine IfQ.yes (rngOk_of (by (try simp only [List.length_map, List.length_append, List.length_cons, List.length_nil, List.length_range]); omega) (by (try simp only [List.length_map, List.length_append, List.length_cons, List.length_nil, List.length_range]); omega)) ?_ | refine IfQ.yes (len_of (by simp only [List.length_map, List.length_append, List.length_cons, List.length_nil, List.length_replicate, rngT_len]; omega)) ?_ | refine IfQ.yes (shlOk_of (by omega) (by omega) (by omega) (by omega)) ?_ | simp -dsimp only [↓Wq_for_nil, Wq_for_nil, ↓Wq_tryN, ↓Wq_end, ↓IfQ_true, ↓IfQ_false, ↓Wq_ok, ↓Wq_err, ↓Wq_nx, ↓Wq_rt, ↓Wq_ct, ↓Wq_bk, ↓Wq_er, Wq_tryN, Wq_end, Wq_noErr, IfQ_true, IfQ_false, Wq_ok, Wq_err, Wq_nx, Wq_rt, Wq_ct, Wq_bk, Wq_er, ↓bindQ_ok, ↓bindQ_err, ↓toSQ_ok, ↓toSQ_err, ↓thnQ_nx, ↓thnQ_rt, ↓thnQ_ct, ↓thnQ_bk, ↓thnQ_err, ↓endQ_rt, ↓endQ_nx, ↓endQ_ini, ↓noQ_ok, ↓okQ_ok, ↓goQ_nx, ↓goQ_ct, ↓goQ_bk, ↓goQ_rt, ↓Wq_tryS, Wq_tryS, ↓tryQ_rt, ↓tryQ_nx, ↓tryQ_ct, ↓tryQ_bk, ↓tryQ_err, ↓endQ_err, ↓erQ_err, ↓hndQ_rt, hndS_some, hndS_none, ↓goQ_err, ↓cutQ_err, ↓itemQ_some, ↓itemQ_none, ↓itemS_ok, ↓tryNQ_rt, ↓tryNQ_nx, ↓whlQ_true, ↓whlQ_false, cutQ_nx, cutQ_rt, ↓ite_HR, ↓ite_HS, ↓IfH_true, ↓IfH_false, IfH_true, IfH_false, Wq_IfH, Wq_bindH, Wq_toSH, Wq_thnH, exB, ↓exS_for, ↓exS_whl, ↓evA_lc, exS, evE, evEs, evT, evO, evA, evI, evC, tru, truT, binT, addT, mulT, intT, isIns, insOf_non, binE_non, cmE_non, insOf_bl, binE_bl, cmE_bl, insOf_int, binE_int, cmE_int, insOf_str, binE_str, cmE_str, insOf_lst, binE_lst, cmE_lst, insOf_tup, binE_tup, cmE_tup, insOf_dct, binE_dct, cmE_dct, insOf_kl, binE_kl, cmE_kl, insOf_bL, binE_bL, cmE_bL, insOf_bD, binE_bD, cmE_bD, insOf_ins, insOf_bI, insOf_rf, binE_rf, cmE_rf, fldT_ins, fldT_bI, fldT_rf, mx_0, mx_1, mx_2, mx_3, mx_4, mx_5, mx_01, mx_02, mx_03, mx_04, mx_05, mx_06, mx_07, mx_08, mx_09, mx_10, mx_11, mx_12, mx_13, mx_14, mx_15, cmpT, icmp, oR, idxT, idxSq, slT, bfT, intF, lenF, lenT, absF, gcdF, min2F, max2F, tupF, sumF, seqOf, lstOf, lstOf', walkOf_lst, walkOf_tup, walkOf_kl, walkOf_str, walkOf_rf, gdI_e, gdI_fld, gdF_eq, gdFO_some, gdFR_ok, isF_fldv, isF_fldf, isF_fldg, isF_fldi, isF_fldm, isF_fldc, isF_var, isF_cst, isF_glo, isF_idx, isF_tup, isF_sl, isF_call, isF_callK, isF_meth, isF_methK, isF_bf, isF_bm, isF_bin, isF_ife, isF_al, keysT_dct, keysT_rf, cellL_rf, walkOf_dct, wkM_dct, gdI_enum, gdI_rng1, gdI_rng2, gdI_rng3, gdI_zip, gdV_var, gdV_no, gdO_some, gdO_none, gdO_sn, gdT_eq, gdM_some, gdM_rf, gdC_lst, wk_eq, wkM_some, wkM_rf, wkM_nw, lstC_lst, isV_var, isV_fld, isV_cst, isV_glo, isV_idx, isV_tup, isV_sl, isV_call, isV_callK, isV_meth, isV_methK, isV_bf, isV_bm, isV_bin, isV_ife, isV_al, forC_nil, lcC_nil, List.nil_append, putI, stF, lkF, putF, lkN, kdAny, kd_non, kd_bl, kd_int, kd_str, kd_tup, kd_lst, kd_bL, kd_kl, kd_ins, kk_ii, kk_ib, kk_bi, kk_bb, kk_ss, kk_tt, kk_ll, kk_tl, kk_lt, kk_is, kk_si, kk_it, kk_il, kk_ti, kk_li, kk_st, kk_sl, kk_ts, kk_ls, onL, mbT, pl_non, pl_bl, pl_int, pl_str, pl_lst, pl_tup, pl_ins, pl_dct, pl_rf, pl_kl, pl_exc, pl_bL, pl_bD, pl_bI, arrT, isExc, isT, isNon, isBlv, ↓R.bind_H, R.bindH_ok, ↓R.toS_H, R.toSH_ok, ↓RS.thn_H, R.bindH_err, R.toSH_err, RS.thnH_err, endR_err, RS.thnH_nx, RS.thnH_rt, startT, setT, wipeT, freeTg, eqT_int, eqT_bl, List.all_cons, List.all_nil, List.map_cons, List.map_nil, List.zip_cons_cons, List.zip_nil_left, List.zip_nil_right, List.foldl_cons, List.foldl_nil, List.cons_append, List.nil_append, List.replicate, List.length_cons, List.length_nil, List.getElem?_cons_zero, List.getElem?_cons_succ, List.set_cons_zero, List.set_cons_succ, List.isEmpty_cons, List.isEmpty_nil, atI_0, atI_1, atI_2, atI_3, atI_4, ix51, ix52, ix53, ix54, Option.map_some, Option.map_none, Option.isSome_none, Option.isSome_some, Option.isNone_none, Option.isNone_some, eq_self, Option.bind_some, if_true, if_false, Bool.false_eq_true, Bool.and_false, Bool.false_and, Bool.not_false, Bool.not_true, Bool.and_true, Bool.true_and, Bool.or_false, Bool.or_true, Bool.false_or, Bool.true_or, Nat.reduceAdd, Nat.reduceSub, Nat.reduceEqDiff, freeS_eq, freeO_none, freeO_some, decide_true, decide_false, reduceCtorEq, endR_rt, endR_nx, endR_ini, iniV_nil, iniV_cons, isBI_int, isBI_str, isBI_lst, isBI_tup, isBI_ins, isBI_rf, isBI_bl, isBI_kl, isBI_non, isBI_dct, Nat.reduceLT, Nat.one_ne_zero, Nat.zero_ne_one, $as,*])))
  | `(tactic| simp only [zzG]) => `(tactic| (simp -dsimp only [↓Wq_for_nil, Wq_for_nil, ↓Wq_tryN, ↓Wq_end, ↓IfQ_true, ↓IfQ_false, ↓Wq_ok, ↓Wq_err, ↓Wq_nx, ↓Wq_rt, ↓Wq_ct, ↓Wq_bk, ↓Wq_er, Wq_tryN, Wq_end, Wq_noErr, IfQ_true, IfQ_false, Wq_ok, Wq_err, Wq_nx, Wq_rt, Wq_ct, Wq_bk, Wq_er, ↓bindQ_ok, ↓bindQ_err, ↓toSQ_ok, ↓toSQ_err, ↓thnQ_nx, ↓thnQ_rt, ↓thnQ_ct, ↓thnQ_bk, ↓thnQ_err, ↓endQ_rt, ↓endQ_nx, ↓endQ_ini, ↓noQ_ok, ↓okQ_ok, ↓goQ_nx, ↓goQ_ct, ↓goQ_bk, ↓goQ_rt, ↓Wq_tryS, Wq_tryS, ↓tryQ_rt, ↓tryQ_nx, ↓tryQ_ct, ↓tryQ_bk, ↓tryQ_err, ↓endQ_err, ↓erQ_err, ↓hndQ_rt, hndS_some, hndS_none, ↓goQ_err, ↓cutQ_err, ↓itemQ_some, ↓itemQ_none, ↓itemS_ok, ↓tryNQ_rt, ↓tryNQ_nx, ↓whlQ_true, ↓whlQ_false, cutQ_nx, cutQ_rt, ↓ite_HR, ↓ite_HS, ↓IfH_true, ↓IfH_false, IfH_true, IfH_false, Wq_IfH, Wq_bindH, Wq_toSH, Wq_thnH, exB, ↓exS_for, ↓exS_whl, ↓evA_lc, exS, evE, evEs, evT, evO, evA, evI, evC, tru, truT, binT, addT, mulT, intT, isIns, insOf_non, binE_non, cmE_non, insOf_bl, binE_bl, cmE_bl, insOf_int, binE_int, cmE_int, insOf_str, binE_str, cmE_str, insOf_lst, binE_lst, cmE_lst, insOf_tup, binE_tup, cmE_tup, insOf_dct, binE_dct, cmE_dct, insOf_kl, binE_kl, cmE_kl, insOf_bL, binE_bL, cmE_bL, insOf_bD, binE_bD, cmE_bD, insOf_ins, insOf_bI, insOf_rf, binE_rf, cmE_rf, fldT_ins, fldT_bI, fldT_rf, mx_0, mx_1, mx_2, mx_3, mx_4, mx_5, mx_01, mx_02, mx_03, mx_04, mx_05, mx_06, mx_07, mx_08, mx_09, mx_10, mx_11, mx_12, mx_13, mx_14, mx_15, cmpT, icmp, oR, idxT, idxSq, slT, bfT, intF, lenF, lenT, absF, gcdF, min2F, max2F, tupF, sumF, seqOf, lstOf, lstOf', walkOf_lst, walkOf_tup, walkOf_kl, walkOf_str, walkOf_rf, gdI_e, gdI_fld, gdF_eq, gdFO_some, gdFR_ok, isF_fldv, isF_fldf, isF_fldg, isF_fldi, isF_fldm, isF_fldc, isF_var, isF_cst, isF_glo, isF_idx, isF_tup, isF_sl, isF_call, isF_callK, isF_meth, isF_methK, isF_bf, isF_bm, isF_bin, isF_ife, isF_al, keysT_dct, keysT_rf, cellL_rf, walkOf_dct, wkM_dct, gdI_enum, gdI_rng1, gdI_rng2, gdI_rng3, gdI_zip, gdV_var, gdV_no, gdO_some, gdO_none, gdO_sn, gdT_eq, gdM_some, gdM_rf, gdC_lst, wk_eq, wkM_some, wkM_rf, wkM_nw, lstC_lst, isV_var, isV_fld, isV_cst, isV_glo, isV_idx, isV_tup, isV_sl, isV_call, isV_callK, isV_meth, isV_methK, isV_bf, isV_bm, isV_bin, isV_ife, isV_al, forC_nil, lcC_nil, List.nil_append, putI, stF, lkF, putF, lkN, kdAny, kd_non, kd_bl, kd_int, kd_str, kd_tup, kd_lst, kd_bL, kd_kl, kd_ins, kk_ii, kk_ib, kk_bi, kk_bb, kk_ss, kk_tt, kk_ll, kk_tl, kk_lt, kk_is, kk_si, kk_it, kk_il, kk_ti, kk_li, kk_st, kk_sl, kk_ts, kk_ls, onL, mbT, pl_non, pl_bl, pl_int, pl_str, pl_lst, pl_tup, pl_ins, pl_dct, pl_rf, pl_kl, pl_exc, pl_bL, pl_bD, pl_bI, arrT, isExc, isT, isNon, isBlv, ↓R.bind_H, R.bindH_ok, ↓R.toS_H, R.toSH_ok, ↓RS.thn_H, R.bindH_err, R.toSH_err, RS.thnH_err, endR_err, RS.thnH_nx, RS.thnH_rt, startT, setT, wipeT, freeTg, eqT_int, eqT_bl, List.all_cons, List.all_nil, List.map_cons, List.map_nil, List.zip_cons_cons, List.zip_nil_left, List.zip_nil_right, List.foldl_cons, List.foldl_nil, List.cons_append, List.nil_append, List.replicate, List.length_cons, List.length_nil, List.getElem?_cons_zero, List.getElem?_cons_succ, List.set_cons_zero, List.set_cons_succ, List.isEmpty_cons, List.isEmpty_nil, atI_0, atI_1, atI_2, atI_3, atI_4, ix51, ix52, ix53, ix54, Option.map_some, Option.map_none, Option.isSome_none, Option.isSome_some, Option.isNone_none, Option.isNone_some, eq_self, Option.bind_some, if_true, if_false, Bool.false_eq_true, Bool.and_false, Bool.false_and, Bool.not_false, Bool.not_true, Bool.and_true, Bool.true_and, Bool.or_false, Bool.or_true, Bool.false_or, Bool.true_or, Nat.reduceAdd, Nat.reduceSub, Nat.reduceEqDiff, freeS_eq, freeO_none, freeO_some, decide_true, decide_false, reduceCtorEq, endR_rt, endR_nx, endR_ini, iniV_nil, iniV_cons, isBI_int, isBI_str, isBI_lst, isBI_tup, isBI_ins, isBI_rf, isBI_bl, isBI_kl, isBI_non, isBI_dct, Nat.reduceLT, Nat.one_ne_zero, Nat.zero_ne_one]; repeat (first | refine IfQ.yes (mulOk_of (by omega) (by omega) (by omega) (by omega)) ?_ | refine IfQ.yes (divOk_of (by omega) (by omega) (by omega)) ?_ | refine IfQ.yes (by decide) ?_ | refine IfQ.no (by decide) ?_ | refine IfQ.yes (rngOk_of (by (try simp only [List.length_map, List.length_append, List.length_cons, List.length_nil, List.length_range]); omega) (by (try simp only [List.length_map, List.length_append, List.length_cons, List.length_nil, List.length_range]); omega)) ?_ | refine IfQ.yes (len_of (by simp only [List.length_map, List.length_append, List.length_cons, List.length_nil, List.length_replicate, rngT_len]; omega)) ?_ | refine IfQ.yes (shlOk_of (by omega) (by omega) (by omega) (by omega)) ?_ | simp -dsimp only [↓Wq_for_nil, Wq_for_nil, ↓Wq_tryN, ↓Wq_end, ↓IfQ_true, ↓IfQ_false, ↓Wq_ok, ↓Wq_err, ↓Wq_nx, ↓Wq_rt, ↓Wq_ct, ↓Wq_bk, ↓Wq_er, Wq_tryN, Wq_end, Wq_noErr, IfQ_true, IfQ_false, Wq_ok, Wq_err, Wq_nx, Wq_rt, Wq_ct, Wq_bk, Wq_er, ↓bindQ_ok, ↓bindQ_err, ↓toSQ_ok, ↓toSQ_err, ↓thnQ_nx, ↓thnQ_rt, ↓thnQ_ct, ↓thnQ_bk, ↓thnQ_err, ↓endQ_rt, ↓endQ_nx, ↓endQ_ini, ↓noQ_ok, ↓okQ_ok, ↓goQ_nx, ↓goQ_ct, ↓goQ_bk, ↓goQ_rt, ↓Wq_tryS, Wq_tryS, ↓tryQ_rt, ↓tryQ_nx, ↓tryQ_ct, ↓tryQ_bk, ↓tryQ_err, ↓endQ_err, ↓erQ_err, ↓hndQ_rt, hndS_some, hndS_none, ↓goQ_err, ↓cutQ_err, ↓itemQ_some, ↓itemQ_none, ↓itemS_ok, ↓tryNQ_rt, ↓tryNQ_nx, ↓whlQ_true, ↓whlQ_false, cutQ_nx, cutQ_rt, ↓ite_HR, ↓ite_HS, ↓IfH_true, ↓IfH_false, IfH_true, IfH_false, Wq_IfH, Wq_bindH, Wq_toSH, Wq_thnH, exB, ↓exS_for, ↓exS_whl, ↓evA_lc, exS, evE, evEs, evT, evO, evA, evI, evC, tru, truT, binT, addT, mulT, intT, isIns, insOf_non, binE_non, cmE_non, insOf_bl, binE_bl, cmE_bl, insOf_int, binE_int, cmE_int, insOf_str, binE_str, cmE_str, insOf_lst, binE_lst, cmE_lst, insOf_tup, binE_tup, cmE_tup, insOf_dct, binE_dct, cmE_dct, insOf_kl, binE_kl, cmE_kl, insOf_bL, binE_bL, cmE_bL, insOf_bD, binE_bD, cmE_bD, insOf_ins, insOf_bI, insOf_rf, binE_rf, cmE_rf, fldT_ins, fldT_bI, fldT_rf, mx_0, mx_1, mx_2, mx_3, mx_4, mx_5, mx_01, mx_02, mx_03, mx_04, mx_05, mx_06, mx_07, mx_08, mx_09, mx_10, mx_11, mx_12, mx_13, mx_14, mx_15, cmpT, icmp, oR, idxT, idxSq, slT, bfT, intF, lenF, lenT, absF, gcdF, min2F, max2F, tupF, sumF, seqOf, lstOf, lstOf', walkOf_lst, walkOf_tup, walkOf_kl, walkOf_str, walkOf_rf, gdI_e, gdI_fld, gdF_eq, gdFO_some, gdFR_ok, isF_fldv, isF_fldf, isF_fldg, isF_fldi, isF_fldm, isF_fldc, isF_var, isF_cst, isF_glo, isF_idx, isF_tup, isF_sl, isF_call, isF_callK, isF_meth, isF_methK, isF_bf, isF_bm, isF_bin, isF_ife, isF_al, keysT_dct, keysT_rf, cellL_rf, walkOf_dct, wkM_dct, gdI_enum, gdI_rng1, gdI_rng2, gdI_rng3, gdI_zip, gdV_var, gdV_no, gdO_some, gdO_none, gdO_sn, gdT_eq, gdM_some, gdM_rf, gdC_lst, wk_eq, wkM_some, wkM_rf, wkM_nw, lstC_lst, isV_var, isV_fld, isV_cst, isV_glo, isV_idx, isV_tup, isV_sl, isV_call, isV_callK, isV_meth, isV_methK, isV_bf, isV_bm, isV_bin, isV_ife, isV_al, forC_nil, lcC_nil, List.nil_append, putI, stF, lkF, putF, lkN, kdAny, kd_non, kd_bl, kd_int, kd_str, kd_tup, kd_lst, kd_bL, kd_kl, kd_ins, kk_ii, kk_ib, kk_bi, kk_bb, kk_ss, kk_tt, kk_ll, kk_tl, kk_lt, kk_is, kk_si, kk_it, kk_il, kk_ti, kk_li, kk_st, kk_sl, kk_ts, kk_ls, onL, mbT, pl_non, pl_bl, pl_int, pl_str, pl_lst, pl_tup, pl_ins, pl_dct, pl_rf, pl_kl, pl_exc, pl_bL, pl_bD, pl_bI, arrT, isExc, isT, isNon, isBlv, ↓R.bind_H, R.bindH_ok, ↓R.toS_H, R.toSH_ok, ↓RS.thn_H, R.bindH_err, R.toSH_err, RS.thnH_err, endR_err, RS.thnH_nx, RS.thnH_rt, startT, setT, wipeT, freeTg, eqT_int, eqT_bl, List.all_cons, List.all_nil, List.map_cons, List.map_nil, List.zip_cons_cons, List.zip_nil_left, List.zip_nil_right, List.foldl_cons, List.foldl_nil, List.cons_append, List.nil_append, List.replicate, List.length_cons, List.length_nil, List.getElem?_cons_zero, List.getElem?_cons_succ, List.set_cons_zero, List.set_cons_succ, List.isEmpty_cons, List.isEmpty_nil, atI_0, atI_1, atI_2, atI_3, atI_4, ix51, ix52, ix53, ix54, Option.map_some, Option.map_none, Option.isSome_none, Option.isSome_some, Option.isNone_none, Option.isNone_some, eq_self, Option.bind_some, if_true, if_false, Bool.false_eq_true, Bool.and_false, Bool.false_and, Bool.not_false, Bool.not_true, Bool.and_true, Bool.true_and, Bool.or_false, Bool.or_true, Bool.false_or, Bool.true_or, Nat.reduceAdd, Nat.reduceSub, Nat.reduceEqDiff, freeS_eq, freeO_none, freeO_some, decide_true, decide_false, reduceCtorEq, endR_rt, endR_nx, endR_ini, iniV_nil, iniV_cons, isBI_int, isBI_str, isBI_lst, isBI_tup, isBI_ins, isBI_rf, isBI_bl, isBI_kl, isBI_non, isBI_dct, Nat.reduceLT, Nat.one_ne_zero, Nat.zero_ne_one])))
  | `(tactic| simp only [zzR]) => `(tactic| simp -dsimp only [↓Wq_for_nil, Wq_for_nil, ↓Wq_tryN, ↓Wq_end, ↓IfQ_true, ↓IfQ_false, ↓Wq_ok, ↓Wq_err, ↓Wq_nx, ↓Wq_rt, ↓Wq_ct, ↓Wq_bk, ↓Wq_er, Wq_tryN, Wq_end, Wq_noErr, IfQ_true, IfQ_false, Wq_ok, Wq_err, Wq_nx, Wq_rt, Wq_ct, Wq_bk, Wq_er, ↓bindQ_ok, ↓bindQ_err, ↓toSQ_ok, ↓toSQ_err, ↓thnQ_nx, ↓thnQ_rt, ↓thnQ_ct, ↓thnQ_bk, ↓thnQ_err, ↓endQ_rt, ↓endQ_nx, ↓endQ_ini, ↓noQ_ok, ↓okQ_ok, ↓goQ_nx, ↓goQ_ct, ↓goQ_bk, ↓goQ_rt, ↓Wq_tryS, Wq_tryS, ↓tryQ_rt, ↓tryQ_nx, ↓tryQ_ct, ↓tryQ_bk, ↓tryQ_err, ↓endQ_err, ↓erQ_err, ↓hndQ_rt, hndS_some, hndS_none, ↓goQ_err, ↓cutQ_err, ↓itemQ_some, ↓itemQ_none, ↓itemS_ok, ↓tryNQ_rt, ↓tryNQ_nx, ↓whlQ_true, ↓whlQ_false, cutQ_nx, cutQ_rt, ↓ite_HR, ↓ite_HS, ↓IfH_true, ↓IfH_false, IfH_true, IfH_false, Wq_IfH, Wq_bindH, Wq_toSH, Wq_thnH, exB, ↓exS_for, ↓exS_whl, ↓evA_lc, exS, evE, evEs, evT, evO, evA, evI, evC, tru, truT, binT, addT, mulT, intT, isIns, insOf_non, binE_non, cmE_non, insOf_bl, binE_bl, cmE_bl, insOf_int, binE_int, cmE_int, insOf_str, binE_str, cmE_str, insOf_lst, binE_lst, cmE_lst, insOf_tup, binE_tup, cmE_tup, insOf_dct, binE_dct, cmE_dct, insOf_kl, binE_kl, cmE_kl, insOf_bL, binE_bL, cmE_bL, insOf_bD, binE_bD, cmE_bD, insOf_ins, insOf_bI, insOf_rf, binE_rf, cmE_rf, fldT_ins, fldT_bI, fldT_rf, mx_0, mx_1, mx_2, mx_3, mx_4, mx_5, mx_01, mx_02, mx_03, mx_04, mx_05, mx_06, mx_07, mx_08, mx_09, mx_10, mx_11, mx_12, mx_13, mx_14, mx_15, cmpT, icmp, oR, idxT, idxSq, slT, bfT, intF, lenF, lenT, absF, gcdF, min2F, max2F, tupF, sumF, seqOf, lstOf, lstOf', walkOf_lst, walkOf_tup, walkOf_kl, walkOf_str, walkOf_rf, gdI_e, gdI_fld, gdF_eq, gdFO_some, gdFR_ok, isF_fldv, isF_fldf, isF_fldg, isF_fldi, isF_fldm, isF_fldc, isF_var, isF_cst, isF_glo, isF_idx, isF_tup, isF_sl, isF_call, isF_callK, isF_meth, isF_methK, isF_bf, isF_bm, isF_bin, isF_ife, isF_al, keysT_dct, keysT_rf, cellL_rf, walkOf_dct, wkM_dct, gdI_enum, gdI_rng1, gdI_rng2, gdI_rng3, gdI_zip, gdV_var, gdV_no, gdO_some, gdO_none, gdO_sn, gdT_eq, gdM_some, gdM_rf, gdC_lst, wk_eq, wkM_some, wkM_rf, wkM_nw, lstC_lst, isV_var, isV_fld, isV_cst, isV_glo, isV_idx, isV_tup, isV_sl, isV_call, isV_callK, isV_meth, isV_methK, isV_bf, isV_bm, isV_bin, isV_ife, isV_al, forC_nil, lcC_nil, List.nil_append, putI, stF, lkF, putF, lkN, kdAny, kd_non, kd_bl, kd_int, kd_str, kd_tup, kd_lst, kd_bL, kd_kl, kd_ins, kk_ii, kk_ib, kk_bi, kk_bb, kk_ss, kk_tt, kk_ll, kk_tl, kk_lt, kk_is, kk_si, kk_it, kk_il, kk_ti, kk_li, kk_st, kk_sl, kk_ts, kk_ls, onL, mbT, pl_non, pl_bl, pl_int, pl_str, pl_lst, pl_tup, pl_ins, pl_dct, pl_rf, pl_kl, pl_exc, pl_bL, pl_bD, pl_bI, arrT, isExc, isT, isNon, isBlv, ↓R.bind_H, R.bindH_ok, ↓R.toS_H, R.toSH_ok, ↓RS.thn_H, R.bindH_err, R.toSH_err, RS.thnH_err, endR_err, RS.thnH_nx, RS.thnH_rt, startT, setT, wipeT, freeTg, eqT_int, eqT_bl, List.all_cons, List.all_nil, List.map_cons, List.map_nil, List.zip_cons_cons, List.zip_nil_left, List.zip_nil_right, List.foldl_cons, List.foldl_nil, List.cons_append, List.nil_append, List.replicate, List.length_cons, List.length_nil, List.getElem?_cons_zero, List.getElem?_cons_succ, List.set_cons_zero, List.set_cons_succ, List.isEmpty_cons, List.isEmpty_nil, atI_0, atI_1, atI_2, atI_3, atI_4, ix51, ix52, ix53, ix54, Option.map_some, Option.map_none, Option.isSome_none, Option.isSome_some, Option.isNone_none, Option.isNone_some, eq_self, Option.bind_some, if_true, if_false, Bool.false_eq_true, Bool.and_false, Bool.false_and, Bool.not_false, Bool.not_true, Bool.and_true, Bool.true_and, Bool.or_false, Bool.or_true, Bool.false_or, Bool.true_or, Nat.reduceAdd, Nat.reduceSub, Nat.reduceEqDiff, freeS_eq, freeO_none, freeO_some, decide_true, decide_false, reduceCtorEq, endR_rt, endR_nx, endR_ini, iniV_nil, iniV_cons, isBI_int, isBI_str, isBI_lst, isBI_tup, isBI_ins, isBI_rf, isBI_bl, isBI_kl, isBI_non, isBI_dct, Nat.reduceLT, Nat.one_ne_zero, Nat.zero_ne_one])
section
set_option maxRecDepth 100000
set_option maxHeartbeats 4000000
set_option linter.all false
open Kb
namespace K02
/-! ### the tape (tape.lx) -/
structure Tp where
  gs : List Int
  s : Int
  t : Int
def tpC (st : Tp) : Hl := [.lst (st.gs.map T.int), .lst [.rf 0, .int st.s, .int st.t]]
structure TpOk (st : Tp) (k : Nat) : Prop where
  g : ∀ x ∈ st.gs, 0 ≤ x
  n : st.gs.length ≤ 63
  s0 : 0 ≤ st.s
  s1 : st.s < 4294967296
  t0 : 0 ≤ st.t
  t1 : st.t ≤ k
theorem TpOk.mono {st : Tp} {k k' : Nat} (o : TpOk st k) (h : k ≤ k') : TpOk st k' := ⟨o.g, o.n, o.s0, o.s1, o.t0, by have := o.t1; omega⟩
theorem ix31 : ixN 3 1 = some 1 := by decide
theorem ix32 : ixN 3 2 = some 2 := by decide
theorem draw_run (W d : Nat) (st : Tp) (hs : Hl) (k : Nat) (ok : TpOk st k) (hk : k < 1000000) (m : Int) (h0 : 0 < m) (h1 : m < 2 ^ 100) :
    ∃ r st', run prog W (d + 1) 9 [.rf 1, .int m] (tpC st ++ hs) = .ok (.int r) (tpC st' ++ hs) ∧ 0 ≤ r ∧ r < m ∧ TpOk st' (k + 1) := by
  obtain ⟨gs, s, t⟩ := st
  obtain ⟨g0, n0, s0, s1, t0, t1⟩ := ok
  simp only at g0 n0 s0 s1 t0 t1
  have dm : divOk m = true := divOk_of (by omega) (by omega) (by omega)
  have mm : decide (m ≠ 0) = true := modOk h0
  rcases List.eq_nil_or_concat gs with rfl | ⟨l, g, rfl⟩
  · have hx2 : mulOk (s + (t + 1)) 69621 = true := mulOk_of (by omega) (by omega) (by decide) (by decide)
    have b1 : (t + 1) * (t + 1) ≤ 1000001 * 1000001 := Int.mul_le_mul (by omega) (by omega) (by omega) (by decide)
    have b0 : 0 ≤ (t + 1) * (t + 1) := Int.mul_nonneg (by omega) (by omega)
    have hx1 : mulOk (t + 1) (t + 1) = true := mulOk_of (by omega) (by omega) (by omega) (by omega)
    have hx3 : mulOk ((t + 1) * (t + 1)) 40692 = true := mulOk_of (by omega) (by omega) (by decide) (by decide)
    have hx4 : mulOk (t + 1) 48271 = true := mulOk_of (by omega) (by omega) (by decide) (by decide)
    have m1 : decide ((2147483629 : Int) ≠ 0) = true := by decide
    have m2 : decide ((2147483647 : Int) ≠ 0) = true := by decide
    have d1 : divOk 11 = true := by decide
    have f1 : ∀ i, fmodI i 2147483629 = i % 2147483629 := fun i => fmod_pos (by decide)
    have f2 : ∀ i, fmodI i 2147483647 = i % 2147483647 := fun i => fmod_pos (by decide)
    have f3 : ∀ i, fdivI i 11 = i / 11 := fun i => fdiv_pos (by decide)
    refine ⟨_, ⟨[], s, t + 1⟩, ?_, Int.emod_nonneg (((((s + (t + 1)) * 69621 + (t + 1) * (t + 1) * 40692) % 2147483629) * (((s + (t + 1)) * 69621 + (t + 1) * (t + 1) * 40692) % 2147483629) + (t + 1) * 48271) % 2147483647 / 11) (by omega), Int.emod_lt_of_pos _ h0, ⟨by simp, by simp, s0, s1, by show 0 ≤ t + 1; omega, by show t + 1 ≤ ((k + 1 : Nat) : Int); omega⟩⟩
    have r0 : 0 ≤ ((s + (t + 1)) * 69621 + (t + 1) * (t + 1) * 40692) % 2147483629 := Int.emod_nonneg _ (by decide)
    have r1 : ((s + (t + 1)) * 69621 + (t + 1) * (t + 1) * 40692) % 2147483629 < 2147483629 := Int.emod_lt_of_pos _ (by decide)
    rw [run_eq (rfl : prog.defs[9]? = some ⟨2, 5, b__law_draw⟩) rfl]
    generalize hz : ((s + (t + 1)) * 69621 + (t + 1) * (t + 1) * 40692) % 2147483629 = z at *
    have hx5 : mulOk z z = true := mulOk_of (by omega) (by omega) (by omega) (by omega)
    simp only [zzO, b__law_draw, tpC, hx1, hx2, hx3, hx4, hx5, m1, m2, d1, f1, f2, f3, hz, mm, fmod_pos h0, ix31, ix32]
  · rw [List.concat_eq_append] at g0 n0
    have gp : 0 ≤ g := g0 g (by simp)
    have hn : l.length < 63 := by rw [List.length_append, List.length_singleton] at n0; omega
    have ml : decide ((l.map T.int).length < maxLen) = true := decide_eq_true (by rw [List.length_map]; exact Nat.lt_trans hn (by decide))
    have gl : ((l ++ [g]).map T.int).getLast? = some (.int g) := by simp
    have dl : ((l ++ [g]).map T.int).dropLast = l.map T.int := by simp
    have ie : ((l ++ [g]).map T.int).isEmpty = false := by simp
    refine ⟨g % m, ⟨if m ≤ g then l ++ [g / m] else l, s, t⟩, ?_, Int.emod_nonneg _ (by omega), Int.emod_lt_of_pos _ h0, ⟨fun x hx => ?_, ?_, s0, s1, t0, by show t ≤ ((k + 1 : Nat) : Int); omega⟩⟩
    · rw [run_eq (rfl : prog.defs[9]? = some ⟨2, 5, b__law_draw⟩) rfl]
      by_cases c : m ≤ g
      · have c1 : decide (m ≤ g) = true := by simpa using c
        have am : l.map T.int ++ [.int (g / m)] = (l ++ [g / m]).map T.int := by simp
        simp only [zzO, b__law_draw, tpC, if_pos c, List.concat_eq_append, gl, dl, ie, ml, dm, mm, fmod_pos h0, fdiv_pos h0, c1, am]
      · have c1 : decide (m ≤ g) = false := by simpa using c
        simp only [zzO, b__law_draw, tpC, if_neg c, List.concat_eq_append, gl, dl, ie, ml, dm, mm, fmod_pos h0, fdiv_pos h0, c1]
    · simp only at hx
      split at hx
      · rcases List.mem_append.mp hx with h | h
        · exact g0 x (by simp [h])
        · simp at h; subst h; exact Int.ediv_nonneg gp (by omega)
      · exact g0 x (by simp [hx])
    · show (if m ≤ g then l ++ [g / m] else l).length ≤ 63
      split
      · simp; omega
      · omega
theorem cut63 (ns : List Int) (hn : ns.length ≤ 63) : cutT (ns.map T.int) none (some 63) = ns.map T.int := by
  unfold cutT sIx
  simp only [List.drop_zero, List.length_map]
  rw [if_neg (by decide)]
  exact List.take_of_length_le (by rw [List.length_map]; show _ ≤ min 63 _ - 0; omega)
theorem oi_none : (none : Option T) = oi none := rfl
theorem tape_run (W d : Nat) (ns : List Int) (hn : ns.length ≤ 63) : ∃ st, run prog W (d + 1) 8 [.kl ns] [] = .ok (.rf 1) (tpC st) ∧ TpOk st 0 := by
  have p18 : powOk 10 18 = true := by decide
  have m2 : decide ((2147483647 : Int) ≠ 0) = true := by decide
  have f2 : ∀ i, fmodI i 2147483647 = i % 2147483647 := fun i => fmod_pos (by decide)
  obtain ⟨σ', h', e, gs, s, c, rfl, rfl, l1, g1, s0, s1⟩ := for_list (f := bodyF prog (run prog W d) W b__law_tape_L1) (i := 3) T.int
    (fun j σ h => ∃ (gs : List Int) (s : Int) (c : Option Int), σ = [some (.kl ns), some (.rf 0), some (.int s), oi c] ∧ h = [.lst (gs.map T.int)] ∧ gs.length ≤ j ∧ (∀ x ∈ gs, 0 ≤ x) ∧ 0 ≤ s ∧ s < 4294967296) ns
    [some (.kl ns), some (.rf 0), some (.int 3), oi none] [.lst []] ⟨[], 3, none, rfl, rfl, Nat.le_refl _, by simp, by decide, by decide⟩ (fun j a σ h ha hi => by
      obtain ⟨gs, s, c, rfl, rfl, l1, g1, s0, s1⟩ := hi
      refine ⟨free_oi c, ?_⟩
      have hx : mulOk s 48271 = true := mulOk_of (by omega) (by omega) (by decide) (by decide)
      have r0 : 0 ≤ (s * 48271 + a) % 2147483647 := Int.emod_nonneg _ (by decide)
      have r1 : (s * 48271 + a) % 2147483647 < 2147483647 := Int.emod_lt_of_pos _ (by decide)
      have jl : j < ns.length := (List.getElem?_eq_some_iff.mp ha).1
      generalize hz : (s * 48271 + a) % 2147483647 = z at *
      have ml : decide ((gs.map T.int).length < maxLen) = true := decide_eq_true (by rw [List.length_map]; exact Nat.lt_of_le_of_lt (show gs.length ≤ 63 by omega) (by decide))
      generalize hb : (if a < 0 then -a else a) = b
      have b0 : 0 ≤ b := by rw [← hb]; split <;> omega
      by_cases q : (10 : Int) ^ (18 : Int).toNat ≤ b
      · have q1 : decide ((10 : Int) ^ (18 : Int).toNat ≤ b) = true := by simpa using q
        have am : gs.map T.int ++ [.int b] = (gs ++ [b]).map T.int := by simp
        simp only [zzO, bodyF, b__law_tape_L1, hx, m2, f2, hz, p18, hb, q1, ml, am]
        exact Goes.nx ⟨gs ++ [b], z, some a, rfl, rfl, by simp; omega, fun x hx => by
          rcases List.mem_append.mp hx with h | h
          · exact g1 x h
          · simp at h; subst h; exact b0, r0, by omega⟩
      · have q1 : decide ((10 : Int) ^ (18 : Int).toNat ≤ b) = false := by simpa using q
        simp only [zzO, bodyF, b__law_tape_L1, hx, m2, f2, hz, p18, hb, q1]
        exact Goes.nx ⟨gs, z, some a, rfl, rfl, by omega, g1, r0, by omega⟩)
  refine ⟨⟨gs.reverse, s, 0⟩, ?_, ⟨by simpa using g1, by simp; omega, s0, s1, by show (0 : Int) ≤ 0; decide, by show (0 : Int) ≤ 0; decide⟩⟩
  have c63 := cut63 ns hn
  have z3 : decide ((0 + 1 + 1 + 1 : Nat) ≤ maxLen) = true := by decide
  have z0 : decide ((0 : Nat) ≤ maxLen) = true := by decide
  have e' : forG (bodyF prog (run prog W d) W b__law_tape_L1) [3] (ns.map T.int) [some (.kl ns), some (.rf 0), some (.int 3), none] [.lst []] = _ := e
  rw [run_eq (rfl : prog.defs[8]? = some ⟨1, 4, b__law_tape⟩) rfl]
  simp only [zzO, b__law_tape, tpC, c63, e', z3, z0, List.map_reverse]
end K02
end
section
set_option maxRecDepth 100000
set_option maxHeartbeats 4000000
set_option linter.all false
open Kb
namespace K02
/-! ### numbers, words, rows (codes.lx) -/
/-- a word of bits -/
def bC (b : Bool) : Nat := if b then 49 else 48
def wT (w : List Bool) : T := .str (w.map bC)
theorem plain_wT (w : List Bool) : plainT (wT w) = true := rfl
theorem isBI_wT (w : List Bool) : isBI (wT w) = false := rfl
theorem walk_wT (w : List Bool) (h : w.length ≤ 1000000) : walkOf (wT w) = some (w.map fun b => T.str [bC b]) := by
  show walkOf (.str (w.map bC)) = _
  rw [walkOf_str _ (decide_eq_true (by rw [List.length_map]; unfold maxLen; omega)), List.map_map]; rfl
theorem in01 (b : Bool) (h : Hl) : inT (.str [bC b]) (.str [48, 49]) h = some true := by cases b <;> rfl
def bI (b : Bool) : Int := if b then 1 else 0
/-! ### words: pieces, joins, looks (words.lx) -/
theorem strF_b (b : Bool) (h : Hl) : strF [.int (bI b)] h = .ok (.str [bC b]) h := by cases b <;> rfl
theorem intF_b (b : Bool) (h : Hl) : intF [.str [bC b]] h = .ok (.int (bI b)) h := by cases b <;> rfl
theorem bin_wW (P : Prog) (call : Nat → List T → Hl → R T) (w u : List Bool) (h : Hl) (hw : w.length ≤ 1000000) (hu : u.length ≤ 1000000) : binE P call .add (wT w) (wT u) h = .ok (wT (w ++ u)) h := by
  show (if (w.map bC).length + (u.map bC).length ≤ maxLen then R.ok (T.str (w.map bC ++ u.map bC)) h else .stuck) = _
  rw [if_pos (by rw [List.length_map, List.length_map]; unfold maxLen; omega)]
  unfold wT; rw [List.map_append]
theorem bin_wT (P : Prog) (call : Nat → List T → Hl → R T) (w : List Bool) (b : Bool) (h : Hl) (hw : w.length ≤ 1000000) : binE P call .add (wT w) (.str [bC b]) h = .ok (wT (w ++ [b])) h := bin_wW P call w [b] h hw (by show 1 ≤ 1000000; decide)
theorem bin_w0 (P : Prog) (call : Nat → List T → Hl → R T) (w : List Bool) (h : Hl) (hw : w.length ≤ 1000000) : binE P call .add (wT w) (.str [48]) h = .ok (wT (w ++ [false])) h := bin_wT P call w false h hw
theorem bin_w1 (P : Prog) (call : Nat → List T → Hl → R T) (w : List Bool) (h : Hl) (hw : w.length ≤ 1000000) : binE P call .add (wT w) (.str [49]) h = .ok (wT (w ++ [true])) h := bin_wT P call w true h hw
theorem idx_wT (w : List Bool) (k : Nat) (h : Hl) (hk : k < w.length) (hw : w.length ≤ 1000000) : idxT (wT w) (.int (k : Int)) h = .ok (.str [bC (w.getD k false)]) h := by
  show (if (w.map bC).length ≤ maxLen then (match atI (w.map bC) (k : Int) with
    | some c => R.ok (T.str [c]) h
    | none => .stuck) else .stuck) = _
  rw [if_pos (by rw [List.length_map]; unfold maxLen; omega), atI_nat, List.getElem?_map, List.getElem?_eq_getElem hk, List.getD_eq_getElem?_getD, List.getElem?_eq_getElem hk]; rfl
theorem cut_hi {α : Type} (xs : List α) (k : Nat) (hk : k ≤ xs.length) : cutT xs none (some (k : Int)) = xs.take k := by
  have e : sIx xs.length xs.length (some (k : Int)) = k := by unfold sIx; simp only; rw [if_neg (by omega)]; omega
  have e0 : sIx xs.length 0 none = 0 := rfl
  unfold cutT
  rw [e, e0, List.drop_zero, Nat.sub_zero]
theorem cut_lo {α : Type} (xs : List α) (k : Nat) (hk : k ≤ xs.length) : cutT xs (some (k : Int)) none = xs.drop k := by
  have e : sIx xs.length 0 (some (k : Int)) = k := by unfold sIx; simp only; rw [if_neg (by omega)]; omega
  have e0 : sIx xs.length xs.length none = xs.length := rfl
  unfold cutT
  rw [e, e0, List.take_of_length_le (by rw [List.length_drop]; omega)]
theorem sl_hi (w : List Bool) (k : Nat) (h : Hl) (hk : k ≤ w.length) (hw : w.length ≤ 1000000) : slT (wT w) none (some (k : Int)) h = .ok (wT (w.take k)) h := by
  show (if (w.map bC).length ≤ maxLen then R.ok (T.str (cutT (w.map bC) none (some (k : Int)))) h else .stuck) = _
  rw [if_pos (by rw [List.length_map]; unfold maxLen; omega), cut_hi _ k (by rw [List.length_map]; exact hk), ← List.map_take]; rfl
theorem sl_lo (w : List Bool) (k : Nat) (h : Hl) (hk : k ≤ w.length) (hw : w.length ≤ 1000000) : slT (wT w) (some (k : Int)) none h = .ok (wT (w.drop k)) h := by
  show (if (w.map bC).length ≤ maxLen then R.ok (T.str (cutT (w.map bC) (some (k : Int)) none)) h else .stuck) = _
  rw [if_pos (by rw [List.length_map]; unfold maxLen; omega), cut_lo _ k (by rw [List.length_map]; exact hk), ← List.map_drop]; rfl
theorem allStrs_map {α : Type} (g : α → List Nat) : ∀ l : List α, allStrs (l.map fun a => T.str (g a)) = some (l.map g)
  | [] => rfl
  | x :: xs => by simp only [List.map_cons, allStrs, allStrs_map g xs, Option.map_some]
theorem joinS_nil : ∀ l : List (List Nat), joinS [] l = l.flatten
  | [] => rfl
  | [x] => by simp [joinS]
  | x :: y :: l => by rw [joinS, joinS_nil (y :: l)]; simp
theorem flat1 (w : List Bool) : (w.map fun b => [bC b]).flatten = w.map bC := by
  induction w with
  | nil => rfl
  | cons a w ih => rw [List.map_cons, List.flatten_cons, ih]; rfl
theorem sum1 (w : List Bool) : ((w.map fun b => [bC b]).map List.length).sum = w.length := by
  induction w with
  | nil => rfl
  | cons a w ih => rw [List.map_cons, List.map_cons, List.sum_cons, ih, List.length_cons]; show 1 + w.length = w.length + 1; omega
theorem join_w (w : List Bool) (h : Hl) (hw : w.length ≤ 1000000) : joinF (.str []) [.lst (w.map fun b => T.str [bC b])] h = .ok (wT w) h := by
  show (match (some (w.map fun b => T.str [bC b])).bind allStrs with
    | some ss => if (ss.map List.length).sum + [].length * ss.length ≤ maxLen then R.ok (T.str (joinS [] ss)) h else .stuck
    | none => .stuck) = _
  rw [Option.bind_some, allStrs_map]
  show (if ((w.map fun b => [bC b]).map List.length).sum + 0 * (w.map fun b => [bC b]).length ≤ maxLen then R.ok (T.str (joinS [] (w.map fun b => [bC b]))) h else .stuck) = _
  rw [sum1, Nat.zero_mul, if_pos (by unfold maxLen; omega), joinS_nil, flat1]; rfl
theorem dat_wT (w : List Bool) (h : Hl) (n : Nat) : dat h (n + 1) (wT w) = some (.str (w.map bC)) := by
  show datS (w.map bC) = _
  unfold datS
  rw [if_pos]
  rw [List.all_eq_true]
  intro c hc
  obtain ⟨b, _, rfl⟩ := List.mem_map.mp hc
  cases b <;> decide
theorem bC_inj : ∀ (a b : List Bool), a.map bC = b.map bC → a = b := by
  intro a
  induction a with
  | nil => intro b h; cases b with
    | nil => rfl
    | cons y b => simp at h
  | cons x a ih => intro b h; cases b with
    | nil => simp at h
    | cons y b =>
      rw [List.map_cons, List.map_cons, List.cons.injEq] at h
      rw [ih b h.2]
      have : x = y := by
        have := h.1
        cases x <;> cases y <;> first | rfl | (exact absurd this (by decide))
      rw [this]
theorem eqT_wT (a b : List Bool) (h : Hl) : eqT h (wT a) (wT b) = some (decide (a = b)) := by
  unfold eqT
  rw [dat_wT, dat_wT]
  show some ((a.map bC) == (b.map bC)) = _
  congr 1
  rw [Bool.eq_iff_iff, beq_iff_eq, decide_eq_true_eq]
  exact ⟨bC_inj a b, fun e => by rw [e]⟩
theorem eqT_bI (a b : Bool) (h : Hl) : eqT h (.int (bI b)) (.int (bI a)) = some (b == a) := by
  rw [eqT_int]; cases a <;> cases b <;> rfl
theorem last_get {α : Type} (h : List α) (x : α) : (h ++ [x])[h.length]? = some x := by simp
theorem last_set {α : Type} (h : List α) (x y : α) : (h ++ [x]).set h.length y = h ++ [y] := by simp
theorem atI_getD {α : Type} (g : α → T) (l : List α) (d : α) (k : Nat) (h : k < l.length) : atI (l.map g) (k : Int) = some (g (l.getD k d)) := by
  rw [atI_nat, List.getElem?_map, List.getElem?_eq_getElem h, List.getD_eq_getElem?_getD, List.getElem?_eq_getElem h]; rfl
theorem sum_rng (γ : Nat → Int) (n : Nat) (h : Hl) : sumF [.lst ((List.range n).map fun j => T.int (γ j))] h = .ok (.int ((List.range n).map γ).sum) h := by
  have e : ((List.range n).map fun j => T.int (γ j)) = ((List.range n).map γ).map T.int := by rw [List.map_map]; rfl
  rw [e]
  show (match (some (((List.range n).map γ).map T.int)).bind allInts with
    | some ns => R.ok (T.int ns.sum) h
    | none => .stuck) = _
  rw [Option.bind_some, allInts_ints]
theorem take_g {w : List Bool} {j : Nat} (h : j < w.length) : w.take (j + 1) = w.take j ++ [w.getD j false] := by
  refine take_S ?_
  rw [List.getD_eq_getElem?_getD, List.getElem?_eq_getElem h]; rfl
def numAt (fs : List Nat) (p : Nat) : Nat := fs.getD p 0
theorem num_set {bs : List Nat} {p : Nat} (x q : Nat) (hp : p < bs.length) : numAt (bs.set p x) q = if q = p then x else numAt bs q := by
  unfold numAt
  rw [List.getD_eq_getElem?_getD, List.getD_eq_getElem?_getD]
  by_cases c : q = p
  · subst c; rw [if_pos rfl, List.getElem?_set_self hp]; rfl
  · rw [if_neg c, List.getElem?_set_ne (fun z => c z.symm)]
/-! ### drawn bits, by a tape (tapebits0.lx) -/
theorem draw_t {W d : Nat} {st : Tp} {hs : Hl} {k : Nat} {Q : R T → Prop} {t : Tg Q} {m : Int} (ok : TpOk st k) (hk : k < 1000000) (h0 : 0 < m) (h1 : m < 2 ^ 100) (K : ∀ (r : Nat) st', (r : Int) < m → TpOk st' (k + 1) → Q (.ok (.int (r : Int)) (tpC st' ++ hs))) : Wq (run prog W (d + 1) 9 [.rf 1, .int m] (tpC st ++ hs)) Q t := by
  obtain ⟨r, st', e, r0, r1, o⟩ := draw_run W d st hs k ok hk m h0 h1
  obtain ⟨r, rfl⟩ := Int.eq_ofNat_of_zero_le r0
  exact Wq.fact e ⟨K r st' r1 o⟩
theorem two_b' (r : Nat) (h : (r : Int) < 2) : ∃ b, (r : Int) = bI b := by
  have : r = 0 ∨ r = 1 := by omega
  rcases this with rfl | rfl
  · exact ⟨false, rfl⟩
  · exact ⟨true, rfl⟩
theorem idx01' (b : Bool) (h : Hl) : idxT (.str [48, 49]) (.int (bI b)) h = .ok (.str [bC b]) h := by cases b <;> rfl
end K02
end
section
set_option maxRecDepth 100000
set_option maxHeartbeats 4000000
set_option linter.all false
open Kb
namespace K02
/-! ### shares (shares.lx) -/
def shF (q : Rat) : List (Nat × T) := [(0, .int q.num), (1, .int ((q.den : Nat) : Int))]
def sh (q : Rat) : T := .ins 2 (shF q)
theorem insOf_sh (q : Rat) (h : Hl) : insOf (sh q) h = some (2, shF q) := rfl
theorem plainT_sh (q : Rat) : plainT (sh q) = true := rfl
theorem isBor_sh (q : Rat) : isBor (sh q) = false := rfl
theorem isExc_sh (q : Rat) : isExc (sh q) = false := rfl
theorem isBI_sh (q : Rat) : isBI (sh q) = false := by unfold sh isBI; exact Eq.refl _
theorem over_sh (q : Rat) (h : Hl) : fldT (sh q) 0 h = .ok (.int q.num) h := rfl
theorem under_sh (q : Rat) (h : Hl) : fldT (sh q) 1 h = .ok (.int ((q.den : Nat) : Int)) h := rfl
theorem kd_sh (q : Rat) (h : Hl) (c : Nat) : kdOf (.cls c) (sh q) h = some (decide (c = 2)) := by
  show some (decide (Kd.cls c = Kd.cls 2)) = _
  simp
theorem lk_shF (q : Rat) (m : Nat) (hm : ¬ m = 0) (hm2 : ¬ m = 1) : lkF m (shF q) = none := by
  show (if 0 = m then _ else if 1 = m then _ else _) = _
  rw [if_neg (fun e => hm e.symm), if_neg (fun e => hm2 e.symm)]; rfl
theorem sh_fold (q : Rat) : T.ins 2 (shF q) = sh q := rfl
theorem sh_cls : prog.cls[2]? = some ⟨1, (some 1), [(4, 2), (5, 3), (6, 4), (7, 5), (2, 6)], [], []⟩ := rfl
/-- sizes that no operation passes by -/
def Big : Nat := 2 ^ 4000
def Sz (q : Rat) : Prop := q.num.natAbs < Big ∧ q.den < Big
theorem mulOk_n {i j : Int} (h1 : i.natAbs < Big) (h2 : j.natAbs < Big) : mulOk i j = true := by
  have f : ∀ i : Int, i.natAbs < Big → i.natAbs.log2 < 4000 := fun i h => by
    by_cases z : i.natAbs = 0
    · rw [z]; decide
    · exact (Nat.log2_lt z).mpr h
  have := f i h1; have := f j h2
  simp only [mulOk, decide_eq_true_eq]; omega
theorem divOk_n {j : Int} (h0 : j ≠ 0) (h1 : j.natAbs < 2 ^ 8999) : divOk j = true := by
  have : j.natAbs.log2 < 8999 := (Nat.log2_lt (by omega)).mpr h1
  simp only [divOk, Bool.and_eq_true, decide_eq_true_eq]; exact ⟨h0, by omega⟩
theorem two_run (W d : Nat) (n : Int) (h : Hl) (h0 : 0 ≤ n) (h1 : n ≤ 1000000) : run prog W (d + 1) 0 [.int n] h = .ok (.int (2 ^ n.toNat)) h := by
  have hs : shlOk 1 n = true := by
    simp only [shlOk, Bool.and_eq_true, decide_eq_true_eq]
    exact ⟨⟨h0, by omega⟩, by decide⟩
  rw [run_eq (rfl : prog.defs[0]? = some ⟨1, 1, b_two_to⟩) rfl]
  simp only [zzO, b_two_to, hs, Int.one_mul]
theorem ini_run (W d : Nat) (a b : Int) (h : Hl) (hb : b ≠ 0) (hb2 : b.natAbs < 2 ^ 8999) : run prog W (d + 1) 1 [.bI 2 [], .int a, .int b] h = .ok (.bI 2 (shF ((a : Rat) / (b : Rat)))) h := by
  obtain ⟨n1, n2⟩ := share_num a b hb
  have g0 := gg_pos a b hb
  have g1 := gg_le a b hb
  have d1 : divOk (gs a b) = true := by
    have : gs a b = if b < 0 then -(gg a b) else gg a b := rfl
    refine divOk_n ?_ ?_
    · rw [this]; split <;> omega
    · have : (gs a b).natAbs = (gg a b).natAbs := by rw [this]; split <;> omega
      rw [this]; omega
  have n0 : (b == 0) = false := by simpa using hb
  have eg : ((Nat.gcd a.natAbs b.natAbs : Nat) : Int) = gg a b := rfl
  have es : gs a b = if b < 0 then -(gg a b) else gg a b := rfl
  rw [run_eq (rfl : prog.defs[1]? = some ⟨3, 4, b_Shareu__initu_⟩) rfl]
  unfold shF
  by_cases c : b < 0
  · rw [if_pos c] at es
    rw [es] at n1 n2 d1
    have c1 : decide (b < 0) = true := by simpa using c
    simp only [zzO, b_Shareu__initu_, n0, c1, eg, d1, n1, n2]
  · rw [if_neg c] at es
    rw [es] at n1 n2 d1
    have c1 : decide (b < 0) = false := by simpa using c
    simp only [zzO, b_Shareu__initu_, n0, c1, eg, d1, n1, n2]
theorem rat_eq (q : Rat) : ((q.num : Int) : Rat) / ((q.den : Nat) : Rat) = q := by
  rw [← Rat.intCast_natCast, ← Rat.divInt_eq_div]; exact Rat.num_divInt_den q
theorem den_ne (q : Rat) : ((q.den : Nat) : Rat) ≠ 0 := fun z => q.den_nz (by exact_mod_cast z)
theorem rat_add (p q : Rat) : (((p.num * q.den + q.num * p.den : Int)) : Rat) / ((p.den * q.den : Int) : Rat) = p + q := by
  have h1 := den_ne p; have h2 := den_ne q
  conv => rhs; rw [← rat_eq p, ← rat_eq q]
  rw [Rat.intCast_add, Rat.intCast_mul, Rat.intCast_mul, Rat.intCast_mul, Rat.intCast_natCast, Rat.intCast_natCast]
  grind
theorem rat_sub (p q : Rat) : (((p.num * q.den - q.num * p.den : Int)) : Rat) / ((p.den * q.den : Int) : Rat) = p - q := by
  have h1 := den_ne p; have h2 := den_ne q
  conv => rhs; rw [← rat_eq p, ← rat_eq q]
  rw [Rat.intCast_sub, Rat.intCast_mul, Rat.intCast_mul, Rat.intCast_mul, Rat.intCast_natCast, Rat.intCast_natCast]
  grind
theorem rat_mul (p q : Rat) : (((p.num * q.num : Int)) : Rat) / ((p.den * q.den : Int) : Rat) = p * q := by
  have h1 := den_ne p; have h2 := den_ne q
  conv => rhs; rw [← rat_eq p, ← rat_eq q]
  rw [Rat.intCast_mul, Rat.intCast_mul, Rat.intCast_natCast, Rat.intCast_natCast]
  grind
theorem den_mul (p q : Rat) (hp : Sz p) (hq : Sz q) : ((p.den : Int) * q.den) ≠ 0 ∧ ((p.den : Int) * q.den).natAbs < 2 ^ 8999 := by
  have h1 := p.den_nz; have h2 := q.den_nz
  refine ⟨Int.mul_ne_zero (by omega) (by omega), ?_⟩
  rw [Int.natAbs_mul, Int.natAbs_natCast, Int.natAbs_natCast]
  refine Nat.lt_of_le_of_lt (Nat.mul_le_mul (Nat.le_of_lt hp.2) (Nat.le_of_lt hq.2)) ?_
  show 2 ^ 4000 * 2 ^ 4000 < 2 ^ 8999
  rw [← Nat.pow_add]; exact Nat.pow_lt_pow_right (by decide) (by decide)
theorem newT_sh (W d : Nat) (a b : Int) (h : Hl) (hb : b ≠ 0) (hb2 : b.natAbs < 2 ^ 8999) : newT prog (run prog W (d + 1)) 2 [.int a, .int b] h = .ok (sh ((a : Rat) / (b : Rat))) h := by
  have i := ini_run W d a b h hb hb2
  unfold newT
  simp only [zzO, sh_cls, i, sh_fold]
theorem add_run (W d : Nat) (p q : Rat) (h : Hl) (hp : Sz p) (hq : Sz q) : run prog W (d + 2) 3 [sh p, sh q] h = .ok (sh (p + q)) h := by
  obtain ⟨d1, d2⟩ := den_mul p q hp hq
  have i := newT_sh W d (p.num * q.den + q.num * p.den) _ h d1 d2
  rw [rat_add] at i
  have m1 : mulOk p.num q.den = true := mulOk_n hp.1 (by have := hq.2; omega)
  have m2 : mulOk q.num p.den = true := mulOk_n hq.1 (by have := hp.2; omega)
  have m3 : mulOk p.den q.den = true := mulOk_n (by have := hp.2; omega) (by have := hq.2; omega)
  rw [run_eq (rfl : prog.defs[3]? = some ⟨2, 2, b_Shareu__addu_⟩) rfl]
  simp only [zzO, b_Shareu__addu_, isBI_sh, insOf_sh, plainT_sh, isBor_sh, isExc_sh, over_sh, under_sh, kd_sh, sh_fold, sh_cls, m1, m2, m3, i]
theorem bin_add (W d : Nat) (p q : Rat) (h : Hl) (hp : Sz p) (hq : Sz q) : binE prog (run prog W (d + 2)) .add (sh p) (sh q) h = .ok (sh (p + q)) h := by
  show (run prog W (d + 2) 3 [sh p, sh q] h).noErr = _
  rw [add_run W d p q h hp hq]; rfl
theorem lt_big {n x : Nat} (hn : n ≤ 4000) (h : x < 2 ^ n) : x < Big := Nat.lt_of_lt_of_le h (Nat.pow_le_pow_right (by decide) hn)
theorem num_le (a b : Int) (hb : b ≠ 0) : ((a : Rat) / (b : Rat)).num.natAbs ≤ a.natAbs ∧ ((a : Rat) / (b : Rat)).den ≤ b.natAbs := by
  obtain ⟨n1, n2⟩ := share_num a b hb
  rw [fdivI_gs a b a hb (gg_dvd a b).1] at n1
  rw [fdivI_gs a b b hb (gg_dvd a b).2] at n2
  have g0 := gg_pos a b hb
  have f : ∀ x : Int, (x / gg a b).natAbs ≤ x.natAbs := fun x => Int.natAbs_ediv_le_natAbs _ _
  constructor
  · rw [← n1]; refine Nat.le_trans (f _) ?_; split <;> omega
  · have := f (if b < 0 then -b else b)
    rw [n2] at this
    split at this <;> omega
theorem Sz_div (a b : Int) (hb : b ≠ 0) (h1 : a.natAbs < Big) (h2 : b.natAbs < Big) : Sz ((a : Rat) / (b : Rat)) := by
  obtain ⟨n1, n2⟩ := num_le a b hb
  exact ⟨by omega, by omega⟩
theorem rat_ext (p q : Rat) (h1 : p.num = q.num) (h2 : ((p.den : Nat) : Int) = ((q.den : Nat) : Int)) : p = q := Rat.ext h1 (by omega)
theorem rat_eqb (p q : Rat) : ((p.num == q.num) && (((p.den : Nat) : Int) == ((q.den : Nat) : Int))) = decide (p = q) := by
  rw [Bool.eq_iff_iff, Bool.and_eq_true, beq_iff_eq, beq_iff_eq, decide_eq_true_eq]
  exact ⟨fun h => rat_ext p q h.1 h.2, fun h => by rw [h]; exact ⟨rfl, rfl⟩⟩
theorem eq_run (W d : Nat) (p q : Rat) (h : Hl) : run prog W (d + 1) 2 [sh p, sh q] h = .ok (.bl (decide (p = q))) h := by
  rw [run_eq (rfl : prog.defs[2]? = some ⟨2, 2, b_Shareu__equ_⟩) rfl, ← rat_eqb p q]
  have k : decide (2 = 2) = true := by decide
  generalize hy : (((p.den : Nat) : Int) == ((q.den : Nat) : Int)) = y
  generalize hx : (p.num == q.num) = x
  cases x <;> simp only [zzO, b_Shareu__equ_, isBI_sh, insOf_sh, plainT_sh, isBor_sh, isExc_sh, over_sh, under_sh, kd_sh, sh_fold, sh_cls, hx, hy, k]
/-! ### shares: times, less, below (share2.lx) -/
theorem mul_run (W d : Nat) (p q : Rat) (h : Hl) (hp : Sz p) (hq : Sz q) : run prog W (d + 2) 5 [sh p, sh q] h = .ok (sh (p * q)) h := by
  obtain ⟨d1, d2⟩ := den_mul p q hp hq
  have i := newT_sh W d (p.num * q.num) _ h d1 d2
  rw [rat_mul] at i
  have m1 : mulOk p.num q.num = true := mulOk_n hp.1 hq.1
  have m3 : mulOk p.den q.den = true := mulOk_n (by have := hp.2; omega) (by have := hq.2; omega)
  rw [run_eq (rfl : prog.defs[5]? = some ⟨2, 2, b_Shareu__mulu_⟩) rfl]
  simp only [zzO, b_Shareu__mulu_, isBI_sh, insOf_sh, plainT_sh, isBor_sh, isExc_sh, over_sh, under_sh, kd_sh, sh_fold, sh_cls, m1, m3, i]
theorem bin_mul (W d : Nat) (p q : Rat) (h : Hl) (hp : Sz p) (hq : Sz q) : binE prog (run prog W (d + 2)) .mul (sh p) (sh q) h = .ok (sh (p * q)) h := by
  show (run prog W (d + 2) 5 [sh p, sh q] h).noErr = _
  rw [mul_run W d p q h hp hq]; rfl
theorem sub_run (W d : Nat) (p q : Rat) (h : Hl) (hp : Sz p) (hq : Sz q) : run prog W (d + 2) 4 [sh p, sh q] h = .ok (sh (p - q)) h := by
  obtain ⟨d1, d2⟩ := den_mul p q hp hq
  have i := newT_sh W d (p.num * q.den - q.num * p.den) _ h d1 d2
  rw [rat_sub] at i
  have m1 : mulOk p.num q.den = true := mulOk_n hp.1 (by have := hq.2; omega)
  have m2 : mulOk q.num p.den = true := mulOk_n hq.1 (by have := hp.2; omega)
  have m3 : mulOk p.den q.den = true := mulOk_n (by have := hp.2; omega) (by have := hq.2; omega)
  rw [run_eq (rfl : prog.defs[4]? = some ⟨2, 2, b_Shareu__subu_⟩) rfl]
  simp only [zzO, b_Shareu__subu_, isBI_sh, insOf_sh, plainT_sh, isBor_sh, isExc_sh, over_sh, under_sh, kd_sh, sh_fold, sh_cls, m1, m2, m3, i]
theorem bin_sub (W d : Nat) (p q : Rat) (h : Hl) (hp : Sz p) (hq : Sz q) : binE prog (run prog W (d + 2)) .sub (sh p) (sh q) h = .ok (sh (p - q)) h := by
  show (run prog W (d + 2) 4 [sh p, sh q] h).noErr = _
  rw [sub_run W d p q h hp hq]; rfl
theorem below_run (W d : Nat) (p q : Rat) (h : Hl) (hp : Sz p) (hq : Sz q) : run prog W (d + 1) 6 [sh p, sh q] h = .ok (.bl (decide (p < q))) h := by
  have m1 : mulOk p.num q.den = true := mulOk_n hp.1 (by have := hq.2; omega)
  have m2 : mulOk q.num p.den = true := mulOk_n hq.1 (by have := hp.2; omega)
  have e : decide (p < q) = decide (p.num * q.den < q.num * p.den) := by
    rw [Bool.eq_iff_iff, decide_eq_true_eq, decide_eq_true_eq]; exact Rat.lt_iff p q
  rw [run_eq (rfl : prog.defs[6]? = some ⟨2, 2, b_Share_is_below⟩) rfl, e]
  simp only [zzO, b_Share_is_below, isBI_sh, insOf_sh, plainT_sh, isBor_sh, isExc_sh, over_sh, under_sh, kd_sh, sh_fold, sh_cls, m1, m2]
theorem lk_below (q : Rat) : lkF 2 (shF q) = none := lk_shF q _ (by decide) (by decide)
end K02
end
section
set_option maxRecDepth 100000
set_option maxHeartbeats 4000000
set_option linter.all false
open Kb
namespace K02
/-! ### lowest terms by remainders; shares held against them (k02a.lx) -/
def dL (q : Rat) : T := .lst [.int q.num, .int ((q.den : Nat) : Int)]
theorem eu_step {l r : Nat} (h : r < l) : 2 * (r * (l % r)) ≤ l * r := by
  by_cases z : r = 0
  · subst z; simp
  · have h1 : l % r < r := Nat.mod_lt _ (by omega)
    have h2 : l % r + r ≤ l := by
      have := Nat.div_add_mod l r
      have d : 1 ≤ l / r := (Nat.le_div_iff_mul_le (by omega)).mpr (by omega)
      have : r * 1 ≤ r * (l / r) := Nat.mul_le_mul_left _ d
      omega
    have h3 : 2 * (l % r) ≤ l := by omega
    calc 2 * (r * (l % r)) = r * (2 * (l % r)) := by rw [Nat.mul_left_comm]
      _ ≤ r * l := Nat.mul_le_mul_left _ h3
      _ = l * r := Nat.mul_comm _ _
theorem p4000 : (2 : Nat) ^ 4000 * 2 ^ 4000 < 2 ^ 8999 := by
  rw [← Nat.pow_add]
  exact Nat.pow_lt_pow_right (by decide) (by decide)
theorem low_run (W d : Nat) (a b : Int) (h : Hl) (hb : b ≠ 0) (ha2 : a.natAbs < 2 ^ 4000) (hb2 : b.natAbs < 2 ^ 4000) : run prog W (d + 1) 11 [.int a, .int b] h = .ok (dL ((a : Rat) / (b : Rat))) h := by
  suffices H : Wp (run prog W (d + 1) 11 [.int a, .int b] h) (fun r h' => r = dL ((a : Rat) / (b : Rat)) ∧ h' = h) by
    obtain ⟨_, _, q, rfl, rfl⟩ := H
    exact q
  have ab : (if a < 0 then -a else a) = ((a.natAbs : Nat) : Int) := by split <;> omega
  have bb : (if b < 0 then -b else b) = ((b.natAbs : Nat) : Int) := by split <;> omega
  have rk : rngOk 9000 = true := rfl
  have m2 : (2 ≤ maxLen) = True := le_of' (n := 2) (by omega)
  have pp := p4000
  have p0 : b.natAbs * a.natAbs < 2 ^ 8999 := by
    have : b.natAbs * a.natAbs ≤ 2 ^ 4000 * 2 ^ 4000 := Nat.mul_le_mul (by omega) (by omega)
    omega
  have q1 : (2 : Nat) ^ 4000 ≤ 2 ^ 8999 := Nat.pow_le_pow_right (by decide) (by decide)
  generalize hAn : a.natAbs = aN at *
  generalize hBn : b.natAbs = bN at *
  generalize hz : (2 : Nat) ^ 4000 = z40 at *
  have bN0 : 0 < bN := by omega
  refine Wq.run (rfl : prog.defs[11]? = some ⟨2, 6, b__law_lowest⟩) rfl ?_
  refine Wq.cut 3 (fun σ h' => h' = h ∧ ∃ o3 o4 o5, σ = [some (.int a), some (.int b), some (.int ((Nat.gcd bN aN : Nat) : Int)), o3, o4, o5]) ?_ ?_
  rotate_left
  · rintro σ h' ⟨rfl, o3, o4, o5, rfl⟩
    have gB : Nat.gcd bN aN ≤ bN := Nat.gcd_le_left _ bN0
    have g0 : 0 < Nat.gcd bN aN := Nat.gcd_pos_of_pos_left _ bN0
    have dk : divOk ((Nat.gcd bN aN : Nat) : Int) = true := divOk_n (by omega) (by rw [Int.natAbs_natCast]; omega)
    by_cases c : b < 0
    · have c1 : decide (b < 0) = true := decide_eq_true c
      obtain ⟨n1, n2⟩ := share_num (-a) (-b) (by omega)
      have es : gs (-a) (-b) = ((Nat.gcd bN aN : Nat) : Int) := by
        unfold gs gg
        rw [if_neg (by omega), Int.natAbs_neg, Int.natAbs_neg, hAn, hBn, Nat.gcd_comm]
      have re : (((-a : Int)) : Rat) / (((-b : Int)) : Rat) = (a : Rat) / (b : Rat) := by
        have hb' : ((b : Int) : Rat) ≠ 0 := by exact_mod_cast hb
        rw [Rat.intCast_neg, Rat.intCast_neg]
        grind
      rw [es, re] at n1 n2
      simp only [zzG, b__law_lowest, B.take, B.drop, cutQ_nx, cutQ_rt, c1, dk, n1, n2, m2]
      exact ⟨by first | exact True.intro | rfl, by first | exact True.intro | rfl⟩
    · have c1 : decide (b < 0) = false := decide_eq_false c
      obtain ⟨n1, n2⟩ := share_num a b hb
      have es : gs a b = ((Nat.gcd bN aN : Nat) : Int) := by
        unfold gs gg
        rw [if_neg c, hAn, hBn, Nat.gcd_comm]
      rw [es] at n1 n2
      simp only [zzG, b__law_lowest, B.take, B.drop, cutQ_nx, cutQ_rt, c1, dk, n1, n2, m2]
      exact ⟨by first | exact True.intro | rfl, by first | exact True.intro | rfl⟩
  simp only [zzG, b__law_lowest, B.take, B.drop, cutQ_nx, cutQ_rt, ab, bb, rk, hAn, hBn]
  refine Wq.forR (fun (j : Nat) σ h' => h' = h ∧ ∃ (l r : Nat) (o4 o5 : Option T), nb o4 ∧ nb o5 ∧ 0 < l ∧ Nat.gcd l r = Nat.gcd bN aN ∧ l ≤ z40 + z40 ∧ r ≤ z40 + z40 ∧ (j = 0 ∨ r < l) ∧ l * r * 2 ^ (j - 1) ≤ bN * aN ∧ σ = [some (.int a), some (.int b), some (.int (l : Nat)), some (.int (r : Nat)), o4, o5]) ⟨rfl, bN, aN, none, none, nb_none, nb_none, bN0, rfl, by omega, by omega, .inl rfl, by rw [Nat.zero_sub, Nat.pow_zero, Nat.mul_one]; exact Nat.le_refl _, rfl⟩ ?_ ?_
  · rintro j σ h' hj ⟨rfl, l, r, o4, o5, n4, n5, l0, hg, hl, hr, hc, hp, rfl⟩
    refine ⟨n4, ?_⟩
    unfold nb at n5
    by_cases r0 : r = 0
    · have rb : ((r : Int) == 0) = true := by rw [beq_iff_eq]; omega
      have lg : l = Nat.gcd bN aN := by rw [← hg, r0, Nat.gcd_zero_right]
      simp only [zzG, b__law_lowest_L1, B.take, B.drop, cutQ_nx, cutQ_rt, bodyF, rb]
      exact ⟨by first | exact True.intro | rfl, _, _, _, by rw [lg]⟩
    · have rb : ((r : Int) == 0) = false := by rw [beq_eq_false_iff_ne]; omega
      have md : ∀ f h, binE prog f .mod (.int (l : Int)) (.int (r : Int)) h = .ok (.int ((l % r : Nat) : Int)) h := fun f h => by
        show (if decide ((r : Int) ≠ 0) then R.ok (T.int (fmodI (l : Int) (r : Int))) h else .stuck) = _
        rw [if_pos (decide_eq_true (by omega))]
        unfold fmodI
        rw [if_pos (by omega)]
        rfl
      simp only [zzG, b__law_lowest_L1, -binE, -binE_int, bodyF, rb, md, n5]
      have m1 : l % r < r := Nat.mod_lt _ (by omega)
      refine ⟨by first | exact True.intro | rfl, r, l % r, _, _, nb_i _, nb_i _, by omega, ?_, by omega, by omega, .inr m1, ?_, by first | exact True.intro | rfl⟩
      · rw [← hg, Nat.gcd_comm l r, Nat.gcd_rec r l, Nat.gcd_comm]
      · rcases hc with rfl | hc
        · show r * (l % r) * 2 ^ 0 ≤ _
          rw [Nat.pow_zero, Nat.mul_one]
          have : l * r * 2 ^ (0 - 1) = l * r := by rw [Nat.zero_sub, Nat.pow_zero, Nat.mul_one]
          rw [this] at hp
          have : r * (l % r) ≤ r * l := Nat.mul_le_mul_left _ (Nat.mod_le _ _)
          rw [Nat.mul_comm r l] at this
          omega
        · by_cases j0 : j = 0
          · subst j0
            show r * (l % r) * 2 ^ 0 ≤ _
            rw [Nat.pow_zero, Nat.mul_one]
            have : l * r * 2 ^ (0 - 1) = l * r := by rw [Nat.zero_sub, Nat.pow_zero, Nat.mul_one]
            rw [this] at hp
            have : r * (l % r) ≤ r * l := Nat.mul_le_mul_left _ (Nat.mod_le _ _)
            rw [Nat.mul_comm r l] at this
            omega
          · have e := eu_step hc
            have : 2 ^ (j + 1 - 1) = 2 * 2 ^ (j - 1) := by
              rw [show j + 1 - 1 = (j - 1) + 1 by omega, Nat.pow_succ, Nat.mul_comm]
            rw [this, ← Nat.mul_assoc, Nat.mul_comm (r * (l % r)) 2]
            exact Nat.le_trans (Nat.mul_le_mul_right _ e) hp
  · rintro σ h' ⟨rfl, l, r, o4, o5, n4, n5, l0, hg, hl, hr, hc, hp, rfl⟩
    have j9 : ((9000 : Int) - 0).toNat = 9000 := rfl
    rw [j9] at hp hc
    have r0 : r = 0 := by
      by_cases r0 : r = 0
      · exact r0
      · exfalso
        have a1 : 1 ≤ l * r := Nat.mul_pos l0 (by omega)
        have a2 : 1 * 2 ^ (9000 - 1) ≤ l * r * 2 ^ (9000 - 1) := Nat.mul_le_mul_right _ a1
        have a3 : (2 : Nat) ^ (9000 - 1) = 2 ^ 8999 := rfl
        rw [a3] at a2 hp
        generalize (2 : Nat) ^ 8999 = zz at *
        omega
    have lg : l = Nat.gcd bN aN := by rw [← hg, r0, Nat.gcd_zero_right]
    simp only [zzG, B.take, B.drop, cutQ_nx, cutQ_rt]
    exact ⟨by first | exact True.intro | rfl, _, _, _, by rw [lg]⟩
theorem lint_run (W d : Nat) (i : Int) (h : Hl) : run prog W (d + 1) 12 [.int i, .int i] h = .ok (.bl true) h := by
  have b : (i == i) = true := by simp
  rw [run_eq (rfl : prog.defs[12]? = some ⟨2, 2, b__law_integer⟩) rfl]
  simp only [zzO, b__law_integer, b]
theorem is_run (W d : Nat) (q : Rat) (h : Hl) : run prog W (d + 2) 13 [sh q, dL q] h = .ok (.bl true) h := by
  have i1 := lint_run W d q.num h
  have i2 := lint_run W d ((q.den : Nat) : Int) h
  have kc : decide (2 = 2) = true := by decide
  rw [run_eq (rfl : prog.defs[13]? = some ⟨2, 2, b__law_is⟩) rfl]
  simp only [zzO, b__law_is, isBI_sh, insOf_sh, plainT_sh, isBor_sh, isExc_sh, over_sh, under_sh, kd_sh, sh_fold, sh_cls, dL, i1, i2, kc]
theorem den_nat (q : Rat) (h : q.den < 2 ^ 2000) : (((q.den : Nat) : Int)).natAbs < 2 ^ 2000 := by rw [Int.natAbs_natCast]; exact h
/-- small enough to be held against one another -/
def S2 (q : Rat) : Prop := q.num.natAbs < 2 ^ 1990 ∧ q.den < 2 ^ 1990
theorem S2.sz {q : Rat} (s : S2 q) : Sz q := ⟨lt_big (n := 1990) (by decide) s.1, lt_big (n := 1990) (by decide) s.2⟩
theorem mul_lt (a b : Int) (ha : a.natAbs < 2 ^ 1990) (hb : b.natAbs < 2 ^ 1990) : (a * b).natAbs < 2 ^ 3980 := by
  rw [Int.natAbs_mul, show 3980 = 1990 + 1990 from rfl, Nat.pow_add]
  exact Nat.mul_lt_mul_of_lt_of_lt ha hb
theorem sums_lt (a b : Int) (ha : a.natAbs < 2 ^ 3980) (hb : b.natAbs < 2 ^ 3980) : (a + b).natAbs < 2 ^ 4000 ∧ (a - b).natAbs < 2 ^ 4000 := by
  have e : (2 : Nat) ^ 4000 = 2 ^ 20 * 2 ^ 3980 := by rw [← Nat.pow_add]
  rw [e]
  generalize (2 : Nat) ^ 3980 = z at *
  have : 2 ^ 20 * z = 1048576 * z := rfl
  omega
theorem den_i (q : Rat) (s : S2 q) : (((q.den : Nat) : Int)).natAbs < 2 ^ 1990 := by rw [Int.natAbs_natCast]; exact s.2
theorem mk_2 (a b : Int) (ha : a.natAbs < 2 ^ 1990) (hb : b.natAbs < 2 ^ 1990) : mulOk a b = true := mulOk_n (lt_big (n := 1990) (by decide) ha) (lt_big (n := 1990) (by decide) hb)
theorem pw_le4 {x : Nat} (h : x < 2 ^ 3980) : x < 2 ^ 4000 := Nat.lt_of_lt_of_le h (Nat.pow_le_pow_right (by decide) (by decide))
theorem lsum_run (W d : Nat) (p q : Rat) (sp : S2 p) (sq : S2 q) (h : Hl) : run prog W (d + 2) 14 [dL p, dL q] h = .ok (dL (p + q)) h := by
  have dp := den_i p sp
  have dq := den_i q sq
  have m1 := mk_2 p.num q.den sp.1 dq
  have m2 := mk_2 q.num p.den sq.1 dp
  have m3 := mk_2 p.den q.den dp dq
  have nz : ((p.den : Int) * q.den) ≠ 0 := Int.mul_ne_zero (by have := p.den_nz; omega) (by have := q.den_nz; omega)
  have e := low_run W d (p.num * q.den + q.num * p.den) ((p.den : Int) * q.den) h nz (sums_lt _ _ (mul_lt _ _ sp.1 dq) (mul_lt _ _ sq.1 dp)).1 (pw_le4 (mul_lt _ _ dp dq))
  rw [rat_add] at e
  rw [run_eq (rfl : prog.defs[14]? = some ⟨2, 2, b__law_sum⟩) rfl]
  simp only [zzO, b__law_sum, dL, m1, m2, m3]
  unfold dL at e
  simp only [zzO, e]
theorem lless_run (W d : Nat) (p q : Rat) (sp : S2 p) (sq : S2 q) (h : Hl) : run prog W (d + 2) 15 [dL p, dL q] h = .ok (dL (p - q)) h := by
  have dp := den_i p sp
  have dq := den_i q sq
  have m1 := mk_2 p.num q.den sp.1 dq
  have m2 := mk_2 q.num p.den sq.1 dp
  have m3 := mk_2 p.den q.den dp dq
  have nz : ((p.den : Int) * q.den) ≠ 0 := Int.mul_ne_zero (by have := p.den_nz; omega) (by have := q.den_nz; omega)
  have e := low_run W d (p.num * q.den - q.num * p.den) ((p.den : Int) * q.den) h nz (sums_lt _ _ (mul_lt _ _ sp.1 dq) (mul_lt _ _ sq.1 dp)).2 (pw_le4 (mul_lt _ _ dp dq))
  rw [rat_sub] at e
  rw [run_eq (rfl : prog.defs[15]? = some ⟨2, 2, b__law_less⟩) rfl]
  simp only [zzO, b__law_less, dL, m1, m2, m3]
  unfold dL at e
  simp only [zzO, e]
theorem ltimes_run (W d : Nat) (p q : Rat) (sp : S2 p) (sq : S2 q) (h : Hl) : run prog W (d + 2) 16 [dL p, dL q] h = .ok (dL (p * q)) h := by
  have dp := den_i p sp
  have dq := den_i q sq
  have m1 := mk_2 p.num q.num sp.1 sq.1
  have m3 := mk_2 p.den q.den dp dq
  have nz : ((p.den : Int) * q.den) ≠ 0 := Int.mul_ne_zero (by have := p.den_nz; omega) (by have := q.den_nz; omega)
  have e := low_run W d (p.num * q.num) ((p.den : Int) * q.den) h nz (pw_le4 (mul_lt _ _ sp.1 sq.1)) (pw_le4 (mul_lt _ _ dp dq))
  rw [rat_mul] at e
  rw [run_eq (rfl : prog.defs[16]? = some ⟨2, 2, b__law_times⟩) rfl]
  simp only [zzO, b__law_times, dL, m1, m3]
  unfold dL at e
  simp only [zzO, e]
end K02
end
section
set_option maxRecDepth 100000
set_option maxHeartbeats 4000000
set_option linter.all false
open Kb
namespace K02
/-! ### pairs, strangers, refusals (k02b.lx) -/
theorem ow_eq (call : Nat → List T → Hl → R T) (p q : Rat) (h : Hl) : ownQ prog call (sh p) (sh q) h = (call 2 [sh p, sh q] h).noErr := rfl
theorem cq_eq (W d : Nat) (p q : Rat) (h : Hl) : cmpE prog (run prog W (d + 1)) .eq (sh p) (sh q) h = .ok (.bl (decide (p = q))) h := by
  show ((ownQ prog (run prog W (d + 1)) (sh p) (sh q) h).bind fun v h => match v with
    | .bl b => R.ok (T.bl (if COp.eq = COp.ne then !b else b)) h
    | _ => .stuck) = _
  rw [ow_eq, eq_run]; rfl
theorem cq_ne (W d : Nat) (p q : Rat) (h : Hl) : cmpE prog (run prog W (d + 1)) .ne (sh p) (sh q) h = .ok (.bl (!decide (p = q))) h := by
  show ((ownQ prog (run prog W (d + 1)) (sh p) (sh q) h).bind fun v h => match v with
    | .bl b => R.ok (T.bl (if COp.ne = COp.ne then !b else b)) h
    | _ => .stuck) = _
  rw [ow_eq, eq_run]; rfl
theorem eq_str (W d : Nat) (p : Rat) (y : T) (hy : strgT y = true) (h : Hl) : run prog W (d + 1) 2 [sh p, y] h = .ok (.bl false) h := by
  rw [run_eq (rfl : prog.defs[2]? = some ⟨2, 2, b_Shareu__equ_⟩) rfl]
  cases y <;> first
    | (cases hy; done)
    | simp only [zzO, b_Shareu__equ_, isBI_sh, insOf_sh, plainT_sh, isBor_sh, isExc_sh, over_sh, under_sh, kd_sh, sh_fold, sh_cls, or_self]
theorem ow_str (call : Nat → List T → Hl → R T) (p : Rat) (y : T) (hy : strgT y = true) (h : Hl) : ownQ prog call (sh p) y h = (call 2 [sh p, y] h).noErr := by
  cases y <;> first
    | rfl
    | cases hy
theorem cs_eq (W d : Nat) (p : Rat) (y : T) (hy : strgT y = true) (h : Hl) : cmpE prog (run prog W (d + 1)) .eq (sh p) y h = .ok (.bl false) h := by
  show ((ownQ prog (run prog W (d + 1)) (sh p) y h).bind fun v h => match v with
    | .bl b => R.ok (T.bl (if COp.eq = COp.ne then !b else b)) h
    | _ => .stuck) = _
  rw [ow_str _ _ _ hy, eq_str W d p y hy]; rfl
theorem cs_ne (W d : Nat) (p : Rat) (y : T) (hy : strgT y = true) (h : Hl) : cmpE prog (run prog W (d + 1)) .ne (sh p) y h = .ok (.bl true) h := by
  show ((ownQ prog (run prog W (d + 1)) (sh p) y h).bind fun v h => match v with
    | .bl b => R.ok (T.bl (if COp.ne = COp.ne then !b else b)) h
    | _ => .stuck) = _
  rw [ow_str _ _ _ hy, eq_str W d p y hy]; rfl
theorem i0_dL (q : Rat) (h : Hl) : idxT (dL q) (.int 0) h = .ok (.int q.num) h := rfl
theorem i1_dL (q : Rat) (h : Hl) : idxT (dL q) (.int 1) h = .ok (.int ((q.den : Nat) : Int)) h := rfl
theorem pl_dL (q : Rat) : plainT (dL q) = true := rfl
theorem bi_dL (q : Rat) : isBI (dL q) = false := rfl
theorem pair_run (W d : Nat) (p q : Rat) (sp : S2 p) (sq : S2 q) (h : Hl) : run prog W (d + 4) 17 [sh p, sh q, dL p, dL q] h = .ok (.bl true) h := by
  suffices H : Wp (run prog W (d + 4) 17 [sh p, sh q, dL p, dL q] h) (fun r h' => r = .bl true ∧ h' = h) by
    obtain ⟨_, _, q, rfl, rfl⟩ := H
    exact q
  have b1 := bin_add W (d + 1) p q h sp.sz sq.sz
  have b2 := bin_sub W (d + 1) p q h sp.sz sq.sz
  have b3 := bin_mul W (d + 1) p q h sp.sz sq.sz
  have l1 := lsum_run W (d + 1) p q sp sq h
  have l2 := lless_run W (d + 1) p q sp sq h
  have l3 := ltimes_run W (d + 1) p q sp sq h
  have s1 := is_run W (d + 1) (p + q) h
  have s2 := is_run W (d + 1) (p - q) h
  have s3 := is_run W (d + 1) (p * q) h
  have c1 := cq_eq W (d + 2) p q h
  have c2 := cq_ne W (d + 2) p q h
  have bl := below_run W (d + 2) p q h sp.sz sq.sz
  have e1 := rat_eqb p q
  have m1 := mk_2 p.num q.den sp.1 (den_i q sq)
  have m2 := mk_2 q.num p.den sq.1 (den_i p sp)
  have lt : decide (p.num * ((q.den : Nat) : Int) < q.num * ((p.den : Nat) : Int)) = decide (p < q) := by
    rw [Bool.eq_iff_iff, decide_eq_true_eq, decide_eq_true_eq]; exact (Rat.lt_iff p q).symm
  generalize hn : (p.num == q.num) = bn at *
  generalize hd : (((p.den : Nat) : Int) == ((q.den : Nat) : Int)) = bd at *
  generalize decide (p = q) = bq at *
  generalize decide (p < q) = bl' at *
  refine Wq.run (rfl : prog.defs[17]? = some ⟨4, 7, b__law_pair_right⟩) rfl ?_
  cases bn <;> cases bd <;> cases bl' <;> subst e1 <;>
  · simp only [zzG, b__law_pair_right, -binE, -idxT, isBI_sh, insOf_sh, plainT_sh, isBor_sh, isExc_sh, over_sh, under_sh, kd_sh, sh_fold, sh_cls, lk_below, i0_dL, i1_dL, pl_dL, bi_dL, b1, b2, b3, l1, l2, l3, s1, s2, s3, c1, c2, bl, hn, hd, m1, m2, lt]
    exact ⟨by first | exact True.intro | rfl, by first | exact True.intro | rfl⟩
theorem strangers_run (W d : Nat) (p : Rat) (sp : S2 p) (h : Hl) : run prog W (d + 2) 18 [sh p, dL p] h = .ok (.bl true) h := by
  suffices H : Wp (run prog W (d + 2) 18 [sh p, dL p] h) (fun r h' => r = .bl true ∧ h' = h) by
    obtain ⟨_, _, q, rfl, rfl⟩ := H
    exact q
  have dk : divOk ((p.den : Nat) : Int) = true := divOk_n (by have := p.den_nz; omega) (Nat.lt_trans (den_i p sp) (Nat.pow_lt_pow_right (by decide) (by decide)))
  have m7 : (7 ≤ maxLen) = True := le_of' (n := 7) (by omega)
  have m2 : (2 ≤ maxLen) = True := le_of' (n := 2) (by omega)
  refine Wq.run (rfl : prog.defs[18]? = some ⟨2, 5, b__law_strangers_right⟩) rfl ?_
  simp only [zzG, b__law_strangers_right, -idxT, isBI_sh, insOf_sh, plainT_sh, isBor_sh, isExc_sh, over_sh, under_sh, kd_sh, sh_fold, sh_cls, i0_dL, i1_dL, pl_dL, bi_dL, dk, m7, m2]
  generalize hL : [T.non, T.int p.num, T.bl (p.num == ((p.den : Nat) : Int)), T.tup [T.int p.num, T.int ((p.den : Nat) : Int)], T.lst [T.int p.num, T.int ((p.den : Nat) : Int)], T.str [49], T.int (fdivI p.num ((p.den : Nat) : Int))] = L
  have al : ∀ y ∈ L, strgT y = true ∧ plainT y = true ∧ isBI y = false := by
    rw [← hL]
    intro y m
    simp only [List.mem_cons, List.not_mem_nil, or_false] at m
    rcases m with rfl | rfl | rfl | rfl | rfl | rfl | rfl <;> exact ⟨rfl, rfl, rfl⟩
  refine Wq.forI (fun (j : Nat) σ h' => h' = h ∧ ∃ o3 o4, nb o3 ∧ nb o4 ∧ σ = [some (sh p), some (dL p), some (.lst L), o3, o4]) ⟨rfl, none, none, nb_none, nb_none, rfl⟩ ?_ ?_
  · rintro j y σ h' hy ⟨rfl, o3, o4, n3, n4, rfl⟩
    obtain ⟨a1, a2, a3⟩ := al y (List.mem_of_getElem? hy)
    unfold nb at n3 n4
    refine ⟨by simp [freeTg, freeS_eq, n3], _, rfl, ?_⟩
    have c1 := cs_eq W d p y a1 h'
    have c2 := cs_ne W d p y a1 h'
    simp only [zzG, b__law_strangers_right_L1, bodyF, isBI_sh, insOf_sh, plainT_sh, isBor_sh, isExc_sh, over_sh, under_sh, kd_sh, sh_fold, sh_cls, c1, c2, a2, a3, n4]
    exact ⟨by first | exact True.intro | rfl, _, _, nb_of a3, nb_of rfl, by first | exact True.intro | rfl⟩
  · rintro σ h' ⟨rfl, o3, o4, n3, n4, rfl⟩
    simp only [zzG, isBI_sh, insOf_sh, plainT_sh, isBor_sh, isExc_sh, over_sh, under_sh, kd_sh, sh_fold, sh_cls]
    exact ⟨by first | exact True.intro | rfl, by first | exact True.intro | rfl⟩
theorem cls_in : prog.cls[1]? = some ⟨2, none, [], [3], [0]⟩ := rfl
theorem prog_exc : prog.exc = true := rfl
theorem endR_er (vs : List T) (c : Nat) (fs : List (Nat × T)) (σ : Sl) (h : Hl) : endR prog vs (.err c fs σ h) = .err c fs h := endR_err rfl
theorem ini_er (W d : Nat) (a : Int) (h : Hl) : run prog W (d + 1) 1 [.bI 2 [], .int a, .int 0] h = .err 1 [(3, .int 0)] h := by
  have z : ((0 : Int) == 0) = true := rfl
  rw [run_eq (rfl : prog.defs[1]? = some ⟨3, 4, b_Shareu__initu_⟩) rfl]
  simp only [zzO, b_Shareu__initu_, z, cls_in, endR_er, List.reverse_cons, List.reverse_nil, List.nil_append]
theorem newT_er (W d : Nat) (a : Int) (h : Hl) : newT prog (run prog W (d + 1)) 2 [.int a, .int 0] h = .err 1 [(3, .int 0)] h := by
  have i := ini_er W d a h
  unfold newT
  simp only [zzO, sh_cls, i]
theorem hint_run (W d : Nat) (i : Int) (h : Hl) : run prog W (d + 1) 23 [.int i, .int i] h = .ok (.bl true) h := by
  have b : (i == i) = true := by simp
  rw [run_eq (rfl : prog.defs[23]? = some ⟨2, 2, b_hotu_law_integer⟩) rfl]
  simp only [zzO, b_hotu_law_integer, b]
theorem refused_run (W d : Nat) (a : Int) (b : Bool) (h : Hl) : run prog W (d + 2) 19 [.int a, .bl b] h = .ok (.bl true) h := by
  suffices H : Wp (run prog W (d + 2) 19 [.int a, .bl b] h) (fun r h' => r = .bl true ∧ h' = h) by
    obtain ⟨_, _, q, rfl, rfl⟩ := H
    exact q
  have n := newT_er W d a h
  have i := hint_run W d 0 h
  refine Wq.run (rfl : prog.defs[19]? = some ⟨2, 3, b__law_refused⟩) rfl ?_
  cases b with
  | true =>
    simp only [zzG, b__law_refused, n]
    refine Wq.exH (i := some 2) (b := _) rfl ?_
    simp only [zzG, cls_in, i]
    exact ⟨by first | exact True.intro | rfl, by first | exact True.intro | rfl⟩
  | false =>
    simp only [zzG, b__law_refused, n]
    refine Wq.exH (i := some 2) (b := _) rfl ?_
    simp only [zzG, cls_in, i]
    exact ⟨by first | exact True.intro | rfl, by first | exact True.intro | rfl⟩
end K02
end
section
set_option maxRecDepth 100000
set_option maxHeartbeats 4000000
set_option linter.all false
open Kb
namespace K02
/-! ### drawn numbers, a chain (k02c.lx) -/
def bigI : Int := 10 ^ 64
theorem big_lt : bigI.natAbs < 2 ^ 213 := by decide
theorem pow64 (h : Hl) : intT .pow 10 64 h = .ok (.int bigI) h := rfl
theorem log2_le {n k : Nat} (h : n < 2 ^ k) (hk : 0 < k) : n.log2 < k := by
  by_cases z : n = 0
  · rw [z]; exact hk
  · exact (Nat.log2_lt z).mpr h
theorem mulOk_pow {i j : Int} {a b : Nat} (hi : i.natAbs < 2 ^ a) (hj : j.natAbs < 2 ^ b) (ha : 0 < a) (hb : 0 < b) (hab : a + b ≤ 900000) : mulOk i j = true := by
  unfold mulOk
  have := log2_le hi ha
  have := log2_le hj hb
  exact decide_eq_true (by omega)
theorem big_r (r : Nat) (hr : r < 100000) : (bigI + (r : Int)).natAbs < 2 ^ 214 := by
  have := big_lt
  have e : (2 : Nat) ^ 214 = 2 ^ 213 + 2 ^ 213 := by decide
  have e2 : 100000 < (2 : Nat) ^ 213 := by decide
  rw [e]
  generalize (2 : Nat) ^ 213 = z at *
  generalize bigI = bg at *
  omega
theorem pw_up {x a b : Nat} (h : x < 2 ^ a) (l : a ≤ b) : x < 2 ^ b := Nat.lt_of_lt_of_le h (Nat.pow_le_pow_right (by decide) l)
theorem number_run (W d : Nat) (st : Tp) (hs : Hl) (k : Nat) (ok : TpOk st k) (hk : k < 900000) : Wp (run prog W (d + 2) 10 [.rf 1] (tpC st ++ hs)) (fun v h => ∃ (i : Int) (st' : Tp), v = .int i ∧ i.natAbs < 2 ^ 1300 ∧ h = tpC st' ++ hs ∧ TpOk st' (k + 20)) := by
  refine Wq.run (rfl : prog.defs[10]? = some ⟨1, 4, b__law_number⟩) rfl ?_
  refine Wq.cut 4 (fun σ h' => ∃ (kd : Nat) (i : Int) (st : Tp) (o3 : Option T), i.natAbs < 2 ^ 1300 ∧ h' = tpC st ++ hs ∧ TpOk st (k + 15) ∧ σ = [some (.rf 1), some (.int (kd : Int)), some (.int i), o3]) ?_ ?_
  · simp only [zzG, b__law_number, B.take, B.drop, cutQ_nx, cutQ_rt]
    refine draw_t ok (by omega) (by omega) (by omega) fun kd st kd1 ok => ?_
    simp only [zzG, B.take, B.drop, cutQ_nx, cutQ_rt]
    refine draw_t ok (by omega) (by omega) (by omega) fun n st n1 ok => ?_
    have nb0 : ((n : Int) - 12).natAbs < 2 ^ 1300 := pw_up (a := 5) (by show _ < 32; omega) (by decide)
    by_cases k0 : kd = 0
    · have e0 : ((kd : Int) == 0) = true := by rw [beq_iff_eq]; omega
      have e1 : ((kd : Int) == 1) = false := by rw [beq_eq_false_iff_ne]; omega
      have p := pow64
      simp only [zzG, -intT, B.take, B.drop, cutQ_nx, cutQ_rt, e0, e1, p]
      refine draw_t ok (by omega) (by omega) (by omega) fun a st a1 ok => ?_
      simp only [zzG, -intT, B.take, B.drop, cutQ_nx, cutQ_rt]
      refine draw_t ok (by omega) (by omega) (by omega) fun b st b1 ok => ?_
      have rk : rngOk (b : Int) = true := rngOk_of (by omega) (by omega)
      simp only [zzG, -intT, B.take, B.drop, cutQ_nx, cutQ_rt, rk]
      refine Wq.forR (fun (j : Nat) σ h' => ∃ (i : Int) (st : Tp) (o3 : Option T), nb o3 ∧ i.natAbs < 2 ^ (214 * (j + 1)) ∧ h' = tpC st ++ hs ∧ TpOk st (k + 4 + j) ∧ σ = [some (.rf 1), some (.int (kd : Int)), some (.int i), o3]) ⟨bigI + (a : Int), st, none, nb_none, big_r a (by omega), rfl, ok, rfl⟩ ?_ ?_
      · rintro j σ h' hj ⟨i, st, o3, n3, hi, rfl, ok, rfl⟩
        refine ⟨n3, ?_⟩
        have hj : j < 5 := by omega
        simp only [zzG, b__law_number_L1, -intT, bodyF, p]
        refine draw_t ok (by omega) (by omega) (by omega) fun r st r1 ok => ?_
        have br := big_r r (by omega)
        have mk : mulOk i (bigI + (r : Int)) = true := mulOk_pow hi br (by omega) (by decide) (by omega)
        simp only [zzG, -intT, mk]
        refine ⟨i * (bigI + (r : Int)), st, _, nb_i _, ?_, by first | exact True.intro | rfl, ok, by first | exact True.intro | rfl⟩
        rw [Int.natAbs_mul, show 214 * (j + 1 + 1) = 214 * (j + 1) + 214 by omega, Nat.pow_add]
        exact Nat.mul_lt_mul_of_lt_of_lt hi br
      · rintro σ h' ⟨i, st, o3, n3, hi, rfl, ok, rfl⟩
        have hi2 : i.natAbs < 2 ^ 1300 := pw_up hi (by omega)
        clear hi
        simp only [zzG, B.take, B.drop, cutQ_nx, cutQ_rt, e1]
        exact ⟨kd, i, st, _, hi2, by first | exact True.intro | rfl, ok.mono (by omega), by first | exact True.intro | rfl⟩
    · have e0 : ((kd : Int) == 0) = false := by rw [beq_eq_false_iff_ne]; omega
      by_cases k1 : kd = 1
      · have e1 : ((kd : Int) == 1) = true := by rw [beq_iff_eq]; omega
        simp only [zzG, B.take, B.drop, cutQ_nx, cutQ_rt, e0, e1]
        refine draw_t ok (by omega) (by omega) (by omega) fun x st x1 ok => ?_
        have mk : mulOk (x : Int) 100000 = true := mulOk_of (by omega) (by omega) (by omega) (by omega)
        simp only [zzG, B.take, B.drop, cutQ_nx, cutQ_rt, mk]
        refine draw_t ok (by omega) (by omega) (by omega) fun y st y1 ok => ?_
        simp only [zzG, B.take, B.drop, cutQ_nx, cutQ_rt]
        exact ⟨kd, (x : Int) * 100000 + (y : Int), st, _, pw_up (a := 40) (by show _ < 1099511627776; omega) (by decide), by first | exact True.intro | rfl, ok.mono (by omega), by first | exact True.intro | rfl⟩
      · have e1 : ((kd : Int) == 1) = false := by rw [beq_eq_false_iff_ne]; omega
        simp only [zzG, B.take, B.drop, cutQ_nx, cutQ_rt, e0, e1]
        exact ⟨kd, _, st, _, nb0, by first | exact True.intro | rfl, ok.mono (by omega), by first | exact True.intro | rfl⟩
  · rintro σ h' ⟨kd, i, st, o3, hi, rfl, ok, rfl⟩
    by_cases k2 : kd < 2
    · have d2 : decide ((kd : Int) < 2) = true := decide_eq_true (by omega)
      simp only [zzG, b__law_number, B.take, B.drop, cutQ_nx, cutQ_rt, d2]
      refine draw_t ok (by omega) (by omega) (by omega) fun z st z1 ok => ?_
      by_cases z1 : z = 1
      · have e1 : ((z : Int) == 1) = true := by rw [beq_iff_eq]; omega
        simp only [zzG, e1]
        exact ⟨-i, st, by first | exact True.intro | rfl, by rw [Int.natAbs_neg]; exact hi, by first | exact True.intro | rfl, ok.mono (by omega)⟩
      · have e1 : ((z : Int) == 1) = false := by rw [beq_eq_false_iff_ne]; omega
        simp only [zzG, e1]
        exact ⟨i, st, by first | exact True.intro | rfl, hi, by first | exact True.intro | rfl, ok.mono (by omega)⟩
    · have d2 : decide ((kd : Int) < 2) = false := decide_eq_false (by omega)
      simp only [zzG, b__law_number, B.take, B.drop, cutQ_nx, cutQ_rt, d2]
      exact ⟨i, st, by first | exact True.intro | rfl, hi, by first | exact True.intro | rfl, ok.mono (by omega)⟩
/-! a chain of small shares -/
theorem fz_2 {a b : Int} {m : Nat} (hb : b ≠ 0) (ha : a.natAbs < 2 ^ m) (hb2 : b.natAbs < 2 ^ m) (hm : m ≤ 1990) : S2 ((a : Rat) / (b : Rat)) := by
  obtain ⟨n1, n2⟩ := num_le a b hb
  exact ⟨pw_up (a := m) (by omega) hm, pw_up (a := m) (by omega) hm⟩
/-- bounds along the chain -/
def Cb (q : Rat) (j : Nat) : Prop := q.num.natAbs < 2 ^ (10 * j + 10) ∧ q.den < 2 ^ (10 * j + 10)
theorem Cb.s2 {q : Rat} {j : Nat} (c : Cb q j) (hj : j ≤ 100) : S2 q := ⟨pw_up c.1 (by omega), pw_up c.2 (by omega)⟩
theorem cb_div {a b : Int} {z j : Nat} (hb : b ≠ 0) (ha : a.natAbs ≤ 1000 * z) (hb2 : b.natAbs ≤ 1000 * z) (hz : z < 2 ^ (10 * j + 10)) : Cb ((a : Rat) / (b : Rat)) (j + 1) := by
  obtain ⟨n1, n2⟩ := num_le a b hb
  have e : (2 : Nat) ^ (10 * (j + 1) + 10) = 1024 * 2 ^ (10 * j + 10) := by
    rw [show 10 * (j + 1) + 10 = 10 + (10 * j + 10) by omega, Nat.pow_add]
  unfold Cb
  rw [e]
  generalize (2 : Nat) ^ (10 * j + 10) = w at *
  exact ⟨by omega, by omega⟩
theorem mul_b {a b : Int} {w m : Nat} (ha : a.natAbs ≤ w) (hb : b.natAbs ≤ m) : (a * b).natAbs ≤ m * w := by
  rw [Int.natAbs_mul, Nat.mul_comm m w]
  exact Nat.mul_le_mul ha hb
theorem cb_step {p s : Rat} {j : Nat} (c : Cb p j) (h1 : s.num.natAbs ≤ 20) (h2 : s.den ≤ 12) : Cb (p + s) (j + 1) ∧ Cb (p - s) (j + 1) ∧ Cb (p * s) (j + 1) := by
  have nz : ((p.den : Int) * s.den) ≠ 0 := Int.mul_ne_zero (by have := p.den_nz; omega) (by have := s.den_nz; omega)
  obtain ⟨c1, c2⟩ := c
  have hz : max p.num.natAbs p.den < 2 ^ (10 * j + 10) := by omega
  generalize hw : max p.num.natAbs p.den = w at *
  have w1 : p.num.natAbs ≤ w := by omega
  have w2 : (((p.den : Nat) : Int)).natAbs ≤ w := by rw [Int.natAbs_natCast]; omega
  have d2 : (((s.den : Nat) : Int)).natAbs ≤ 12 := by rw [Int.natAbs_natCast]; exact h2
  have a1 := mul_b w1 d2
  have a2 : (s.num * ((p.den : Nat) : Int)).natAbs ≤ 20 * w := by rw [Int.mul_comm]; exact mul_b w2 h1
  have a3 := mul_b w2 d2
  have a4 := mul_b w1 h1
  rw [← rat_add, ← rat_sub, ← rat_mul]
  refine ⟨cb_div nz (z := w) ?_ (by omega) hz, cb_div nz (z := w) ?_ (by omega) hz, cb_div nz (z := w) (by omega) (by omega) hz⟩
  · omega
  · omega
theorem rq_add (p : Rat) (a b : Int) (hb : b ≠ 0) : (((p.num * b + a * p.den : Int)) : Rat) / ((p.den * b : Int) : Rat) = p + (a : Rat) / (b : Rat) := by
  have h1 := den_ne p
  have h2 : ((b : Int) : Rat) ≠ 0 := by exact_mod_cast hb
  conv => rhs; rw [← rat_eq p]
  rw [Rat.intCast_add, Rat.intCast_mul, Rat.intCast_mul, Rat.intCast_mul, Rat.intCast_natCast]
  grind
theorem rq_sub (p : Rat) (a b : Int) (hb : b ≠ 0) : (((p.num * b - a * p.den : Int)) : Rat) / ((p.den * b : Int) : Rat) = p - (a : Rat) / (b : Rat) := by
  have h1 := den_ne p
  have h2 : ((b : Int) : Rat) ≠ 0 := by exact_mod_cast hb
  conv => rhs; rw [← rat_eq p]
  rw [Rat.intCast_sub, Rat.intCast_mul, Rat.intCast_mul, Rat.intCast_mul, Rat.intCast_natCast]
  grind
theorem rq_mul (p : Rat) (a b : Int) (hb : b ≠ 0) : (((p.num * a : Int)) : Rat) / ((p.den * b : Int) : Rat) = p * ((a : Rat) / (b : Rat)) := by
  have h1 := den_ne p
  have h2 : ((b : Int) : Rat) ≠ 0 := by exact_mod_cast hb
  conv => rhs; rw [← rat_eq p]
  rw [Rat.intCast_mul, Rat.intCast_mul, Rat.intCast_natCast]
  grind
theorem sm (a : Int) (h : a.natAbs ≤ 100) : a.natAbs < 2 ^ 1990 := pw_up (a := 7) (by show _ < 128; omega) (by decide)
theorem lsum2 (W d : Nat) (p : Rat) (a b : Int) (sp : S2 p) (hb : b ≠ 0) (ha : a.natAbs ≤ 100) (hb2 : b.natAbs ≤ 100) (h : Hl) : run prog W (d + 2) 14 [dL p, .lst [.int a, .int b]] h = .ok (dL (p + (a : Rat) / (b : Rat))) h := by
  have dp := den_i p sp
  have m1 := mk_2 p.num b sp.1 (sm b hb2)
  have m2 := mk_2 a p.den (sm a ha) dp
  have m3 := mk_2 p.den b dp (sm b hb2)
  have nz : ((p.den : Int) * b) ≠ 0 := Int.mul_ne_zero (by have := p.den_nz; omega) hb
  have e := low_run W d (p.num * b + a * p.den) ((p.den : Int) * b) h nz (sums_lt _ _ (mul_lt _ _ sp.1 (sm b hb2)) (mul_lt _ _ (sm a ha) dp)).1 (pw_le4 (mul_lt _ _ dp (sm b hb2)))
  rw [rq_add p a b hb] at e
  rw [run_eq (rfl : prog.defs[14]? = some ⟨2, 2, b__law_sum⟩) rfl]
  simp only [zzO, b__law_sum, dL, m1, m2, m3]
  unfold dL at e
  simp only [zzO, e]
theorem lless2 (W d : Nat) (p : Rat) (a b : Int) (sp : S2 p) (hb : b ≠ 0) (ha : a.natAbs ≤ 100) (hb2 : b.natAbs ≤ 100) (h : Hl) : run prog W (d + 2) 15 [dL p, .lst [.int a, .int b]] h = .ok (dL (p - (a : Rat) / (b : Rat))) h := by
  have dp := den_i p sp
  have m1 := mk_2 p.num b sp.1 (sm b hb2)
  have m2 := mk_2 a p.den (sm a ha) dp
  have m3 := mk_2 p.den b dp (sm b hb2)
  have nz : ((p.den : Int) * b) ≠ 0 := Int.mul_ne_zero (by have := p.den_nz; omega) hb
  have e := low_run W d (p.num * b - a * p.den) ((p.den : Int) * b) h nz (sums_lt _ _ (mul_lt _ _ sp.1 (sm b hb2)) (mul_lt _ _ (sm a ha) dp)).2 (pw_le4 (mul_lt _ _ dp (sm b hb2)))
  rw [rq_sub p a b hb] at e
  rw [run_eq (rfl : prog.defs[15]? = some ⟨2, 2, b__law_less⟩) rfl]
  simp only [zzO, b__law_less, dL, m1, m2, m3]
  unfold dL at e
  simp only [zzO, e]
theorem ltimes2 (W d : Nat) (p : Rat) (a b : Int) (sp : S2 p) (hb : b ≠ 0) (ha : a.natAbs ≤ 100) (hb2 : b.natAbs ≤ 100) (h : Hl) : run prog W (d + 2) 16 [dL p, .lst [.int a, .int b]] h = .ok (dL (p * ((a : Rat) / (b : Rat)))) h := by
  have dp := den_i p sp
  have m1 := mk_2 p.num a sp.1 (sm a ha)
  have m3 := mk_2 p.den b dp (sm b hb2)
  have nz : ((p.den : Int) * b) ≠ 0 := Int.mul_ne_zero (by have := p.den_nz; omega) hb
  have e := low_run W d (p.num * a) ((p.den : Int) * b) h nz (pw_le4 (mul_lt _ _ sp.1 (sm a ha))) (pw_le4 (mul_lt _ _ dp (sm b hb2)))
  rw [rq_mul p a b hb] at e
  rw [run_eq (rfl : prog.defs[16]? = some ⟨2, 2, b__law_times⟩) rfl]
  simp only [zzO, b__law_times, dL, m1, m3]
  unfold dL at e
  simp only [zzO, e]
theorem int_one (x : Int) : (x : Rat) / ((1 : Int) : Rat) = (x : Rat) := by
  have : ((1 : Int) : Rat) = 1 := by norm_cast
  rw [this]
  grind
theorem dL_one (x : Int) : dL ((x : Rat) / ((1 : Int) : Rat)) = .lst [.int x, .int 1] := by
  unfold dL
  rw [int_one, Rat.num_intCast, Rat.den_intCast]
  rfl
theorem chain_run (W d : Nat) (st : Tp) (hs : Hl) (k : Nat) (ok : TpOk st k) (hk : k < 100000) : Wp (run prog W (d + 4) 20 [.rf 1] (tpC st ++ hs)) (fun v h => ∃ st', v = .bl true ∧ h = tpC st' ++ hs ∧ TpOk st' (k + 30)) := by
  have m2 : (2 ≤ maxLen) = True := le_of' (n := 2) (by omega)
  refine Wq.run (rfl : prog.defs[20]? = some ⟨1, 8, b__law_chain_right⟩) rfl ?_
  simp only [zzG, b__law_chain_right]
  refine draw_t ok (by omega) (by omega) (by omega) fun a st a1 ok => ?_
  have n1 := fun h => newT_sh W (d + 2) ((a : Int) - 4) 1 h (by decide) (by decide)
  simp only [zzG, m2, n1, isBI_sh, insOf_sh, plainT_sh, isBor_sh, isExc_sh, over_sh, under_sh, kd_sh, sh_fold, sh_cls]
  refine draw_t ok (by omega) (by omega) (by omega) fun n st n1 ok => ?_
  have rk : rngOk (n : Int) = true := rngOk_of (by omega) (by omega)
  simp only [zzG, rk]
  refine Wq.forR (fun (j : Nat) σ h' => ∃ (q : Rat) (st : Tp) (o3 o4 o5 o6 o7 : Option T), nb o3 ∧ nb o4 ∧ nb o5 ∧ nb o6 ∧ nb o7 ∧ Cb q j ∧ h' = tpC st ++ hs ∧ TpOk st (k + 2 + 3 * j) ∧ σ = [some (.rf 1), some (dL q), some (sh q), o3, o4, o5, o6, o7]) ⟨((((a : Int) - 4 : Int)) : Rat) / ((1 : Int) : Rat), st, none, none, none, none, none, nb_none, nb_none, nb_none, nb_none, nb_none, ?_, rfl, ok, by rw [dL_one]⟩ ?_ ?_
  · rw [int_one]
    unfold Cb
    rw [Rat.num_intCast, Rat.den_intCast]
    have a1 : ((a : Int) - 4).natAbs < 1024 := by omega
    exact ⟨a1, by decide⟩
  · rintro j σ h' hj ⟨q, st, o3, o4, o5, o6, o7, n3, n4, n5, n6, n7, cb, rfl, ok, rfl⟩
    refine ⟨n3, ?_⟩
    unfold nb at n4 n5 n6 n7
    have hj : j < 5 := by omega
    have s2 := cb.s2 (by omega)
    simp only [zzG, b__law_chain_right_L1, bodyF, n4, n5, n6, n7]
    refine draw_t ok (by omega) (by omega) (by omega) fun x st x1 ok => ?_
    simp only [zzG, n4, n5, n6, n7]
    refine draw_t ok (by omega) (by omega) (by omega) fun u st u1 ok => ?_
    have u0 : (u : Int) + 1 ≠ 0 := by omega
    have xa : ((x : Int) - 20).natAbs ≤ 20 := by omega
    have ua : ((u : Int) + 1).natAbs ≤ 12 := by omega
    have n2 := fun h => newT_sh W (d + 2) ((x : Int) - 20) ((u : Int) + 1) h u0 (pw_up (a := 7) (by show _ < 128; omega) (by decide))
    obtain ⟨q1, q2⟩ := num_le ((x : Int) - 20) ((u : Int) + 1) u0
    have ss := fz_2 (m := 7) u0 (show ((x : Int) - 20).natAbs < 2 ^ 7 by show _ < 128; omega) (show ((u : Int) + 1).natAbs < 2 ^ 7 by show _ < 128; omega) (by decide)
    have l1 := fun h => lsum2 W (d + 1) q _ _ s2 u0 (show ((x : Int) - 20).natAbs ≤ 100 by omega) (by omega) h
    have l2 := fun h => lless2 W (d + 1) q _ _ s2 u0 (show ((x : Int) - 20).natAbs ≤ 100 by omega) (by omega) h
    have l3 := fun h => ltimes2 W (d + 1) q _ _ s2 u0 (show ((x : Int) - 20).natAbs ≤ 100 by omega) (by omega) h
    have b1 := fun h => bin_add W (d + 1) q _ h s2.sz ss.sz
    have b2 := fun h => bin_sub W (d + 1) q _ h s2.sz ss.sz
    have b3 := fun h => bin_mul W (d + 1) q _ h s2.sz ss.sz
    obtain ⟨c1, c2, c3⟩ := cb_step (s := (((x : Int) - 20 : Int) : Rat) / (((u : Int) + 1 : Int) : Rat)) cb (by omega) (by omega)
    have is1 := fun q h => is_run W (d + 1) q h
    simp only [zzG, n2, n4, n5, n6, n7, isBI_sh, insOf_sh, plainT_sh, isBor_sh, isExc_sh, over_sh, under_sh, kd_sh, sh_fold, sh_cls]
    generalize ((((x : Int) - 20 : Int) : Rat) / (((u : Int) + 1 : Int) : Rat)) = s at *
    refine draw_t ok (by omega) (by omega) (by omega) fun kd st kd1 ok => ?_
    have kc : kd = 0 ∨ kd = 1 ∨ kd = 2 := by omega
    have f0 : isBI (T.lst [T.int ((x : Int) - 20), T.int ((u : Int) + 1)]) = false := rfl
    rcases kc with rfl | rfl | rfl
    · have e0 : (((0 : Nat) : Int) == 0) = true := rfl
      have e1 : (((0 : Nat) : Int) == 1) = false := rfl
      have e2 : (((0 : Nat) : Int) == 2) = false := rfl
      simp only [zzG, -binE, e0, e1, e2, b1, l1, is1, m2, n4, n5, n6, n7, pl_dL, bi_dL, isBI_sh, insOf_sh, plainT_sh, isBor_sh, isExc_sh, over_sh, under_sh, kd_sh, sh_fold, sh_cls]
      exact ⟨q + s, st, _, _, _, _, _, nb_i _, nb_i _, nb_i _, nb_of (isBI_sh _), nb_i _, c1, by first | exact True.intro | rfl, ok.mono (by omega), by first | exact True.intro | rfl⟩
    · have e0 : (((1 : Nat) : Int) == 0) = false := rfl
      have e1 : (((1 : Nat) : Int) == 1) = true := rfl
      have e2 : (((1 : Nat) : Int) == 2) = false := rfl
      simp only [zzG, -binE, e0, e1, e2, b2, l2, is1, m2, n4, n5, n6, n7, pl_dL, bi_dL, isBI_sh, insOf_sh, plainT_sh, isBor_sh, isExc_sh, over_sh, under_sh, kd_sh, sh_fold, sh_cls]
      exact ⟨q - s, st, _, _, _, _, _, nb_i _, nb_i _, nb_i _, nb_of (isBI_sh _), nb_i _, c2, by first | exact True.intro | rfl, ok.mono (by omega), by first | exact True.intro | rfl⟩
    · have e0 : (((2 : Nat) : Int) == 0) = false := rfl
      have e1 : (((2 : Nat) : Int) == 1) = false := rfl
      have e2 : (((2 : Nat) : Int) == 2) = true := rfl
      simp only [zzG, -binE, e0, e1, e2, b3, l3, is1, m2, n4, n5, n6, n7, pl_dL, bi_dL, isBI_sh, insOf_sh, plainT_sh, isBor_sh, isExc_sh, over_sh, under_sh, kd_sh, sh_fold, sh_cls]
      exact ⟨q * s, st, _, _, _, _, _, nb_i _, nb_i _, nb_i _, nb_of (isBI_sh _), nb_i _, c3, by first | exact True.intro | rfl, ok.mono (by omega), by first | exact True.intro | rfl⟩
  · rintro σ h' ⟨q, st, o3, o4, o5, o6, o7, n3, n4, n5, n6, n7, cb, rfl, ok, rfl⟩
    simp only [zzG]
    exact ⟨st, by first | exact True.intro | rfl, by first | exact True.intro | rfl, ok.mono (by omega)⟩
end K02
end
section
set_option maxRecDepth 100000
set_option maxHeartbeats 4000000
set_option linter.all false
open Kb
namespace K02
/-! ### what is asked (k02d.lx) -/
def pT (p : Int × Int) : T := .lst [.int p.1, .int p.2]
def qR (p : Int × Int) : Rat := (p.1 : Rat) / (p.2 : Rat)
structure PB (m : Nat) (p : Int × Int) : Prop where
  z : p.2 ≠ 0
  a : p.1.natAbs < 2 ^ m
  b : p.2.natAbs < 2 ^ m
abbrev POk := PB 1310
theorem PB.up {p : Int × Int} (o : PB 1300 p) : POk p := ⟨o.z, pw_up o.a (by decide), pw_up o.b (by decide)⟩
theorem PB.s2 {p : Int × Int} (o : PB 1310 p) : S2 (qR p) := fz_2 o.z o.a o.b (by decide)
theorem PB.nw {p : Int × Int} (o : PB 1310 p) (W d : Nat) (h : Hl) : newT prog (run prog W (d + 1)) 2 [.int p.1, .int p.2] h = .ok (sh (qR p)) h := newT_sh W d p.1 p.2 h o.z (pw_up o.b (by decide))
theorem PB.low {p : Int × Int} (o : PB 1310 p) (W d : Nat) (h : Hl) : run prog W (d + 1) 11 [.int p.1, .int p.2] h = .ok (dL (qR p)) h := low_run W d p.1 p.2 h o.z (pw_up o.a (by decide)) (pw_up o.b (by decide))
theorem half_run (W d l : Nat) (hl : l ≤ 1000) (h : Hl) : run prog W (d + 2) 7 [.int (l : Int)] h = .ok (sh (((1 : Int) : Rat) / (((2 : Int) ^ l : Int) : Rat))) h := by
  have e := two_run W d (l : Int) h (by omega) (by omega)
  rw [Int.toNat_natCast] at e
  have p0 : (2 : Int) ^ l ≠ 0 := Int.pow_ne_zero (by decide)
  have p1 : ((2 : Int) ^ l).natAbs < 2 ^ 8999 := by
    rw [Int.natAbs_pow]
    exact Nat.pow_lt_pow_right (by decide) (by omega)
  have n := newT_sh W d 1 ((2 : Int) ^ l) h p0 p1
  rw [run_eq (rfl : prog.defs[7]? = some ⟨1, 1, b_half_of⟩) rfl]
  simp only [zzO, b_half_of, e, n, isBI_sh, insOf_sh, plainT_sh, isBor_sh, isExc_sh, over_sh, under_sh, kd_sh, sh_fold, sh_cls]
theorem half_dL (l : Nat) : dL (((1 : Int) : Rat) / (((2 : Int) ^ l : Int) : Rat)) = .lst [.int 1, .int ((2 : Int) ^ l)] := by
  let q : Rat := ⟨1, 2 ^ l, Nat.ne_of_gt (Nat.two_pow_pos l), Nat.coprime_one_left _⟩
  have e : ((1 : Int) : Rat) / (((2 : Int) ^ l : Int) : Rat) = q := by
    have := rat_eq q
    have c : (((2 : Int) ^ l : Int) : Rat) = (((2 ^ l : Nat) : Nat) : Rat) := by norm_cast
    rw [c]
    exact this
  rw [e]
  show T.lst [.int 1, .int (((2 ^ l : Nat)) : Int)] = _
  rw [Int.natCast_pow]; rfl
theorem shl_i (l : Nat) (hl : l ≤ 1000) (f : Nat → List T → Hl → R T) (h : Hl) : binE prog f .shl (.int 1) (.int (l : Int)) h = .ok (.int ((2 : Int) ^ l)) h := by
  have o : shlOk 1 (l : Int) = true := by
    simp only [shlOk, Bool.and_eq_true, decide_eq_true_eq]
    exact ⟨⟨by omega, by omega⟩, by decide⟩
  show (if shlOk 1 (l : Int) then R.ok (T.int ((1 : Int) * 2 ^ ((l : Int)).toNat)) h else .stuck) = _
  rw [if_pos o, Int.toNat_natCast, Int.one_mul]
theorem asks_run (W d : Nat) (ns : List Int) (hn : ns.length ≤ 63) : Wp (run prog W (d + 6) 21 [.kl ns] []) (fun v _ => v = .bl true) := by
  obtain ⟨st, e0, ok⟩ := tape_run W (d + 4) ns hn
  have m1 : (1 ≤ maxLen) = True := le_of' (n := 1) (by omega)
  have m2 : (2 ≤ maxLen) = True := le_of' (n := 2) (by omega)
  have m3 : (3 ≤ maxLen) = True := le_of' (n := 3) (by omega)
  have m4 : (4 ≤ maxLen) = True := le_of' (n := 4) (by omega)
  have l3 : decide (2 < maxLen) = true := rfl
  have mz : (0 ≤ maxLen) = True := le_of' (n := 0) (by omega)
  have rk3 : rngOk 3 = true := rfl
  refine Wq.run (rfl : prog.defs[21]? = some ⟨1, 11, b__law_asks⟩) rfl ?_
  refine Wq.cut 3 (fun σ h' => ∃ (x y z : Int × Int) (st : Tp) (o3 o9 : Option T), PB 1300 x ∧ PB 1300 y ∧ PB 1300 z ∧ nb o3 ∧ nb o9 ∧ h' = tpC st ++ [] ∧ TpOk st 200 ∧ σ = [some (.kl ns), some (.rf 1), some (.bL [pT x, pT y, pT z]), o3, none, none, none, none, none, o9, none]) ?_ ?_
  · have a0 : tpC st = tpC st ++ [] := (List.append_nil _).symm
    rw [a0] at e0
    simp only [zzG, b__law_asks, B.take, B.drop, cutQ_nx, cutQ_rt, e0, rk3, mz]
    refine Wq.forR (fun (j : Nat) σ h' => ∃ (ps : List (Int × Int)) (st : Tp) (o3 o9 : Option T), ps.length = j ∧ (∀ p ∈ ps, PB 1300 p) ∧ nb o3 ∧ nb o9 ∧ h' = tpC st ++ [] ∧ TpOk st (40 * j) ∧ σ = [some (.kl ns), some (.rf 1), some (.bL (ps.map pT)), o3, none, none, none, none, none, o9, none]) ⟨[], st, none, none, rfl, (fun p m => by cases m), nb_none, nb_none, rfl, ok, rfl⟩ ?_ ?_
    · rintro j σ h' hj ⟨ps, st, o3, o9, pl, pk, n3, n9, rfl, ok, rfl⟩
      refine ⟨n3, ?_⟩
      unfold nb at n9
      have hj : j < 3 := by omega
      obtain ⟨_, _, e1, u, st, rfl, ub, rfl, ok⟩ := number_run W (d + 3) st [] _ ok (by omega)
      obtain ⟨_, _, e2, o, st, rfl, ob, rfl, ok⟩ := number_run W (d + 3) st [] _ ok (by omega)
      have lm : decide ((ps.map pT).length < maxLen) = true := decide_eq_true (by rw [List.length_map]; unfold maxLen; omega)
      by_cases u0 : u = 0
      · have b0 : (u == 0) = true := by rw [beq_iff_eq]; exact u0
        have ap : ps.map pT ++ [T.lst [.int o, .int (-1)]] = (ps ++ [(o, -1)]).map pT := by rw [List.map_append]; rfl
        simp only [zzG, b__law_asks_L1, bodyF, e1, e2, b0, n9, m2, lm, ap]
        refine ⟨_, st, _, _, ?_, fun p m => ?_, nb_i _, nb_i _, by first | exact True.intro | rfl, ok.mono (by omega), by first | exact True.intro | rfl⟩
        · rw [List.length_append, pl]; rfl
        · rcases List.mem_append.mp m with m | m
          · exact pk p m
          · rw [List.mem_singleton.mp m]
            exact ⟨by show (-1 : Int) ≠ 0; decide, ob, pw_up (a := 1) (by show (-1 : Int).natAbs < 2; decide) (by decide)⟩
      · have b0 : (u == 0) = false := by rw [beq_eq_false_iff_ne]; exact u0
        have ap : ps.map pT ++ [T.lst [.int o, .int u]] = (ps ++ [(o, u)]).map pT := by rw [List.map_append]; rfl
        simp only [zzG, b__law_asks_L1, bodyF, e1, e2, b0, n9, m2, lm, ap]
        refine ⟨_, st, _, _, ?_, fun p m => ?_, nb_i _, nb_i _, by first | exact True.intro | rfl, ok.mono (by omega), by first | exact True.intro | rfl⟩
        · rw [List.length_append, pl]; rfl
        · rcases List.mem_append.mp m with m | m
          · exact pk p m
          · rw [List.mem_singleton.mp m]
            exact ⟨u0, ob, ub⟩
    · rintro σ h' ⟨ps, st, o3, o9, pl, pk, n3, n9, rfl, ok, rfl⟩
      have pl : ps.length = 3 := pl
      match ps, pl, pk with
      | [x, y, z], _, pk =>
        simp only [zzG, B.take, B.drop, cutQ_nx, cutQ_rt]
        exact ⟨x, y, z, st, _, _, pk x (by simp), pk y (by simp), pk z (by simp), n3, n9, by first | exact True.intro | rfl, ok.mono (by decide), by first | exact True.intro | rfl⟩
  · rintro σ h' ⟨x, y, z, st, o3, o9, px, py, pz, n3, n9, rfl, ok, rfl⟩
    refine Wq.cut 3 (fun σ h' => ∃ (y : Int × Int) (sp : Nat) (st : Tp) (o10 : Option T), POk y ∧ h' = tpC st ++ [] ∧ TpOk st 210 ∧ σ = [some (.kl ns), some (.rf 1), some (.bL [pT x, pT y, pT z]), o3, some (.int (sp : Int)), none, none, none, none, o9, o10]) ?_ ?_
    · simp only [zzG, b__law_asks, B.take, B.drop, cutQ_nx, cutQ_rt]
      refine draw_t ok (by omega) (by omega) (by omega) fun sp st sp1 ok => ?_
      have i31 : ixN 3 1 = some 1 := by decide
      by_cases s0 : sp = 0
      · have e0 : ((sp : Int) == 0) = true := by rw [beq_iff_eq]; omega
        have e1 : ((sp : Int) == 1) = false := by rw [beq_eq_false_iff_ne]; omega
        simp only [zzG, B.take, B.drop, cutQ_nx, cutQ_rt, e0]
        refine draw_t ok (by omega) (by omega) (by omega) fun t st t1 ok => ?_
        have key : ∀ v : Int, v ≠ 0 → v.natAbs ≤ 7 → POk (x.1 * v, x.2 * v) ∧ mulOk x.1 v = true ∧ mulOk x.2 v = true := fun v v0 v7 => by
          have vb : v.natAbs < 2 ^ 3 := by show _ < 8; omega
          refine ⟨⟨Int.mul_ne_zero px.z v0, ?_, ?_⟩, mulOk_pow px.a vb (by decide) (by decide) (by decide), mulOk_pow px.b vb (by decide) (by decide) (by decide)⟩
          · show (x.1 * v).natAbs < _
            rw [Int.natAbs_mul]
            refine pw_up (a := 1303) ?_ (by decide)
            rw [show 1303 = 1300 + 3 from rfl, Nat.pow_add]
            exact Nat.mul_lt_mul_of_lt_of_lt px.a vb
          · show (x.2 * v).natAbs < _
            rw [Int.natAbs_mul]
            refine pw_up (a := 1303) ?_ (by decide)
            rw [show 1303 = 1300 + 3 from rfl, Nat.pow_add]
            exact Nat.mul_lt_mul_of_lt_of_lt px.b vb
        by_cases t6 : (t : Int) - 6 = 0
        · have et : (((t : Int) - 6) == 0) = true := by rw [beq_iff_eq]; exact t6
          obtain ⟨k1, k2, k3⟩ := key (-7) (by decide) (by decide)
          simp only [zzG, B.take, B.drop, cutQ_nx, cutQ_rt, e0, e1, et, pT, k2, k3, m2, i31]
          exact ⟨_, sp, st, _, k1, by first | exact True.intro | rfl, ok.mono (by omega), by first | exact True.intro | rfl⟩
        · have et : (((t : Int) - 6) == 0) = false := by rw [beq_eq_false_iff_ne]; exact t6
          obtain ⟨k1, k2, k3⟩ := key ((t : Int) - 6) t6 (by omega)
          simp only [zzG, B.take, B.drop, cutQ_nx, cutQ_rt, e0, e1, et, pT, k2, k3, m2, i31]
          exact ⟨_, sp, st, _, k1, by first | exact True.intro | rfl, ok.mono (by omega), by first | exact True.intro | rfl⟩
      have e0 : ((sp : Int) == 0) = false := by rw [beq_eq_false_iff_ne]; omega
      by_cases s1 : sp = 1
      · have e1 : ((sp : Int) == 1) = true := by rw [beq_iff_eq]; omega
        have dk : divOk 7 = true := rfl
        have kb : POk (fdivI x.1 7 + 1, x.2) := ⟨px.z, by
          show (fdivI x.1 7 + 1).natAbs < _
          unfold fdivI
          rw [if_pos (by decide)]
          have a1 := px.a
          have e : (2 : Nat) ^ 1310 = 1024 * 2 ^ 1300 := by rw [show 1310 = 10 + 1300 from rfl, Nat.pow_add]
          rw [e]
          generalize (2 : Nat) ^ 1300 = zz at *
          omega, pw_up px.b (by decide)⟩
        simp only [zzG, B.take, B.drop, cutQ_nx, cutQ_rt, e0, e1, pT, dk, m2, i31]
        exact ⟨_, sp, st, _, kb, by first | exact True.intro | rfl, ok.mono (by omega), by first | exact True.intro | rfl⟩
      · have e1 : ((sp : Int) == 1) = false := by rw [beq_eq_false_iff_ne]; omega
        simp only [zzG, B.take, B.drop, cutQ_nx, cutQ_rt, e0, e1]
        exact ⟨y, sp, st, _, py.up, by first | exact True.intro | rfl, ok.mono (by omega), by first | exact True.intro | rfl⟩
    · rintro σ h' ⟨y, sp, st, o10, py, rfl, ok, rfl⟩
      have px1 := px.up
      have pz1 := pz.up
      have n1 := fun h => px1.nw W (d + 4) h
      have n2 := fun h => py.nw W (d + 4) h
      have n3' := fun h => pz1.nw W (d + 4) h
      have al : ∀ p ∈ [x, y, z], POk p := fun p m => by
        simp only [List.mem_cons, List.not_mem_nil, or_false] at m
        rcases m with rfl | rfl | rfl
        · exact px1
        · exact py
        · exact pz1
      refine Wq.cut 4 (fun σ h' => h' = tpC st ++ [] ∧ σ = [some (.kl ns), some (.rf 1), some (.lst [pT x, pT y, pT z]), o3, some (.int (sp : Int)), some (.bL [sh (qR x), sh (qR y), sh (qR z)]), some (.lst [dL (qR x), dL (qR y), dL (qR z)]), none, none, o9, o10]) ?_ ?_
      · have c := lc_pure (f := bodyL prog (run prog W (d + 5)) Eo.none b__law_asks_C1) (tg := [7]) (σ := [some (.kl ns), some (.rf 1), some (.lst [pT x, pT y, pT z]), o3, some (.int (sp : Int)), some (.bL [sh (qR x), sh (qR y), sh (qR z)]), none, none, none, o9, o10]) (h := tpC st ++ []) pT (fun p => dL (qR p)) [x, y, z] fun p m => ⟨rfl, [some (.kl ns), some (.rf 1), some (.lst [pT x, pT y, pT z]), o3, some (.int (sp : Int)), some (.bL [sh (qR x), sh (qR y), sh (qR z)]), none, some (pT p), none, o9, o10], rfl, by
          have e := (al p m).low W (d + 4) (tpC st ++ [])
          simp only [zzO, b__law_asks_C1, bodyL, pT, e, pl_dL]⟩
        unfold pT at c
        simp only [List.map_cons, List.map_nil] at c
        simp only [zzG, b__law_asks, B.take, B.drop, cutQ_nx, cutQ_rt, isBI_sh, insOf_sh, plainT_sh, isBor_sh, isExc_sh, over_sh, under_sh, kd_sh, sh_fold, sh_cls, pT, n1, n2, n3', m2, l3, c, m3]
        exact ⟨by first | exact True.intro | rfl, by first | exact True.intro | rfl⟩
      · rintro σ h' ⟨rfl, rfl⟩
        have sx := px1.s2
        have sy := py.s2
        have sz := pz1.s2
        generalize qR x = p at *
        generalize qR y = q at *
        generalize qR z = r at *
        have rg3 : rngT 0 3 = [.int 0, .int 1, .int 2] := rfl
        have is1 := fun q h => is_run W (d + 3) q h
        have t1 := fun h => strangers_run W (d + 3) p sx h
        have t2 := fun h => strangers_run W (d + 3) q sy h
        have t3 := fun h => strangers_run W (d + 3) r sz h
        have r1 := fun h => pair_run W (d + 1) p q sx sy h
        have r2 := fun h => pair_run W (d + 1) q r sy sz h
        have r3 := fun h => pair_run W (d + 1) r p sz sx h
        have r4 := fun h => pair_run W (d + 1) q q sy sy h
        unfold nb at n3 n9
        have fr3 : freeO (some o3) = true := n3
        simp only [zzG, b__law_asks, B.take, B.drop, cutQ_nx, cutQ_rt, rk3, rg3]
        refine Wq_for_cons n3 ?_
        simp only [zzG, b__law_asks_L2, bodyF, isBI_sh, insOf_sh, plainT_sh, isBor_sh, isExc_sh, over_sh, under_sh, kd_sh, sh_fold, sh_cls, is1, t1, t2, t3, pl_dL, bi_dL]
        refine Wq_for_cons (by rfl) ?_
        simp only [zzG, b__law_asks_L2, bodyF, isBI_sh, insOf_sh, plainT_sh, isBor_sh, isExc_sh, over_sh, under_sh, kd_sh, sh_fold, sh_cls, is1, t1, t2, t3, pl_dL, bi_dL]
        refine Wq_for_cons (by rfl) ?_
        simp only [zzG, b__law_asks_L2, bodyF, isBI_sh, insOf_sh, plainT_sh, isBor_sh, isExc_sh, over_sh, under_sh, kd_sh, sh_fold, sh_cls, is1, t1, t2, t3, pl_dL, bi_dL, m4]
        refine Wq_for_cons (by rfl) ?_
        simp only [zzG, b__law_asks_L3, bodyF, isBI_sh, insOf_sh, plainT_sh, isBor_sh, isExc_sh, over_sh, under_sh, kd_sh, sh_fold, sh_cls, r1, r2, r3, r4, pl_dL, bi_dL]
        refine Wq_for_cons (by rfl) ?_
        simp only [zzG, b__law_asks_L3, bodyF, isBI_sh, insOf_sh, plainT_sh, isBor_sh, isExc_sh, over_sh, under_sh, kd_sh, sh_fold, sh_cls, r1, r2, r3, r4, pl_dL, bi_dL]
        refine Wq_for_cons (by rfl) ?_
        simp only [zzG, b__law_asks_L3, bodyF, isBI_sh, insOf_sh, plainT_sh, isBor_sh, isExc_sh, over_sh, under_sh, kd_sh, sh_fold, sh_cls, r1, r2, r3, r4, pl_dL, bi_dL]
        refine Wq_for_cons (by rfl) ?_
        simp only [zzG, b__law_asks_L3, bodyF, isBI_sh, insOf_sh, plainT_sh, isBor_sh, isExc_sh, over_sh, under_sh, kd_sh, sh_fold, sh_cls, r1, r2, r3, r4, pl_dL, bi_dL, rk3, rg3]
        refine Wq_for_cons (by rfl) ?_
        simp only [zzG, b__law_asks_L4, bodyF, isBI_sh, insOf_sh, plainT_sh, isBor_sh, isExc_sh, over_sh, under_sh, kd_sh, sh_fold, sh_cls, is1, pl_dL, bi_dL]
        refine Wq_for_cons (by rfl) ?_
        simp only [zzG, b__law_asks_L4, bodyF, isBI_sh, insOf_sh, plainT_sh, isBor_sh, isExc_sh, over_sh, under_sh, kd_sh, sh_fold, sh_cls, is1, pl_dL, bi_dL]
        refine Wq_for_cons (by rfl) ?_
        have rf1 := fun b h => refused_run W (d + 3) x.1 b h
        obtain ⟨_, _, ch, st, rfl, rfl, ok⟩ := chain_run W (d + 1) st [] _ ok (by omega)
        simp only [zzG, b__law_asks_L4, bodyF, isBI_sh, insOf_sh, plainT_sh, isBor_sh, isExc_sh, over_sh, under_sh, kd_sh, sh_fold, sh_cls, is1, pl_dL, bi_dL, pT, rf1, ch]
        refine draw_t ok (by omega) (by omega) (by omega) fun l st l1 ok => ?_
        have fin : ∀ (l : Nat) (o8 : Option T) (st : Tp), l ≤ 200 → True := fun _ _ _ _ => True.intro
        have hf := fun (l : Nat) (hl : l ≤ 1000) h => half_run W (d + 3) l hl h
        have hi : ∀ (l : Nat) h, run prog W (d + 5) 13 [sh (((1 : Int) : Rat) / (((2 : Int) ^ l : Int) : Rat)), .lst [.int 1, .int ((2 : Int) ^ l)]] h = .ok (.bl true) h := fun l h => by
          rw [← half_dL]; exact is1 _ h
        have sl := fun (l : Nat) (hl : l ≤ 1000) f h => shl_i l hl f h
        by_cases s3 : sp = 3
        · have e3 : ((sp : Int) == 3) = true := by rw [beq_iff_eq]; omega
          simp only [zzG, -binE, e3]
          refine draw_t ok (by omega) (by omega) (by omega) fun l2 st l21 ok => ?_
          have hf := hf l2 (by omega)
          have sl := sl l2 (by omega)
          simp only [zzG, -binE, isBI_sh, insOf_sh, plainT_sh, isBor_sh, isExc_sh, over_sh, under_sh, kd_sh, sh_fold, sh_cls, hf, hi, sl, m2]
          try exact True.intro
        · have e3 : ((sp : Int) == 3) = false := by rw [beq_eq_false_iff_ne]; omega
          have hf := hf l (by omega)
          have sl := sl l (by omega)
          simp only [zzG, -binE, e3, isBI_sh, insOf_sh, plainT_sh, isBor_sh, isExc_sh, over_sh, under_sh, kd_sh, sh_fold, sh_cls, hf, hi, sl, m2]
          try exact True.intro
theorem lawT (ns : List Int) (hn : ns.length ≤ 63) : ∃ h, run prog 100000 24 22 [.kl ns] [] = .ok (.bl true) h := by
  obtain ⟨_, h, e, rfl⟩ := asks_run 100000 17 ns hn
  refine ⟨h, ?_⟩
  rw [run_eq (rfl : prog.defs[22]? = some ⟨1, 1, b_law⟩) rfl]
  simp only [zzO, b_law, e]
end K02
end
end
section
set_option Elab.async false
set_option linter.all false
set_option maxRecDepth 100000
set_option maxHeartbeats 4000000
set_option autoImplicit false
open PySem PySem.W PyProof.Rows
set_option maxRecDepth 100000 in
set_option maxHeartbeats 0 in
theorem PySem.Challenge.cw_keptbudgets_k02_shares_in_lowest_terms_holds : PySem.Challenge.rw_keptbudgets_k02_shares_in_lowest_terms.Holds := by
  w_on; o_law; k_head; (case hw => w_witness2)
  k_fill
  refine K02.walk (l := PySem.Challenge.rw_keptbudgets_k02_shares_in_lowest_terms) rfl rfl (fun w h Y => PySem.W.kIn_of Y) ?F
  case F =>
    intro w mg fa h KX G hmg
    refine' K02.all_mk K02.lawT KX G hmg ?aC2 ?a0 ?l0 ?c0 ?k0 ?a1 ?i1 ?l1 ?c1 ?k1 ?a2 ?i2 ?l2 ?c2 ?k2 ?a3 ?i3 ?l3 ?c3 ?k3 ?a4 ?i4 ?l4 ?c4 ?k4 ?a5 ?i5 ?l5 ?c5 ?k5 ?a6 ?i6 ?l6 ?c6 ?k6 ?a7 ?l7 ?c7 ?k7 ?a8 ?l8 ?c8 ?k8 ?a9 ?l9 ?c9 ?k9 ?a10 ?l10 ?c10 ?k10 ?a11 ?l11 ?c11 ?k11 ?a12 ?l12 ?c12 ?k12 ?a13 ?l13 ?c13 ?k13 ?a14 ?l14 ?c14 ?k14 ?a15 ?l15 ?c15 ?k15 ?a16 ?l16 ?c16 ?k16 ?a17 ?l17 ?c17 ?k17 ?a18 ?l18 ?c18 ?k18 ?a19 ?l19 ?c19 ?k19 ?a20 ?l20 ?c20 ?k20 ?a21 ?l21 ?c21 ?k21 ?a22 ?l22 ?c22 ?k22 ?pg2 ?hd2 ?po2 ?sa2 ?mk2 ?kc2 ?sf2 ?dc_2 ?mo2 ?nq2 ?n2_number ?n2_over ?n2_under ?ko2_int ?ko2_bool ?ko2_str ?ko2_tuple ?ko2_list ?kk2_2 ?kb2_NoneType ?kb2_bool ?kb2_int ?kb2_str ?kb2_tuple ?kb2_list ?sp1 ?sp2 ?aX0 ?aX1 ?xg0 ?xh0 ?xB0 ?xT0 ?xD0 ?xC0 ?xn0_number ?xS0_1 ?xL1 ?xs1 ?xk1 ?xi1 ?xt1 ?xl1 ?xc1 ?xp1 ?xg1 ?xh1 ?xB1 ?xT1 ?xD1 ?xC1 ?xn1_number ?xS1_1 ?z_abs ?z_bool ?z_int ?z_isinstance ?z_range ?g_gcd
    (case aC2 => k_is)
    (case a0 => k_is)
    (case l0 => k_is)
    (case c0 => k_is)
    (case k0 => k_is)
    (case a1 => k_is)
    (case i1 => k_is)
    (case l1 => k_is)
    (case c1 => k_is)
    (case k1 => k_is)
    (case a2 => k_is)
    (case i2 => k_is)
    (case l2 => k_is)
    (case c2 => k_is)
    (case k2 => k_is)
    (case a3 => k_is)
    (case i3 => k_is)
    (case l3 => k_is)
    (case c3 => k_is)
    (case k3 => k_is)
    (case a4 => k_is)
    (case i4 => k_is)
    (case l4 => k_is)
    (case c4 => k_is)
    (case k4 => k_is)
    (case a5 => k_is)
    (case i5 => k_is)
    (case l5 => k_is)
    (case c5 => k_is)
    (case k5 => k_is)
    (case a6 => k_is)
    (case i6 => k_is)
    (case l6 => k_is)
    (case c6 => k_is)
    (case k6 => k_is)
    (case a7 => k_is)
    (case l7 => k_is)
    (case c7 => k_is)
    (case k7 => k_is)
    (case a8 => k_is)
    (case l8 => k_is)
    (case c8 => k_is)
    (case k8 => k_is)
    (case a9 => k_is)
    (case l9 => k_is)
    (case c9 => k_is)
    (case k9 => k_is)
    (case a10 => k_is)
    (case l10 => k_is)
    (case c10 => k_is)
    (case k10 => k_is)
    (case a11 => k_is)
    (case l11 => k_is)
    (case c11 => k_is)
    (case k11 => k_is)
    (case a12 => k_is)
    (case l12 => k_is)
    (case c12 => k_is)
    (case k12 => k_is)
    (case a13 => k_is)
    (case l13 => k_is)
    (case c13 => k_is)
    (case k13 => k_is)
    (case a14 => k_is)
    (case l14 => k_is)
    (case c14 => k_is)
    (case k14 => k_is)
    (case a15 => k_is)
    (case l15 => k_is)
    (case c15 => k_is)
    (case k15 => k_is)
    (case a16 => k_is)
    (case l16 => k_is)
    (case c16 => k_is)
    (case k16 => k_is)
    (case a17 => k_is)
    (case l17 => k_is)
    (case c17 => k_is)
    (case k17 => k_is)
    (case a18 => k_is)
    (case l18 => k_is)
    (case c18 => k_is)
    (case k18 => k_is)
    (case a19 => k_is)
    (case l19 => k_is)
    (case c19 => k_is)
    (case k19 => k_is)
    (case a20 => k_is)
    (case l20 => k_is)
    (case c20 => k_is)
    (case k20 => k_is)
    (case a21 => k_is)
    (case l21 => k_is)
    (case c21 => k_is)
    (case k21 => k_is)
    (case a22 => k_is)
    (case l22 => k_is)
    (case c22 => k_is)
    (case k22 => k_is)
    (case pg2 => k_is)
    (case hd2 => k_is)
    (case po2 => k_is)
    (case sa2 => k_is)
    (case mk2 => k_is)
    (case kc2 => k_is)
    (case sf2 => k_is)
    (case dc_2 => k_is)
    (case mo2 => k_is)
    (case nq2 => k_is)
    (case n2_number => k_is)
    (case n2_over => k_is)
    (case n2_under => k_is)
    (case ko2_int => kit_is)
    (case ko2_bool => kit_is)
    (case ko2_str => kit_is)
    (case ko2_tuple => kit_is)
    (case ko2_list => kit_is)
    (case kk2_2 => kit_is)
    (case kb2_NoneType => kit_is)
    (case kb2_bool => kit_is)
    (case kb2_int => kit_is)
    (case kb2_str => kit_is)
    (case kb2_tuple => kit_is)
    (case kb2_list => kit_is)
    (case sp1 => k_is)
    (case sp2 => k_is)
    (case aX0 => k_is)
    (case aX1 => k_is)
    (case xg0 => k_is)
    (case xh0 => k_is)
    (case xB0 => k_is)
    (case xT0 => k_is)
    (case xD0 => k_is)
    (case xC0 => k_is)
    (case xn0_number => k_is)
    (case xS0_1 => k_is)
    (case xL1 => k_is)
    (case xs1 => k_is)
    (case xk1 => k_is)
    (case xi1 => k_is)
    (case xt1 => k_is)
    (case xl1 => k_is)
    (case xc1 => k_is)
    (case xp1 => k_is)
    (case xg1 => k_is)
    (case xh1 => k_is)
    (case xB1 => k_is)
    (case xT1 => k_is)
    (case xD1 => k_is)
    (case xC1 => k_is)
    (case xn1_number => k_is)
    (case xS1_1 => k_is)
    (case z_abs => k_is)
    (case z_bool => k_is)
    (case z_int => k_is)
    (case z_isinstance => k_is)
    (case z_range => k_is)
    (case g_gcd => k_is)
#print axioms PySem.Challenge.cw_keptbudgets_k02_shares_in_lowest_terms_holds
end
