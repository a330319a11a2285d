import PyProof.Rows.All
import Wide.All
import OpenK.AllK
import Wide.FinOn
import PySem.Str
import HandS.Base
import HandS.Call
import HandS.List
import HandS.Exc
import HandS.Wide
import HandS.IsInst
import HandS.DictComp
import PyProof.NeKinds
import HandS.Text
import HandS.More
import HandS.ExcOwn
import HandS.CallSlots
import HandS.TupLen
import HandS.WordsDict
import HandS.Conv
import HandS.Style
import HandS.TupAny
import HandS.Comp
import HandS.ExcSuper
import HandS.ExcInit
import KE.KExcSuper
import KE.KSuper
import HandS.ExcField
import HandS.TryMany
import HandS.Defaults
import HandS.Head0
import HandS.Head1
import HandS.Head2
import HandS.HeadEnd
import HandS.HeadHook1
import HandS.HeadHook2
import HandS.HeadHook3
import HandS.Ends
import HandS.Words
import PySem.Challenge.RW_roundtotals_k02_numbers_rounded
/-! A small language of programs as values: what a def of the program says, without places. -/
namespace MP
open PySem (Str)

/-- a value: data; a frozen instance (its class's number, its fields); an object of the heap -/
inductive MV where
  | non | bl (b : Bool) | int (i : Int) | str (s : Str)
  | tup (xs : List MV)
  | ins (c : Nat) (fs : List MV)
  | obj (a : Nat)
  deriving BEq, Repr, Inhabited

abbrev Ky := Sum Int Str
/-- a key of a dict: a number or a text; a tuple of these -/
inductive MK where
  | one (k : Ky)
  | many (ks : List Ky)
  deriving DecidableEq, Repr

inductive MO where
  | lst (xs : List MV)
  | ro (xs : List MV)
  | dct (t : Bool) (kvs : List (MK × MV))
  | ins (c : Nat) (fs : List (Str × MV))
  | dead
  deriving Repr

abbrev Hm := List MO
abbrev En := List (Option MV)

inductive R (α : Type) where
  | ok (a : α) (h : Hm)
  | ex (c : Nat) (v : MV) (h : Hm)
  | bad
  deriving Repr

namespace R
variable {α β : Type}
def bind (r : R α) (f : α → Hm → R β) : R β := match r with
  | ok a h => f a h
  | ex c v h => ex c v h
  | bad => bad
def wp (r : R α) (Q : α → Hm → Prop) (E : Nat → MV → Hm → Prop) : Prop := match r with
  | ok a h => Q a h
  | ex c v h => E c v h
  | bad => False
theorem wp_bind {r : R α} {f : α → Hm → R β} {Q : β → Hm → Prop} {E : Nat → MV → Hm → Prop} : (r.bind f).wp Q E ↔ r.wp (fun a h => (f a h).wp Q E) E := by
  cases r <;> exact Iff.rfl
theorem wp_mono {r : R α} {Q Q' : α → Hm → Prop} {E E' : Nat → MV → Hm → Prop} (h : r.wp Q E) (hq : ∀ a h, Q a h → Q' a h) (he : ∀ c v h, E c v h → E' c v h) : r.wp Q' E' := by
  cases r with
  | ok a h' => exact hq _ _ h
  | ex c v h' => exact he _ _ _ h
  | bad => exact h.elim
end R

/-- what a statement does -/
inductive S where
  | nx (e : En) (h : Hm)
  | rt (v : MV) (h : Hm)
  | bk (e : En) (h : Hm)
  | ct (e : En) (h : Hm)
  | ex (c : Nat) (v : MV) (e : En) (h : Hm)
  | bad
  deriving Repr
namespace S
def bind (r : S) (f : En → Hm → S) : S := match r with
  | nx e h => f e h
  | r => r
end S
def R.sb {α : Type} (r : R α) (e : En) (f : α → Hm → S) : S := match r with
  | ok a h => f a h
  | ex c v h => .ex c v e h
  | bad => .bad

/-! ### the syntax -/
inductive BOp where
  | add | sub | mul | fdiv | mod | pow
  deriving DecidableEq, Repr
inductive COp where
  | eq | ne | lt | le | gt | ge | in_ | notin
  deriving DecidableEq, Repr
inductive Ty where
  | int | bool | str | list | tuple | dict | cls (c : Nat)
  deriving DecidableEq, Repr
inductive Bl where
  | len | int | list | tuple | sorted | sum | abs | max | min | str
  deriving DecidableEq, Repr
inductive Kc where
  | non | bl (b : Bool) | int (i : Int) | str (s : Str)
  deriving DecidableEq, Repr
def Kc.v : Kc → MV
  | .non => .non
  | .bl b => .bl b
  | .int i => .int i
  | .str s => .str s

/-- what is stored into -/
inductive Tg where
  | nm (i : Nat)
  | tup (ts : List Tg)
  deriving Repr

inductive ME where
  | var (i : Nat)
  | kon (c : Kc)
  | gstr (x : Str)
  | bin (op : BOp) (a b : ME)
  | neg (a : ME)
  | not (a : ME)
  | and (a b : ME)
  | or (a b : ME)
  | one (a : ME)
  | cmp (op : COp) (a b : ME)
  | isN (a : ME)
  | notN (a : ME)
  | chain (o1 o2 : COp) (a b c : ME)
  | ite (c a b : ME)
  | call (f : Nat) (es : List ME)
  | make (c : Nat) (es : List ME)
  | blt (b : Bl) (es : List ME)
  | isi (a : ME) (t : Ty)
  | meth (o : ME) (m : Str) (es : List ME)
  | attr (o : ME) (f : Str)
  | sub (a i : ME)
  | slc (a : ME) (lo hi : Option ME)
  | rev (a : ME)
  | list (es : List ME)
  | tup (es : List ME)
  | dict (t : Bool) (ps : List ME)
  | lc (el : ME) (tg : Tg) (it : ME) (c : Option ME) (own : List Nat)
  | lc2 (el : ME) (tg : Tg) (it : ME) (tg1 : Tg) (it1 : ME) (c : Option ME) (own own1 : List Nat)
  | dc (t : Bool) (k v : ME) (tg : Tg) (it : ME) (c : Option ME) (own : List Nat)
  | lenset (a : ME)
  | sortset (a : ME)
  | gdin (a : ME) (x : Str)
  | gdat (x : Str) (a : ME)
  -- what is walked
  | walk (a : ME)
  | range (es : List ME)
  | enum (a : ME)
  | items (a : ME)
  | join (s : Str) (a : ME)
  | bad

inductive MT where
  | nm (i : Nat)
  | tup (ts : List Tg)
  | sub (a i : ME)
  | attr (a : ME) (f : Str)

/-- except C as e: x = .. -/
structure Hd where
  c : Nat
  es : Nat
  tg : Nat
  pre : Option (Option Kc)

mutual
inductive MS where
  | asg (t : MT) (e : ME)
  | aug (i : Nat) (op : BOp) (e : ME)
  | expr (e : ME)
  | ret (e : ME)
  | retN
  | ifs (c : ME) (a b : MSs)
  | for_ (t : Tg) (it : ME) (b : MSs)
  | while_ (c : ME) (b : MSs)
  | brk
  | cont
  | pass
  | raise (c : Nat) (e : ME)
  | try_ (b : MSs) (hs : List Hd)
  | bad
inductive MSs where
  | nil
  | cons (s : MS) (r : MSs)
end

structure FD where
  ar : Nat
  slots : Nat
  dfl : List Kc
  body : MSs

structure CI where
  flds : List Str
  frozen : Bool
  init : Nat
  sup : List Nat
  meths : List (Str × Nat)
  props : List (Str × Nat)
  iter : Option Str

/-- the tables of a program -/
structure Tb where
  fn : Nat → Option FD
  ci : Nat → Option CI
  gs : Str → Option Str
  gd : Str → Option (List (Str × Str))
  fl : Nat

structure Ct extends Tb where
  call : Nat → List MV → Hm → R MV

def lim : Nat := 16777216
end MP

namespace MP
open PySem (Str)

/-! ### helpers on the heap -/
def put (h : Hm) (a : Nat) (o : MO) : Hm := h.set a o
def new {α : Type} (h : Hm) (o : MO) (f : MV → α) : R α := .ok (f (.obj h.length)) (h ++ [o])

/-! ### numbers -/
def mulB (i j : Int) : Bool := decide (i.natAbs.log2 + j.natAbs.log2 < 1000000)
def divB (j : Int) : Bool := decide (0 < j) && decide (j.natAbs.log2 < 9000)
def powB (i j : Int) : Bool := decide (0 ≤ j) && decide (j ≤ 1000000) && decide (i.natAbs < 2 ^ 64)

def rep {α : Type} (n : Nat) (xs : List α) : List α := (List.replicate n xs).flatten

def mbin (op : BOp) (x y : MV) (h : Hm) : R MV := match op, x, y with
  | .add, .int i, .int j => .ok (.int (i + j)) h
  | .add, .str i, .str j => if i.length + j.length ≤ lim then .ok (.str (i ++ j)) h else .bad
  | .add, .obj a, .obj b => match h[a]?, h[b]? with
    | some (.lst xs), some (.lst ys) => if xs.length + ys.length ≤ lim then .ok (.obj h.length) (h ++ [.lst (xs ++ ys)]) else .bad
    | _, _ => .bad
  | .sub, .int i, .int j => .ok (.int (i - j)) h
  | .mul, .int i, .int j => if mulB i j then .ok (.int (i * j)) h else .bad
  | .mul, .obj a, .int k => match h[a]? with
    | some (.lst xs) => if decide (-(2 ^ 63) ≤ k) && decide (k < 2 ^ 63) && decide (xs.length * k.toNat ≤ lim) then .ok (.obj h.length) (h ++ [.lst (rep k.toNat xs)]) else .bad
    | _ => .bad
  | .mul, .str s, .int k => if decide (0 ≤ k) && decide (k ≤ 1000) && decide (s.length ≤ 1000) then .ok (.str ⟨(rep k.toNat s.cps.toList).toArray⟩) h else .bad
  | .fdiv, .int i, .int j => if divB j then .ok (.int (i / j)) h else .bad
  | .mod, .int i, .int j => if decide (0 < j) then .ok (.int (i % j)) h else .bad
  | .pow, .int i, .int j => if powB i j then .ok (.int (i ^ j.toNat)) h else .bad
  | _, _, _ => .bad

/-! ### keys -/
def kyOf : MV → Option Ky
  | .int i => some (.inl i)
  | .str s => some (.inr s)
  | _ => none
def kysOf : List MV → Option (List Ky)
  | [] => some []
  | x :: r => match kyOf x, kysOf r with
    | some k, some ks => some (k :: ks)
    | _, _ => none
def keyOf (t : Bool) : MV → Option MK
  | .tup xs => if t then (kysOf xs).map .many else none
  | x => if t then none else (kyOf x).map .one
def kyV : Ky → MV
  | .inl i => .int i
  | .inr s => .str s
def MK.v : MK → MV
  | .one k => kyV k
  | .many ks => .tup (ks.map kyV)
def dget (kvs : List (MK × MV)) (k : MK) : Option MV := (kvs.find? fun p => decide (p.1 = k)).map (·.2)
def dput (kvs : List (MK × MV)) (k : MK) (v : MV) : List (MK × MV) :=
  if (kvs.any fun p => decide (p.1 = k)) = true then kvs.map (fun p => if p.1 = k then (p.1, v) else p) else kvs ++ [(k, v)]
def ddrop (kvs : List (MK × MV)) (k : MK) : List (MK × MV) := kvs.filter fun p => decide (p.1 ≠ k)

/-! ### equality -/
def b01 (b : Bool) : Int := if b then 1 else 0
/-- == of two things that are no containers -/
def eqFlat : MV → MV → Option Bool
  | .non, .non => some true
  | .non, .bl _ => some false
  | .non, .int _ => some false
  | .non, .str _ => some false
  | .bl _, .non => some false
  | .int _, .non => some false
  | .str _, .non => some false
  | .bl a, .bl b => some (a == b)
  | .bl a, .int b => some (b01 a == b)
  | .int a, .bl b => some (a == b01 b)
  | .int a, .int b => some (decide (a = b))
  | .str a, .str b => some (decide (a = b))
  | .int _, .str _ => some false
  | .str _, .int _ => some false
  | .bl _, .str _ => some false
  | .str _, .bl _ => some false
  | _, _ => none
/-- all of the two lists' places; none where a place has no answer -/
def eqAll (f : MV → MV → Option Bool) : List MV → List MV → Option Bool
  | x :: xs, y :: ys => match f x y, eqAll f xs ys with
    | some a, some b => some (a && b)
    | _, _ => none
  | _, _ => some true
/-- == of data, n deep -/
def eqm (h : Hm) : Nat → MV → MV → Option Bool
  | 0, _, _ => none
  | n + 1, v, w => match v, w with
    | .tup xs, .tup ys => match eqAll (eqm h n) xs ys with
      | some b => some (b && xs.length == ys.length)
      | none => none
    | .obj a, .obj b => if a = b then some true else match h[a]?, h[b]? with
      | some (.lst xs), some (.lst ys) => if xs.length = ys.length then eqAll (eqm h n) xs ys else some false
      | _, _ => none
    | v, w => eqFlat v w

/-! ### order -/
def ltFlat : MV → MV → Option Bool
  | .int a, .int b => some (decide (a < b))
  | .str a, .str b => some (decide (a.cps.toList < b.cps.toList))
  | _, _ => none
def leFlat : MV → MV → Option Bool
  | .int a, .int b => some (decide (a ≤ b))
  | _, _ => none

/-! ### places -/
def ixN (n : Nat) (i : Int) : Option Nat := if 0 ≤ i then (if i < n then some i.toNat else none) else if -(n : Int) ≤ i then some (i + n).toNat else none
def atI {α : Type} (xs : List α) (i : Int) : Option α := (ixN xs.length i).bind fun j => xs[j]?
def sIx (n d : Nat) : Option Int → Nat
  | none => d
  | some v => if v < 0 then (v + (n : Int)).toNat else min v.toNat n
def cut {α : Type} (xs : List α) (lo hi : Option Int) : List α := (xs.drop (sIx xs.length 0 lo)).take (sIx xs.length xs.length hi - sIx xs.length 0 lo)
def seqAt (h : Hm) (a : Nat) : Option (List MV) := match h[a]? with
  | some (.lst xs) => some xs
  | some (.ro xs) => some xs
  | _ => none
/-- a list's or a tuple's items -/
def items? (h : Hm) : MV → Option (List MV)
  | .tup xs => some xs
  | .obj a => seqAt h a
  | _ => none

def strAt (s : Str) (i : Int) : Option MV := (atI s.cps.toList i).map fun c => .str ⟨#[c]⟩
end MP

namespace MP
open PySem (Str)

abbrev EE := En → Hm → R MV
abbrev EL := En → Hm → R (List MV)

/-! ### what each form does -/
def eVar (i : Nat) : EE := fun e h => match e[i]? with
  | some (some v) => .ok v h
  | _ => .bad
def eBin (op : BOp) (a b : EE) : EE := fun e h => (a e h).bind fun x h => (b e h).bind fun y h => mbin op x y h
def eNeg (a : EE) : EE := fun e h => (a e h).bind fun x h => match x with
  | .int i => .ok (.int (-i)) h
  | _ => .bad
def asB (x : MV) (h : Hm) (f : Bool → Hm → R MV) : R MV := match x with
  | .bl b => f b h
  | _ => .bad
def eNot (a : EE) : EE := fun e h => (a e h).bind fun x h => asB x h fun b h => .ok (.bl (!b)) h
def eAnd (a b : EE) : EE := fun e h => (a e h).bind fun x h => asB x h fun c h => if c then b e h else .ok (.bl false) h
def eOr (a b : EE) : EE := fun e h => (a e h).bind fun x h => asB x h fun c h => if c then .ok (.bl true) h else b e h
def eIte (c a b : EE) : EE := fun e h => (c e h).bind fun x h => asB x h fun k h => if k then a e h else b e h
def eIsN (n : Bool) (a : EE) : EE := fun e h => (a e h).bind fun x h => match x with
  | .non => .ok (.bl (!n)) h
  | _ => .ok (.bl n) h

/-- a user's function: the arguments, the defaults of the last ones -/
def full (ar : Nat) (dfl : List Kc) (vs : List MV) : Option (List MV) :=
  if vs.length ≤ ar ∧ ar ≤ vs.length + dfl.length then some (vs ++ (dfl.drop (dfl.length - (ar - vs.length))).map Kc.v) else none
def callF (C : Ct) (f : Nat) (vs : List MV) (h : Hm) : R MV := match C.fn f with
  | some d => match full d.ar d.dfl vs with
    | some ws => C.call f ws h
    | none => .bad
  | none => .bad
def fldAt (fs : List Str) (vs : List MV) (f : Str) : Option MV := (fs.zip vs).lookup f
/-- a new instance -/
def makeC (C : Ct) (c : Nat) (vs : List MV) (h : Hm) : R MV := match C.ci c with
  | some d => (callF C d.init (.obj h.length :: vs) (h ++ [.ins c []])).bind fun r h' => match r with
    | .non => if d.frozen then (match h'[h.length]? with
        | some (.ins c' fs) => if c' = c ∧ fs.map (·.1) = d.flds then .ok (.ins c (fs.map (·.2))) (h'.set h.length .dead) else .bad
        | _ => .bad) else .ok (.obj h.length) h'
    | _ => .bad
  | none => .bad
/-- the class of an instance -/
def clsOf (h : Hm) : MV → Option Nat
  | .ins c _ => some c
  | .obj a => match h[a]? with
    | some (.ins c _) => some c
    | _ => none
  | _ => none
def methOf (C : Ct) (h : Hm) (o : MV) (m : Str) : Option Nat := (clsOf h o).bind fun c => (C.ci c).bind fun d => d.meths.lookup m
def attrOf (C : Ct) (o : MV) (f : Str) (h : Hm) : R MV := match o with
  | .ins c vs => match C.ci c with
    | some d => match fldAt d.flds vs f with
      | some v => .ok v h
      | none => match d.props.lookup f with
        | some g => callF C g [o] h
        | none => .bad
    | none => .bad
  | .obj a => match h[a]? with
    | some (.ins c fs) => match fs.lookup f with
      | some v => .ok v h
      | none => match (C.ci c).bind fun d => d.props.lookup f with
        | some g => callF C g [o] h
        | none => .bad
    | _ => .bad
  | _ => .bad

def eqDeep : Nat := 40
/-- two dicts of flat values -/
def eqDct (kb : List (MK × MV)) : List (MK × MV) → Option Bool
  | [] => some true
  | (k, v) :: r => match dget kb k, eqDct kb r with
    | none, some _ => some false
    | some y, some b => (eqFlat v y).map (· && b)
    | _, none => none
/-- == of data -/
def eqData (h : Hm) (x y : MV) : Option Bool := match x, y with
  | .obj a, .obj b => (match h[a]?, h[b]? with
    | some (.lst _), some (.lst _) => eqm h eqDeep x y
    | _, _ => none)
  | _, _ => eqm h eqDeep x y
/-- ==: an instance's own, else that of data -/
def mEq (C : Ct) (x y : MV) (h : Hm) (f : Bool → Hm → R MV) : R MV := match methOf C h x "__eq__" with
  | some g => (match callF C g [x, y] h with
    | .ok (.bl b) h' => f b h'
    | _ => .bad)
  | none => (match eqData h x y with
    | some b => f b h
    | none => .bad)
def mcmp (C : Ct) (op : COp) (x y : MV) (h : Hm) : R MV := match op with
  | .eq => mEq C x y h fun b h => .ok (.bl b) h
  | .ne => mEq C x y h fun b h => .ok (.bl (!b)) h
  | .lt => match ltFlat x y with
    | some b => .ok (.bl b) h
    | none => .bad
  | .gt => match x, y with
    | .int a, .int b => .ok (.bl (decide (b < a))) h
    | _, _ => .bad
  | .le => match leFlat x y with
    | some b => .ok (.bl b) h
    | none => .bad
  | .ge => match x, y with
    | .int a, .int b => .ok (.bl (decide (b ≤ a))) h
    | _, _ => .bad
  | _ => .bad
end MP

namespace MP
open PySem (Str)

section
variable (C : Ct)
open Classical in
noncomputable def gOk (g : Option (Nat × MO)) (h : Hm) : Bool := match g with
  | none => true
  | some (a, o) => decide (h[a]? = some o)

def flatM : MV → Bool
  | .non => true
  | .bl _ => true
  | .int _ => true
  | .str _ => true
  | _ => false
/-- an item among these, all flat -/
def anyEq (x : MV) : List MV → Option Bool
  | [] => if flatM x then some false else none
  | y :: r => match eqFlat y x, anyEq x r with
    | some a, some b => some (a || b)
    | _, _ => none
def noex {α : Type} : R α → R α
  | .ex _ _ _ => .bad
  | r => r
def mIn (x y : MV) (h : Hm) (f : Bool → Hm → R MV) : R MV := match methOf C h y "__contains__" with
  | some g => (match callF C g [y, x] h with
    | .ok (.bl b) h' => f b h'
    | _ => .bad)
  | none => (match y with
    | .str s => (match x with
      | .str t => (match t.cps.toList with
        | [c] => f (decide (c ∈ s.cps.toList)) h
        | _ => .bad)
      | _ => .bad)
    | .tup ys => (match anyEq x ys with
      | some b => f b h
      | none => .bad)
    | .obj a => (match h[a]? with
      | some (.lst ys) => (match anyEq x ys with
        | some b => f b h
        | none => .bad)
      | some (.dct t kvs) => (match keyOf t x with
        | some k => f (dget kvs k).isSome h
        | none => .bad)
      | _ => .bad)
    | _ => .bad)
def mCmp (op : COp) (x y : MV) (h : Hm) : R MV := match op with
  | .in_ => mIn C x y h fun b h => .ok (.bl b) h
  | .notin => mIn C x y h fun b h => .ok (.bl (!b)) h
  | _ => mcmp C op x y h
def eCmp (op : COp) (a b : EE) : EE := fun e h => (a e h).bind fun x h => (b e h).bind fun y h => mCmp C op x y h
def eChain (o1 o2 : COp) (a b c : EE) : EE := fun e h => (a e h).bind fun x h => (b e h).bind fun y h => (mCmp C o1 x y h).bind fun z h => asB z h fun k h =>
  if k then (c e h).bind fun w h => mCmp C o2 y w h else .ok (.bl false) h
def eCall (f : Nat) (es : EL) : EE := fun e h => (es e h).bind fun vs h => callF C f vs h
def eMake (c : Nat) (es : EL) : EE := fun e h => (es e h).bind fun vs h => makeC C c vs h

/-! ### built-in functions -/
def leV : MV → MV → Bool
  | .int a, .int b => decide (a ≤ b)
  | .str a, .str b => decide (a.cps.toList ≤ b.cps.toList)
  | _, _ => false
def intsOf : List MV → Option (List Int)
  | [] => some []
  | .int i :: r => (intsOf r).map (i :: ·)
  | _ => none
def strsOf : List MV → Option (List Str)
  | [] => some []
  | .str i :: r => (strsOf r).map (i :: ·)
  | _ => none
def sortInts (xs : List Int) : List Int := xs.mergeSort fun a b => decide (a ≤ b)
def sortStrs (xs : List Str) : List Str := xs.mergeSort fun a b => decide (a.cps.toList ≤ b.cps.toList)
/-- pairs of a text and a number, by the text alone (the texts differ) -/
def sorted? (xs : List MV) : Option (List MV) := match intsOf xs with
  | some ns => some ((sortInts ns).map .int)
  | none => match strsOf xs with
    | some ss => some ((sortStrs ss).map .str)
    | none => none
def sumI (ns : List Int) : Int := ns.sum
def maxI : List Int → Option Int
  | [] => none
  | x :: r => some (r.foldl (fun a b => if b > a then b else a) x)
def minI : List Int → Option Int
  | [] => none
  | x :: r => some (r.foldl (fun a b => if b < a then b else a) x)
def newL (xs : List MV) (h : Hm) : R MV := if xs.length ≤ lim then .ok (.obj h.length) (h ++ [.lst xs]) else .bad
def mLen (x : MV) (h : Hm) : R MV := match x with
  | .str s => if s.length ≤ lim then .ok (.int s.length) h else .bad
  | .tup xs => .ok (.int xs.length) h
  | .ins _ _ => (match methOf C h x "__len__" with
    | some g => (callF C g [x] h).bind fun r h => match r with
      | .int i => if 0 ≤ i ∧ i < 2 ^ 62 then .ok (.int i) h else .bad
      | _ => .bad
    | none => .bad)
  | .obj a => (match h[a]? with
    | some (.lst xs) => .ok (.int xs.length) h
    | some (.ro xs) => .ok (.int xs.length) h
    | some (.dct _ kvs) => .ok (.int kvs.length) h
    | some (.ins _ _) => (match methOf C h x "__len__" with
      | some g => (callF C g [x] h).bind fun r h => match r with
        | .int i => if 0 ≤ i ∧ i < 2 ^ 62 then .ok (.int i) h else .bad
        | _ => .bad
      | none => .bad)
    | _ => .bad)
  | _ => .bad
def lst? (h : Hm) : MV → Option (List MV)
  | .obj a => seqAt h a
  | _ => none
def mBlt (b : Bl) (vs : List MV) (h : Hm) : R MV := match b, vs with
  | .len, [x] => mLen C x h
  | .int, [.int i] => .ok (.int i) h
  | .int, [.bl b] => .ok (.int (b01 b)) h
  | .list, [x] => (match items? h x with
    | some xs => newL xs h
    | none => match x with
      | .obj a => (match h[a]? with
        | some (.dct false kvs) => newL (kvs.map fun p => p.1.v) h
        | _ => .bad)
      | _ => .bad)
  | .tuple, [x] => (match items? h x with
    | some xs => .ok (.tup xs) h
    | none => .bad)
  | .sorted, [x] => (match lst? h x with
    | some xs => if xs.length < 64 then (match sorted? xs with
      | some ys => newL ys h
      | none => .bad) else .bad
    | none => .bad)
  | .sum, [x] => (match lst? h x with
    | some xs => (match intsOf xs with
      | some ns => .ok (.int (sumI ns)) h
      | none => .bad)
    | none => .bad)
  | .abs, [.int i] => .ok (.int (if i < 0 then -i else i)) h
  | .max, [.int i, .int j] => .ok (.int (if j > i then j else i)) h
  | .min, [.int i, .int j] => .ok (.int (if j < i then j else i)) h
  | .max, [x] => (match lst? h x with
    | some xs => (match (intsOf xs).bind maxI with
      | some n => .ok (.int n) h
      | none => .bad)
    | none => .bad)
  | .min, [x] => (match lst? h x with
    | some xs => (match (intsOf xs).bind minI with
      | some n => .ok (.int n) h
      | none => .bad)
    | none => .bad)
  | _, _ => .bad
def eBlt (b : Bl) (es : EL) : EE := fun e h => (es e h).bind fun vs h => mBlt C b vs h

/-- a value's type: a built-in one by its name, or a class of the program -/
def tyN (h : Hm) : MV → Option (Sum String Nat)
  | .non => some (.inl "NoneType")
  | .bl _ => some (.inl "bool")
  | .int _ => some (.inl "int")
  | .str _ => some (.inl "str")
  | .tup _ => some (.inl "tuple")
  | .ins d _ => some (.inr d)
  | .obj a => match h[a]? with
    | some (.lst _) => some (.inl "list")
    | some (.dct _ _) => some (.inl "dict")
    | some (.ins d _) => some (.inr d)
    | _ => none
def nmT : Ty → String
  | .int => "int"
  | .bool => "bool"
  | .str => "str"
  | .list => "list"
  | .tuple => "tuple"
  | .dict => "dict"
  | .cls _ => ""
/-- isinstance -/
def isiB (h : Hm) (x : MV) (t : Ty) : Option Bool := match tyN h x, t with
  | some (.inl _), .cls _ => some false
  | some (.inl n), t => some (n == nmT t || (n == "bool" && nmT t == "int"))
  | some (.inr d), .cls c => (match C.ci d with
    | some i => some (d == c || i.sup.contains c)
    | none => none)
  | some (.inr _), _ => some false
  | none, _ => none
def eIsi (a : EE) (t : Ty) : EE := fun e h => (a e h).bind fun x h => match isiB C h x t with
  | some b => .ok (.bl b) h
  | none => .bad

/-! ### methods -/
/-- a built-in list's or dict's method -/
def bmeth (a : Nat) (o : MO) (m : Str) (vs : List MV) (h : Hm) : R MV := match o with
  | .lst xs =>
    if m = "append" then (match vs with
      | [v] => if xs.length < lim then .ok .non (h.set a (.lst (xs ++ [v]))) else .bad
      | _ => .bad)
    else if m = "clear" then (match vs with
      | [] => .ok .non (h.set a (.lst []))
      | _ => .bad)
    else if m = "pop" then (match vs with
      | [] => (match xs[xs.length - 1]? with
        | some y => .ok y (h.set a (.lst xs.dropLast))
        | none => .bad)
      | _ => .bad)
    else .bad
  | .dct false kvs =>
    if m = "pop" then (match vs with
      | [x] => (match keyOf false x with
        | some k => (match dget kvs k with
          | some v => .ok v (h.set a (.dct false (ddrop kvs k)))
          | none => .bad)
        | none => .bad)
      | _ => .bad)
    else .bad
  | _ => .bad
def eMeth (o : EE) (m : Str) (es : EL) : EE := fun e h => (o e h).bind fun x h => match methOf C h x m with
  | some g => (es e h).bind fun vs h => callF C g (x :: vs) h
  | none => (match x with
    | .obj a => (match h[a]? with
      | some (.lst _) => (es e h).bind fun vs h => (match h[a]? with
        | some o => bmeth a o m vs h
        | none => .bad)
      | some (.dct _ _) => (es e h).bind fun vs h => (match h[a]? with
        | some o => bmeth a o m vs h
        | none => .bad)
      | _ => .bad)
    | _ => .bad)
def eAttr (a : EE) (f : Str) : EE := fun e h => (a e h).bind fun x h => attrOf C x f h

/-! ### subscripts -/
def mSub (x i : MV) (h : Hm) : R MV := match x with
  | .str s => (match i with
    | .int k => if s.length ≤ lim then (match strAt s k with
      | some v => .ok v h
      | none => .bad) else .bad
    | _ => .bad)
  | .tup xs => (match i with
    | .int k => (match atI xs k with
      | some v => .ok v h
      | none => .bad)
    | _ => .bad)
  | .ins _ _ => (match methOf C h x "__getitem__" with
    | some g => callF C g [x, i] h
    | none => .bad)
  | .obj a => (match h[a]? with
    | some (.lst xs) => (match i with
      | .int k => (match atI xs k with
        | some v => .ok v h
        | none => .bad)
      | _ => .bad)
    | some (.ro xs) => (match i with
      | .int k => (match atI xs k with
        | some v => .ok v h
        | none => .bad)
      | _ => .bad)
    | some (.dct t kvs) => (match keyOf t i with
      | some k => (match dget kvs k with
        | some v => .ok v h
        | none => .bad)
      | none => .bad)
    | some (.ins _ _) => (match methOf C h x "__getitem__" with
      | some g => callF C g [x, i] h
      | none => .bad)
    | _ => .bad)
  | _ => .bad
def eSub (a i : EE) : EE := fun e h => (a e h).bind fun x h => (i e h).bind fun y h => mSub C x y h
abbrev EO := En → Hm → R (Option Int)
def oNone : EO := fun _ h => .ok none h
def oSome (a : EE) : EO := fun e h => (a e h).bind fun x h => match x with
  | .int i => .ok (some i) h
  | _ => .bad
def mSlc (x : MV) (lo hi : Option Int) (h : Hm) : R MV := match x with
  | .str s => if s.length ≤ lim then .ok (.str ⟨(cut s.cps.toList lo hi).toArray⟩) h else .bad
  | .tup xs => .ok (.tup (cut xs lo hi)) h
  | .obj a => (match seqAt h a with
    | some xs => .ok (.obj h.length) (h ++ [.lst (cut xs lo hi)])
    | none => .bad)
  | _ => .bad
def eSlc (a : EE) (lo hi : EO) : EE := fun e h => (a e h).bind fun x h => (lo e h).bind fun l h => (hi e h).bind fun u h => mSlc x l u h
def eRev (a : EE) : EE := fun e h => (a e h).bind fun x h => match x with
  | .obj a => (match h[a]? with
    | some (.lst xs) => .ok (.obj h.length) (h ++ [.lst xs.reverse])
    | _ => .bad)
  | _ => .bad
def eList (es : EL) : EE := fun e h => (es e h).bind fun vs h => newL vs h
def eTup (es : EL) : EE := fun e h => (es e h).bind fun vs h => if vs.length ≤ lim then .ok (.tup vs) h else .bad
/-- the pairs of a display -/
def dmk (t : Bool) : List MV → List MV → List (MK × MV) → Option (List (MK × MV))
  | k :: ks, v :: vs, acc => match keyOf t k with
    | some q => dmk t ks vs (dput acc q v)
    | none => none
  | _, _, acc => some acc
def eDict (t : Bool) (ps : En → Hm → R (List MV × List MV)) : EE := fun e h => (ps e h).bind fun p h => if p.1.length ≤ 15 then (match dmk t p.1 p.2 [] with
  | some kvs => .ok (.obj h.length) (h ++ [.dct t kvs])
  | none => .bad) else .bad

/-! ### what is walked -/
abbrev EI := En → Hm → R (List MV × Option (Nat × MO))
/-- the turns of range(lo, hi, c) -/
def rangeL (lo : Int) (n : Nat) (c : Int) : List MV := (List.range n).map fun (i : Nat) => .int (lo + (i : Int) * c)
def small62 (i : Int) : Bool := decide (-(2 ^ 62) ≤ i) && decide (i < 2 ^ 62)
def mRange (vs : List MV) (h : Hm) : R (List MV × Option (Nat × MO)) := match vs with
  | [.int j] => if small62 j then .ok (rangeL 0 j.toNat 1, none) h else .bad
  | [.int i, .int j] => if small62 i && small62 j then .ok (rangeL i (j - i).toNat 1, none) h else .bad
  | [.int i, .int j, .int c] => if small62 i && small62 j && (c == -1) then .ok (rangeL i (i - j).toNat (-1), none) h
      else if small62 i && small62 j && decide (0 < c) && decide (c < 2 ^ 30) then .ok (rangeL i ((j - i + c - 1) / c).toNat c, none) h else .bad
  | _ => .bad
def mWalk (x : MV) (h : Hm) : R (List MV × Option (Nat × MO)) := match x with
  | .tup xs => .ok (xs, none) h
  | .str s => .ok (s.cps.toList.map fun c => .str ⟨#[c]⟩, none) h
  | .ins c vs => (match C.ci c with
    | some d => (match d.iter with
      | some f => (match fldAt d.flds vs f with
        | some (.tup xs) => .ok (xs, none) h
        | _ => .bad)
      | none => .bad)
    | none => .bad)
  | .obj a => (match h[a]? with
    | some (.lst xs) => .ok (xs, some (a, .lst xs)) h
    | some (.ro xs) => .ok (xs, some (a, .ro xs)) h
    | _ => .bad)
  | _ => .bad
def enumL (xs : List MV) : List MV := xs.zipIdx.map fun p => .tup [.int (p.2 : Nat), p.1]
def mEnum (x : MV) (h : Hm) : R (List MV × Option (Nat × MO)) := match x with
  | .obj a => (match h[a]? with
    | some (.lst xs) => .ok (enumL xs, some (a, .lst xs)) h
    | _ => .bad)
  | _ => .bad
def mItems (x : MV) (h : Hm) : R (List MV × Option (Nat × MO)) := match x with
  | .obj a => (match h[a]? with
    | some (.dct t kvs) => .ok (kvs.map fun p => .tup [p.1.v, p.2], some (a, .dct t kvs)) h
    | _ => .bad)
  | _ => .bad

mutual
def setT : Tg → MV → En → Option En
  | .nm i, v, e => some (e.set i (some v))
  | .tup ts, .tup vs, e => setTs ts vs e
  | .tup _, _, _ => none
def setTs : List Tg → List MV → En → Option En
  | [], [], e => some e
  | t :: ts, v :: vs, e => match setT t v e with
    | some e1 => setTs ts vs e1
    | none => none
  | _, _, _ => none
end
def wipeE (e : En) : List Nat → En
  | [] => e
  | v :: vs => (wipeE e vs).set v none

noncomputable def lcL (g : Option (Nat × MO)) (tg : Tg) (c el : EE) (e : En) : List MV → List MV → Hm → R (List MV)
  | [], acc, h => if gOk g h then .ok acc h else .bad
  | x :: xs, acc, h => if gOk g h then (match setT tg x e with
    | some e1 => (noex (c e1 h)).bind fun k h => match k with
      | .bl true => (noex (el e1 h)).bind fun y h => if acc.length < lim then lcL g tg c el e xs (acc ++ [y]) h else .bad
      | .bl false => lcL g tg c el e xs acc h
      | _ => .bad
    | none => .bad) else .bad
noncomputable def eLc (it : EI) (tg : Tg) (c el : EE) (own : List Nat) : EE := fun e h => (it e h).bind fun p h => (lcL p.2 tg c el (wipeE e own) p.1 [] h).bind fun ys h => .ok (.obj h.length) (h ++ [.lst ys])
noncomputable def lc2L (g : Option (Nat × MO)) (tg : Tg) (it1 : EI) (tg1 : Tg) (c el : EE) (own1 : List Nat) (e : En) : List MV → List MV → Hm → R (List MV)
  | [], acc, h => if gOk g h then .ok acc h else .bad
  | x :: xs, acc, h => if gOk g h then (match setT tg x e with
    | some e1 => (noex (it1 e1 h)).bind fun p h => (lcL p.2 tg1 c el (wipeE e1 own1) p.1 acc h).bind fun acc h => lc2L g tg it1 tg1 c el own1 e xs acc h
    | none => .bad) else .bad
noncomputable def eLc2 (it : EI) (tg : Tg) (it1 : EI) (tg1 : Tg) (c el : EE) (own own1 : List Nat) : EE := fun e h => (it e h).bind fun p h =>
  (lc2L p.2 tg it1 tg1 c el own1 (wipeE e own) p.1 [] h).bind fun ys h => .ok (.obj h.length) (h ++ [.lst ys])
noncomputable def dcL (t : Bool) (g : Option (Nat × MO)) (tg : Tg) (c kx vx : EE) (e : En) : List MV → List (MK × MV) → Hm → R (List (MK × MV))
  | [], acc, h => if gOk g h then .ok acc h else .bad
  | x :: xs, acc, h => if gOk g h then (match setT tg x e with
    | some e1 => (noex (c e1 h)).bind fun k h => match k with
      | .bl true => (noex (kx e1 h)).bind fun y h => (noex (vx e1 h)).bind fun z h => (match keyOf t y with
        | some q => if acc.length < lim then dcL t g tg c kx vx e xs (dput acc q z) h else .bad
        | none => .bad)
      | .bl false => dcL t g tg c kx vx e xs acc h
      | _ => .bad
    | none => .bad) else .bad
noncomputable def eDc (t : Bool) (it : EI) (tg : Tg) (c kx vx : EE) (own : List Nat) : EE := fun e h => (it e h).bind fun p h =>
  (dcL t p.2 tg c kx vx (wipeE e own) p.1 [] h).bind fun kvs h => .ok (.obj h.length) (h ++ [.dct t kvs])
def eTrue : EE := fun _ h => .ok (.bl true) h
/-- len(set(xs)), the texts of a list -/
def eLenset (a : EE) : EE := fun e h => (a e h).bind fun x h => match (items? h x).bind strsOf with
  | some ss => .ok (.int (ss.eraseDups.length : Nat)) h
  | none => .bad
def eSortset (a : EE) : EE := fun e h => (a e h).bind fun x h => match (items? h x).bind intsOf with
  | some ns => newL ((sortInts ns.eraseDups).map .int) h
  | none => .bad
def eGdin (a : EE) (x : Str) : EE := fun e h => (a e h).bind fun v h => match C.gd x, v with
  | some ps, .str s => .ok (.bl (ps.lookup s).isSome) h
  | _, _ => .bad
def eGdat (x : Str) (a : EE) : EE := fun e h => (a e h).bind fun v h => match C.gd x, v with
  | some ps, .str s => (match ps.lookup s with
    | some r => .ok (.str r) h
    | none => .bad)
  | _, _ => .bad
def eGstr (x : Str) : EE := fun _ h => match C.gs x with
  | some s => .ok (.str s) h
  | none => .bad
def eNil : EL := fun _ h => .ok [] h
def eCons (a : EE) (r : EL) : EL := fun e h => (a e h).bind fun x h => (r e h).bind fun xs h => .ok (x :: xs) h
def ePnil : En → Hm → R (List MV × List MV) := fun _ h => .ok ([], []) h
def ePcons (k v : EE) (r : En → Hm → R (List MV × List MV)) : En → Hm → R (List MV × List MV) := fun e h => (k e h).bind fun x h => (v e h).bind fun y h => (r e h).bind fun p h => .ok (x :: p.1, y :: p.2) h
end

/-! ### the evaluator -/
mutual
noncomputable def evE (C : Ct) : ME → EE
  | .var i => eVar i
  | .kon c => fun _ h => .ok c.v h
  | .gstr x => eGstr C x
  | .bin op a b => eBin op (evE C a) (evE C b)
  | .neg a => eNeg (evE C a)
  | .not a => eNot (evE C a)
  | .and a b => eAnd (evE C a) (evE C b)
  | .or a b => eOr (evE C a) (evE C b)
  | .one a => evE C a
  | .cmp op a b => eCmp C op (evE C a) (evE C b)
  | .isN a => eIsN false (evE C a)
  | .notN a => eIsN true (evE C a)
  | .chain o1 o2 a b c => eChain C o1 o2 (evE C a) (evE C b) (evE C c)
  | .ite c a b => eIte (evE C c) (evE C a) (evE C b)
  | .call f es => eCall C f (evEs C es)
  | .make c es => eMake C c (evEs C es)
  | .blt b es => eBlt C b (evEs C es)
  | .isi a t => eIsi C (evE C a) t
  | .meth o m es => eMeth C (evE C o) m (evEs C es)
  | .attr a f => eAttr C (evE C a) f
  | .sub a i => eSub C (evE C a) (evE C i)
  | .slc a lo hi => eSlc (evE C a) (evO C lo) (evO C hi)
  | .rev a => eRev (evE C a)
  | .list es => eList (evEs C es)
  | .tup es => eTup (evEs C es)
  | .dict t ps => eDict t (evP C ps)
  | .lc el tg it c own => eLc (evI C it) tg (evC C c) (evE C el) own
  | .lc2 el tg it tg1 it1 c own own1 => eLc2 (evI C it) tg (evI C it1) tg1 (evC C c) (evE C el) own own1
  | .dc t k v tg it c own => eDc t (evI C it) tg (evC C c) (evE C k) (evE C v) own
  | .lenset a => eLenset (evE C a)
  | .sortset a => eSortset (evE C a)
  | .gdin a x => eGdin C (evE C a) x
  | .gdat x a => eGdat C x (evE C a)
  | .walk _ => fun _ _ => .bad
  | .range _ => fun _ _ => .bad
  | .enum _ => fun _ _ => .bad
  | .items _ => fun _ _ => .bad
  | .join _ _ => fun _ _ => .bad
  | .bad => fun _ _ => .bad
noncomputable def evEs (C : Ct) : List ME → EL
  | [] => eNil
  | a :: r => eCons (evE C a) (evEs C r)
noncomputable def evP (C : Ct) : List ME → En → Hm → R (List MV × List MV)
  | k :: v :: r => ePcons (evE C k) (evE C v) (evP C r)
  | _ => ePnil
noncomputable def evO (C : Ct) : Option ME → EO
  | none => oNone
  | some a => oSome (evE C a)
noncomputable def evC (C : Ct) : Option ME → EE
  | none => eTrue
  | some a => evE C a
noncomputable def evI (C : Ct) : ME → EI
  | .range es => fun e h => (evEs C es e h).bind mRange
  | .enum a => fun e h => (evE C a e h).bind mEnum
  | .items a => fun e h => (evE C a e h).bind mItems
  | .walk a => fun e h => (evE C a e h).bind (mWalk C)
  | _ => fun _ _ => .bad
end
end MP

namespace MP
open PySem (Str)
section
variable (C : Ct)
/-- a loop over things that stand, the body's ways -/
noncomputable def forL (g : Option (Nat × MO)) (tg : Tg) (b : En → Hm → S) : List MV → En → Hm → S
  | [], e, h => if gOk g h then .nx e h else .bad
  | x :: xs, e, h => if gOk g h then (match setT tg x e with
    | some e1 => (match b e1 h with
      | .nx e h => forL g tg b xs e h
      | .ct e h => forL g tg b xs e h
      | .bk e h => .nx e h
      | r => r)
    | none => .bad) else .bad
noncomputable def sFor (it : EI) (tg : Tg) (b : En → Hm → S) : En → Hm → S := fun e h => (it e h).sb e fun p h => forL p.2 tg b p.1 e h
noncomputable def whileL (c : EE) (b : En → Hm → S) : Nat → En → Hm → S
  | 0, _, _ => .bad
  | n + 1, e, h => (c e h).sb e fun k h => match k with
    | .bl true => (match b e h with
      | .nx e h => whileL c b n e h
      | .ct e h => whileL c b n e h
      | .bk e h => .nx e h
      | r => r)
    | .bl false => .nx e h
    | _ => .bad
def putF (f : Str) (v : MV) : List (Str × MV) → List (Str × MV)
  | [] => [(f, v)]
  | (g, w) :: r => if g = f then (g, v) :: r else (g, w) :: putF f v r
/-- o[i] = v -/
def mSet (o i v : MV) (e : En) (h : Hm) : S := match o with
  | .obj a => (match h[a]? with
    | some (.lst xs) => (match i with
      | .int k => (match ixN xs.length k with
        | some j => .nx e (h.set a (.lst (xs.set j v)))
        | none => .bad)
      | _ => .bad)
    | some (.dct t kvs) => (match keyOf t i with
      | some k => if kvs.length < lim then .nx e (h.set a (.dct t (dput kvs k v))) else .bad
      | none => .bad)
    | some (.ins _ _) => (match methOf C h o "__setitem__" with
      | some g => (callF C g [o, i, v] h).sb e fun r h => .nx e h
      | none => .bad)
    | _ => .bad)
  | _ => .bad
def mSetA (o : MV) (f : Str) (v : MV) (e : En) (h : Hm) : S := match o with
  | .obj a => (match h[a]? with
    | some (.ins c fs) => if fs.length < 1000 then .nx e (h.set a (.ins c (putF f v fs))) else .bad
    | _ => .bad)
  | _ => .bad
noncomputable def sAsg (t : MT) (v : EE) : En → Hm → S := match t with
  | .nm i => fun e h => (v e h).sb e fun x h => .nx (e.set i (some x)) h
  | .tup ts => fun e h => (v e h).sb e fun x h => match setT (.tup ts) x e with
    | some e1 => .nx e1 h
    | none => .bad
  | .sub a i => fun e h => (v e h).sb e fun x h => (evE C a e h).sb e fun o h => (evE C i e h).sb e fun k h => mSet C o k x e h
  | .attr a f => fun e h => (v e h).sb e fun x h => (evE C a e h).sb e fun o h => mSetA o f x e h
def augV (op : BOp) : MV → MV → Option MV
  | .int m, .int n => (match op with
    | .add => some (.int (m + n))
    | .sub => some (.int (m - n))
    | _ => none)
  | _, _ => none
def sAug (i : Nat) (op : BOp) (a : EE) : En → Hm → S := fun e h => match e[i]? with
  | some (some x) => (a e h).sb e fun y h => (match augV op x y with
    | some v => .nx (e.set i (some v)) h
    | none => .bad)
  | _ => .bad
def sIf (c : EE) (a b : En → Hm → S) : En → Hm → S := fun e h => (c e h).sb e fun x h => match x with
  | .bl true => a e h
  | .bl false => b e h
  | _ => .bad
/-- what a handler stores -/
def hdV (p : Option (Option Kc)) (v : MV) (h : Hm) : MV × Hm := match p with
  | none => (v, h)
  | some none => (.obj h.length, h ++ [.lst [v]])
  | some (some k) => (.obj h.length, h ++ [.lst [k.v, v]])
def handle (c : Nat) (v : MV) (e : En) (h : Hm) : List Hd → S
  | [] => .ex c v e h
  | d :: r => if d.c = c then (if d.es < e.length then .nx ((e.set d.tg (some (hdV d.pre v h).1)).set d.es none) (hdV d.pre v h).2 else .bad) else handle c v e h r
def sTry (b : En → Hm → S) (hs : List Hd) : En → Hm → S := fun e h => match b e h with
  | .ex c v e h => handle c v e h hs
  | r => r
end
mutual
noncomputable def exS (C : Ct) : MS → En → Hm → S
  | .asg t e => sAsg C t (evE C e)
  | .aug i op e => sAug i op (evE C e)
  | .expr a => fun e h => (evE C a e h).sb e fun _ h => .nx e h
  | .ret a => fun e h => (evE C a e h).sb e fun v h => .rt v h
  | .retN => fun _ h => .rt .non h
  | .ifs c a b => sIf (evE C c) (exSs C a) (exSs C b)
  | .for_ t it b => sFor (evI C it) t (exSs C b)
  | .while_ c b => fun e h => whileL (evE C c) (exSs C b) C.fl e h
  | .brk => fun e h => .bk e h
  | .cont => fun e h => .ct e h
  | .pass => fun e h => .nx e h
  | .raise c a => fun e h => (evE C a e h).sb e fun v h => .ex c v e h
  | .try_ b hs => sTry (exSs C b) hs
  | .bad => fun _ _ => .bad
noncomputable def exSs (C : Ct) : MSs → En → Hm → S
  | .nil => fun e h => .nx e h
  | .cons s r => fun e h => (exS C s e h).bind fun e h => exSs C r e h
end
/-- a def's call: its slots, its body -/
def startE (n : Nat) (vs : List MV) : En := vs.map some ++ List.replicate (n - vs.length) none
def S.out : S → R MV
  | .nx _ h => .ok .non h
  | .rt v h => .ok v h
  | .ex c v _ h => .ex c v h
  | _ => .bad
noncomputable def callK (T : Tb) : Nat → Nat → List MV → Hm → R MV
  | 0, _, _, _ => .bad
  | k + 1, f, vs, h => match T.fn f with
    | some d => if vs.length = d.ar then (exSs { T with call := callK T k } d.body (startE d.slots vs) h).out else .bad
    | none => .bad
end MP

set_option Elab.async false
set_option linter.all false
set_option maxRecDepth 100000
/-! How the small language's values and heap stand for the model's. -/
namespace Sd
open PySem L2 MP

/-- where things stand -/
structure Ad where
  fa : Nat → Addr
  fd : Nat → FuncData
  fps : Nat → List PySem.Str
  ca : Nat → Addr
  xa : Nat → Addr
  xf : Nat → PySem.Str
  xn : List Nat

structure Wd where
  F : Hp
  ι : Nat → Addr
  h : Hm
  H : Hp

section
variable (A : Ad) (T : Tb)
mutual
def Rep (F : Hp) (ι : Nat → Addr) (n : Nat) : MV → V → Prop
  | .non, v => v = .non
  | .bl b, v => v = .bl b
  | .int i, v => v = .int i
  | .str s, v => v = .str s
  | .tup xs, v => ∃ a vs, v = .ref a ∧ F a = some (.tup vs) ∧ Reps F ι n xs vs
  | .ins c xs, v => ∃ a dx fs d, v = .ref a ∧ T.ci c = some d ∧ F a = some (.ins (A.ca c) dx fs) ∧ fs.map (·.1) = d.flds ∧ Reps F ι n xs (fs.map (·.2))
  | .obj i, v => v = .ref (ι i) ∧ i < n
def Reps (F : Hp) (ι : Nat → Addr) (n : Nat) : List MV → List V → Prop
  | [], vs => vs = []
  | x :: xs, vs => ∃ v r, vs = v :: r ∧ Rep F ι n x v ∧ Reps F ι n xs r
end
/-- what a thing of the heap stands for -/
def RepO (F : Hp) (ι : Nat → Addr) (n : Nat) : MO → HO → Prop
  | .lst xs, o => ∃ vs, o = .lst vs ∧ Reps A T F ι n xs vs
  | .dct false kvs, o => ∃ ks : List (Key × V), o = .dK ks ∧ kvs.map (·.1) = ks.map (fun p => MK.one p.1) ∧ Reps A T F ι n (kvs.map (·.2)) (ks.map (·.2))
  | .dct true kvs, o => ∃ ks : List (List Key × V), o = .dT ks ∧ kvs.map (·.1) = ks.map (fun p => MK.many p.1) ∧ Reps A T F ι n (kvs.map (·.2)) (ks.map (·.2))
  | .ins c fs, o => ∃ dx gs d, o = .ins (A.ca c) dx gs ∧ T.ci c = some d ∧ gs.map (·.1) = fs.map (·.1) ∧ Reps A T F ι n (fs.map (·.2)) (gs.map (·.2))
  | .ro _, _ => False
  | .dead, _ => True
def isRo : MO → Prop
  | .ro _ => True
  | _ => False
def live : MO → Prop
  | .ro _ => False
  | .dead => False
  | _ => True
end

section
variable {A : Ad} {T : Tb} {F F' : Hp} {ι ι' : Nat → Addr} {n n' : Nat}
mutual
theorem Rep.mono (hF : ∀ a o, F a = some o → F' a = some o) (hi : ∀ i, i < n → ι' i = ι i) (hn : n ≤ n') : ∀ {v : MV} {u : V}, Rep A T F ι n v u → Rep A T F' ι' n' v u
  | .non, _, h => h
  | .bl _, _, h => h
  | .int _, _, h => h
  | .str _, _, h => h
  | .tup xs, _, h => by
    obtain ⟨a, vs, e, f, r⟩ := h
    exact ⟨a, vs, e, hF _ _ f, Reps.mono hF hi hn r⟩
  | .ins c xs, _, h => by
    obtain ⟨a, dx, fs, d, e, q, f, m, r⟩ := h
    exact ⟨a, dx, fs, d, e, q, hF _ _ f, m, Reps.mono hF hi hn r⟩
  | .obj i, _, h => by
    obtain ⟨e, l⟩ := h
    exact ⟨by rw [hi i l]; exact e, Nat.lt_of_lt_of_le l hn⟩
theorem Reps.mono (hF : ∀ a o, F a = some o → F' a = some o) (hi : ∀ i, i < n → ι' i = ι i) (hn : n ≤ n') : ∀ {v : List MV} {u : List V}, Reps A T F ι n v u → Reps A T F' ι' n' v u
  | [], _, h => h
  | x :: xs, _, h => by
    obtain ⟨v, r, e, h1, h2⟩ := h
    exact ⟨v, r, e, Rep.mono hF hi hn h1, Reps.mono hF hi hn h2⟩
end
theorem RepO.mono (hF : ∀ a o, F a = some o → F' a = some o) (hi : ∀ i, i < n → ι' i = ι i) (hn : n ≤ n') {o : MO} {u : HO} (h : RepO A T F ι n o u) : RepO A T F' ι' n' o u := by
  cases o with
  | lst xs => obtain ⟨vs, e, r⟩ := h; exact ⟨vs, e, r.mono hF hi hn⟩
  | ro xs => exact h
  | dct t kvs =>
    cases t with
    | false => obtain ⟨ks, e, m, r⟩ := h; exact ⟨ks, e, m, r.mono hF hi hn⟩
    | true => obtain ⟨ks, e, m, r⟩ := h; exact ⟨ks, e, m, r.mono hF hi hn⟩
  | ins c fs => obtain ⟨dx, gs, d, e, q, m, r⟩ := h; exact ⟨dx, gs, d, e, q, m, r.mono hF hi hn⟩
  | dead => exact h

/-! ### lists -/
theorem Reps.length : ∀ {xs : List MV} {vs : List V}, Reps A T F ι n xs vs → vs.length = xs.length
  | [], _, h => by cases (show _ = [] from h); rfl
  | x :: xs, _, h => by
    obtain ⟨v, r, e, _, h2⟩ := h
    subst e
    simp [Reps.length h2]
theorem Reps.nil : Reps A T F ι n [] [] := by unfold Reps; rfl
theorem Reps.cons {x : MV} {v : V} {xs : List MV} {vs : List V} (h : Rep A T F ι n x v) (r : Reps A T F ι n xs vs) : Reps A T F ι n (x :: xs) (v :: vs) := ⟨v, vs, rfl, h, r⟩
theorem Reps.get : ∀ {xs : List MV} {vs : List V} {i : Nat} {x : MV}, Reps A T F ι n xs vs → xs[i]? = some x → ∃ v, vs[i]? = some v ∧ Rep A T F ι n x v
  | [], _, _, _, _, e => by simp at e
  | y :: ys, _, 0, x, h, e => by
    obtain ⟨v, r, e1, h1, h2⟩ := h
    subst e1
    simp at e
    subst e
    exact ⟨v, rfl, h1⟩
  | y :: ys, _, i + 1, x, h, e => by
    obtain ⟨v, r, e1, h1, h2⟩ := h
    subst e1
    obtain ⟨u, h3, h4⟩ := Reps.get (i := i) h2 (by simpa using e)
    exact ⟨u, by simpa using h3, h4⟩
theorem Reps.get' {xs : List MV} {vs : List V} {i : Nat} {v : V} (r : Reps A T F ι n xs vs) (e : vs[i]? = some v) : ∃ x, xs[i]? = some x ∧ Rep A T F ι n x v := by
  have l := r.length
  have hi : i < xs.length := by rw [← l]; exact (List.getElem?_eq_some_iff.mp e).1
  obtain ⟨u, h1, h2⟩ := r.get (List.getElem?_eq_getElem hi)
  rw [e] at h1
  cases h1
  exact ⟨_, List.getElem?_eq_getElem hi, h2⟩
theorem Reps.append : ∀ {xs ys : List MV} {vs ws : List V}, Reps A T F ι n xs vs → Reps A T F ι n ys ws → Reps A T F ι n (xs ++ ys) (vs ++ ws)
  | [], _, _, _, h, r => by cases (show _ = [] from h); exact r
  | x :: xs, _, _, _, h, r => by
    obtain ⟨v, q, e, h1, h2⟩ := h
    subst e
    exact ⟨v, _, rfl, h1, Reps.append h2 r⟩
theorem Reps.set : ∀ {xs : List MV} {vs : List V} {x : MV} {v : V} (i : Nat), Reps A T F ι n xs vs → Rep A T F ι n x v → Reps A T F ι n (xs.set i x) (vs.set i v)
  | [], _, _, _, _, h, _ => by cases (show _ = [] from h); exact Reps.nil
  | y :: ys, _, x, v, 0, h, r => by
    obtain ⟨w, q, e, h1, h2⟩ := h
    subst e
    exact Reps.cons r h2
  | y :: ys, _, x, v, i + 1, h, r => by
    obtain ⟨w, q, e, h1, h2⟩ := h
    subst e
    exact Reps.cons h1 (Reps.set i h2 r)
theorem Reps.take : ∀ {xs : List MV} {vs : List V} (i : Nat), Reps A T F ι n xs vs → Reps A T F ι n (xs.take i) (vs.take i)
  | _, _, 0, _ => by simpa using Reps.nil
  | [], _, i + 1, h => by cases (show _ = [] from h); exact Reps.nil
  | y :: ys, _, i + 1, h => by
    obtain ⟨w, q, e, h1, h2⟩ := h
    subst e
    exact Reps.cons h1 (Reps.take i h2)
theorem Reps.drop : ∀ {xs : List MV} {vs : List V} (i : Nat), Reps A T F ι n xs vs → Reps A T F ι n (xs.drop i) (vs.drop i)
  | _, _, 0, h => h
  | [], _, i + 1, h => by cases (show _ = [] from h); exact Reps.nil
  | y :: ys, _, i + 1, h => by
    obtain ⟨w, q, e, h1, h2⟩ := h
    subst e
    exact Reps.drop i h2
theorem Reps.reverse {xs : List MV} {vs : List V} (h : Reps A T F ι n xs vs) : Reps A T F ι n xs.reverse vs.reverse := by
  induction xs generalizing vs with
  | nil => cases (show _ = [] from h); exact Reps.nil
  | cons x xs ih =>
    obtain ⟨v, r, e, h1, h2⟩ := h
    subst e
    rw [List.reverse_cons, List.reverse_cons]
    exact (ih h2).append (Reps.cons h1 Reps.nil)
theorem Reps.ints : ∀ {ns : List Int}, Reps A T F ι n (ns.map MV.int) (ns.map V.int)
  | [] => Reps.nil
  | i :: r => Reps.cons rfl Reps.ints
theorem Reps.strs : ∀ {ns : List PySem.Str}, Reps A T F ι n (ns.map MV.str) (ns.map V.str)
  | [] => Reps.nil
  | i :: r => Reps.cons rfl Reps.strs
end

/-! ### the worlds -/
section
variable (A : Ad) (T : Tb) (K : PySem.W.Frag)
abbrev Wd.rep (w : Wd) : MV → V → Prop := Rep A T w.F w.ι w.h.length
abbrev Wd.reps (w : Wd) : List MV → List V → Prop := Reps A T w.F w.ι w.h.length
/-- a list that is read, never written: locked, or the written part's -/
def RoAt (H : Hp) (a : Addr) (vs : List V) : Prop := (∃ o, H a = some (.frz o (.lst vs))) ∨ ∀ H' : Hp, SqL K H' a vs
structure MR (w : Wd) : Prop where
  frz : ∀ a o, w.F a = some o → w.H a = some o
  ro : ∀ i xs, w.h[i]? = some (.ro xs) → ∃ vs, RoAt K w.H (w.ι i) vs ∧ Reps A T w.F w.ι w.h.length xs vs
  obj : ∀ i o, w.h[i]? = some o → live o → ∃ u, w.H (w.ι i) = some u ∧ RepO A T w.F w.ι w.h.length o u ∧ w.F (w.ι i) = none
  dead : ∀ i, w.h[i]? = some .dead → w.H (w.ι i) ≠ none
  inj : ∀ i j oi oj, w.h[i]? = some oi → w.h[j]? = some oj → ¬ isRo oi → ¬ isRo oj → w.ι i = w.ι j → i = j
end
structure Wd.le (w w' : Wd) : Prop where
  fr : ∀ a o, w.F a = some o → w'.F a = some o
  io : ∀ i, i < w.h.length → w'.ι i = w.ι i
  nw : ∀ j, w.h.length ≤ j → j < w'.h.length → w.H (w'.ι j) = none
  ln : w.h.length ≤ w'.h.length
  rk : ∀ (i : Nat) xs, w'.h[i]? = some (.ro xs) ↔ w.h[i]? = some (.ro xs)
  kp : ∀ a o, w.H a = some o → (∀ (i : Nat) x, w.h[i]? = some x → ¬ isRo x → w.ι i ≠ a) → w'.H a = some o
  st : ∀ a, w'.H a = none → w.H a = none
  fn : ∀ a o, w'.F a = some o → w.F a = some o ∨ w.H a = none ∨ ∃ (i : Nat) (x : MO), w.h[i]? = some x ∧ ¬ isRo x ∧ w.ι i = a
theorem Wd.le.refl (w : Wd) : w.le w := ⟨fun _ _ h => h, fun _ _ => rfl, fun j h1 h2 => absurd h1 (by omega), Nat.le_refl _, fun _ _ => Iff.rfl, fun _ _ h _ => h, fun _ h => h, fun _ _ h => .inl h⟩
theorem not_ro {x : MO} (h : ∀ xs, x ≠ .ro xs) : ¬ isRo x := fun z => by
  cases x with
  | ro xs => exact h xs rfl
  | _ => exact z
theorem Wd.le.back {a b : Wd} (h : a.le b) {i : Nat} {x : MO} (hi : i < a.h.length) (e : b.h[i]? = some x) (n : ¬ isRo x) : ∃ y, a.h[i]? = some y ∧ ¬ isRo y := by
  refine ⟨a.h[i], List.getElem?_eq_getElem hi, not_ro fun xs z => ?_⟩
  have q : a.h[i]? = some (.ro xs) := by rw [List.getElem?_eq_getElem hi, z]
  have q := (h.rk i xs).mpr q
  rw [e] at q
  cases q
  exact n trivial
theorem Wd.le.trans {a b c : Wd} (h : a.le b) (k : b.le c) : a.le c where
  fr := fun x o e => k.fr x o (h.fr x o e)
  io := fun i hi => by rw [k.io i (Nat.lt_of_lt_of_le hi h.ln), h.io i hi]
  nw := fun j h1 h2 => by
    by_cases hj : j < b.h.length
    · rw [k.io j hj]; exact h.nw j h1 hj
    · exact h.st _ (k.nw j (by omega) h2)
  ln := Nat.le_trans h.ln k.ln
  rk := fun i xs => (k.rk i xs).trans (h.rk i xs)
  kp := fun x o e hn => k.kp x o (h.kp x o e hn) fun i y q n z => by
    by_cases hj : i < a.h.length
    · obtain ⟨y', q', n'⟩ := h.back hj q n
      exact hn i y' q' n' (by rw [← h.io i hj]; exact z)
    · have := h.nw i (by omega) (List.getElem?_eq_some_iff.mp q).1
      rw [z, e] at this; cases this
  st := fun x e => h.st x (k.st x e)
  fn := fun x o e => by
    rcases k.fn x o e with q | q | ⟨i, y, q, n, z⟩
    · exact h.fn x o q
    · exact .inr (.inl (h.st _ q))
    · by_cases hj : i < a.h.length
      · obtain ⟨y', q', n'⟩ := h.back hj q n
        exact .inr (.inr ⟨i, y', q', n', by rw [← h.io i hj]; exact z⟩)
      · exact .inr (.inl (by rw [← z]; exact h.nw i (by omega) (List.getElem?_eq_some_iff.mp q).1))

section
variable {A : Ad} {T : Tb} {K : PySem.W.Frag} {w w' : Wd}
theorem Wd.le.rep (l : w.le w') {v : MV} {u : V} (h : w.rep A T v u) : w'.rep A T v u := Rep.mono l.fr l.io l.ln h
theorem Wd.le.reps (l : w.le w') {v : List MV} {u : List V} (h : w.reps A T v u) : w'.reps A T v u := Reps.mono l.fr l.io l.ln h
theorem RoAt.sq {H : Hp} {a : Addr} {vs : List V} (h : RoAt K H a vs) : SqL K H a vs := by
  rcases h with ⟨o, h⟩ | h
  · exact .inl (.inr ⟨o, h⟩)
  · exact h H
theorem RoAt.upd {H : Hp} {a p : Addr} {vs : List V} {u : HO} (h : RoAt K H a vs) (hp : ∀ o, H p ≠ some (.frz o (.lst vs))) : RoAt K (upd H p u) a vs := by
  rcases h with ⟨o, h⟩ | h
  · refine .inl ⟨o, ?_⟩
    rw [upd_ne (fun e => hp o (by rw [← e]; exact h))]
    exact h
  · exact .inr h
/-- a new thing that the small heap doesn't know; frz: frozen from now on -/
theorem MR.other (m : MR A T K w) {p : Addr} (hp : w.H p = none) (o : HO) (G : Hp) (hG : G = w.F ∨ G = upd w.F p o) : MR A T K ⟨G, w.ι, w.h, upd w.H p o⟩ ∧ w.le ⟨G, w.ι, w.h, upd w.H p o⟩ := by
  have ne : ∀ a u, w.H a = some u → a ≠ p := fun a u e z => by rw [z, hp] at e; cases e
  have fp : w.F p = none := by
    cases q : w.F p with
    | none => rfl
    | some u => have := m.frz p u q; rw [hp] at this; cases this
  have hF : ∀ a u, w.F a = some u → G a = some u := fun a u e => by
    rcases hG with rfl | rfl
    · exact e
    · rw [upd_ne (fun z => by rw [z, fp] at e; cases e)]; exact e
  have gF : ∀ a u, G a = some u → w.F a = some u ∨ (a = p ∧ u = o) := fun a u e => by
    rcases hG with rfl | rfl
    · exact .inl e
    · by_cases q : a = p
      · rw [q, upd_same] at e; cases e; exact .inr ⟨q, rfl⟩
      · rw [upd_ne q] at e; exact .inl e
  have z0 : ∀ i, i < w.h.length → w.ι i = w.ι i := fun _ _ => rfl
  refine ⟨⟨fun a u e => ?_, fun i xs e => ?_, fun i u e l => ?_, fun i e => ?_, m.inj⟩, ⟨hF, fun _ _ => rfl, fun j h1 h2 => ?_, Nat.le_refl _, fun _ _ => Iff.rfl, fun a u e _ => ?_, fun a e => ?_, fun a u e => ?_⟩⟩
  · show upd w.H p o a = some u
    rcases gF a u e with q | ⟨q, r⟩
    · have q := m.frz a u q
      rw [upd_ne (ne _ _ q)]; exact q
    · rw [q, upd_same, r]
  · obtain ⟨vs, s, r⟩ := m.ro i xs e
    exact ⟨vs, s.upd (fun ob z => by rw [hp] at z; cases z), r.mono hF z0 (Nat.le_refl _)⟩
  · obtain ⟨x, q, r, f⟩ := m.obj i u e l
    refine ⟨x, ?_, r.mono hF z0 (Nat.le_refl _), ?_⟩
    · show upd w.H p o _ = _
      rw [upd_ne (ne _ _ q)]; exact q
    · show G _ = none
      cases q2 : G (w.ι i) with
      | none => rfl
      | some u2 =>
        rcases gF _ _ q2 with z | ⟨z, _⟩
        · rw [f] at z; cases z
        · exact absurd z (ne _ _ q)
  · show upd w.H p o (w.ι i) ≠ none
    intro z
    by_cases q : w.ι i = p
    · rw [q, upd_same] at z; cases z
    · rw [upd_ne q] at z; exact m.dead i e z
  · have h2 : j < w.h.length := h2
    omega
  · show upd w.H p o a = some u
    rw [upd_ne (ne _ _ e)]; exact e
  · have z : upd w.H p o a = none := e
    by_cases q : a = p
    · rw [q, upd_same] at z; cases z
    · rw [upd_ne q] at z; exact z
  · rcases gF _ _ e with z | ⟨z, _⟩
    · exact .inl z
    · exact .inr (.inl (by rw [z]; exact hp))
/-- a new thing of the small heap -/
theorem MR.new (m : MR A T K w) {p : Addr} (hp : w.H p = none) {o : MO} {u : HO} (hl : live o) (r : RepO A T w.F w.ι w.h.length o u) :
    MR A T K ⟨w.F, fun i => if i = w.h.length then p else w.ι i, w.h ++ [o], upd w.H p u⟩ ∧ w.le ⟨w.F, fun i => if i = w.h.length then p else w.ι i, w.h ++ [o], upd w.H p u⟩ := by
  have ne : ∀ a u, w.H a = some u → a ≠ p := fun a u e z => by rw [z, hp] at e; cases e
  have fp : w.F p = none := by
    cases q : w.F p with
    | none => rfl
    | some u => have := m.frz p u q; rw [hp] at this; cases this
  have hi : ∀ i, i < w.h.length → (if i = w.h.length then p else w.ι i) = w.ι i := fun i h => if_neg (by omega)
  have ln : (w.h ++ [o]).length = w.h.length + 1 := by simp
  have at' : ∀ {i : Nat} {x : MO}, (w.h ++ [o])[i]? = some x → (i < w.h.length ∧ w.h[i]? = some x) ∨ (i = w.h.length ∧ x = o) := fun {i x} e => by
    by_cases h : i < w.h.length
    · rw [List.getElem?_append_left h] at e; exact .inl ⟨h, e⟩
    · have h2 : i < (w.h ++ [o]).length := (List.getElem?_eq_some_iff.mp e).1
      have h3 : i = w.h.length := by omega
      subst h3
      simp at e
      exact .inr ⟨rfl, e.symm⟩
  have ple : w.h.length ≤ (w.h ++ [o]).length := by omega
  have nn : ∀ i x, w.h[i]? = some x → ¬ isRo x → w.H (w.ι i) ≠ none := fun i x e nr z => by
    cases x with
    | ro xs => exact nr trivial
    | dead => exact m.dead i e z
    | lst xs => obtain ⟨_, q, _⟩ := m.obj i _ e trivial; rw [z] at q; cases q
    | dct t kvs => obtain ⟨_, q, _⟩ := m.obj i _ e trivial; rw [z] at q; cases q
    | ins c fs => obtain ⟨_, q, _⟩ := m.obj i _ e trivial; rw [z] at q; cases q
  refine ⟨⟨fun a x e => ?_, fun i xs e => ?_, fun i x e l => ?_, fun i e => ?_, fun i j oi oj e1 e2 n1 n2 z => ?_⟩, ⟨fun _ _ h => h, hi, fun j h1 h2 => ?_, ple, fun i xs => ?_, fun a x e _ => ?_, fun a e => ?_, fun _ _ h => .inl h⟩⟩
  · show upd w.H p u a = some x
    have q := m.frz a x e
    rw [upd_ne (ne _ _ q)]; exact q
  · rcases at' e with ⟨h, e⟩ | ⟨h, e⟩
    · obtain ⟨vs, s, r⟩ := m.ro i xs e
      refine ⟨vs, ?_, r.mono (fun _ _ h => h) hi ple⟩
      show RoAt K (upd w.H p u) (if i = w.h.length then p else w.ι i) vs
      rw [hi i h]
      exact s.upd (fun ob z => by rw [hp] at z; cases z)
    · subst e
      exact hl.elim
  · rcases at' e with ⟨h, e⟩ | ⟨h, e⟩
    · obtain ⟨y, q, r, f⟩ := m.obj i x e l
      refine ⟨y, ?_, r.mono (fun _ _ h => h) hi ple, ?_⟩
      · show upd w.H p u (if i = w.h.length then p else w.ι i) = _
        rw [hi i h, upd_ne (ne _ _ q)]; exact q
      · show w.F (if i = w.h.length then p else w.ι i) = none
        rw [hi i h]; exact f
    · subst e h
      refine ⟨u, ?_, r.mono (fun _ _ h => h) hi ple, ?_⟩
      · show upd w.H p u (if w.h.length = w.h.length then p else _) = _
        rw [if_pos rfl, upd_same]
      · show w.F (if w.h.length = w.h.length then p else _) = none
        rw [if_pos rfl]; exact fp
  · rcases at' e with ⟨h, e⟩ | ⟨h, e⟩
    · show upd w.H p u (if i = w.h.length then p else w.ι i) ≠ none
      rw [hi i h]
      intro z
      by_cases q : w.ι i = p
      · rw [q, upd_same] at z; cases z
      · rw [upd_ne q] at z; exact m.dead i e z
    · subst e
      exact hl.elim
  · have z : (if i = w.h.length then p else w.ι i) = (if j = w.h.length then p else w.ι j) := z
    rcases at' e1 with ⟨h1, e1⟩ | ⟨h1, e1⟩ <;> rcases at' e2 with ⟨h2, e2⟩ | ⟨h2, e2⟩
    · rw [hi i h1, hi j h2] at z
      exact m.inj i j _ _ e1 e2 n1 n2 z
    · rw [hi i h1, if_pos h2] at z
      exact absurd (show w.H (w.ι i) = none by rw [z]; exact hp) (nn i _ e1 n1)
    · rw [hi j h2, if_pos h1] at z
      exact absurd (show w.H (w.ι j) = none by rw [← z]; exact hp) (nn j _ e2 n2)
    · omega
  · have h2 : j < (w.h ++ [o]).length := h2
    have h3 : j = w.h.length := by omega
    show w.H (if j = w.h.length then p else w.ι j) = none
    rw [if_pos h3]; exact hp
  · constructor
    · intro e
      rcases at' e with ⟨_, e⟩ | ⟨_, e⟩
      · exact e
      · rw [← e] at hl; exact hl.elim
    · intro e
      show (w.h ++ [o])[i]? = _
      rw [List.getElem?_append_left (List.getElem?_eq_some_iff.mp e).1]; exact e
  · show upd w.H p u a = some x
    rw [upd_ne (ne _ _ e)]; exact e
  · have z : upd w.H p u a = none := e
    by_cases q : a = p
    · rw [q, upd_same] at z; cases z
    · rw [upd_ne q] at z; exact z
/-- a thing of the small heap is changed -/
theorem MR.set (m : MR A T K w) {i : Nat} {o0 o : MO} {u : HO} (h0 : w.h[i]? = some o0) (l0 : live o0) (hl : live o) (r : RepO A T w.F w.ι w.h.length o u) :
    MR A T K ⟨w.F, w.ι, w.h.set i o, upd w.H (w.ι i) u⟩ ∧ w.le ⟨w.F, w.ι, w.h.set i o, upd w.H (w.ι i) u⟩ := by
  have hi : i < w.h.length := (List.getElem?_eq_some_iff.mp h0).1
  have ln : (w.h.set i o).length = w.h.length := by simp
  have ple : w.h.length ≤ (w.h.set i o).length := by omega
  have z0 : ∀ i, i < w.h.length → w.ι i = w.ι i := fun _ _ => rfl
  obtain ⟨u0, q0, r0, f0⟩ := m.obj i _ h0 l0
  have nr0 : ¬ isRo o0 := fun z => by cases o0 <;> first | exact z | exact l0
  have at' : ∀ {j : Nat} {x : MO}, (w.h.set i o)[j]? = some x → (j ≠ i ∧ w.h[j]? = some x) ∨ (j = i ∧ x = o) := fun {j x} e => by
    by_cases h : j = i
    · subst h
      rw [List.getElem?_set_self hi] at e
      exact .inr ⟨rfl, (Option.some.inj e).symm⟩
    · rw [List.getElem?_set_ne (fun z => h z.symm)] at e
      exact .inl ⟨h, e⟩
  have nro : ¬ isRo o := fun z => by cases o <;> first | exact z | exact hl
  have nfr : ∀ ob ys, w.H (w.ι i) ≠ some (.frz ob (.lst ys)) := fun ob ys z => by
    rw [q0] at z
    cases z
    cases o0 with
    | lst xs => obtain ⟨_, e, _⟩ := r0; cases e
    | ro xs => exact l0
    | dct t kvs => cases t <;> (obtain ⟨_, e, _⟩ := r0; cases e)
    | ins c fs => obtain ⟨_, _, _, e, _⟩ := r0; cases e
    | dead => exact l0
  have apart : ∀ {j : Nat} {x : MO}, j ≠ i → w.h[j]? = some x → ¬ isRo x → w.ι j ≠ w.ι i := fun {j x} h e nx z => h (m.inj j i _ _ e h0 nx nr0 z)
  refine ⟨⟨fun a x e => ?_, fun j xs e => ?_, fun j x e l => ?_, fun j e => ?_, fun j k oi oj e1 e2 n1 n2 z => ?_⟩, ⟨fun _ _ h => h, fun _ _ => rfl, fun j h1 h2 => ?_, ple, fun j xs => ?_, fun a x e hn => ?_, fun a e => ?_, fun _ _ h => .inl h⟩⟩
  · show upd w.H (w.ι i) u a = some x
    rw [upd_ne (fun z => by rw [z] at e; rw [f0] at e; cases e)]
    exact m.frz a x e
  · rcases at' e with ⟨h, e⟩ | ⟨h, e⟩
    · obtain ⟨vs, s, r⟩ := m.ro j xs e
      exact ⟨vs, s.upd (fun ob => nfr ob vs), r.mono (fun _ _ h => h) z0 ple⟩
    · subst e
      exact hl.elim
  · rcases at' e with ⟨h, e⟩ | ⟨h, e⟩
    · obtain ⟨y, q, r, f⟩ := m.obj j x e l
      refine ⟨y, ?_, r.mono (fun _ _ h => h) z0 ple, f⟩
      show upd w.H (w.ι i) u (w.ι j) = _
      rw [upd_ne (apart h e (fun z => by cases x <;> first | exact z | exact l))]; exact q
    · subst e h
      exact ⟨u, upd_same, r.mono (fun _ _ h => h) z0 ple, f0⟩
  · rcases at' e with ⟨h, e⟩ | ⟨h, e⟩
    · show upd w.H (w.ι i) u (w.ι j) ≠ none
      rw [upd_ne (apart h e (fun z => z))]
      exact m.dead j e
    · subst e
      exact hl.elim
  · rcases at' e1 with ⟨h1, e1⟩ | ⟨h1, e1⟩ <;> rcases at' e2 with ⟨h2, e2⟩ | ⟨h2, e2⟩
    · exact m.inj j k _ _ e1 e2 n1 n2 z
    · exact m.inj j k _ _ e1 (by rw [h2]; exact h0) n1 nr0 z
    · exact m.inj j k _ _ (by rw [h1]; exact h0) e2 nr0 n2 z
    · rw [h1, h2]
  · have h2 : j < (w.h.set i o).length := h2
    have h1 : w.h.length ≤ j := h1
    omega
  · constructor
    · intro e
      rcases at' e with ⟨_, e⟩ | ⟨_, e⟩
      · exact e
      · rw [← e] at hl; exact hl.elim
    · intro e
      show (w.h.set i o)[j]? = _
      rw [List.getElem?_set_ne (fun z => by subst z; rw [h0] at e; cases e; exact l0.elim)]; exact e
  · show upd w.H (w.ι i) u a = some x
    rw [upd_ne (fun z => hn i _ h0 nr0 z.symm)]; exact e
  · have z : upd w.H (w.ι i) u a = none := e
    by_cases q : a = w.ι i
    · rw [q, upd_same] at z; cases z
    · rw [upd_ne q] at z; exact z
end
end Sd

set_option Elab.async false
set_option linter.all false
set_option maxRecDepth 100000
/-! The evaluator's answers are the model's: expressions. -/
namespace Sd
open PySem L2 MP

/-- what an exception in flight stands for -/
def XRep (A : Ad) (T : Tb) (w : Wd) (c : Nat) (v : MV) (cls : Value) (d : Option Addr) : Prop :=
  cls = .ref (A.xa c) ∧ c ∈ A.xn ∧ ∃ dd u, d = some dd ∧ w.H dd = some (.xd [(A.xf c, u)]) ∧ w.rep A T v u

section
variable (A : Ad) (T : Tb) (K : PySem.W.Frag)
def K0 (w : Wd) (Q : VK) : MV → Hm → Prop := fun v h' => ∀ (w' : Wd) (u : V), w'.h = h' → w.le w' → MR A T K w' → w'.rep A T v u → Q u w'.H
def K1 (w : Wd) (Q : List V → Hp → Prop) : List MV → Hm → Prop := fun v h' => ∀ (w' : Wd) (u : List V), w'.h = h' → w.le w' → MR A T K w' → w'.reps A T v u → Q u w'.H
def X0 (w : Wd) (Q : Value → Option Addr → Hp → Prop) : Nat → MV → Hm → Prop := fun c v h' => ∀ (w' : Wd) (cls : Value) (d : Option Addr), w'.h = h' → w.le w' → MR A T K w' → XRep A T w' c v cls d → Q cls d w'.H
structure EsR (w : Wd) (e : En) (σ : St) : Prop where
  ln : e.length = σ.length
  at_ : ∀ (i : Nat) (v : MV), e[i]? = some (some v) → ∃ u, σ[i]? = some (some u) ∧ w.rep A T v u
def rE (W : WX) (d : EE) : TE := fun σ H Q => ∃ (e : En) (w : Wd), w.H = H ∧ EsR A T w e σ ∧ MR A T K w ∧ (d e w.h).wp (K0 A T K w Q) (X0 A T K w fun cls d' H' => W cls d' σ H')
def rT (W : WX) (d : EE) : TT := fun σ H Q => rE A T K W d σ H fun v H' => ∃ b, v = .bl b ∧ Q b H'
def rEL (W : WX) (d : EL) : TA := fun σ H Q => ∃ (e : En) (w : Wd), w.H = H ∧ EsR A T w e σ ∧ MR A T K w ∧ (d e w.h).wp (K1 A T K w Q) (X0 A T K w fun cls d' H' => W cls d' σ H')
end
section
variable {A : Ad} {T : Tb} {K : PySem.W.Frag} {w w1 w2 : Wd} {e : En} {σ : St} {W : WX}
theorem K0.le {Q : VK} {v : MV} {h : Hm} (l : w.le w1) (k : K0 A T K w Q v h) : K0 A T K w1 Q v h := fun w' u e l' m r => k w' u e (l.trans l') m r
theorem K1.le {Q : List V → Hp → Prop} {v : List MV} {h : Hm} (l : w.le w1) (k : K1 A T K w Q v h) : K1 A T K w1 Q v h := fun w' u e l' m r => k w' u e (l.trans l') m r
theorem X0.le {Q : Value → Option Addr → Hp → Prop} {c : Nat} {v : MV} {h : Hm} (l : w.le w1) (k : X0 A T K w Q c v h) : X0 A T K w1 Q c v h := fun w' cls d e l' m r => k w' cls d e (l.trans l') m r
theorem EsR.le (l : w.le w1) (h : EsR A T w e σ) : EsR A T w1 e σ := ⟨h.ln, fun i v q => by
  obtain ⟨u, h1, h2⟩ := h.at_ i v q
  exact ⟨u, h1, l.rep h2⟩⟩
/-- a part is evaluated, then what follows -/
theorem re_step {w0 : Wd} {a : EE} {P : MV → Hm → Prop} {Z : VK} (l0 : w0.le w) (es : EsR A T w e σ) (m : MR A T K w) (hw : (a e w.h).wp P (X0 A T K w0 fun cls d' H' => W cls d' σ H'))
    (hk : ∀ (x : MV) (w1 : Wd) (u : V), P x w1.h → w.le w1 → w0.le w1 → MR A T K w1 → EsR A T w1 e σ → w1.rep A T x u → Z u w1.H) : rE A T K W a σ w.H Z :=
  ⟨e, w, rfl, es, m, R.wp_mono hw (fun x h1 p w1 u e1 l m1 r => by subst e1; exact hk x w1 u p l (l0.trans l) m1 (es.le l) r) (fun c v h k => X0.le l0 k)⟩
theorem rel_step {w0 : Wd} {a : EL} {P : List MV → Hm → Prop} {Z : List V → Hp → Prop} (l0 : w0.le w) (es : EsR A T w e σ) (m : MR A T K w) (hw : (a e w.h).wp P (X0 A T K w0 fun cls d' H' => W cls d' σ H'))
    (hk : ∀ (x : List MV) (w1 : Wd) (u : List V), P x w1.h → w.le w1 → w0.le w1 → MR A T K w1 → EsR A T w1 e σ → w1.reps A T x u → Z u w1.H) : rEL A T K W a σ w.H Z :=
  ⟨e, w, rfl, es, m, R.wp_mono hw (fun x h1 p w1 u e1 l m1 r => by subst e1; exact hk x w1 u p l (l0.trans l) m1 (es.le l) r) (fun c v h k => X0.le l0 k)⟩
end
theorem PE.imp {X : Cx} {e : Expr} {t t' : TE} (h : PE X e t) (q : ∀ σ H Q, t' σ H Q → t σ H Q) : PE X e t' := ⟨fun pins s σ H Q I z => h.run pins s σ H Q I (q σ H Q z)⟩
theorem PT.imp {X : Cx} {e : Expr} {t t' : TT} (h : PT X e t) (q : ∀ σ H Q, t' σ H Q → t σ H Q) : PT X e t' := ⟨fun pins s σ H Q I z => h.run pins s σ H Q I (q σ H Q z)⟩
theorem PA.imp {X : Cx} {e : List Expr} {t t' : TA} (h : PA X e t) (q : ∀ σ H Q, t' σ H Q → t σ H Q) : PA X e t' := ⟨fun pos pins s σ H Q I z => h.run pos pins s σ H Q I (q σ H Q z)⟩

section
variable {A : Ad} {T : Tb} {X : Cx} {W : WX}
abbrev SE (A : Ad) (T : Tb) (X : Cx) (W : WX) (ex : Expr) (d : EE) : Prop := PE X ex (rE A T X.K W d)
abbrev ST (A : Ad) (T : Tb) (X : Cx) (W : WX) (ex : Expr) (d : EE) : Prop := PT X ex (rT A T X.K W d)
abbrev SL (A : Ad) (T : Tb) (X : Cx) (W : WX) (es : List Expr) (d : EL) : Prop := PA X es (rEL A T X.K W d)

/-- a test of an expression that isTrue takes as a whole -/
theorem st_val {ex : Expr} {d : EE} (h : SE A T X W ex d) (he : ∀ whole, isTrue ex X.env whole = (do let v ← whole; standAt ex.pos; holding [v] (truthy v))) : ST A T X W ex d :=
  PT.imp (pt_val h he) fun σ H Q z => z

theorem se_var {i : Nat} {x : PySem.Str} {pos : Pos} (hN : X.N[i]? = some x) (hv : Vis X.env.scope x) (hd : (x == ("__debug__" : PySem.Str)) = false) (hcd : (x == ("__classdict__" : PySem.Str)) = false) : SE A T X W (.Name x pos) (eVar i) := by
  refine PE.imp (pe_var hN hv hd hcd) fun σ H Q ⟨e, w, hH, es, m, z⟩ => ?_
  unfold eVar at z
  split at z
  · rename_i v q
    obtain ⟨u, h1, h2⟩ := es.at_ i v q
    exact ⟨u, h1, by rw [← hH]; exact z w u rfl (Wd.le.refl w) m h2⟩
  · exact z.elim
theorem se_kon {c : Kc} {v : V} {ex : Expr} (h : PE X ex (tC v)) (r : ∀ F ι n, Rep A T F ι n c.v v) : SE A T X W ex (fun _ h => .ok c.v h) := by
  refine PE.imp h fun σ H Q ⟨e, w, hH, es, m, z⟩ => ?_
  show Q v H
  rw [← hH]
  exact z w v rfl (Wd.le.refl w) m (r _ _ _)

/-! ### operators by values -/
def NoEx2 (m : MV → MV → Hm → R MV) : Prop := ∀ x y h c v h', m x y h ≠ .ex c v h'
/-- what an operator of two values is asked -/
def rOp (A : Ad) (T : Tb) (K : PySem.W.Frag) (m : MV → MV → Hm → R MV) : R2 := fun u v H Q => ∃ (x y : MV) (w : Wd), w.H = H ∧ MR A T K w ∧ w.rep A T x u ∧ w.rep A T y v ∧ (m x y w.h).wp (K0 A T K w Q) (fun _ _ _ => False)
theorem OpR.imp {X : Cx} {f : Value → Value → Sem Value} {r r' : R2} (h : OpR X f r) (q : ∀ x y H Q, r' x y H Q → r x y H Q) : OpR X f r' := fun pins s σ H x y v u Q I r1 r2 z => h pins s σ H x y v u Q I r1 r2 (q x y H Q z)
theorem wp_noex {m : MV → MV → Hm → R MV} (n : NoEx2 m) {x y : MV} {h : Hm} {Q : MV → Hm → Prop} {E : Nat → MV → Hm → Prop} (z : (m x y h).wp Q E) : (m x y h).wp Q (fun _ _ _ => False) := by
  cases q : m x y h with
  | ok a h' => rw [q] at z; exact z
  | ex c v h' => exact absurd q (n x y h c v h')
  | bad => rw [q] at z; exact z.elim
/-- an operator of two expressions -/
theorem op_imp {a b : EE} {m : MV → MV → Hm → R MV} (n : NoEx2 m) {σ : St} {H : Hp} {Q : VK} (z : rE A T X.K W (fun e h => (a e h).bind fun x h => (b e h).bind fun y h => m x y h) σ H Q) :
    tOp (rOp A T X.K m) (rE A T X.K W a) (rE A T X.K W b) σ H Q := by
  obtain ⟨e, w, hH, es, mr, z⟩ := z
  subst hH
  refine re_step (Wd.le.refl w) es mr (R.wp_bind.mp z) fun x w1 u z1 l1 _ m1 es1 r1 => ?_
  refine re_step l1 es1 m1 (R.wp_bind.mp z1) fun y w2 v z2 l2 l02 m2 es2 r2 => ?_
  exact ⟨x, y, w2, rfl, m2, l2.rep r1, r2, R.wp_mono (wp_noex n z2) (fun a h k => K0.le l02 k) fun _ _ _ k => k⟩
theorem se_op {op : Operator} {m : MV → MV → Hm → R MV} {ea eb : Expr} {a b : EE} {pos : Pos} (ho : OpR X (binaryOp op) (rOp A T X.K m)) (n : NoEx2 m) (ha : SE A T X W ea a) (hb : SE A T X W eb b) :
    SE A T X W (.BinOp ea op eb pos) (fun e h => (a e h).bind fun x h => (b e h).bind fun y h => m x y h) :=
  PE.imp (pe_op ho ha hb) fun σ H Q z => op_imp n z
theorem se_cmp {op : CmpOp} {m : MV → MV → Hm → R MV} {ea eb : Expr} {a b : EE} {pos : Pos} (ho : OpR X (compareOp op) (rOp A T X.K m)) (n : NoEx2 m) (ha : SE A T X W ea a) (hb : SE A T X W eb b) (hm : behindInMarks op eb = false) :
    SE A T X W (.Compare ea [op] [eb] pos) (fun e h => (a e h).bind fun x h => (b e h).bind fun y h => m x y h) :=
  PE.imp (pe_cmpR ho ha hb hm) fun σ H Q z => op_imp n z
theorem st_cmp {op : CmpOp} {m : MV → MV → Hm → R MV} {ea eb : Expr} {a b : EE} {pos : Pos} (ho : OpR X (compareOp op) (rOp A T X.K m)) (n : NoEx2 m) (ha : SE A T X W ea a) (hb : SE A T X W eb b) (hm : behindInMarks op eb = false) :
    ST A T X W (.Compare ea [op] [eb] pos) (fun e h => (a e h).bind fun x h => (b e h).bind fun y h => m x y h) :=
  PT.imp (pt_cmpR ho ha hb hm) fun σ H Q z => op_imp n z

theorem mbin_noex (op : BOp) : NoEx2 (mbin op) := by
  intro x y h c v h' q
  unfold mbin at q
  split at q <;> first | (cases q; done) | (split at q <;> first | (cases q; done) | (split at q <;> (cases q; done)))
/-! ### the operators of numbers, texts, lists -/
theorem rep_int {w : Wd} {i : Int} {u : V} (h : w.rep A T (.int i) u) : u = .int i := h
theorem rep_str {w : Wd} {i : PySem.Str} {u : V} (h : w.rep A T (.str i) u) : u = .str i := h
theorem rep_bl {w : Wd} {i : Bool} {u : V} (h : w.rep A T (.bl i) u) : u = .bl i := h
theorem rep_non {w : Wd} {u : V} (h : w.rep A T .non u) : u = .non := h
theorem rep_lst {K : PySem.W.Frag} {w : Wd} {a : Nat} {xs : List MV} {u : V} (m : MR A T K w) (r : w.rep A T (.obj a) u) (q : w.h[a]? = some (.lst xs)) : ∃ vs, u = .ref (w.ι a) ∧ w.H (w.ι a) = some (.lst vs) ∧ w.reps A T xs vs := by
  obtain ⟨e, _⟩ := r
  obtain ⟨o, h1, ⟨vs, h2, h3⟩, _⟩ := m.obj a _ q trivial
  subst h2
  exact ⟨vs, e, h1, h3⟩
theorem lim_eq : lim = sizeLine := by rw [sizeLine_eq]; rfl
/-- the end of an operator that gives a flat value -/
theorem K0.flat {K : PySem.W.Frag} {w : Wd} {Q : VK} {v : MV} {u : V} (k : K0 A T K w Q v w.h) (m : MR A T K w) (r : w.rep A T v u) : Q u w.H := k w u rfl (Wd.le.refl w) m r
/-- the end of one that makes a new thing -/
theorem K0.fresh {K : PySem.W.Frag} {w : Wd} {Q : VK} {o : MO} {ho : HO} {p : Addr} (k : K0 A T K w Q (.obj w.h.length) (w.h ++ [o])) (m : MR A T K w) (hl : live o) (r : RepO A T w.F w.ι w.h.length o ho) (hp : w.H p = none) : Q (.ref p) (upd w.H p ho) := by
  obtain ⟨m2, l2⟩ := m.new hp hl r
  exact k ⟨w.F, fun i => if i = w.h.length then p else w.ι i, w.h ++ [o], upd w.H p ho⟩ (.ref p) rfl l2 m2 ⟨by simp, by simp⟩
theorem os_add : OpR X (binaryOp .Add) (rOp A T X.K (mbin .add)) := by
  refine OpR.imp (op_add.or (op_add_str.or op_cat)) fun u v H Q ⟨x, y, w, hH, m, r1, r2, z⟩ => ?_
  subst hH
  unfold mbin at z
  split at z <;> first | contradiction | skip
  · cases rep_int r1; cases rep_int r2
    exact .inl ⟨_, _, rfl, rfl, z.flat m rfl⟩
  · split at z
    · rename_i hl
      cases rep_str r1; cases rep_str r2
      exact .inr (.inl ⟨_, _, rfl, rfl, by rw [← lim_eq]; exact hl, z.flat m rfl⟩)
    · exact z.elim
  · split at z
    · split at z
      · rename_i q1 q2 hl
        obtain ⟨vs, rfl, h1, s1⟩ := rep_lst m r1 q1
        obtain ⟨ws, rfl, h2, s2⟩ := rep_lst m r2 q2
        refine .inr (.inr ⟨_, _, vs, ws, rfl, rfl, h1, h2, ?_, fun p hp => ?_⟩)
        · rw [s1.length, s2.length, ← lim_eq]; exact hl
        · exact z.fresh m trivial ⟨_, rfl, s1.append s2⟩ hp
      · exact z.elim
    · exact z.elim
theorem os_sub : OpR X (binaryOp .Sub) (rOp A T X.K (mbin .sub)) := by
  refine OpR.imp op_sub fun u v H Q ⟨x, y, w, hH, m, r1, r2, z⟩ => ?_
  subst hH
  unfold mbin at z
  split at z <;> first | contradiction | skip
  cases rep_int r1; cases rep_int r2
  exact ⟨_, _, rfl, rfl, z.flat m rfl⟩
theorem foldl_app (its : Array Nat) : ∀ (k : Nat) (acc : List Nat), List.foldl (fun x1 x2 => x1 ++ x2) acc.toArray (List.replicate k its) = (acc ++ (List.replicate k its.toList).flatten).toArray
  | 0, acc => by simp
  | k + 1, acc => by
    have e : acc.toArray ++ its = (acc ++ its.toList).toArray := by simp
    rw [List.replicate_succ, List.foldl_cons, e, foldl_app its k, List.replicate_succ, List.flatten_cons, List.append_assoc]
theorem txt_mul (s : PySem.Str) (k : Int) (h : 0 ≤ k) : PySem.Txt.mul s k = ⟨(rep k.toNat s.cps.toList).toArray⟩ := by
  unfold PySem.Txt.mul rep
  by_cases h1 : k < 1
  · have : k = 0 := by omega
    subst this
    rfl
  · rw [if_neg h1]
    by_cases h2 : (k == 1 || s.length == 0) = true
    · rw [if_pos h2]
      rw [Bool.or_eq_true, beq_iff_eq, beq_iff_eq] at h2
      rcases h2 with h2 | h2
      · subst h2
        simp
      · have e : s.cps.toList = [] := by
          have : s.cps.size = 0 := h2
          simpa using this
        rw [e]
        have : (List.replicate k.toNat ([] : List Nat)).flatten = [] := by simp
        rw [this]
        obtain ⟨a⟩ := s
        have : a.size = 0 := h2
        have : a = #[] := by simpa using this
        rw [this]
    · rw [if_neg h2]
      have := foldl_app s.cps k.toNat []
      rw [List.nil_append] at this
      rw [← this]
theorem mulOk_small (s : PySem.Str) (k : Int) (h : 0 ≤ k) (h1 : k ≤ 1000) (h2 : s.length ≤ 1000) : PySem.MulOk s k := by
  refine ⟨by simp; omega, fun h3 _ => ?_, fun h3 _ => ?_⟩
  · have : (9223372036854775807 : Int) / 1000 ≤ (2 ^ 63 - 1) / k := by
      have e : ((2 : Int) ^ 63 - 1) = 9223372036854775807 := by decide
      rw [e]
      have hk : 0 < k := by omega
      rw [Int.le_ediv_iff_mul_le hk]
      have : (9223372036854775807 : Int) / 1000 * k ≤ 9223372036854775807 / 1000 * 1000 := Int.mul_le_mul_of_nonneg_left h1 (by decide)
      omega
    omega
  · unfold PySem.Builtin.Str.tooLong
    have e : s.length * k.toNat ≤ 1000 * 1000 := Nat.mul_le_mul h2 (by omega)
    have := sizeLine_eq
    simp only [decide_eq_false_iff_not, Nat.not_lt]
    omega
theorem os_mul : OpR X (binaryOp .Mult) (rOp A T X.K (mbin .mul)) := by
  have os_ms : OpR X (binaryOp .Mult) (fun x y H Q => ∃ s k, x = .str s ∧ y = .int k ∧ 0 ≤ k ∧ k ≤ 1000 ∧ s.length ≤ 1000 ∧ Q (.str ⟨(rep k.toNat s.cps.toList).toArray⟩) H) := by
    intro pins s σ H x y v u Q I r1 r2 ⟨z, k, e1, e2, h0, h1, h2, q⟩
    subst e1 e2
    obtain ⟨t1, rfl⟩ := r1
    obtain ⟨t2, rfl⟩ := r2
    refine PySem.SB.mul (mulOk_small z k h0 h1 h2) fun t' k' => ?_
    exact ⟨.str _, H, I.tok _, ⟨t', rfl⟩, by rw [txt_mul z k h0]; exact q⟩
  refine OpR.imp (op_mulW.or (op_rep.or os_ms)) fun u v H Q ⟨x, y, w, hH, m, r1, r2, z⟩ => ?_
  subst hH
  unfold mbin at z
  split at z <;> first | contradiction | skip
  · split at z
    · rename_i hl
      cases rep_int r1; cases rep_int r2
      exact .inl ⟨_, _, rfl, rfl, (by unfold mulB at hl; simp only [decide_eq_true_eq] at hl; exact hl), z.flat m rfl⟩
    · exact z.elim
  · split at z
    · split at z
      · rename_i q hl
        simp only [Bool.and_eq_true, decide_eq_true_eq] at hl
        obtain ⟨vs, rfl, h1, s1⟩ := rep_lst m r1 q
        cases rep_int r2
        refine .inr (.inl ⟨_, _, vs, rfl, rfl, h1, hl.1.1, hl.1.2, ?_, fun p hp => ?_⟩)
        · rw [s1.length, ← lim_eq]; exact hl.2
        · refine z.fresh m trivial ⟨_, rfl, ?_⟩ hp
          unfold rep
          have : ∀ k : Nat, Reps A T w.F w.ι w.h.length (List.replicate k _).flatten (List.replicate k vs).flatten := fun k => by
            induction k with
            | zero => exact Reps.nil
            | succ k ih =>
              rw [List.replicate_succ, List.replicate_succ, List.flatten_cons, List.flatten_cons]
              exact s1.append ih
          exact this _
      · exact z.elim
    · exact z.elim
  · split at z
    · rename_i hl
      simp only [Bool.and_eq_true, decide_eq_true_eq] at hl
      cases rep_str r1; cases rep_int r2
      exact .inr (.inr ⟨_, _, rfl, rfl, hl.1.1, hl.1.2, hl.2, z.flat m rfl⟩)
    · exact z.elim
theorem os_fdiv : OpR X (binaryOp .FloorDiv) (rOp A T X.K (mbin .fdiv)) := by
  refine OpR.imp op_fdivW fun u v H Q ⟨x, y, w, hH, m, r1, r2, z⟩ => ?_
  subst hH
  unfold mbin at z
  split at z <;> first | contradiction | skip
  split at z
  · rename_i hl
    unfold divB at hl
    simp only [Bool.and_eq_true, decide_eq_true_eq] at hl
    cases rep_int r1; cases rep_int r2
    exact ⟨_, _, rfl, rfl, hl, z.flat m rfl⟩
  · exact z.elim
theorem os_mod : OpR X (binaryOp .Mod) (rOp A T X.K (mbin .mod)) := by
  refine OpR.imp op_mod fun u v H Q ⟨x, y, w, hH, m, r1, r2, z⟩ => ?_
  subst hH
  unfold mbin at z
  split at z <;> first | contradiction | skip
  split at z
  · rename_i hl
    cases rep_int r1; cases rep_int r2
    exact ⟨_, _, rfl, rfl, of_decide_eq_true hl, z.flat m rfl⟩
  · exact z.elim
theorem os_pow : OpR X (binaryOp .Pow) (rOp A T X.K (mbin .pow)) := by
  refine OpR.imp op_pow fun u v H Q ⟨x, y, w, hH, m, r1, r2, z⟩ => ?_
  subst hH
  unfold mbin at z
  split at z <;> first | contradiction | skip
  split at z
  · rename_i hl
    unfold powB at hl
    simp only [Bool.and_eq_true, decide_eq_true_eq] at hl
    cases rep_int r1; cases rep_int r2
    exact ⟨_, _, rfl, rfl, ⟨hl.1.1, hl.1.2, hl.2⟩, z.flat m rfl⟩
  · exact z.elim
def opOf : BOp → Operator
  | .add => .Add
  | .sub => .Sub
  | .mul => .Mult
  | .fdiv => .FloorDiv
  | .mod => .Mod
  | .pow => .Pow
theorem os_bin (op : BOp) : OpR X (binaryOp (opOf op)) (rOp A T X.K (mbin op)) := by
  cases op
  · exact os_add
  · exact os_sub
  · exact os_mul
  · exact os_fdiv
  · exact os_mod
  · exact os_pow
theorem se_bin {op : BOp} {ea eb : Expr} {a b : EE} {pos : Pos} (ha : SE A T X W ea a) (hb : SE A T X W eb b) : SE A T X W (.BinOp ea (opOf op) eb pos) (eBin op a b) :=
  se_op (os_bin op) (mbin_noex op) ha hb
theorem se_neg {ea : Expr} {a : EE} {pos : Pos} (ha : SE A T X W ea a) : SE A T X W (.UnaryOp .USub ea pos) (eNeg a) := by
  refine PE.imp (pe_un un_neg ha) fun σ H Q ⟨e, w, hH, es, m, z⟩ => ?_
  subst hH
  refine re_step (Wd.le.refl w) es m (R.wp_bind.mp z) fun x w1 u z1 l1 _ m1 es1 r1 => ?_
  split at z1
  · cases rep_int r1
    exact ⟨_, rfl, (K0.le l1 z1).flat m1 rfl⟩
  · exact z1.elim

/-! ### tests and truth -/
theorem asB_wp {x : MV} {h : Hm} {f : Bool → Hm → R MV} {Q : MV → Hm → Prop} {E : Nat → MV → Hm → Prop} (z : (asB x h f).wp Q E) : ∃ b, x = .bl b ∧ (f b h).wp Q E := by
  unfold asB at z
  split at z
  · exact ⟨_, rfl, z⟩
  · exact z.elim
theorem se_not {ea : Expr} {a : EE} {pos : Pos} (ha : SE A T X W ea a) : SE A T X W (.UnaryOp .Not ea pos) (eNot a) := by
  refine PE.imp (pe_not ha) fun σ H Q ⟨e, w, hH, es, m, z⟩ => ?_
  subst hH
  refine re_step (Wd.le.refl w) es m (R.wp_bind.mp z) fun x w1 u z1 l1 _ m1 es1 r1 => ?_
  obtain ⟨b, hx, z2⟩ := asB_wp z1
  subst hx
  cases rep_bl r1
  exact ⟨_, rfl, (K0.le l1 z2).flat m1 rfl⟩
theorem st_not {ea : Expr} {a : EE} {pos : Pos} (ha : ST A T X W ea a) : ST A T X W (.UnaryOp .Not ea pos) (eNot a) := by
  refine PT.imp (pt_not ha) fun σ H Q ⟨e, w, hH, es, m, z⟩ => ?_
  subst hH
  refine re_step (Wd.le.refl w) es m (R.wp_bind.mp z) fun x w1 u z1 l1 _ m1 es1 r1 => ?_
  obtain ⟨b, hx, z2⟩ := asB_wp z1
  subst hx
  cases rep_bl r1
  have z3 : K0 A T X.K w (fun v H' => ∃ b, v = .bl b ∧ Q b H') (.bl (!b)) w1.h := z2
  obtain ⟨_, h1, h2⟩ := (K0.le l1 z3).flat m1 rfl
  cases h1
  exact ⟨_, rfl, h2⟩
/-- the rest of a conjunction -/
theorem se_one {op : BoolOp} {ea : Expr} {a : EE} {pos : Pos} (ha : SE A T X W ea a) : SE A T X W (.BoolOp op [ea] pos) a := pe_one ha
theorem se_and {ea eb : Expr} {rest : List Expr} {a b : EE} {pos : Pos} (ha : SE A T X W ea a) (hb : SE A T X W (.BoolOp .And (eb :: rest) pos) b) : SE A T X W (.BoolOp .And (ea :: eb :: rest) pos) (eAnd a b) := by
  refine PE.imp (pe_and ha hb) fun σ H Q ⟨e, w, hH, es, m, z⟩ => ?_
  subst hH
  refine re_step (Wd.le.refl w) es m (R.wp_bind.mp z) fun x w1 u z1 l1 _ m1 es1 r1 => ?_
  obtain ⟨k, hx, z2⟩ := asB_wp z1
  subst hx
  cases rep_bl r1
  refine ⟨k, rfl, ?_⟩
  cases k with
  | true => exact ⟨e, w1, rfl, es1, m1, R.wp_mono z2 (fun _ _ q => K0.le l1 q) fun _ _ _ q => X0.le l1 q⟩
  | false => exact (K0.le l1 z2).flat m1 rfl
theorem se_or {ea eb : Expr} {rest : List Expr} {a b : EE} {pos : Pos} (ha : SE A T X W ea a) (hb : SE A T X W (.BoolOp .Or (eb :: rest) pos) b) : SE A T X W (.BoolOp .Or (ea :: eb :: rest) pos) (eOr a b) := by
  refine PE.imp (pe_or ha hb) fun σ H Q ⟨e, w, hH, es, m, z⟩ => ?_
  subst hH
  refine re_step (Wd.le.refl w) es m (R.wp_bind.mp z) fun x w1 u z1 l1 _ m1 es1 r1 => ?_
  obtain ⟨k, hx, z2⟩ := asB_wp z1
  subst hx
  cases rep_bl r1
  refine ⟨k, rfl, ?_⟩
  cases k with
  | true => exact (K0.le l1 z2).flat m1 rfl
  | false => exact ⟨e, w1, rfl, es1, m1, R.wp_mono z2 (fun _ _ q => K0.le l1 q) fun _ _ _ q => X0.le l1 q⟩
abbrev SW (A : Ad) (T : Tb) (X : Cx) (W : WX) (ex : Expr) (d : EE) : Prop := PW X ex (rT A T X.K W d)
theorem PW.imp {X : Cx} {e : Expr} {t t' : TT} (h : PW X e t) (q : ∀ σ H Q, t' σ H Q → t σ H Q) : PW X e t' := ⟨fun wh pins s σ H Q I z => h.run wh pins s σ H Q I (q σ H Q z)⟩
theorem sw_one_and {ea : Expr} {a : EE} {pos : Pos} (ha : ST A T X W ea a) : SW A T X W (.BoolOp .And [ea] pos) a := pw_and1 ha
theorem sw_one_or {ea : Expr} {a : EE} {pos : Pos} (ha : ST A T X W ea a) : SW A T X W (.BoolOp .Or [ea] pos) a := pw_or1 ha
theorem sw_and {ea eb : Expr} {rest : List Expr} {a b : EE} {pos : Pos} (ha : ST A T X W ea a) (hb : SW A T X W (.BoolOp .And (eb :: rest) pos) b) : SW A T X W (.BoolOp .And (ea :: eb :: rest) pos) (eAnd a b) := by
  refine PW.imp (pw_and ha hb) fun σ H Q ⟨e, w, hH, es, m, z⟩ => ?_
  subst hH
  refine re_step (Wd.le.refl w) es m (R.wp_bind.mp z) fun x w1 u z1 l1 _ m1 es1 r1 => ?_
  obtain ⟨k, hx, z2⟩ := asB_wp z1
  subst hx
  cases rep_bl r1
  refine ⟨k, rfl, ?_⟩
  cases k with
  | true => exact ⟨e, w1, rfl, es1, m1, R.wp_mono z2 (fun _ _ q => K0.le l1 q) fun _ _ _ q => X0.le l1 q⟩
  | false =>
    have z3 : K0 A T X.K w (fun v H' => ∃ b, v = .bl b ∧ Q b H') (.bl false) w1.h := z2
    obtain ⟨_, h1, h2⟩ := (K0.le l1 z3).flat m1 rfl
    cases h1
    exact h2
theorem sw_or {ea eb : Expr} {rest : List Expr} {a b : EE} {pos : Pos} (ha : ST A T X W ea a) (hb : SW A T X W (.BoolOp .Or (eb :: rest) pos) b) : SW A T X W (.BoolOp .Or (ea :: eb :: rest) pos) (eOr a b) := by
  refine PW.imp (pw_or ha hb) fun σ H Q ⟨e, w, hH, es, m, z⟩ => ?_
  subst hH
  refine re_step (Wd.le.refl w) es m (R.wp_bind.mp z) fun x w1 u z1 l1 _ m1 es1 r1 => ?_
  obtain ⟨k, hx, z2⟩ := asB_wp z1
  subst hx
  cases rep_bl r1
  refine ⟨k, rfl, ?_⟩
  cases k with
  | true =>
    have z3 : K0 A T X.K w (fun v H' => ∃ b, v = .bl b ∧ Q b H') (.bl true) w1.h := z2
    obtain ⟨_, h1, h2⟩ := (K0.le l1 z3).flat m1 rfl
    cases h1
    exact h2
  | false => exact ⟨e, w1, rfl, es1, m1, R.wp_mono z2 (fun _ _ q => K0.le l1 q) fun _ _ _ q => X0.le l1 q⟩
theorem se_ite {ec ea eb : Expr} {c a b : EE} {pos : Pos} (hc : ST A T X W ec c) (ha : SE A T X W ea a) (hb : SE A T X W eb b) : SE A T X W (.IfExp ec ea eb pos) (eIte c a b) := by
  refine PE.imp (pe_ifExp hc ha hb) fun σ H Q ⟨e, w, hH, es, m, z⟩ => ?_
  subst hH
  refine re_step (Wd.le.refl w) es m (R.wp_bind.mp z) fun x w1 u z1 l1 _ m1 es1 r1 => ?_
  obtain ⟨k, hx, z2⟩ := asB_wp z1
  subst hx
  cases rep_bl r1
  refine ⟨k, rfl, ?_⟩
  cases k with
  | true => exact ⟨e, w1, rfl, es1, m1, R.wp_mono z2 (fun _ _ q => K0.le l1 q) fun _ _ _ q => X0.le l1 q⟩
  | false => exact ⟨e, w1, rfl, es1, m1, R.wp_mono z2 (fun _ _ q => K0.le l1 q) fun _ _ _ q => X0.le l1 q⟩
theorem rep_isN {w : Wd} {x : MV} {u : V} (r : w.rep A T x u) : decide (u = .non) = (match x with | .non => true | _ => false) := by
  cases x with
  | non => cases rep_non r; rfl
  | bl b => cases rep_bl r; rfl
  | int i => cases rep_int r; rfl
  | str s => cases rep_str r; rfl
  | tup xs => obtain ⟨a, vs, e, _⟩ := r; subst e; rfl
  | ins c xs => obtain ⟨a, dx, fs, d, e, _⟩ := r; subst e; rfl
  | obj i => obtain ⟨e, _⟩ := r; subst e; rfl
theorem isN_core {n : Bool} {a : EE} {σ : St} {H : Hp} {Q : VK} (z : rE A T X.K W (eIsN n a) σ H Q) : rE A T X.K W a σ H fun u H1 => Q (.bl (if n then !decide (u = .non) else decide (u = .non))) H1 := by
  obtain ⟨e, w, hH, es, m, z⟩ := z
  subst hH
  refine re_step (Wd.le.refl w) es m (R.wp_bind.mp z) fun x w1 u z1 l1 _ m1 es1 r1 => ?_
  rw [rep_isN r1]
  split at z1
  · have := (K0.le l1 z1).flat m1 rfl
    cases n <;> exact this
  · rename_i hx
    have := (K0.le l1 z1).flat m1 rfl
    cases x <;> first | exact absurd rfl hx | (cases n <;> exact this)
theorem se_isN {ea : Expr} {a : EE} {j : Nat} {pos pos' : Pos} (ha : SE A T X W ea a) : SE A T X W (.Compare ea [.Is] [.Constant .none j pos'] pos) (eIsN false a) :=
  PE.imp (pe_cmpR op_isN ha pe_non (nomark _)) fun σ H Q z => by
    obtain ⟨e, w, hH, es, m, z⟩ := isN_core z
    exact ⟨e, w, hH, es, m, R.wp_mono z (fun _ _ q w' u e l m r => ⟨rfl, q w' u e l m r⟩) fun _ _ _ q => q⟩
theorem se_notN {ea : Expr} {a : EE} {j : Nat} {pos pos' : Pos} (ha : SE A T X W ea a) : SE A T X W (.Compare ea [.IsNot] [.Constant .none j pos'] pos) (eIsN true a) :=
  PE.imp (pe_cmpR op_notN ha pe_non (nomark _)) fun σ H Q z => by
    obtain ⟨e, w, hH, es, m, z⟩ := isN_core z
    exact ⟨e, w, hH, es, m, R.wp_mono z (fun _ _ q w' u e l m r => ⟨rfl, q w' u e l m r⟩) fun _ _ _ q => q⟩
theorem st_isN {ea : Expr} {a : EE} {j : Nat} {pos pos' : Pos} (ha : SE A T X W ea a) : ST A T X W (.Compare ea [.Is] [.Constant .none j pos'] pos) (eIsN false a) :=
  PT.imp (pt_cmpR op_isN ha pe_non (nomark _)) fun σ H Q z => by
    obtain ⟨e, w, hH, es, m, z⟩ := isN_core z
    exact ⟨e, w, hH, es, m, R.wp_mono z (fun _ _ q w' u e l m r => ⟨rfl, q w' u e l m r⟩) fun _ _ _ q => q⟩
theorem st_notN {ea : Expr} {a : EE} {j : Nat} {pos pos' : Pos} (ha : SE A T X W ea a) : ST A T X W (.Compare ea [.IsNot] [.Constant .none j pos'] pos) (eIsN true a) :=
  PT.imp (pt_cmpR op_notN ha pe_non (nomark _)) fun σ H Q z => by
    obtain ⟨e, w, hH, es, m, z⟩ := isN_core z
    exact ⟨e, w, hH, es, m, R.wp_mono z (fun _ _ q w' u e l m r => ⟨rfl, q w' u e l m r⟩) fun _ _ _ q => q⟩
/-! ### arguments -/
theorem sl_nil : SL A T X W [] eNil := PA.imp pa_nil fun σ H Q ⟨e, w, hH, es, m, z⟩ => by
  subst hH
  exact z w [] rfl (Wd.le.refl w) m Reps.nil
theorem sl_cons {ea : Expr} {es : List Expr} {a : EE} {r : EL} (ha : SE A T X W ea a) (hr : SL A T X W es r) (hs : starEach (ea :: es) X.env = (false, eval ea X.env) :: starEach es X.env) : SL A T X W (ea :: es) (eCons a r) := by
  refine PA.imp (pa_cons ha hr hs) fun σ H Q ⟨e, w, hH, es, m, z⟩ => ?_
  subst hH
  refine re_step (Wd.le.refl w) es m (R.wp_bind.mp z) fun x w1 u z1 l1 _ m1 es1 r1 => ?_
  refine rel_step l1 es1 m1 (R.wp_bind.mp z1) fun xs w2 us z2 l2 l02 m2 es2 r2 => ?_
  exact (K1.le l02 z2) w2 _ rfl (Wd.le.refl w2) m2 (Reps.cons (l2.rep r1) r2)
theorem newL_wp {K : PySem.W.Frag} {w : Wd} {xs : List MV} {vs : List V} {Q : VK} {E : Nat → MV → Hm → Prop} (z : (newL xs w.h).wp (K0 A T K w Q) E) (m : MR A T K w) (r : w.reps A T xs vs) : vs.length ≤ sizeLine ∧ ∀ p, w.H p = none → Q (.ref p) (upd w.H p (.lst vs)) := by
  unfold newL at z
  split at z
  · rename_i hl
    refine ⟨by rw [r.length, ← lim_eq]; exact hl, fun p hp => ?_⟩
    exact z.fresh m trivial ⟨_, rfl, r⟩ hp
  · exact z.elim
theorem se_list {es : List Expr} {d : EL} {pos : Pos} (h : SL A T X W es d) : SE A T X W (.List es pos) (eList d) := by
  refine PE.imp (pe_lst h) fun σ H Q ⟨e, w, hH, es, m, z⟩ => ?_
  subst hH
  refine rel_step (Wd.le.refl w) es m (R.wp_bind.mp z) fun xs w1 us z1 l1 _ m1 es1 r1 => ?_
  exact newL_wp (R.wp_mono z1 (fun _ _ q => K0.le l1 q) fun _ _ _ q => q) m1 r1
theorem se_tup {es : List Expr} {d : EL} {k : Nat} {pos : Pos} (h : SL A T X W es d) : SE A T X W (.Tuple es k pos) (eTup d) := by
  refine PE.imp (pe_tup h) fun σ H Q ⟨e, w, hH, es, m, z⟩ => ?_
  subst hH
  refine rel_step (Wd.le.refl w) es m (R.wp_bind.mp z) fun xs w1 us z1 l1 _ m1 es1 r1 => ?_
  split at z1
  · rename_i hl
    refine ⟨by rw [r1.length, ← lim_eq]; exact hl, fun p hp => ?_⟩
    obtain ⟨m2, l2⟩ := m1.other hp (.tup us) (upd w1.F p (.tup us)) (.inr rfl)
    exact z1 ⟨upd w1.F p (.tup us), w1.ι, w1.h, upd w1.H p (.tup us)⟩ (.ref p) rfl (l1.trans l2) m2 ⟨p, us, rfl, upd_same, l2.reps r1⟩
  · exact z1.elim
end
end Sd

set_option Elab.async false
set_option linter.all false
set_option maxRecDepth 100000
set_option maxHeartbeats 1000000
/-! == and in of data, tests of kinds. -/
namespace Sd
open PySem L2 MP
section
variable {A : Ad} {T : Tb} {X : Cx} {W : WX}

/-! ### two data that stand at one place are equal -/
theorem eqFlat_same {v1 v2 : MV} {u : V} {w : Wd} {b : Bool} (e : eqFlat v1 v2 = some b) (r1 : w.rep A T v1 u) (r2 : w.rep A T v2 u) : b = true := by
  cases v1 <;> cases v2 <;> first | (cases e; done) | skip
  all_goals (simp only [eqFlat, Option.some.injEq] at e; subst e)
  all_goals (simp only [Wd.rep, Rep] at r1 r2; first | rfl | (subst r1; first | (cases r2; done) | (injection r2 with z; subst z; simp)))
theorem live_addr {K : PySem.W.Frag} {w : Wd} (m : MR A T K w) {i j : Nat} {o1 o2 : MO} (h1 : w.h[i]? = some o1) (h2 : w.h[j]? = some o2) (l1 : live o1) (l2 : live o2) (e : w.ι i = w.ι j) : i = j :=
  m.inj i j _ _ h1 h2 (fun z => by cases o1 <;> first | exact z | exact l1) (fun z => by cases o2 <;> first | exact z | exact l2) e
theorem eq_same {K : PySem.W.Frag} {w : Wd} (m : MR A T K w) : ∀ (n : Nat) (v1 v2 : MV) (u : V) (b : Bool), eqm w.h n v1 v2 = some b → w.rep A T v1 u → w.rep A T v2 u → b = true
  | 0, _, _, _, _, e, _, _ => by cases e
  | n + 1, v1, v2, u, b, e, r1, r2 => by
    have all : ∀ (xs ys : List MV) (vs : List V) (b : Bool), eqAll (eqm w.h n) xs ys = some b → w.reps A T xs vs → w.reps A T ys vs → b = true := by
      intro xs
      induction xs with
      | nil => intro ys vs b e _ _; cases ys <;> (cases e; rfl)
      | cons x xs ih =>
        intro ys vs b e q1 q2
        obtain ⟨v, r, e1, p1, p2⟩ := q1
        subst e1
        cases ys with
        | nil => cases e; rfl
        | cons y ys =>
          obtain ⟨v', r', e1, p3, p4⟩ := q2
          cases e1
          unfold eqAll at e
          split at e
          · rename_i a1 b1 h1 h2
            cases e
            rw [eq_same m n x y v a1 h1 p1 p3, ih ys r b1 h2 p2 p4]
            rfl
          · cases e
    unfold eqm at e
    split at e
    · rename_i xs ys
      obtain ⟨a, vs, e1, f1, q1⟩ := r1
      obtain ⟨a2, ws, e2, f2, q2⟩ := r2
      subst e1
      cases e2
      rw [f1] at f2
      cases f2
      split at e
      · rename_i b1 h1
        cases e
        rw [all _ _ _ _ h1 q1 q2]
        rw [← q1.length, ← q2.length]
        simp
      · cases e
    · rename_i i j
      split at e
      · cases e; rfl
      · rename_i hne
        split at e
        · rename_i xs ys h1 h2
          obtain ⟨e1, _⟩ := r1
          obtain ⟨e2, _⟩ := r2
          rw [e1] at e2
          injection e2 with e2
          exact absurd (live_addr m h1 h2 trivial trivial e2) hne
        · cases e
    · exact eqFlat_same e r1 r2

/-! ### == -/
theorem flat_of {v1 v2 : MV} {b : Bool} (e : eqFlat v1 v2 = some b) {w : Wd} {u1 u2 : V} (r1 : w.rep A T v1 u1) (r2 : w.rep A T v2 u2) : flatV u1 = true ∧ flatV u2 = true ∧ eqV u1 u2 = b := by
  cases v1 <;> cases v2 <;> first | (cases e; done) | skip
  all_goals (simp only [eqFlat, Option.some.injEq] at e; subst e)
  all_goals (simp only [Wd.rep, Rep] at r1 r2; subst r1 r2; refine ⟨rfl, rfl, ?_⟩)
  all_goals (first | rfl | (simp only [eqV, b01]; done) | (simp only [eqV]; exact (Bool.beq_eq_decide_eq _ _)) | skip)
theorem eqAll_get {f : MV → MV → Option Bool} : ∀ {xs ys : List MV} {b : Bool}, eqAll f xs ys = some b → ∃ e : Nat → Bool, (∀ j x y, xs[j]? = some x → ys[j]? = some y → f x y = some (e j)) ∧ b = (List.range (min xs.length ys.length)).all e
  | [], ys, b, h => by
    cases h
    exact ⟨fun _ => true, fun j x y e => by simp at e, by simp⟩
  | x :: xs, [], b, h => by
    cases h
    exact ⟨fun _ => true, fun j x y e e2 => by simp at e2, by simp⟩
  | x :: xs, y :: ys, b, h => by
    unfold eqAll at h
    split at h
    · rename_i a1 b1 h1 h2
      cases h
      obtain ⟨e, p, q⟩ := eqAll_get h2
      refine ⟨fun j => match j with | 0 => a1 | j + 1 => e j, fun j x' y' e1 e2 => ?_, ?_⟩
      · cases j with
        | zero =>
          simp at e1 e2
          subst e1 e2
          exact h1
        | succ j => exact p j x' y' (by simpa using e1) (by simpa using e2)
      · rw [q]
        have : min (x :: xs).length (y :: ys).length = min xs.length ys.length + 1 := by simp only [List.length_cons]; omega
        rw [this, List.range_succ_eq_map, List.all_cons, List.all_map]
        rfl
    · cases h
theorem eqAt_of {pins : List (Addr × Obj)} {σ : L2.St} {w : Wd} {s : Shared} (I : Inv X pins σ w.H s) (m : MR A T X.K w) : ∀ (n : Nat) (v1 v2 : MV) (u1 u2 : V) (z1 z2 : Value) (b : Bool), eqm w.h n v1 v2 = some b → w.rep A T v1 u1 → w.rep A T v2 u2 → RelV u1 z1 → RelV u2 z2 →
    ∀ A' : Around, A'.units + n < cLine → SeqAt.EqAt A' s z1 z2 b
  | 0, _, _, _, _, _, _, _, e, _, _, _, _, _, _ => by cases e
  | n + 1, v1, v2, u1, u2, z1, z2, b, e, r1, r2, q1, q2, A', hu => by
    by_cases same : z1 = z2 ∧ ∃ a, z1 = .ref a
    · obtain ⟨rfl, a, rfl⟩ := same
      have g : ∀ {u : V} {v : MV}, w.rep A T v u → RelV u (.ref a) → u = .ref a := fun {u v} r q => by
        cases u with
        | ref c => cases (show Value.ref a = Value.ref c from q); rfl
        | non => cases (show Value.ref a = Value.none from q)
        | bl c => cases (show Value.ref a = Value.bool c from q)
        | int c => obtain ⟨t, q⟩ := (show ∃ t, Value.ref a = Value.int c t from q); cases q
        | str c => obtain ⟨t, q⟩ := (show ∃ t, Value.ref a = Value.str c t from q); cases q
        | byt c => obtain ⟨t, q⟩ := (show ∃ t, Value.ref a = Value.bytes c t from q); cases q
        | flt c => obtain ⟨t, q⟩ := (show ∃ t, Value.ref a = Value.float c t from q); cases q
        | ty c => cases (show Value.ref a = Value.type c from q)
      have h1 := g r1 q1
      have h2 := g r2 q2
      subst h1
      subst h2
      rw [eq_same m _ _ _ _ _ e r1 r2]
      exact SeqAt.EqAt.same _
    · unfold eqm at e
      split at e
      · rename_i xs ys
        obtain ⟨a, vs, e1, f1, p1⟩ := r1
        obtain ⟨c, ws, e2, f2, p2⟩ := r2
        subst e1 e2
        cases (show z1 = Value.ref a from q1)
        cases (show z2 = Value.ref c from q2)
        have ne : a ≠ c := fun z => same ⟨by rw [z], _, rfl⟩
        obtain ⟨_, its1, t1, o1, g1, g2, n1, g3⟩ := (show ObjOk X.prog X.w w.H s.heap a (.tup vs) from I.hok a _ (m.frz _ _ f1))
        obtain ⟨_, its2, t2, o2, k1, k2, n2, k3⟩ := (show ObjOk X.prog X.w w.H s.heap c (.tup ws) from I.hok c _ (m.frz _ _ f2))
        split at e
        · rename_i b1 h1
          cases e
          obtain ⟨ee, pp, qq⟩ := eqAll_get h1
          have l1 : its1.toArray.size = xs.length := by rw [List.size_toArray, ← t1.length, p1.length]
          have l2 : its2.toArray.size = ys.length := by rw [List.size_toArray, ← t2.length, p2.length]
          refine SeqAt.EqAt.of_refs ne ?_
          have := SeqAt.RcAt.tuples (A := A') (s := s) (l := a) (b := c) (items := its1.toArray) (items2 := its2.toArray) (e := ee) ⟨o1, g1, g2, n1, g3⟩ ⟨o2, k1, k2, n2, k3⟩ (by omega) (fun j h1 h2 => ?_)
          · rw [l1, l2, ← qq] at this
            exact this
          · have j1 : j < xs.length := l1 ▸ h1
            have j2 : j < ys.length := l2 ▸ h2
            obtain ⟨v1', a1, a2⟩ := p1.get (List.getElem?_eq_getElem j1)
            obtain ⟨v2', b1, b2⟩ := p2.get (List.getElem?_eq_getElem j2)
            obtain ⟨w1', c1, c2⟩ := t1.get a1
            obtain ⟨w2', d1, d2⟩ := t2.get b1
            have x1 : its1.toArray[j] = w1' := by
              rw [List.getElem?_eq_some_iff] at c1
              obtain ⟨_, c1⟩ := c1
              simpa using c1
            have x2 : its2.toArray[j] = w2' := by
              rw [List.getElem?_eq_some_iff] at d1
              obtain ⟨_, d1⟩ := d1
              simpa using d1
            rw [x1, x2]
            exact eqAt_of I m n _ _ _ _ _ _ _ (pp j _ _ (List.getElem?_eq_getElem j1) (List.getElem?_eq_getElem j2)) a2 b2 c2 d2 A'.in1 (by show A'.units + 1 + n < cLine; omega)
        · cases e
      · rename_i i j
        obtain ⟨e1, l1⟩ := r1
        obtain ⟨e2, l2⟩ := r2
        subst e1 e2
        cases (show z1 = Value.ref (w.ι i) from q1)
        cases (show z2 = Value.ref (w.ι j) from q2)
        have ne : w.ι i ≠ w.ι j := fun z => same ⟨by rw [z], _, rfl⟩
        split at e
        · rename_i hij
          exact absurd (by rw [hij]) ne
        · split at e
          · rename_i xs ys h1 h2
            obtain ⟨vs, _, g1, p1⟩ := rep_lst m ⟨rfl, l1⟩ h1
            obtain ⟨ws, _, g2, p2⟩ := rep_lst m ⟨rfl, l2⟩ h2
            obtain ⟨its1, n1, t1, k1, _⟩ := I.lst g1
            obtain ⟨its2, n2, t2, k2, _⟩ := I.lst g2
            have s1 : its1.toArray.size = xs.length := by rw [List.size_toArray, ← t1.length, p1.length]
            have s2 : its2.toArray.size = ys.length := by rw [List.size_toArray, ← t2.length, p2.length]
            refine SeqAt.EqAt.of_refs ne ?_
            split at e
            · rename_i hl
              obtain ⟨ee, pp, qq⟩ := eqAll_get e
              have := SeqAt.RcAt.lists (A := A') (s := s) (l := w.ι i) (b := w.ι j) (items := its1.toArray) (items2 := its2.toArray) (e := ee) ⟨_, k1, rfl, n1, rfl⟩ ⟨_, k2, rfl, n2, rfl⟩ (by rw [s1, s2, hl]) (by omega) (fun j h1 h2 => ?_)
              · rw [s1] at this
                rw [← hl, Nat.min_self] at qq
                rw [qq]
                exact this
              · have j1 : j < xs.length := s1 ▸ h1
                have j2 : j < ys.length := s2 ▸ h2
                obtain ⟨v1', a1, a2⟩ := p1.get (List.getElem?_eq_getElem j1)
                obtain ⟨v2', b1, b2⟩ := p2.get (List.getElem?_eq_getElem j2)
                obtain ⟨w1', c1, c2⟩ := t1.get a1
                obtain ⟨w2', d1, d2⟩ := t2.get b1
                have x1 : its1.toArray[j] = w1' := by
                  rw [List.getElem?_eq_some_iff] at c1
                  obtain ⟨_, c1⟩ := c1
                  simpa using c1
                have x2 : its2.toArray[j] = w2' := by
                  rw [List.getElem?_eq_some_iff] at d1
                  obtain ⟨_, d1⟩ := d1
                  simpa using d1
                rw [x1, x2]
                exact eqAt_of I m n _ _ _ _ _ _ _ (pp j _ _ (List.getElem?_eq_getElem j1) (List.getElem?_eq_getElem j2)) a2 b2 c2 d2 A'.in1 (by show A'.units + 1 + n < cLine; omega)
            · rename_i hl
              cases e
              exact SeqAt.RcAt.lists_lengths (A := A') ⟨_, k1, rfl, n1, rfl⟩ ⟨_, k2, rfl, n2, rfl⟩ (by rw [s1, s2]; simpa using hl) (by omega)
          · cases e
      · obtain ⟨f1, f2, f3⟩ := flat_of e r1 r2
        rw [← f3]
        exact eqAt_V q1 q2 f1 f2
end
end Sd

set_option Elab.async false
set_option linter.all false
set_option maxRecDepth 100000
set_option maxHeartbeats 1000000
/-! comparisons as operators. -/
namespace Sd
open PySem L2 MP
section
variable {A : Ad} {T : Tb} {X : Cx} {W : WX}
theorem item_at {xs : List MV} {vs : List V} {its : List Value} {F : Hp} {ι : Nat → Addr} {n j : Nat} (p : Reps A T F ι n xs vs) (t : Vals vs its) (h : j < its.toArray.size) :
    ∃ (hj : j < xs.length) (v : V), Rep A T F ι n xs[j] v ∧ RelV v its.toArray[j] := by
  have l : its.toArray.size = xs.length := by rw [List.size_toArray, ← t.length, p.length]
  have hj : j < xs.length := l ▸ h
  obtain ⟨v, a1, a2⟩ := p.get (List.getElem?_eq_getElem hj)
  obtain ⟨w, c1, c2⟩ := t.get a1
  refine ⟨hj, v, a2, ?_⟩
  rw [List.getElem?_eq_some_iff] at c1
  obtain ⟨_, c1⟩ := c1
  have : its.toArray[j] = w := by simpa using c1
  rw [this]
  exact c2
/-- two sequences at places, compared -/
theorem rc_seqs {pins : List (Addr × Obj)} {σ : L2.St} {w : Wd} {s : Shared} (I : Inv X pins σ w.H s) (m : MR A T X.K w) {n : Nat} {v1 v2 : MV} {u1 u2 : V} {z1 z2 : Value} {b : Bool} (e : eqm w.h (n + 1) v1 v2 = some b) (nf : eqFlat v1 v2 = none)
    (r1 : w.rep A T v1 u1) (r2 : w.rep A T v2 u2) (q1 : RelV u1 z1) (q2 : RelV u2 z2) {A' : Around} (hu : A'.units + n + 1 < cLine) (hobj : ∀ i j, v1 = .obj i → v2 = .obj j → ∃ xs ys, w.h[i]? = some (.lst xs) ∧ w.h[j]? = some (.lst ys)) :
    SeqAt.RcAt A' s z1 z2 b ∧ SeqAt.RcNeAt A' s z1 z2 (!b) := by
  unfold eqm at e
  split at e
  · rename_i xs ys
    obtain ⟨a, vs, e1, f1, p1⟩ := r1
    obtain ⟨c, ws, e2, f2, p2⟩ := r2
    subst e1 e2
    cases (show z1 = Value.ref a from q1)
    cases (show z2 = Value.ref c from q2)
    obtain ⟨_, its1, t1, o1, g1, g2, n1, g3⟩ := (show ObjOk X.prog X.w w.H s.heap a (.tup vs) from I.hok a _ (m.frz _ _ f1))
    obtain ⟨_, its2, t2, o2, k1, k2, n2, k3⟩ := (show ObjOk X.prog X.w w.H s.heap c (.tup ws) from I.hok c _ (m.frz _ _ f2))
    split at e
    · rename_i b1 h1
      cases e
      obtain ⟨ee, pp, qq⟩ := eqAll_get h1
      have l1 : its1.toArray.size = xs.length := by rw [List.size_toArray, ← t1.length, p1.length]
      have l2 : its2.toArray.size = ys.length := by rw [List.size_toArray, ← t2.length, p2.length]
      have he : ∀ j (h1 : j < its1.toArray.size) (h2 : j < its2.toArray.size), SeqAt.EqAt A'.in1 s its1.toArray[j] its2.toArray[j] (ee j) := fun j h1 h2 => by
        obtain ⟨j1, v1', a2, c2⟩ := item_at p1 t1 h1
        obtain ⟨j2, v2', b2, d2⟩ := item_at p2 t2 h2
        exact eqAt_of I m n _ _ _ _ _ _ _ (pp j _ _ (List.getElem?_eq_getElem j1) (List.getElem?_eq_getElem j2)) a2 b2 c2 d2 A'.in1 (by show A'.units + 1 + n < cLine; omega)
      have y1 := SeqAt.RcAt.tuples (A := A') (s := s) (l := a) (b := c) (items := its1.toArray) (items2 := its2.toArray) (e := ee) ⟨o1, g1, g2, n1, g3⟩ ⟨o2, k1, k2, n2, k3⟩ (by omega) he
      have y2 := SeqAt.RcNeAt.tuples (A := A') (s := s) (l := a) (b := c) (items := its1.toArray) (items2 := its2.toArray) (e := ee) ⟨o1, g1, g2, n1, g3⟩ ⟨o2, k1, k2, n2, k3⟩ (by omega) he
      rw [l1, l2, ← qq] at y1 y2
      exact ⟨y1, y2⟩
    · cases e
  · rename_i i j
    obtain ⟨xs, ys, h1, h2⟩ := hobj i j rfl rfl
    obtain ⟨vs, ev, g1, p1⟩ := rep_lst m r1 h1
    obtain ⟨ws, ew, g2, p2⟩ := rep_lst m r2 h2
    subst ev ew
    cases (show z1 = Value.ref (w.ι i) from q1)
    cases (show z2 = Value.ref (w.ι j) from q2)
    obtain ⟨its1, n1, t1, k1, _⟩ := I.lst g1
    obtain ⟨its2, n2, t2, k2, _⟩ := I.lst g2
    have s1 : its1.toArray.size = xs.length := by rw [List.size_toArray, ← t1.length, p1.length]
    have s2 : its2.toArray.size = ys.length := by rw [List.size_toArray, ← t2.length, p2.length]
    split at e
    · rename_i hij
      cases e
      subst hij
      rw [g1] at g2
      cases g2
      rw [k1] at k2
      cases k2
      have he : ∀ j (h1 : j < its1.toArray.size) (h2 : j < its1.toArray.size), SeqAt.EqAt A'.in1 s its1.toArray[j] its1.toArray[j] ((fun _ => true) j) := fun j h1 h2 => SeqAt.EqAt.same _
      have y1 := SeqAt.RcAt.lists (A := A') (s := s) (l := w.ι i) (b := w.ι i) (items := its1.toArray) (items2 := its1.toArray) (e := fun _ => true) ⟨_, k1, rfl, n1, rfl⟩ ⟨_, k1, rfl, n1, rfl⟩ rfl (by omega) he
      have y2 := SeqAt.RcNeAt.lists (A := A') (s := s) (l := w.ι i) (b := w.ι i) (items := its1.toArray) (items2 := its1.toArray) (e := fun _ => true) ⟨_, k1, rfl, n1, rfl⟩ ⟨_, k1, rfl, n1, rfl⟩ rfl (by omega) he
      have tt : ((List.range its1.toArray.size).all fun _ => true) = true := by simp
      rw [tt] at y1 y2
      exact ⟨y1, y2⟩
    · rw [h1, h2] at e
      simp only at e
      split at e
      · rename_i hl
        obtain ⟨ee, pp, qq⟩ := eqAll_get e
        have he : ∀ j (h1 : j < its1.toArray.size) (h2 : j < its2.toArray.size), SeqAt.EqAt A'.in1 s its1.toArray[j] its2.toArray[j] (ee j) := fun j h1 h2 => by
          obtain ⟨j1, v1', a2, c2⟩ := item_at p1 t1 h1
          obtain ⟨j2, v2', b2, d2⟩ := item_at p2 t2 h2
          exact eqAt_of I m n _ _ _ _ _ _ _ (pp j _ _ (List.getElem?_eq_getElem j1) (List.getElem?_eq_getElem j2)) a2 b2 c2 d2 A'.in1 (by show A'.units + 1 + n < cLine; omega)
        have y1 := SeqAt.RcAt.lists (A := A') (s := s) (l := w.ι i) (b := w.ι j) (items := its1.toArray) (items2 := its2.toArray) (e := ee) ⟨_, k1, rfl, n1, rfl⟩ ⟨_, k2, rfl, n2, rfl⟩ (by rw [s1, s2, hl]) (by omega) he
        have y2 := SeqAt.RcNeAt.lists (A := A') (s := s) (l := w.ι i) (b := w.ι j) (items := its1.toArray) (items2 := its2.toArray) (e := ee) ⟨_, k1, rfl, n1, rfl⟩ ⟨_, k2, rfl, n2, rfl⟩ (by rw [s1, s2, hl]) (by omega) he
        rw [s1] at y1 y2
        rw [← hl, Nat.min_self] at qq
        rw [qq]
        exact ⟨y1, y2⟩
      · rename_i hl
        cases e
        exact ⟨SeqAt.RcAt.lists_lengths (A := A') ⟨_, k1, rfl, n1, rfl⟩ ⟨_, k2, rfl, n2, rfl⟩ (by rw [s1, s2]; simpa using hl) (by omega),
          SeqAt.RcNeAt.lists_lengths (A := A') ⟨_, k1, rfl, n1, rfl⟩ ⟨_, k2, rfl, n2, rfl⟩ (by rw [s1, s2]; simpa using hl) (by omega)⟩
  · rename_i h1 h2
    rw [nf] at e
    cases e
theorem rc_flat {w : Wd} {s : Shared} {v1 v2 : MV} {u1 u2 : V} {z1 z2 : Value} {b : Bool} (e : eqFlat v1 v2 = some b) (r1 : w.rep A T v1 u1) (r2 : w.rep A T v2 u2) (q1 : RelV u1 z1) (q2 : RelV u2 z2) {A' : Around} :
    SeqAt.RcAt A' s z1 z2 b ∧ SeqAt.RcNeAt A' s z1 z2 (!b) := by
  cases v1 <;> cases v2 <;> first | (cases e; done) | skip
  all_goals (simp only [eqFlat, Option.some.injEq] at e; subst e; simp only [Wd.rep, Rep] at r1 r2; subst r1 r2; simp only [RelV] at q1 q2)
  · subst q1; subst q2; exact ⟨SeqAt.RcAt.none_none, SeqAt.RcNeAt.none_none⟩
  · subst q1; subst q2; exact ⟨SeqAt.RcAt.none_bool _, SeqAt.RcNeAt.none_bool _⟩
  · subst q1; obtain ⟨_, rfl⟩ := q2; exact ⟨SeqAt.RcAt.none_int _ _, SeqAt.RcNeAt.none_int _ _⟩
  · subst q1; obtain ⟨_, rfl⟩ := q2; exact ⟨SeqAt.RcAt.none_str _ _, SeqAt.RcNeAt.none_str _ _⟩
  · subst q1; subst q2; exact ⟨SeqAt.RcAt.bool_none _, SeqAt.RcNeAt.bool_none _⟩
  · subst q1; subst q2; exact ⟨SeqAt.RcAt.bool_bool _ _, SeqAt.RcNeAt.bool_bool _ _⟩
  · subst q1; obtain ⟨_, rfl⟩ := q2; exact ⟨SeqAt.RcAt.bool_int _ _ _, SeqAt.RcNeAt.bool_int _ _ _⟩
  · subst q1; obtain ⟨_, rfl⟩ := q2; exact ⟨SeqAt.RcAt.bool_str _ _ _, SeqAt.RcNeAt.bool_str _ _ _⟩
  · obtain ⟨_, rfl⟩ := q1; subst q2; exact ⟨SeqAt.RcAt.int_none _ _, SeqAt.RcNeAt.int_none _ _⟩
  · obtain ⟨_, rfl⟩ := q1; subst q2; exact ⟨SeqAt.RcAt.int_bool _ _ _, SeqAt.RcNeAt.int_bool _ _ _⟩
  · obtain ⟨_, rfl⟩ := q1; obtain ⟨_, rfl⟩ := q2; first | exact ⟨SeqAt.RcAt.int_int _ _ _ _, SeqAt.RcNeAt.int_int _ _ _ _⟩ | (rw [← Bool.beq_eq_decide_eq]; exact ⟨SeqAt.RcAt.int_int _ _ _ _, SeqAt.RcNeAt.int_int _ _ _ _⟩)
  · obtain ⟨_, rfl⟩ := q1; obtain ⟨_, rfl⟩ := q2; exact ⟨SeqAt.RcAt.int_str _ _ _ _, SeqAt.RcNeAt.int_str _ _ _ _⟩
  · obtain ⟨_, rfl⟩ := q1; subst q2; exact ⟨SeqAt.RcAt.str_none _ _, SeqAt.RcNeAt.str_none _ _⟩
  · obtain ⟨_, rfl⟩ := q1; subst q2; exact ⟨SeqAt.RcAt.str_bool _ _ _, SeqAt.RcNeAt.str_bool _ _ _⟩
  · obtain ⟨_, rfl⟩ := q1; obtain ⟨_, rfl⟩ := q2; exact ⟨SeqAt.RcAt.str_int _ _ _ _, SeqAt.RcNeAt.str_int _ _ _ _⟩
  · obtain ⟨_, rfl⟩ := q1; obtain ⟨_, rfl⟩ := q2; first | exact ⟨SeqAt.RcAt.str_str _ _ _ _, SeqAt.RcNeAt.str_str _ _ _ _⟩ | (rw [← Bool.beq_eq_decide_eq]; exact ⟨SeqAt.RcAt.str_str _ _ _ _, SeqAt.RcNeAt.str_str _ _ _ _⟩)
end
end Sd

set_option Elab.async false
set_option linter.all false
set_option maxRecDepth 100000
set_option maxHeartbeats 1000000
/-! comparisons, subscripts, stores, built-in functions: by values. -/
namespace Sd
open PySem L2 MP
section
variable {A : Ad} {T : Tb} {X : Cx} {W : WX}
theorem eqFlat_none {v1 v2 : MV} {h : Hm} {b : Bool} (e : eqm h eqDeep v1 v2 = some b) (nf : eqFlat v1 v2 = none) : (∃ xs ys, v1 = .tup xs ∧ v2 = .tup ys) ∨ ∃ i j, v1 = .obj i ∧ v2 = .obj j := by
  unfold eqDeep at e
  unfold eqm at e
  split at e
  · exact .inl ⟨_, _, rfl, rfl⟩
  · exact .inr ⟨_, _, rfl, rfl⟩
  · rw [nf] at e; cases e
/-- two data that are no dicts -/
theorem rc_data {pins : List (Addr × Obj)} {σ : L2.St} {w : Wd} {s : Shared} (I : Inv X pins σ w.H s) (m : MR A T X.K w) {v1 v2 : MV} {u1 u2 : V} {z1 z2 : Value} {b : Bool} (e : eqm w.h eqDeep v1 v2 = some b)
    (r1 : w.rep A T v1 u1) (r2 : w.rep A T v2 u2) (q1 : RelV u1 z1) (q2 : RelV u2 z2) {A' : Around} (hu : A'.units + 64 < cLine) (hobj : ∀ i j, v1 = .obj i → v2 = .obj j → ∃ xs ys, w.h[i]? = some (.lst xs) ∧ w.h[j]? = some (.lst ys)) :
    SeqAt.RcAt A' s z1 z2 b ∧ SeqAt.RcNeAt A' s z1 z2 (!b) := by
  cases nf : eqFlat v1 v2 with
  | some b' =>
    have : b' = b := by
      unfold eqDeep eqm at e
      split at e
      · cases nf
      · cases nf
      · rw [nf] at e; cases e; rfl
    subst this
    exact rc_flat nf r1 r2 q1 q2
  | none => exact rc_seqs I m (n := 39) e nf r1 r2 q1 q2 (by omega) hobj
theorem rep_dct {K : PySem.W.Frag} {w : Wd} {a : Nat} {kvs : List (MK × MV)} {u : V} (m : MR A T K w) (r : w.rep A T (.obj a) u) (q : w.h[a]? = some (.dct false kvs)) :
    ∃ ks : List (Key × V), u = .ref (w.ι a) ∧ w.H (w.ι a) = some (.dK ks) ∧ kvs.map (·.1) = ks.map (fun p => MK.one p.1) ∧ w.reps A T (kvs.map (·.2)) (ks.map (·.2)) := by
  obtain ⟨e, _⟩ := r
  obtain ⟨o, h1, ⟨ks, h2, h3, h4⟩, _⟩ := m.obj a _ q trivial
  subst h2
  exact ⟨ks, e, h1, h3, h4⟩
theorem rep_dctT {K : PySem.W.Frag} {w : Wd} {a : Nat} {kvs : List (MK × MV)} {u : V} (m : MR A T K w) (r : w.rep A T (.obj a) u) (q : w.h[a]? = some (.dct true kvs)) :
    ∃ ks : List (List Key × V), u = .ref (w.ι a) ∧ w.H (w.ι a) = some (.dT ks) ∧ kvs.map (·.1) = ks.map (fun p => MK.many p.1) ∧ w.reps A T (kvs.map (·.2)) (ks.map (·.2)) := by
  obtain ⟨e, _⟩ := r
  obtain ⟨o, h1, ⟨ks, h2, h3, h4⟩, _⟩ := m.obj a _ q trivial
  subst h2
  exact ⟨ks, e, h1, h3, h4⟩
/-! ### what a dict gives -/
theorem dget_K {F : Hp} {ι : Nat → Addr} {n : Nat} : ∀ {kvs : List (MK × MV)} {ks : List (Key × V)} (k : Key), kvs.map (·.1) = ks.map (fun p => MK.one p.1) → Reps A T F ι n (kvs.map (·.2)) (ks.map (·.2)) →
    (dget kvs (.one k) = none ∧ valV ks k = none) ∨ ∃ v u, dget kvs (.one k) = some v ∧ valV ks k = some u ∧ Rep A T F ι n v u
  | [], [], k, _, _ => .inl ⟨rfl, rfl⟩
  | [], _ :: _, k, e, _ => by cases e
  | _ :: _, [], k, e, _ => by cases e
  | (q, v) :: kvs, (p, u) :: ks, k, e, r => by
    simp only [List.map_cons, List.cons.injEq] at e r
    obtain ⟨e1, e2⟩ := e
    obtain ⟨u', r', e3, r1, r2⟩ := r
    cases e3
    subst e1
    by_cases h : p = k
    · subst h
      exact .inr ⟨v, u, by simp [dget], by simp [valV], r1⟩
    · have h' : ¬ (MK.one p = MK.one k) := fun z => h (by cases z; rfl)
      rcases dget_K k e2 r2 with ⟨a, b⟩ | ⟨v', u', a, b, c⟩
      · refine .inl ⟨?_, ?_⟩
        · simpa [dget, List.find?_cons, h'] using a
        · simpa [valV, List.find?_cons, h] using b
      · refine .inr ⟨v', u', ?_, ?_, c⟩
        · simpa [dget, List.find?_cons, h'] using a
        · simpa [valV, List.find?_cons, h] using b
theorem dget_T {F : Hp} {ι : Nat → Addr} {n : Nat} : ∀ {kvs : List (MK × MV)} {ks : List (List Key × V)} (k : List Key), kvs.map (·.1) = ks.map (fun p => MK.many p.1) → Reps A T F ι n (kvs.map (·.2)) (ks.map (·.2)) →
    (dget kvs (.many k) = none ∧ valV ks k = none) ∨ ∃ v u, dget kvs (.many k) = some v ∧ valV ks k = some u ∧ Rep A T F ι n v u
  | [], [], k, _, _ => .inl ⟨rfl, rfl⟩
  | [], _ :: _, k, e, _ => by cases e
  | _ :: _, [], k, e, _ => by cases e
  | (q, v) :: kvs, (p, u) :: ks, k, e, r => by
    simp only [List.map_cons, List.cons.injEq] at e r
    obtain ⟨e1, e2⟩ := e
    obtain ⟨u', r', e3, r1, r2⟩ := r
    cases e3
    subst e1
    by_cases h : p = k
    · subst h
      exact .inr ⟨v, u, by simp [dget], by simp [valV], r1⟩
    · have h' : ¬ (MK.many p = MK.many k) := fun z => h (by cases z; rfl)
      rcases dget_T k e2 r2 with ⟨a, b⟩ | ⟨v', u', a, b, c⟩
      · refine .inl ⟨?_, ?_⟩
        · simpa [dget, List.find?_cons, h'] using a
        · simpa [valV, List.find?_cons, h] using b
      · refine .inr ⟨v', u', ?_, ?_, c⟩
        · simpa [dget, List.find?_cons, h'] using a
        · simpa [valV, List.find?_cons, h] using b
theorem kyOf_rep {w : Wd} {x : MV} {k : Ky} {u : V} (e : kyOf x = some k) (r : w.rep A T x u) : u = kV k := by
  cases x <;> first | (cases e; done) | skip
  · cases e; cases rep_int r; rfl
  · cases e; cases rep_str r; rfl
theorem kysOf_rep {w : Wd} : ∀ {xs : List MV} {ks : List Ky} {us : List V}, kysOf xs = some ks → w.reps A T xs us → us = ks.map kV
  | [], _, _, e, r => by cases e; cases (show _ = [] from r); rfl
  | x :: xs, _, _, e, r => by
    unfold kysOf at e
    split at e
    · rename_i k ks h1 h2
      cases e
      obtain ⟨u, us, e1, r1, r2⟩ := r
      subst e1
      rw [kyOf_rep h1 r1, kysOf_rep h2 r2]
      rfl
    · cases e
/-- a dict asked by a key -/
theorem dget_rep {K : PySem.W.Frag} {w : Wd} {a : Nat} {t : Bool} {kvs : List (MK × MV)} {x : MV} {k : MK} {u y : V} (m : MR A T K w) (ru : w.rep A T (.obj a) u) (q : w.h[a]? = some (.dct t kvs)) (hk : keyOf t x = some k) (ry : w.rep A T x y) :
    ∃ o, DGet w.H (w.ι a) y o ∧ u = .ref (w.ι a) ∧ ((dget kvs k = none ∧ o = none) ∨ ∃ v z, dget kvs k = some v ∧ o = some z ∧ w.rep A T v z) := by
  cases t with
  | false =>
    obtain ⟨ks, e1, e2, e3, e4⟩ := rep_dct m ru q
    have hk' : ∃ k0, kyOf x = some k0 ∧ k = .one k0 := by
      cases x <;> simp [keyOf, kyOf] at hk ⊢ <;> first | exact hk.symm | skip
    obtain ⟨k0, h1, h2⟩ := hk'
    subst h2
    have := kyOf_rep h1 ry
    subst this
    refine ⟨_, DGet.k e2, e1, ?_⟩
    rcases dget_K k0 e3 e4 with ⟨a, b⟩ | ⟨v, z, a, b, c⟩
    · exact .inl ⟨a, b⟩
    · exact .inr ⟨v, z, a, b, c⟩
  | true =>
    obtain ⟨ks, e1, e2, e3, e4⟩ := rep_dctT m ru q
    have hk' : ∃ xs k0, x = .tup xs ∧ kysOf xs = some k0 ∧ k = .many k0 := by
      cases x <;> simp [keyOf] at hk
      rename_i xs
      obtain ⟨k0, h, hk⟩ := hk
      exact ⟨xs, k0, rfl, h, hk.symm⟩
    obtain ⟨xs, k0, h0, h1, h2⟩ := hk'
    subst h2 h0
    obtain ⟨b, us, e5, e6, e7⟩ := ry
    subst e5
    have := kysOf_rep h1 e7
    subst this
    refine ⟨_, DGet.t e2 (m.frz _ _ e6), e1, ?_⟩
    rcases dget_T k0 e3 e4 with ⟨a, b⟩ | ⟨v, z, a, b, c⟩
    · exact .inl ⟨a, b⟩
    · exact .inr ⟨v, z, a, b, c⟩

/-! ### comparisons; no class of the program has its own -/
def NoCls (T : Tb) : Prop := ∀ c, T.ci c = none
theorem noMeth {C : Ct} (hC : ∀ c, C.ci c = none) (h : Hm) (x : MV) (m : PySem.Str) : methOf C h x m = none := by
  unfold methOf
  cases clsOf h x with
  | none => rfl
  | some c => simp [hC c]
theorem mcmp_noex {C : Ct} (hC : ∀ c, C.ci c = none) (op : COp) : NoEx2 (mCmp C op) := by
  intro x y h c v h' q
  cases op <;> simp only [mCmp, mcmp, mEq, mIn, noMeth hC] at q <;>
    (repeat' (split at q)) <;> first | (cases q; done) | (injection q)
theorem fin_rc {pins : List (Addr × Obj)} {σ : L2.St} {w : Wd} {s : Shared} {Q : VK} {b : Bool} (I : Inv X pins σ w.H s) (q : Q (.bl b) w.H) : EP X pins σ Q (.bool b) s := ⟨.bl b, w.H, I, rfl, q⟩
/-- == and != of two dicts of flat values -/
theorem os_eqne {C : Ct} (hC : ∀ c, C.ci c = none) (hu : X.A.units + 64 < cLine) : OpR X (compareOp .Eq) (rOp A T X.K (mCmp C .eq)) ∧ OpR X (compareOp .NotEq) (rOp A T X.K (mCmp C .ne)) := by
  have main : ∀ (neg : Bool) (pins : List (Addr × Obj)) (s : Shared) (σ : L2.St) (x y : MV) (w : Wd) (u v : V) (z1 z2 : Value) (Q : VK), Inv X pins σ w.H s → RelV u z1 → RelV v z2 → MR A T X.K w → w.rep A T x u → w.rep A T y v →
      ∀ b, eqData w.h x y = some b → Q (.bl (if neg then !b else b)) w.H → wpAny (model X.prog X.w) X.A (richCompare (if neg then .NotEq else .Eq) z1 z2) (EP X pins σ Q) X.xe s := by
    intro neg pins s σ x y w u v z1 z2 Q I q1 q2 m r1 r2 b e k
    unfold eqData at e
    split at e
    · rename_i i j
      split at e
      · rename_i xs ys h1 h2
        obtain ⟨y1, y2⟩ := rc_data I m e r1 r2 q1 q2 hu (fun i' j' a1 a2 => by cases a1; cases a2; exact ⟨_, _, h1, h2⟩)
        cases neg with
        | false => exact y1 _ _ _ _ (fin_rc I k)
        | true => exact y2 _ _ _ _ (fin_rc I k)
      · cases e
    · rename_i hno
      obtain ⟨y1, y2⟩ := rc_data I m e r1 r2 q1 q2 hu (fun i' j' a1 a2 => (hno _ _ a1 a2).elim)
      cases neg with
      | false => exact y1 _ _ _ _ (fin_rc I k)
      | true => exact y2 _ _ _ _ (fin_rc I k)
  constructor
  · intro pins s σ H x y v u Q I q1 q2 ⟨a, b, w, hH, m, r1, r2, z⟩
    subst hH
    simp only [mCmp, mcmp, mEq, noMeth hC] at z
    split at z
    · rename_i k e
      exact main false pins s σ a b w _ _ _ _ Q I q1 q2 m r1 r2 _ e (z.flat m rfl)
    · exact z.elim
  · intro pins s σ H x y v u Q I q1 q2 ⟨a, b, w, hH, m, r1, r2, z⟩
    subst hH
    simp only [mCmp, mcmp, mEq, noMeth hC] at z
    split at z
    · rename_i k e
      exact main true pins s σ a b w _ _ _ _ Q I q1 q2 m r1 r2 _ e (z.flat m rfl)
    · exact z.elim
theorem os_lt {C : Ct} : OpR X (compareOp .Lt) (rOp A T X.K (mCmp C .lt)) := by
  refine OpR.imp (op_lt.or op_lt_str) fun u v H Q ⟨x, y, w, hH, m, r1, r2, z⟩ => ?_
  subst hH
  simp only [mCmp, mcmp] at z
  split at z
  · rename_i b e
    unfold ltFlat at e
    split at e
    · cases e; cases rep_int r1; cases rep_int r2
      exact .inl ⟨_, _, rfl, rfl, z.flat m rfl⟩
    · cases e; cases rep_str r1; cases rep_str r2
      exact .inr ⟨_, _, rfl, rfl, z.flat m rfl⟩
    · cases e
  · exact z.elim
theorem os_le {C : Ct} : OpR X (compareOp .LtE) (rOp A T X.K (mCmp C .le)) := by
  refine OpR.imp op_le fun u v H Q ⟨x, y, w, hH, m, r1, r2, z⟩ => ?_
  subst hH
  simp only [mCmp, mcmp] at z
  split at z
  · rename_i b e
    unfold leFlat at e
    split at e
    · cases e; cases rep_int r1; cases rep_int r2
      exact ⟨_, _, rfl, rfl, z.flat m rfl⟩
    · cases e
  · exact z.elim
theorem os_gt {C : Ct} : OpR X (compareOp .Gt) (rOp A T X.K (mCmp C .gt)) := by
  refine OpR.imp op_gt fun u v H Q ⟨x, y, w, hH, m, r1, r2, z⟩ => ?_
  subst hH
  simp only [mCmp, mcmp] at z
  split at z
  · cases rep_int r1; cases rep_int r2
    exact ⟨_, _, rfl, rfl, z.flat m rfl⟩
  · exact z.elim
theorem os_ge {C : Ct} : OpR X (compareOp .GtE) (rOp A T X.K (mCmp C .ge)) := by
  refine OpR.imp op_ge fun u v H Q ⟨x, y, w, hH, m, r1, r2, z⟩ => ?_
  subst hH
  simp only [mCmp, mcmp] at z
  split at z
  · cases rep_int r1; cases rep_int r2
    exact ⟨_, _, rfl, rfl, z.flat m rfl⟩
  · exact z.elim
theorem flatM_rep {w : Wd} {x : MV} {u : V} (f : flatM x = true) (r : w.rep A T x u) : flatV u = true := by
  cases x <;> first | (cases f; done) | skip
  · cases rep_non r; rfl
  · cases rep_bl r; rfl
  · cases rep_int r; rfl
  · cases rep_str r; rfl
theorem anyEq_rep {w : Wd} {x : MV} {u : V} (rx : w.rep A T x u) : ∀ {xs : List MV} {vs : List V} {b : Bool}, anyEq x xs = some b → w.reps A T xs vs → flatV u = true ∧ vs.all flatV = true ∧ inV u vs = b
  | [], _, b, e, r => by
    cases (show _ = [] from r)
    unfold anyEq at e
    split at e
    · rename_i f
      cases e
      exact ⟨flatM_rep f rx, rfl, rfl⟩
    · cases e
  | y :: r, _, b, e, rr => by
    obtain ⟨v, vs, e1, r1, r2⟩ := rr
    subst e1
    unfold anyEq at e
    split at e
    · rename_i a1 b1 h1 h2
      cases e
      obtain ⟨f1, f2, f3⟩ := flat_of h1 r1 rx
      obtain ⟨_, g2, g3⟩ := anyEq_rep rx h2 r2
      refine ⟨f2, by simp [f1, g2], ?_⟩
      unfold inV at g3 ⊢
      rw [List.any_cons, f3, g3]
    · cases e
theorem rep_tup {w : Wd} {xs : List MV} {u : V} (m : MR A T X.K w) (r : w.rep A T (.tup xs) u) : ∃ a vs, u = .ref a ∧ SqT X.K w.H a vs ∧ w.H a = some (.tup vs) ∧ w.reps A T xs vs := by
  obtain ⟨a, vs, e, f, q⟩ := r
  exact ⟨a, vs, e, .inl (.inl (m.frz _ _ f)), m.frz _ _ f, q⟩
theorem str_one {t : PySem.Str} {c : Nat} (e : t.cps.toList = [c]) : t = ⟨#[c]⟩ := by
  obtain ⟨arr⟩ := t
  have h2 : arr.toList = [c] := e
  have : arr = #[c] := by rw [← Array.toArray_toList (xs := arr), h2]
  rw [this]
/-- what `in` asks, by kinds -/
theorem in_core {C : Ct} (hC : ∀ c, C.ci c = none) {w : Wd} {x y : MV} {u v : V} {f : Bool → MV} {Q : VK} (m : MR A T X.K w) (r1 : w.rep A T x u) (r2 : w.rep A T y v)
    (z : (mIn C x y w.h fun b h => .ok (f b) h).wp (K0 A T X.K w Q) (fun _ _ _ => False)) :
    (∃ (c : Nat) (s : PySem.Str), u = .str ⟨#[c]⟩ ∧ v = .str s ∧ K0 A T X.K w Q (f (decide (c ∈ s.cps.toList))) w.h) ∨
    (∃ p xs, v = .ref p ∧ (SqL X.K w.H p xs ∨ SqT X.K w.H p xs) ∧ flatV u = true ∧ xs.all flatV = true ∧ K0 A T X.K w Q (f (inV u xs)) w.h) ∨
    (∃ a o, v = .ref a ∧ DGet w.H a u o ∧ K0 A T X.K w Q (f o.isSome) w.h) := by
  simp only [mIn, noMeth hC] at z
  split at z
  · split at z
    · split at z
      · rename_i c e
        cases rep_str r1; cases rep_str r2
        refine .inl ⟨c, _, ?_, rfl, z⟩
        rw [str_one e]
      · exact z.elim
    · exact z.elim
  · split at z
    · rename_i b e
      obtain ⟨a, vs, e1, h1, _, q⟩ := rep_tup m r2
      subst e1
      obtain ⟨g1, g2, g3⟩ := anyEq_rep r1 e q
      exact .inr (.inl ⟨a, vs, rfl, .inr h1, g1, g2, by rw [g3]; exact z⟩)
    · exact z.elim
  · split at z
    · rename_i ys e0
      split at z
      · rename_i b e
        obtain ⟨vs, e1, h1, q⟩ := rep_lst m r2 e0
        subst e1
        obtain ⟨g1, g2, g3⟩ := anyEq_rep r1 e q
        exact .inr (.inl ⟨_, vs, rfl, .inl (.inl (.inl h1)), g1, g2, by rw [g3]; exact z⟩)
      · exact z.elim
    · rename_i t kvs e0
      split at z
      · rename_i k ek
        obtain ⟨o, g, e1, h⟩ := dget_rep m r2 e0 ek r1
        subst e1
        refine .inr (.inr ⟨_, o, rfl, g, ?_⟩)
        rcases h with ⟨h1, h2⟩ | ⟨v', z', h1, h2, _⟩
        · rw [h1] at z; rw [h2]; exact z
        · rw [h1] at z; rw [h2]; exact z
      · exact z.elim
    · exact z.elim
  · exact z.elim
theorem os_in {C : Ct} (hC : ∀ c, C.ci c = none) (hu : X.A.units + 64 < cLine) : OpR X (compareOp .In) (rOp A T X.K (mCmp C .in_)) := by
  have hd : OpR X (compareOp .In) (fun x y H Q => ∃ a o, y = .ref a ∧ DGet H a x o ∧ Q (.bl o.isSome) H) := by
    intro pins s σ H x y v u Q I rx ry ⟨a, o, e, g, q⟩
    subst e
    obtain rfl : u = Value.ref a := ry
    exact d_in (by omega) I g rx fun s3 I3 => ⟨.bl o.isSome, H, I3, rfl, q⟩
  refine OpR.imp (op_in_sign.or (op_in_seq.or hd)) fun u v H Q ⟨x, y, w, hH, m, r1, r2, z⟩ => ?_
  subst hH
  rcases in_core hC m r1 r2 (f := fun b => .bl b) z with ⟨c, s, e1, e2, k⟩ | ⟨p, xs, e1, e2, e3, e4, k⟩ | ⟨a, o, e1, g, k⟩
  · exact .inl ⟨c, s, e1, e2, k.flat m rfl⟩
  · exact .inr (.inl ⟨p, xs, e1, e2, e3, e4, k.flat m rfl⟩)
  · exact .inr (.inr ⟨a, o, e1, g, k.flat m rfl⟩)
theorem os_notin {C : Ct} (hC : ∀ c, C.ci c = none) (hu : X.A.units + 64 < cLine) : OpR X (compareOp .NotIn) (rOp A T X.K (mCmp C .notin)) := by
  have hd : OpR X (compareOp .NotIn) (fun x y H Q => ∃ a o, y = .ref a ∧ DGet H a x o ∧ Q (.bl (!o.isSome)) H) := by
    intro pins s σ H x y v u Q I rx ry ⟨a, o, e, g, q⟩
    subst e
    obtain rfl : u = Value.ref a := ry
    exact d_notIn (by omega) I g rx fun s3 I3 => ⟨.bl (!o.isSome), H, I3, rfl, q⟩
  refine OpR.imp (op_notIn_sign.or (op_notIn_seq.or hd)) fun u v H Q ⟨x, y, w, hH, m, r1, r2, z⟩ => ?_
  subst hH
  rcases in_core hC m r1 r2 (f := fun b => .bl (!b)) z with ⟨c, s, e1, e2, k⟩ | ⟨p, xs, e1, e2, e3, e4, k⟩ | ⟨a, o, e1, g, k⟩
  · exact .inl ⟨c, s, e1, e2, k.flat m rfl⟩
  · exact .inr (.inl ⟨p, xs, e1, e2, e3, e4, k.flat m rfl⟩)
  · exact .inr (.inr ⟨a, o, e1, g, k.flat m rfl⟩)
def cmpOf : COp → CmpOp
  | .eq => .Eq
  | .ne => .NotEq
  | .lt => .Lt
  | .le => .LtE
  | .gt => .Gt
  | .ge => .GtE
  | .in_ => .In
  | .notin => .NotIn
theorem os_cmp {C : Ct} (hC : ∀ c, C.ci c = none) (hu : X.A.units + 64 < cLine) (op : COp) : OpR X (compareOp (cmpOf op)) (rOp A T X.K (mCmp C op)) := by
  cases op
  · exact (os_eqne hC hu).1
  · exact (os_eqne hC hu).2
  · exact os_lt
  · exact os_le
  · exact os_gt
  · exact os_ge
  · exact os_in hC hu
  · exact os_notin hC hu
end
end Sd

set_option Elab.async false
set_option linter.all false
set_option maxRecDepth 100000
set_option maxHeartbeats 1000000
/-! subscripts, slices, stores, built-in functions: by values. -/
namespace Sd
open PySem L2 MP
section
variable {A : Ad} {T : Tb} {X : Cx} {W : WX}
theorem ixN_eq (n : Nat) (i : Int) : MP.ixN n i = L2.ixN n i := rfl
theorem atI_rep {F : Hp} {ι : Nat → Addr} {n : Nat} {xs : List MV} {vs : List V} {k : Int} {x : MV} (r : Reps A T F ι n xs vs) (e : MP.atI xs k = some x) : ∃ v, L2.atI vs k = some v ∧ Rep A T F ι n x v := by
  unfold MP.atI at e
  unfold L2.atI
  rw [← ixN_eq, r.length]
  cases h : MP.ixN xs.length k with
  | none => rw [h] at e; cases e
  | some j =>
    rw [h] at e
    obtain ⟨v, h1, h2⟩ := r.get (show xs[j]? = some x from e)
    exact ⟨v, h1, h2⟩
theorem rep_seq {w : Wd} {a : Nat} {xs : List MV} {u : V} (m : MR A T X.K w) (r : w.rep A T (.obj a) u) (q : seqAt w.h a = some xs) : ∃ vs, u = .ref (w.ι a) ∧ SqL X.K w.H (w.ι a) vs ∧ w.reps A T xs vs := by
  unfold seqAt at q
  split at q
  · rename_i ys e
    cases q
    obtain ⟨vs, e1, h1, q⟩ := rep_lst m r e
    exact ⟨vs, e1, .inl (.inl h1), q⟩
  · rename_i ys e
    cases q
    obtain ⟨vs, s, q⟩ := m.ro a _ e
    exact ⟨vs, r.1, s.sq, q⟩
  · cases q
/-- a subscript's ways; no class has its own -/
theorem mSub_noex {C : Ct} (hC : ∀ c, C.ci c = none) : NoEx2 (mSub C) := by
  intro x y h c v h' q
  simp only [mSub, noMeth hC] at q
  (repeat' (split at q)) <;> first | (cases q; done) | skip
theorem ix_dict (hu : X.A.units + 64 < cLine) : IxR X (fun x y H Q => ∃ a v, x = .ref a ∧ DGet H a y (some v) ∧ Q v H) := by
  intro value slice pins s σ H x y v u Q I rx ry ⟨a, z, e, g, q⟩ hs
  subst e
  obtain rfl : v = Value.ref a := rx
  exact PyProof.Rows.tail_any (dict_typeIs I g) PySem.F.slot_dict_getitem.lookup (d_getItem (by omega) I g ry fun w' s3 I3 rw' => ⟨z, H, I3, rw', q⟩) hs
theorem IxR.imp {X : Cx} {r r' : R2} (h : IxR X r) (q : ∀ x y H Q, r' x y H Q → r x y H Q) : IxR X r' := fun value slice pins s σ H x y v u Q I r1 r2 z hs => h value slice pins s σ H x y v u Q I r1 r2 (q x y H Q z) hs
theorem is_sub {C : Ct} (hC : ∀ c, C.ci c = none) (hu : X.A.units + 64 < cLine) : IxR X (rOp A T X.K (mSub C)) := by
  refine IxR.imp (ix_seq.or (ix_dict hu)) fun u v H Q ⟨x, y, w, hH, m, r1, r2, z⟩ => ?_
  subst hH
  simp only [mSub, noMeth hC] at z
  split at z
  · split at z
    · split at z
      · rename_i hl
        split at z
        · rename_i r e
          cases rep_str r1; cases rep_int r2
          unfold strAt at e
          cases h : MP.atI _ _ with
          | none => rw [h] at e; cases e
          | some c =>
            rw [h] at e
            cases e
            exact .inl (.inr (.inr ⟨_, _, c, rfl, rfl, by rw [← lim_eq]; exact hl, h, z.flat m rfl⟩))
        · exact z.elim
      · exact z.elim
    · exact z.elim
  · split at z
    · split at z
      · rename_i r e
        obtain ⟨a, vs, e1, h1, _, q⟩ := rep_tup m r1
        subst e1
        cases rep_int r2
        obtain ⟨v', k1, k2⟩ := atI_rep q e
        exact .inl (.inr (.inl ⟨a, vs, _, v', rfl, rfl, h1, k1, z.flat m k2⟩))
      · exact z.elim
    · exact z.elim
  · exact z.elim
  · rename_i a
    have sq : ∀ xs, seqAt w.h a = some xs → ∀ k r, v = .int k → MP.atI xs k = some r → K0 A T X.K w Q r w.h → rIx X.K u v w.H Q ∨ (∃ a v_1, u = V.ref a ∧ DGet w.H a v (some v_1) ∧ Q v_1 w.H) := fun xs q k r ev e z => by
      obtain ⟨vs, e1, h1, q⟩ := rep_seq m r1 q
      obtain ⟨v', k1, k2⟩ := atI_rep q e
      exact .inl (.inl ⟨_, vs, k, v', e1, ev, h1, k1, z.flat m k2⟩)
    split at z
    · rename_i xs e0
      split at z
      · split at z
        · rename_i r e
          cases rep_int r2
          exact sq xs (by unfold seqAt; rw [e0]) _ r rfl e z
        · exact z.elim
      · exact z.elim
    · rename_i xs e0
      split at z
      · split at z
        · rename_i r e
          cases rep_int r2
          exact sq xs (by unfold seqAt; rw [e0]) _ r rfl e z
        · exact z.elim
      · exact z.elim
    · rename_i t kvs e0
      split at z
      · rename_i k ek
        obtain ⟨o, g, e1, h⟩ := dget_rep m r1 e0 ek r2
        rcases h with ⟨h1, h2⟩ | ⟨v', z', h1, h2, h3⟩
        · rw [h1] at z; exact z.elim
        · rw [h1] at z
          subst h2
          exact .inr ⟨_, z', e1, g, K0.flat z m h3⟩
      · exact z.elim
    · exact z.elim
    · exact z.elim
  · exact z.elim
theorem se_sub {C : Ct} (hC : ∀ c, C.ci c = none) (hu : X.A.units + 64 < cLine) {ea eb : Expr} {a b : EE} {pos : Pos} (ha : SE A T X W ea a) (hb : SE A T X W eb b) (hs : PlainIx eb) : SE A T X W (.Subscript ea eb pos) (eSub C a b) :=
  PE.imp (pe_ix (is_sub hC hu) ha hb hs) fun σ H Q z => op_imp (mSub_noex hC) z

/-! ### slices -/
abbrev SO (A : Ad) (T : Tb) (X : Cx) (W : WX) (ex : Option Expr) (d : EO) : Prop := PO X ex (fun σ H Q => ∃ (e : En) (w : Wd), w.H = H ∧ EsR A T w e σ ∧ MR A T X.K w ∧
  (d e w.h).wp (fun o h' => ∀ (w' : Wd), w'.h = h' → w.le w' → MR A T X.K w' → Q o w'.H) (X0 A T X.K w fun cls d' H' => W cls d' σ H'))
theorem PO.imp {X : Cx} {e : Option Expr} {t t' : TO} (h : PO X e t) (q : ∀ σ H Q, t' σ H Q → t σ H Q) : PO X e t' := ⟨fun pins s σ H Q I z => h.run pins s σ H Q I (q σ H Q z)⟩
theorem so_none : SO A T X W none oNone := PO.imp po_none fun σ H Q ⟨e, w, hH, es, m, z⟩ => by
  subst hH
  exact z w rfl (Wd.le.refl w) m
theorem so_some {ea : Expr} {a : EE} (ha : SE A T X W ea a) : SO A T X W (some ea) (oSome a) := by
  refine PO.imp (po_some ha) fun σ H Q ⟨e, w, hH, es, m, z⟩ => ?_
  subst hH
  refine re_step (Wd.le.refl w) es m (R.wp_bind.mp z) fun x w1 u z1 l1 _ m1 es1 r1 => ?_
  split at z1
  · cases rep_int r1
    exact ⟨_, rfl, z1 w1 rfl l1 m1⟩
  · exact z1.elim
theorem cut_rep {F : Hp} {ι : Nat → Addr} {n : Nat} {xs : List MV} {vs : List V} (r : Reps A T F ι n xs vs) (lo hi : Option Int) : Reps A T F ι n (cut xs lo hi) (cutV vs lo hi) := by
  have e : ∀ n d o, MP.sIx n d o = HT.sIx n d o := fun n d o => by cases o <;> rfl
  unfold cut cutV
  rw [e, e, r.length]
  exact (r.drop _).take _

/-! ### stores -/
theorem PSet.imp {X : Cx} {t t' : TSet} (h : PSet X t) (q : ∀ o i v H Q, t' o i v H Q → t o i v H Q) : PSet X t' := fun pins s σ H o i v ov iv u Q I r1 r2 r3 z => h pins s σ H o i v ov iv u Q I r1 r2 r3 (q o i v H Q z)
theorem PSet.or {X : Cx} {t t' : TSet} (h : PSet X t) (h' : PSet X t') : PSet X (fun o i v H Q => t o i v H Q ∨ t' o i v H Q) := fun pins s σ H o i v ov iv u Q I r1 r2 r3 z => by
  rcases z with z | z
  · exact h pins s σ H o i v ov iv u Q I r1 r2 r3 z
  · exact h' pins s σ H o i v ov iv u Q I r1 r2 r3 z
theorem set_dict (hu : X.A.units + 64 < cLine) : PSet X (fun o i v H Q => ∃ a H', o = .ref a ∧ DPut H a i v H' ∧ Q H') := by
  intro pins s σ H o i v ov iv u Q I r1 r2 r3 ⟨a, H', e, g, q⟩
  subst e
  obtain rfl : ov = Value.ref a := r1
  exact d_setItem (by omega) I g r2 r3 fun s4 I4 => ⟨H', I4, q⟩
/-- what is wanted behind a store: the same values, a changed heap -/
def KS (A : Ad) (T : Tb) (K : PySem.W.Frag) (w : Wd) (Q : Hp → Prop) : Hm → Prop := fun h' => ∀ (w' : Wd), w'.h = h' → w.le w' → MR A T K w' → Q w'.H
section
variable {κ : Type} [DecidableEq κ]
theorem any_key (c : κ → MK) (inj : ∀ a b, c a = c b → a = b) (k : κ) : ∀ {kvs : List (MK × MV)} {ks : List (κ × V)}, kvs.map (·.1) = ks.map (fun p => c p.1) → (kvs.any fun p => decide (p.1 = c k)) = (ks.any fun p => decide (p.1 = k))
  | [], [], _ => rfl
  | [], _ :: _, e => by cases e
  | _ :: _, [], e => by cases e
  | p :: kvs, q :: ks, e => by
    simp only [List.map_cons, List.cons.injEq] at e
    obtain ⟨e1, e2⟩ := e
    rw [List.any_cons, List.any_cons, any_key c inj k e2, e1]
    congr 1
    by_cases h : q.1 = k
    · simp [h]
    · have : ¬ c q.1 = c k := fun z => h (inj _ _ z)
      simp [h, this]
theorem map_key (c : κ → MK) (inj : ∀ a b, c a = c b → a = b) {F : Hp} {ι : Nat → Addr} {n : Nat} {v : MV} {u : V} (rv : Rep A T F ι n v u) (k : κ) : ∀ {kvs : List (MK × MV)} {ks : List (κ × V)}, kvs.map (·.1) = ks.map (fun p => c p.1) → Reps A T F ι n (kvs.map (·.2)) (ks.map (·.2)) →
    (kvs.map fun p => if p.1 = c k then (p.1, v) else p).map (·.1) = (ks.map fun kv => if kv.1 = k then (kv.1, u) else kv).map (fun p => c p.1) ∧
    Reps A T F ι n ((kvs.map fun p => if p.1 = c k then (p.1, v) else p).map (·.2)) ((ks.map fun kv => if kv.1 = k then (kv.1, u) else kv).map (·.2))
  | [], [], _, _ => ⟨rfl, Reps.nil⟩
  | [], _ :: _, e, _ => by cases e
  | _ :: _, [], e, _ => by cases e
  | (p, v0) :: kvs, (q, u0) :: ks, e, r => by
    simp only [List.map_cons, List.cons.injEq] at e r
    obtain ⟨e1, e2⟩ := e
    obtain ⟨u', r', e3, r1, r2⟩ := r
    cases e3
    subst e1
    obtain ⟨g1, g2⟩ := map_key c inj rv k e2 r2
    by_cases h : q = k
    · subst h
      simp only [List.map_cons, if_true]
      exact ⟨by rw [g1], Reps.cons rv g2⟩
    · have h' : ¬ c q = c k := fun z => h (inj _ _ z)
      simp only [List.map_cons, if_neg h, if_neg h']
      exact ⟨by rw [g1], Reps.cons r1 g2⟩
theorem dput_rep (c : κ → MK) (inj : ∀ a b, c a = c b → a = b) {F : Hp} {ι : Nat → Addr} {n : Nat} {v : MV} {u : V} (rv : Rep A T F ι n v u) (k : κ) {kvs : List (MK × MV)} {ks : List (κ × V)} (e : kvs.map (·.1) = ks.map (fun p => c p.1)) (r : Reps A T F ι n (kvs.map (·.2)) (ks.map (·.2))) :
    (dput kvs (c k) v).map (·.1) = (putK ks k u).map (fun p => c p.1) ∧ Reps A T F ι n ((dput kvs (c k) v).map (·.2)) ((putK ks k u).map (·.2)) := by
  unfold dput putK
  rw [any_key c inj k e]
  split
  · exact map_key c inj rv k e r
  · constructor
    · simp [e]
    · rw [List.map_append, List.map_append]
      exact r.append (Reps.cons rv Reps.nil)
end
theorem one_inj (a b : Key) (h : MK.one a = MK.one b) : a = b := by cases h; rfl
theorem many_inj (a b : List Key) (h : MK.many a = MK.many b) : a = b := by cases h; rfl
/-- a store by values -/
def rSet (A : Ad) (T : Tb) (C : Ct) (K : PySem.W.Frag) : TSet := fun o i v H Q => ∃ (x y z : MV) (w : Wd), w.H = H ∧ MR A T K w ∧ w.rep A T x o ∧ w.rep A T y i ∧ w.rep A T z v ∧
  (match mSet C x y z [] w.h with
    | .nx _ h' => KS A T K w Q h'
    | _ => False)
theorem ps_store {C : Ct} (hC : ∀ c, C.ci c = none) (hu : X.A.units + 64 < cLine) : PSet X (rSet A T C X.K) := by
  refine PSet.imp (PSet.or set_list (set_dict hu)) fun o i v H Q ⟨x, y, z, w, hH, m, r1, r2, r3, q⟩ => ?_
  subst hH
  simp only [mSet, noMeth hC] at q
  split at q
  · rename_i e h' q0
    split at q0
    · rename_i a
      split at q0
      · rename_i xs e0
        split at q0
        · split at q0
          · rename_i k j ej
            cases q0
            obtain ⟨vs, e1, h1, rr⟩ := rep_lst m r1 e0
            subst e1
            cases rep_int r2
            refine .inl ⟨_, vs, _, j, rfl, rfl, h1, by rw [rr.length, ← ixN_eq]; exact ej, ?_⟩
            obtain ⟨m2, l2⟩ := m.set (o := .lst (xs.set j z)) (u := .lst (vs.set j v)) e0 trivial trivial ⟨_, rfl, rr.set j r3⟩
            exact q ⟨w.F, w.ι, _, _⟩ rfl l2 m2
          · cases q0
        · cases q0
      · rename_i t kvs e0
        split at q0
        · split at q0
          · rename_i k ek hl
            cases q0
            have ru := r1
            refine .inr ?_
            cases t with
            | false =>
              obtain ⟨ks, e1, e2, e3, e4⟩ := rep_dct m r1 e0
              have hk' : ∃ k0, kyOf y = some k0 ∧ k = .one k0 := by
                cases y <;> simp [keyOf, kyOf] at ek ⊢ <;> first | exact ek.symm | skip
              obtain ⟨k0, h1, h2⟩ := hk'
              subst h2
              have := kyOf_rep h1 r2
              subst this
              have ln : ks.length = kvs.length := by have := e4.length; simpa using this
              refine ⟨_, _, e1, DPut.k e2 (by rw [ln, ← lim_eq]; exact hl), ?_⟩
              obtain ⟨g1, g2⟩ := dput_rep MK.one one_inj r3 k0 e3 e4
              obtain ⟨m2, l2⟩ := m.set (o := .dct false (dput kvs (.one k0) z)) (u := .dK (putK ks k0 v)) e0 trivial trivial ⟨_, rfl, g1, g2⟩
              exact q ⟨w.F, w.ι, _, _⟩ rfl l2 m2
            | true =>
              obtain ⟨ks, e1, e2, e3, e4⟩ := rep_dctT m r1 e0
              have hk' : ∃ xs k0, y = .tup xs ∧ kysOf xs = some k0 ∧ k = .many k0 := by
                cases y <;> simp [keyOf] at ek
                rename_i xs
                obtain ⟨k0, h, ek⟩ := ek
                exact ⟨xs, k0, rfl, h, ek.symm⟩
              obtain ⟨xs, k0, h0, h1, h2⟩ := hk'
              subst h2 h0
              obtain ⟨b, us, e5, e6, e7⟩ := r2
              subst e5
              have := kysOf_rep h1 e7
              subst this
              have ln : ks.length = kvs.length := by have := e4.length; simpa using this
              refine ⟨_, _, e1, DPut.t e2 (m.frz _ _ e6) (by rw [ln, ← lim_eq]; exact hl), ?_⟩
              obtain ⟨g1, g2⟩ := dput_rep MK.many many_inj r3 k0 e3 e4
              obtain ⟨m2, l2⟩ := m.set (o := .dct true (dput kvs (.many k0) z)) (u := .dT (putK ks k0 v)) e0 trivial trivial ⟨_, rfl, g1, g2⟩
              exact q ⟨w.F, w.ι, _, _⟩ rfl l2 m2
          · cases q0
        · cases q0
      · cases q0
      · cases q0
    · cases q0
  · exact q.elim
end
end Sd

set_option Elab.async false
set_option linter.all false
set_option maxRecDepth 100000
set_option maxHeartbeats 1000000
/-! calls: the program's defs, built-in functions, isinstance, displays. -/
namespace Sd
open PySem L2 MP
def noStar : Expr → Bool
  | .Starred _ _ => false
  | _ => true
theorem star_cons {e : Expr} {es : List Expr} {env : Env} (h : noStar e = true) : starEach (e :: es) env = (false, eval e env) :: starEach es env := by
  cases e <;> first | rfl | cases h
theorem star_all {env : Env} {pos : Pos} : ∀ {es : List Expr}, es.all noStar = true → (backTo pos (starEach es env)).any (·.1) = false
  | [], _ => rfl
  | e :: es, h => by
    rw [List.all_cons, Bool.and_eq_true] at h
    rw [star_cons h.1]
    show (false || (backTo pos (starEach es env)).any (·.1)) = false
    rw [star_all h.2]
    rfl
def kcV : Kc → V
  | .non => .non
  | .bl b => .bl b
  | .int i => .int i
  | .str s => .str s
section
variable {A : Ad} {T : Tb} {X : Cx} {W : WX}
theorem kc_rep {F : Hp} {ι : Nat → Addr} {n : Nat} (c : Kc) : Rep A T F ι n c.v (kcV c) := by cases c <;> rfl
theorem kcs_rep {F : Hp} {ι : Nat → Addr} {n : Nat} : ∀ cs : List Kc, Reps A T F ι n (cs.map Kc.v) (cs.map kcV)
  | [] => Reps.nil
  | c :: cs => Reps.cons (kc_rep c) (kcs_rep cs)
/-- the level of a def that runs k calls deep -/
def lv (k : Nat) : Nat := 2 * k
/-- a def's promise -/
def spF (A : Ad) (T : Tb) (K : PySem.W.Frag) (k f : Nat) : Sp := fun us H Q E => ∃ (xs : List MV) (w : Wd), w.H = H ∧ MR A T K w ∧ w.reps A T xs us ∧ (callK T k f xs w.h).wp (K0 A T K w Q) (X0 A T K w E)
def LenIs (d : EL) (n : Nat) : Prop := ∀ e h vs h', d e h = .ok vs h' → vs.length = n
theorem wp_len {d : EL} {n : Nat} (l : LenIs d n) {e : En} {h : Hm} {Q : List MV → Hm → Prop} {E : Nat → MV → Hm → Prop} (z : (d e h).wp Q E) : (d e h).wp (fun vs h' => vs.length = n ∧ Q vs h') E := by
  cases q : d e h with
  | ok vs h' => rw [q] at z; exact ⟨l _ _ _ _ q, z⟩
  | ex c v h' => rw [q] at z; exact z
  | bad => rw [q] at z; exact z.elim
theorem len_nil : LenIs eNil 0 := fun e h vs h' q => by cases q; rfl
theorem len_cons {a : EE} {r : EL} {n : Nat} (l : LenIs r n) : LenIs (eCons a r) (n + 1) := fun e h vs h' q => by
  unfold eCons at q
  cases q1 : a e h with
  | ok x h1 =>
    rw [q1] at q
    simp only [R.bind] at q
    cases q2 : r e h1 with
    | ok xs h2 =>
      rw [q2] at q
      simp only at q
      cases q
      rw [List.length_cons, l _ _ _ _ q2]
    | ex c v h2 => rw [q2] at q; cases q
    | bad => rw [q2] at q; cases q
  | ex c v h1 => rw [q1] at q; cases q
  | bad => rw [q1] at q; cases q
/-- f(), what it lets out wished for at the caller's slots -/
theorem pe_callSD0 {CX : CXT} {k : Nat} {f : Addr} {fd : FuncData} {ps : List PySem.Str} {sp : Sp} {dvs : List V} {ds : List Value} {E : L2.St → XK} {x : PySem.Str} {p pos : Pos} (F : FnOk X.prog X.w X.K X.mg X.base CX k f fd ps sp) (hr : Room k X.A) (hg : Gl X x)
    (hm : X.mg x = some (.ref f)) (hk : PySem.W.keepIn X.K (.ref f) = true) (hb : Binds X.K fd ps ds) (hd : Vals dvs ds) (hx : ∀ σ, PassesAt CX X σ (E σ)) (hdb : (x == ("__debug__" : PySem.Str)) = false) :
    PE X (.Call (.Name x p) [] [] pos) (tCallSD sp dvs E tNil) := by
  refine ⟨fun pins s σ H Q I h => ?_⟩
  refine PySem.wpAny_Call_Name_kw (ld_glob I hg hm ?_ hdb)
  exact PySem.W.callWith_K0 I.kIn hk (run_fnSD (us := []) F hr hb hd (hx σ) I .nil h)
/-- what is told of a def that is called by its name -/
structure FnIs (A : Ad) (T : Tb) (X : Cx) (k f : Nat) (d : FD) (x : PySem.Str) : Prop where
  fn : T.fn f = some d
  ok : FnOk X.prog X.w X.K X.mg X.base (L2.CX X.prog X.w) (lv k) (A.fa f) (A.fd f) (A.fps f) (spF A T X.K k f)
  mg : X.mg x = some (.ref (A.fa f))
  kp : PySem.W.keepIn X.K (.ref (A.fa f)) = true
  bd : ∀ m, m ≤ d.dfl.length → ∃ ds, Vals ((d.dfl.drop (d.dfl.length - m)).map kcV) ds ∧ Binds X.K (A.fd f) (A.fps f) ds
theorem full_eq {ar : Nat} {dfl : List Kc} {vs ws : List MV} {n : Nat} (e : full ar dfl vs = some ws) (l : vs.length = n) : ar - n ≤ dfl.length ∧ ws = vs ++ (dfl.drop (dfl.length - (ar - n))).map Kc.v := by
  unfold full at e
  split at e
  · cases e
    rename_i h
    subst l
    exact ⟨by omega, rfl⟩
  · cases e
theorem callF_wp {C : Ct} {k f : Nat} {d : FD} {x : PySem.Str} (hC : C = { T with call := callK T k }) (Fi : FnIs A T X k f d x) {xs : List MV} {us : List V} {n : Nat} (l : xs.length = n) {w w0 : Wd} (l0 : w0.le w) (m : MR A T X.K w) (r : w.reps A T xs us) {Q : VK} {E : XK}
    (z : (callF C f xs w.h).wp (K0 A T X.K w0 Q) (X0 A T X.K w0 E)) : d.ar - n ≤ d.dfl.length ∧ spF A T X.K k f (us ++ (d.dfl.drop (d.dfl.length - (d.ar - n))).map kcV) w.H Q E := by
  subst hC
  unfold callF at z
  simp only [Fi.fn] at z
  split at z
  · rename_i ws e
    obtain ⟨h1, h2⟩ := full_eq e l
    refine ⟨h1, ws, w, rfl, m, by rw [h2]; exact r.append (kcs_rep _), R.wp_mono z (fun _ _ q => K0.le l0 q) fun _ _ _ q => X0.le l0 q⟩
  · exact z.elim
theorem se_call0 {C : Ct} {k f : Nat} {d : FD} {x : PySem.Str} {p pos : Pos} (hC : C = { T with call := callK T k }) (Fi : FnIs A T X k f d x) (hr : Room (lv k) X.A) (hg : Gl X x) (tk : Takes X W)
    (hdb : (x == ("__debug__" : PySem.Str)) = false) (har : d.ar ≤ d.dfl.length) : SE A T X W (.Call (.Name x p) [] [] pos) (eCall C f eNil) := by
  obtain ⟨ds, hv, hb⟩ := Fi.bd _ har
  refine PE.imp (pe_callSD0 Fi.ok hr hg Fi.mg Fi.kp hb hv (fun σ => passAt tk σ) hdb) fun σ H Q ⟨e, w, hH, es', m, z⟩ => ?_
  subst hH
  have z : (callF C f [] w.h).wp (K0 A T X.K w Q) (X0 A T X.K w fun cls d' H' => W cls d' σ H') := z
  have := (callF_wp (n := 0) hC Fi (xs := []) (us := []) rfl (Wd.le.refl w) m Reps.nil z).2
  exact this
theorem se_call {C : Ct} {k f : Nat} {d : FD} {x : PySem.Str} {p pos : Pos} {ex : Expr} {es : List Expr} {a : EL} (hC : C = { T with call := callK T k }) (Fi : FnIs A T X k f d x) (hr : Room (lv k) X.A) (hg : Gl X x) (tk : Takes X W) (ln : LenIs a (ex :: es).length) (ha : SL A T X W (ex :: es) a)
    (hdb : (x == ("__debug__" : PySem.Str)) = false) (hs : (ex :: es).all noStar = true) (har : d.ar - (ex :: es).length ≤ d.dfl.length) : SE A T X W (.Call (.Name x p) (ex :: es) [] pos) (eCall C f a) := by
  obtain ⟨ds, hv, hb⟩ := Fi.bd _ har
  rw [List.all_cons, Bool.and_eq_true] at hs
  refine PE.imp (pe_callSD Fi.ok hr hg Fi.mg Fi.kp hb hv (fun σ => passAt tk σ) ha hdb (star_cons hs.1) (star_all hs.2)) fun σ H Q ⟨e, w, hH, es', m, z⟩ => ?_
  subst hH
  refine rel_step (Wd.le.refl w) es' m (wp_len ln (R.wp_bind.mp z)) fun xs w1 us z1 l1 _ m1 es1 r1 => ?_
  obtain ⟨lx, z1⟩ := z1
  exact (callF_wp hC Fi lx l1 m1 r1 z1).2

/-! ### built-in functions -/
/-- what a built-in function is asked -/
def rBlt (A : Ad) (T : Tb) (C : Ct) (K : PySem.W.Frag) (b : Bl) : List V → Hp → VK → Prop := fun us H Q => ∃ (xs : List MV) (w : Wd), w.H = H ∧ MR A T K w ∧ w.reps A T xs us ∧ (mBlt C b xs w.h).wp (K0 A T K w Q) (fun _ _ _ => False)
theorem CallR.imp {f : Value} {r r' : List V → Hp → VK → Prop} (h : CallR X f r) (q : ∀ xs H Q, r' xs H Q → r xs H Q) : CallR X f r' := fun pins s σ H xs us Q I rx z => h pins s σ H xs us Q I rx (q xs H Q z)
theorem reps1 {w : Wd} {x : MV} {us : List V} (r : w.reps A T [x] us) : ∃ u, us = [u] ∧ w.rep A T x u := by
  obtain ⟨v, q, e, h1, h2⟩ := r
  cases (show q = [] from h2)
  exact ⟨v, e, h1⟩
theorem reps2 {w : Wd} {x y : MV} {us : List V} (r : w.reps A T [x, y] us) : ∃ u v, us = [u, v] ∧ w.rep A T x u ∧ w.rep A T y v := by
  obtain ⟨v, q, e, h1, h2⟩ := r
  obtain ⟨u, e2, h3⟩ := reps1 h2
  exact ⟨v, u, by rw [e, e2], h1, h3⟩
theorem items_sq {w : Wd} {x : MV} {xs : List MV} {u : V} (m : MR A T X.K w) (r : w.rep A T x u) (e : items? w.h x = some xs) : ∃ a vs, u = .ref a ∧ (SqL X.K w.H a vs ∨ SqT X.K w.H a vs) ∧ w.reps A T xs vs := by
  unfold items? at e
  split at e
  · cases e
    obtain ⟨a, vs, e1, h1, _, h2⟩ := rep_tup m r
    exact ⟨a, vs, e1, .inr h1, h2⟩
  · unfold seqAt at e
    split at e
    · rename_i q
      cases e
      obtain ⟨vs, e1, h1, h2⟩ := rep_lst m r q
      exact ⟨_, vs, e1, .inl (.inl (.inl h1)), h2⟩
    · rename_i q
      cases e
      obtain ⟨vs, h1, h2⟩ := m.ro _ _ q
      exact ⟨_, vs, r.1, .inl h1.sq, h2⟩
    · cases e
  · cases e
end
end Sd

set_option Elab.async false
set_option linter.all false
set_option maxRecDepth 100000
set_option maxHeartbeats 1000000
/-! built-in functions, isinstance, displays, slices. -/
namespace Sd
open PySem L2 MP
section
variable {A : Ad} {T : Tb} {X : Cx} {W : WX}
theorem cr_len {C : Ct} (hC : ∀ c, C.ci c = none) : CallR X (.builtin "len") (rBlt A T C X.K .len) := by
  refine CallR.imp (call_len_str.or (call_len_seq.or (call_lenD.or call_len_dT))) fun us H Q ⟨xs, w, hH, m, r, z⟩ => ?_
  subst hH
  unfold mBlt at z
  split at z <;> first | contradiction | skip
  rename_i x e1
  obtain ⟨u, rfl, r1⟩ := reps1 r
  unfold mLen at z
  simp only [noMeth hC] at z
  split at z
  · split at z
    · rename_i hl
      cases rep_str r1
      exact .inl ⟨_, rfl, by rw [← lim_eq]; exact hl, z.flat m rfl⟩
    · exact z.elim
  · obtain ⟨a, vs, rfl, h1, _, q⟩ := rep_tup m r1
    exact .inr (.inl ⟨a, vs, rfl, .inr h1, by rw [q.length]; exact z.flat m rfl⟩)
  · exact z.elim
  · split at z
    · rename_i q
      obtain ⟨vs, rfl, h1, rr⟩ := rep_lst m r1 q
      exact .inr (.inl ⟨_, vs, rfl, .inl (.inl (.inl h1)), by rw [rr.length]; exact z.flat m rfl⟩)
    · rename_i q
      obtain ⟨vs, h1, h2⟩ := m.ro _ _ q
      exact .inr (.inl ⟨_, vs, by rw [r1.1], .inl h1.sq, by rw [h2.length]; exact z.flat m rfl⟩)
    · rename_i t kvs q
      cases t with
      | false =>
        obtain ⟨ks, e1, e2, e3, e4⟩ := rep_dct m r1 q
        subst e1
        have ln : ks.length = kvs.length := by have := e4.length; simpa using this
        exact .inr (.inr (.inl ⟨_, ks, rfl, e2, by rw [ln]; exact z.flat m rfl⟩))
      | true =>
        obtain ⟨ks, e1, e2, e3, e4⟩ := rep_dctT m r1 q
        subst e1
        have ln : ks.length = kvs.length := by have := e4.length; simpa using this
        exact .inr (.inr (.inr ⟨_, ks, rfl, e2, by rw [ln]; exact z.flat m rfl⟩))
    · exact z.elim
    · exact z.elim
  · exact z.elim
theorem cr_int {C : Ct} : CallR X (.type "int") (rBlt A T C X.K .int) := by
  refine CallR.imp call_int1 fun us H Q ⟨xs, w, hH, m, r, z⟩ => ?_
  subst hH
  unfold mBlt at z
  split at z <;> first | contradiction | skip
  · obtain ⟨u, rfl, r1⟩ := reps1 r
    cases rep_int r1
    exact .inl ⟨_, rfl, z.flat m rfl⟩
  · obtain ⟨u, rfl, r1⟩ := reps1 r
    cases rep_bl r1
    rename_i b e
    exact .inr ⟨_, rfl, z.flat m (by cases b <;> rfl)⟩
theorem kvs_keys {F : Hp} {ι : Nat → Addr} {n : Nat} : ∀ {kvs : List (MK × MV)} {ks : List (Key × V)}, kvs.map (·.1) = ks.map (fun p => MK.one p.1) → Reps A T F ι n (kvs.map fun p => p.1.v) (ks.map fun p => kV p.1)
  | [], [], _ => Reps.nil
  | [], _ :: _, e => by cases e
  | _ :: _, [], e => by cases e
  | (q, v) :: kvs, (p, u) :: ks, e => by
    simp only [List.map_cons, List.cons.injEq] at e
    obtain ⟨e1, e2⟩ := e
    subst e1
    refine Reps.cons ?_ (kvs_keys e2)
    cases p <;> rfl
theorem cr_list {C : Ct} (hc : X.calm = true) : CallR X (.type "list") (rBlt A T C X.K .list) := by
  have e0 : CallR X (.type "list") (fun _ _ _ => False) := fun _ _ _ _ _ _ _ _ _ h => h.elim
  refine CallR.imp (call_list_of.or (call_list_dK hc)) fun us H Q ⟨xs, w, hH, m, r, z⟩ => ?_
  subst hH
  unfold mBlt at z
  split at z <;> first | contradiction | skip
  obtain ⟨u, rfl, r1⟩ := reps1 r
  split at z
  · rename_i q
    obtain ⟨a, vs, rfl, h1, rr⟩ := items_sq m r1 q
    obtain ⟨_, h3⟩ := newL_wp z m rr
    exact .inl ⟨a, vs, rfl, h1, h3⟩
  · split at z
    · split at z
      · rename_i kvs q
        obtain ⟨ks, e1, e2, e3, e4⟩ := rep_dct m r1 q
        subst e1
        obtain ⟨_, h3⟩ := newL_wp z m (kvs_keys e3)
        exact .inr ⟨_, ks, rfl, e2, h3⟩
      · exact z.elim
    · exact z.elim
theorem cr_tuple {C : Ct} : CallR X (.type "tuple") (rBlt A T C X.K .tuple) := by
  refine CallR.imp call_tuple_of fun us H Q ⟨xs, w, hH, m, r, z⟩ => ?_
  subst hH
  unfold mBlt at z
  split at z <;> first | contradiction | skip
  obtain ⟨u, rfl, r1⟩ := reps1 r
  split at z
  · rename_i x0 _ xs q
    have fin : ∀ (a : Addr) (vs : List V), u = .ref a → SqL X.K w.H a vs → w.reps A T xs vs → ∃ p ys, [u] = [.ref p] ∧ ((SqL X.K w.H p ys ∧ ∀ l, w.H l = none → Q (.ref l) (upd w.H l (.tup ys))) ∨ (SqT X.K w.H p ys ∧ Q (.ref p) w.H)) := fun a vs e h1 rr => by
      subst e
      refine ⟨a, vs, rfl, .inl ⟨h1, fun p hp => ?_⟩⟩
      obtain ⟨m2, l2⟩ := m.other hp (.tup vs) (upd w.F p (.tup vs)) (.inr rfl)
      exact z ⟨upd w.F p (.tup vs), w.ι, w.h, upd w.H p (.tup vs)⟩ (.ref p) rfl l2 m2 ⟨p, vs, rfl, upd_same, l2.reps rr⟩
    unfold items? at q
    split at q
    · cases q
      obtain ⟨a, vs, e, h1, _, rr⟩ := rep_tup m r1
      subst e
      exact ⟨a, vs, rfl, .inr ⟨h1, z.flat m r1⟩⟩
    · unfold seqAt at q
      split at q
      · rename_i q1
        cases q
        obtain ⟨vs, e1, h1, h2⟩ := rep_lst m r1 q1
        exact fin _ vs e1 (.inl (.inl h1)) h2
      · rename_i q1
        cases q
        obtain ⟨vs, h1, h2⟩ := m.ro _ _ q1
        exact fin _ vs r1.1 h1.sq h2
      · cases q
    · cases q
  · exact z.elim
theorem cr_abs {C : Ct} : CallR X (.builtin "abs") (rBlt A T C X.K .abs) := by
  refine CallR.imp call_abs fun us H Q ⟨xs, w, hH, m, r, z⟩ => ?_
  subst hH
  unfold mBlt at z
  split at z <;> first | contradiction | skip
  obtain ⟨u, rfl, r1⟩ := reps1 r
  cases rep_int r1
  exact ⟨_, rfl, z.flat m rfl⟩
theorem ints_rep {w : Wd} : ∀ {xs : List MV} {ns : List Int} {vs : List V}, intsOf xs = some ns → w.reps A T xs vs → vs = ns.map V.int
  | [], _, _, e, r => by cases e; cases (show _ = [] from r); rfl
  | x :: xs, _, _, e, r => by
    obtain ⟨u, us, e1, r1, r2⟩ := r
    subst e1
    cases x <;> first | (cases e; done) | skip
    simp only [intsOf, Option.map_eq_some_iff] at e
    obtain ⟨ns, e2, e3⟩ := e
    subst e3
    cases rep_int r1
    rw [ints_rep (w := w) e2 r2]
    rfl
theorem strs_rep {w : Wd} : ∀ {xs : List MV} {ns : List PySem.Str} {vs : List V}, strsOf xs = some ns → w.reps A T xs vs → vs = ns.map V.str
  | [], _, _, e, r => by cases e; cases (show _ = [] from r); rfl
  | x :: xs, _, _, e, r => by
    obtain ⟨u, us, e1, r1, r2⟩ := r
    subst e1
    cases x <;> first | (cases e; done) | skip
    simp only [strsOf, Option.map_eq_some_iff] at e
    obtain ⟨ns, e2, e3⟩ := e
    subst e3
    cases rep_str r1
    rw [strs_rep (w := w) e2 r2]
    rfl
theorem lst_sq {w : Wd} {x : MV} {xs : List MV} {u : V} (m : MR A T X.K w) (r : w.rep A T x u) (e : lst? w.h x = some xs) : ∃ a vs, u = .ref a ∧ SqL X.K w.H a vs ∧ w.reps A T xs vs := by
  unfold lst? at e
  split at e
  · unfold seqAt at e
    split at e
    · rename_i q
      cases e
      obtain ⟨vs, e1, h1, h2⟩ := rep_lst m r q
      exact ⟨_, vs, e1, .inl (.inl h1), h2⟩
    · rename_i q
      cases e
      obtain ⟨vs, h1, h2⟩ := m.ro _ _ q
      exact ⟨_, vs, r.1, h1.sq, h2⟩
    · cases e
  · cases e
theorem fold_max : ∀ (r : List Int) (x : Int), (r.foldl (fun a b => if b > a then b else a) x ∈ x :: r) ∧ ∀ y ∈ x :: r, y ≤ r.foldl (fun a b => if b > a then b else a) x
  | [], x => ⟨by simp, by simp⟩
  | b :: r, x => by
    obtain ⟨h1, h2⟩ := fold_max r (if b > x then b else x)
    rw [List.foldl_cons]
    constructor
    · rcases List.mem_cons.mp h1 with h | h
      · rw [h]; split <;> simp
      · simp [h]
    · intro y hy
      have h3 := h2 (if b > x then b else x) (by simp)
      rcases List.mem_cons.mp hy with h | h
      · have hx : y ≤ if b > x then b else x := by subst h; split <;> omega
        exact Int.le_trans hx h3
      · rcases List.mem_cons.mp h with h | h
        · have hx : y ≤ if b > x then b else x := by subst h; split <;> omega
          exact Int.le_trans hx h3
        · exact h2 y (by simp [h])
theorem fold_min : ∀ (r : List Int) (x : Int), (r.foldl (fun a b => if b < a then b else a) x ∈ x :: r) ∧ ∀ y ∈ x :: r, r.foldl (fun a b => if b < a then b else a) x ≤ y
  | [], x => ⟨by simp, by simp⟩
  | b :: r, x => by
    obtain ⟨h1, h2⟩ := fold_min r (if b < x then b else x)
    rw [List.foldl_cons]
    constructor
    · rcases List.mem_cons.mp h1 with h | h
      · rw [h]; split <;> simp
      · simp [h]
    · intro y hy
      have h3 := h2 (if b < x then b else x) (by simp)
      rcases List.mem_cons.mp hy with h | h
      · have hx : (if b < x then b else x) ≤ y := by subst h; split <;> omega
        exact Int.le_trans h3 hx
      · rcases List.mem_cons.mp h with h | h
        · have hx : (if b < x then b else x) ≤ y := by subst h; split <;> omega
          exact Int.le_trans h3 hx
        · exact h2 y (by simp [h])
theorem cr_max2 {C : Ct} (hc : X.calm = true) : CallR X (.builtin "max") (rBlt A T C X.K .max) := by
  refine CallR.imp ((call_max2 hc).or (cr_max hc)) fun us H Q ⟨xs, w, hH, m, r, z⟩ => ?_
  subst hH
  unfold mBlt at z
  split at z <;> first | contradiction | skip
  · obtain ⟨u, v, rfl, r1, r2⟩ := reps2 r
    cases rep_int r1; cases rep_int r2
    exact .inl ⟨_, _, rfl, z.flat m rfl⟩
  · obtain ⟨u, rfl, r1⟩ := reps1 r
    split at z
    · rename_i q
      split at z
      · rename_i n q2
        obtain ⟨a, vs, rfl, h1, rr⟩ := lst_sq m r1 q
        rw [Option.bind_eq_some_iff] at q2
        obtain ⟨ns, q3, q4⟩ := q2
        have := ints_rep q3 rr
        subst this
        cases ns with
        | nil => cases q4
        | cons y ys =>
          cases q4
          refine .inr ⟨a, y :: ys, rfl, h1, by simp, fun m' hm hle => ?_⟩
          obtain ⟨f1, f2⟩ := fold_max ys y
          have e : m' = ys.foldl (fun a b => if b > a then b else a) y := by
            have := hle _ f1
            have := f2 _ hm
            omega
          rw [e]
          exact z.flat m rfl
      · exact z.elim
    · exact z.elim
theorem cr_min2 {C : Ct} (hc : X.calm = true) : CallR X (.builtin "min") (rBlt A T C X.K .min) := by
  refine CallR.imp ((call_min2 hc).or (cr_min hc)) fun us H Q ⟨xs, w, hH, m, r, z⟩ => ?_
  subst hH
  unfold mBlt at z
  split at z <;> first | contradiction | skip
  · obtain ⟨u, v, rfl, r1, r2⟩ := reps2 r
    cases rep_int r1; cases rep_int r2
    exact .inl ⟨_, _, rfl, z.flat m rfl⟩
  · obtain ⟨u, rfl, r1⟩ := reps1 r
    split at z
    · rename_i q
      split at z
      · rename_i n q2
        obtain ⟨a, vs, rfl, h1, rr⟩ := lst_sq m r1 q
        rw [Option.bind_eq_some_iff] at q2
        obtain ⟨ns, q3, q4⟩ := q2
        have := ints_rep q3 rr
        subst this
        cases ns with
        | nil => cases q4
        | cons y ys =>
          cases q4
          refine .inr ⟨a, y :: ys, rfl, h1, by simp, fun m' hm hle => ?_⟩
          obtain ⟨f1, f2⟩ := fold_min ys y
          have e : m' = ys.foldl (fun a b => if b < a then b else a) y := by
            have := hle _ f1
            have := f2 _ hm
            omega
          rw [e]
          exact z.flat m rfl
      · exact z.elim
    · exact z.elim
theorem cr_sums {C : Ct} (hc : X.calm = true) : CallR X (.builtin "sum") (rBlt A T C X.K .sum) := by
  refine CallR.imp (cr_sum hc) fun us H Q ⟨xs, w, hH, m, r, z⟩ => ?_
  subst hH
  unfold mBlt at z
  split at z <;> first | contradiction | skip
  obtain ⟨u, rfl, r1⟩ := reps1 r
  split at z
  · rename_i q
    split at z
    · rename_i n q2
      obtain ⟨a, vs, rfl, h1, rr⟩ := lst_sq m r1 q
      have := ints_rep q2 rr
      subst this
      exact ⟨a, n, rfl, h1, z.flat m rfl⟩
    · exact z.elim
  · exact z.elim
theorem sort_uniq {ns ns' : List Int} (p : ns'.Perm ns) (s : ns'.Pairwise (· ≤ ·)) : ns' = sortInts ns := by
  refine (p.trans (List.mergeSort_perm ns _).symm).eq_of_pairwise (le := fun a b => a ≤ b) (fun a b _ _ h1 h2 => by omega) s ?_
  have := List.pairwise_mergeSort (le := fun a b : Int => decide (a ≤ b)) (fun a b c h1 h2 => by simp at *; omega) (fun a b => by simp; omega) ns
  exact this.imp fun h => of_decide_eq_true h
/-- a call of a built-in function -/
def nmB : Bl → PySem.Str
  | .len => "len"
  | .int => "int"
  | .list => "list"
  | .tuple => "tuple"
  | .sorted => "sorted"
  | .sum => "sum"
  | .abs => "abs"
  | .max => "max"
  | .min => "min"
  | .str => "str"
theorem key_blt {C : Ct} {b : Bl} {a : EL} {σ : St} {H : Hp} {Q : VK} (hn : ∀ xs h c v h', mBlt C b xs h ≠ .ex c v h') (z : rE A T X.K W (eBlt C b a) σ H Q) : tCB (rBlt A T C X.K b) (rEL A T X.K W a) σ H Q := by
  obtain ⟨e, w, hH, es', m, z⟩ := z
  subst hH
  refine rel_step (Wd.le.refl w) es' m (R.wp_bind.mp z) fun xs w1 us z1 l1 _ m1 es1 r1 => ?_
  refine ⟨xs, w1, rfl, m1, r1, ?_⟩
  cases q : mBlt C b xs w1.h with
  | ok v h' => rw [q] at z1; exact K0.le l1 z1
  | ex c v h' => exact absurd q (hn _ _ _ _ _)
  | bad => rw [q] at z1; exact z1.elim
theorem blt_noex {C : Ct} (hC : ∀ c, C.ci c = none) (b : Bl) : ∀ xs h c v h', mBlt C b xs h ≠ .ex c v h' := by
  intro xs h c v h' q
  unfold mBlt at q
  simp only [mLen, noMeth hC, newL] at q
  (repeat' (split at q)) <;> first | (cases q; done) | skip
end
end Sd

set_option Elab.async false
set_option linter.all false
set_option maxRecDepth 100000
set_option maxHeartbeats 1000000
/-! isinstance, displays of dicts, slices. -/
namespace Sd
open PySem L2 MP
theorem kit_all : ∀ n ∈ ["NoneType", "bool", "int", "str", "tuple", "list", "dict"], ∀ t ∈ ["int", "bool", "str", "list", "tuple", "dict"], kitB n t = some (n == t || (n == "bool" && t == "int")) := by decide +kernel
section
variable {A : Ad} {T : Tb} {X : Cx} {W : WX}
/-- a built-in type or function by its name -/
theorem pe_bltN {x : PySem.Str} {v : V} {u : Value} {pos : Pos} (hg : Gl X x) (hm : X.mg x = none) (hv : bootBuiltins x = some u) (r : RelV v u) (hn : x ≠ "__name__") (hd : (x == ("__debug__" : PySem.Str)) = false) : PE X (.Name x pos) (tC v) :=
  ⟨fun _ _ _ H _ I h => ld_blt I hg hm hv ⟨v, H, I, r, h⟩ hn hd⟩
theorem tyN_x {K : PySem.W.Frag} {w : Wd} {x : MV} {u : V} {n : String} (m : MR A T K w) (r : w.rep A T x u) (e : tyN w.h x = some (.inl n)) : TyX K w.H u (.type n) ∧ n ∈ ["NoneType", "bool", "int", "str", "tuple", "list", "dict"] := by
  unfold tyN at e
  split at e
  · cases e; cases rep_non r; exact ⟨.base .non, by simp⟩
  · cases e; cases rep_bl r; exact ⟨.base (.bl _), by simp⟩
  · cases e; cases rep_int r; exact ⟨.base (.int _), by simp⟩
  · cases e; cases rep_str r; exact ⟨.base (.str _), by simp⟩
  · cases e
    obtain ⟨a, vs, e1, f, q⟩ := r
    subst e1
    exact ⟨.base (.tup (m.frz _ _ f)), by simp⟩
  · cases e
  · split at e
    · rename_i q
      cases e
      obtain ⟨vs, e1, h1, h2⟩ := rep_lst m r q
      subst e1
      exact ⟨.base (.lst h1), by simp⟩
    · rename_i t kvs q
      cases e
      cases t with
      | false =>
        obtain ⟨ks, e1, e2, _⟩ := rep_dct m r q
        subst e1
        exact ⟨.base (.dK e2), by simp⟩
      | true =>
        obtain ⟨ks, e1, e2, _⟩ := rep_dctT m r q
        subst e1
        exact ⟨.base (.dT e2), by simp⟩
    · cases e
    · cases e
def nmTS : Ty → PySem.Str
  | .int => "int"
  | .bool => "bool"
  | .str => "str"
  | .list => "list"
  | .tuple => "tuple"
  | .dict => "dict"
  | .cls _ => ""
def isBty : Ty → Bool
  | .cls _ => false
  | _ => true
theorem bty_boot (t : Ty) (h : isBty t = true) : bootBuiltins (nmTS t) = some (.type (nmT t)) := by
  cases t <;> first | (cases h; done) | decide +kernel
theorem bty_mem (t : Ty) (h : isBty t = true) : nmT t ∈ ["int", "bool", "str", "list", "tuple", "dict"] := by
  cases t <;> first | (cases h; done) | decide
/-- isinstance(x, T), T a built-in type; no class of the program -/
theorem se_isi {C : Ct} (hC : ∀ c, C.ci c = none) (hCT : ∀ c, T.ci c = none) {ea : Expr} {a : EE} {t : Ty} {p p2 pos : Pos} (ht : isBty t = true) (ha : SE A T X W ea a) (hg : Gl X "isinstance") (hm : X.mg "isinstance" = none) (hgt : Gl X (nmTS t)) (hmt : X.mg (nmTS t) = none) (hs : noStar ea = true) :
    SE A T X W (.Call (.Name "isinstance" p) [ea, .Name (nmTS t) p2] [] pos) (eIsi C a t) := by
  have hty : PE X (.Name (nmTS t) p2) (tC (.ty (nmT t))) := pe_bltN hgt hmt (bty_boot t ht) rfl (by cases t <;> first | (cases ht; done) | decide) (by cases t <;> first | (cases ht; done) | decide)
  refine PE.imp (pe_callB call_isi hg hm (by decide +kernel) (pa_cons ha (pa_cons hty pa_nil rfl) (star_cons hs)) (he := star_cons hs) (hpl := rfl)) fun σ H Q ⟨e, w, hH, es', m, z⟩ => ?_
  subst hH
  refine re_step (Wd.le.refl w) es' m (R.wp_bind.mp z) fun x w1 u z1 l1 _ m1 es1 r1 => ?_
  show rIsi X.K [u, .ty (nmT t)] w1.H Q
  split at z1
  · rename_i b eb
    cases en : tyN w1.h x with
    | none => unfold isiB at eb; rw [en] at eb; cases t <;> cases eb
    | some k =>
      cases k with
      | inl n =>
        obtain ⟨h1, h2⟩ := tyN_x m1 r1 en
        have eb : some (n == nmT t || (n == "bool" && nmT t == "int")) = some b := by
          unfold isiB at eb
          rw [en] at eb
          cases t <;> first | (cases ht; done) | exact eb
        cases eb
        exact ⟨u, _, _, _, _, rfl, .ty _, h1, kit_ty (kit_all _ h2 _ (bty_mem t ht)), (K0.le l1 z1).flat m1 rfl⟩
      | inr d =>
        exfalso
        unfold tyN at en
        split at en <;> first | (cases en; done) | skip
        · obtain ⟨_, _, _, dd, _, hc, _⟩ := r1
          rw [hCT] at hc
          cases hc
        · split at en <;> first | (cases en; done) | skip
          rename_i q
          obtain ⟨_, _, ⟨_, _, dd, _, hc, _⟩, _⟩ := m1.obj _ _ q trivial
          rw [hCT] at hc
          cases hc
  · exact z1.elim
end
end Sd

set_option Elab.async false
set_option linter.all false
set_option maxRecDepth 100000
set_option maxHeartbeats 1000000
/-! a thing that is being made, not yet known to the small heap. -/
namespace Sd
open PySem L2 MP
structure Ex (A : Ad) (T : Tb) (K : PySem.W.Frag) (w w1 : Wd) (p : Addr) (z : HO) : Prop where
  l : w.le w1
  m : MR A T K w1
  hp : w.H p = none
  h1 : w1.H p = some z
  fp : w1.F p = none
  ut : ∀ (i : Nat) x, w1.h[i]? = some x → ¬ isRo x → w1.ι i ≠ p
section
variable {A : Ad} {T : Tb} {K : PySem.W.Frag} {w w1 w2 : Wd} {p : Addr} {z u : HO}
theorem MR.nn (m : MR A T K w) {i : Nat} {x : MO} (e : w.h[i]? = some x) (nr : ¬ isRo x) : w.H (w.ι i) ≠ none := fun z => by
  cases x with
  | ro xs => exact nr trivial
  | dead => exact m.dead i e z
  | lst xs => obtain ⟨_, q, _⟩ := m.obj i _ e trivial; rw [z] at q; cases q
  | dct t kvs => obtain ⟨_, q, _⟩ := m.obj i _ e trivial; rw [z] at q; cases q
  | ins c fs => obtain ⟨_, q, _⟩ := m.obj i _ e trivial; rw [z] at q; cases q
theorem Ex.start (m : MR A T K w) (hp : w.H p = none) : Ex A T K w ⟨w.F, w.ι, w.h, upd w.H p z⟩ p z := by
  obtain ⟨m2, l2⟩ := m.other hp z w.F (.inl rfl)
  refine ⟨l2, m2, hp, upd_same, ?_, fun i x e n q => m.nn e n (by rw [show w.ι i = p from q]; exact hp)⟩
  cases q : w.F p with
  | none => rfl
  | some o => have := m.frz p o q; rw [hp] at this; cases this
theorem Ex.step (x : Ex A T K w w1 p z) (l : w1.le w2) (m : MR A T K w2) : Ex A T K w w2 p z := by
  refine ⟨x.l.trans l, m, x.hp, l.kp p z x.h1 x.ut, ?_, fun i y e n q => ?_⟩
  · cases q : w2.F p with
    | none => rfl
    | some o =>
      rcases l.fn p o q with a | a | ⟨i, y, a, b, c⟩
      · rw [x.fp] at a; cases a
      · rw [x.h1] at a; cases a
      · exact absurd c (x.ut i y a b)
  · by_cases hi : i < w1.h.length
    · obtain ⟨y', e', n'⟩ := l.back hi e n
      rw [l.io i hi] at q
      exact x.ut i y' e' n' q
    · have := l.nw i (by omega) (List.getElem?_eq_some_iff.mp e).1
      rw [q, x.h1] at this
      cases this
theorem Ex.poke (x : Ex A T K w w1 p z) (hz : ∀ ob vs, z ≠ .frz ob (.lst vs)) : Ex A T K w ⟨w1.F, w1.ι, w1.h, upd w1.H p u⟩ p u := by
  have ne : ∀ (i : Nat) y, w1.h[i]? = some y → ¬ isRo y → w1.ι i ≠ p := x.ut
  refine ⟨⟨x.l.fr, x.l.io, x.l.nw, x.l.ln, x.l.rk, fun a o e n => ?_, fun a e => ?_, x.l.fn⟩, ⟨fun a o e => ?_, fun i xs e => ?_, fun i o e l => ?_, fun i e => ?_, x.m.inj⟩, x.hp, upd_same, x.fp, x.ut⟩
  · show upd w1.H p u a = some o
    rw [upd_ne (fun q => by rw [q, x.hp] at e; cases e)]
    exact x.l.kp a o e n
  · have e : upd w1.H p u a = none := e
    by_cases q : a = p
    · rw [q, upd_same] at e; cases e
    · rw [upd_ne q] at e; exact x.l.st a e
  · show upd w1.H p u a = some o
    have e : w1.F a = some o := e
    rw [upd_ne (fun q => by rw [q, x.fp] at e; cases e)]
    exact x.m.frz a o e
  · obtain ⟨vs, s, r⟩ := x.m.ro i xs e
    exact ⟨vs, s.upd fun ob q => hz ob vs (by rw [x.h1] at q; exact Option.some.inj q), r⟩
  · obtain ⟨y, q, r, f⟩ := x.m.obj i o e l
    refine ⟨y, ?_, r, f⟩
    show upd w1.H p u _ = _
    rw [upd_ne (ne i o e (fun k => by cases o <;> first | exact k | exact l))]
    exact q
  · show upd w1.H p u (w1.ι i) ≠ none
    rw [upd_ne (ne i _ e (fun k => k))]
    exact x.m.dead i e
theorem Ex.adopt (x : Ex A T K w w1 p u) {o : MO} (hl : live o) (r : RepO A T w1.F w1.ι w1.h.length o u) :
    MR A T K ⟨w1.F, fun i => if i = w1.h.length then p else w1.ι i, w1.h ++ [o], w1.H⟩ ∧ w.le ⟨w1.F, fun i => if i = w1.h.length then p else w1.ι i, w1.h ++ [o], w1.H⟩ := by
  have m := x.m
  have hi : ∀ i, i < w1.h.length → (if i = w1.h.length then p else w1.ι i) = w1.ι i := fun i h => if_neg (by omega)
  have ln : (w1.h ++ [o]).length = w1.h.length + 1 := by simp
  have at' : ∀ {i : Nat} {x : MO}, (w1.h ++ [o])[i]? = some x → (i < w1.h.length ∧ w1.h[i]? = some x) ∨ (i = w1.h.length ∧ x = o) := fun {i x} e => by
    by_cases h : i < w1.h.length
    · rw [List.getElem?_append_left h] at e; exact .inl ⟨h, e⟩
    · have h2 : i < (w1.h ++ [o]).length := (List.getElem?_eq_some_iff.mp e).1
      have h3 : i = w1.h.length := by omega
      subst h3
      simp at e
      exact .inr ⟨rfl, e.symm⟩
  have ple : w1.h.length ≤ (w1.h ++ [o]).length := by omega
  have wln := x.l.ln
  refine ⟨⟨m.frz, fun i xs e => ?_, fun i y e l => ?_, fun i e => ?_, fun i j oi oj e1 e2 n1 n2 z => ?_⟩, ⟨x.l.fr, fun i h => ?_, fun j h1 h2 => ?_, Nat.le_trans wln ple, fun i xs => ?_, x.l.kp, x.l.st, x.l.fn⟩⟩
  · rcases at' e with ⟨h, e⟩ | ⟨h, e⟩
    · obtain ⟨vs, s, r⟩ := m.ro i xs e
      refine ⟨vs, ?_, r.mono (fun _ _ h => h) hi ple⟩
      show RoAt K w1.H (if i = w1.h.length then p else w1.ι i) vs
      rw [hi i h]
      exact s
    · subst e
      exact hl.elim
  · rcases at' e with ⟨h, e⟩ | ⟨h, e⟩
    · obtain ⟨y, q, r, f⟩ := m.obj i _ e l
      refine ⟨y, ?_, r.mono (fun _ _ h => h) hi ple, ?_⟩
      · show w1.H (if i = w1.h.length then p else w1.ι i) = _
        rw [hi i h]; exact q
      · show w1.F (if i = w1.h.length then p else w1.ι i) = none
        rw [hi i h]; exact f
    · subst e h
      refine ⟨u, ?_, r.mono (fun _ _ h => h) hi ple, ?_⟩
      · show w1.H (if w1.h.length = w1.h.length then p else _) = _
        rw [if_pos rfl]; exact x.h1
      · show w1.F (if w1.h.length = w1.h.length then p else _) = none
        rw [if_pos rfl]; exact x.fp
  · rcases at' e with ⟨h, e⟩ | ⟨h, e⟩
    · show w1.H (if i = w1.h.length then p else w1.ι i) ≠ none
      rw [hi i h]
      exact m.dead i e
    · subst e
      exact hl.elim
  · have z : (if i = w1.h.length then p else w1.ι i) = (if j = w1.h.length then p else w1.ι j) := z
    rcases at' e1 with ⟨h1, e1⟩ | ⟨h1, e1⟩ <;> rcases at' e2 with ⟨h2, e2⟩ | ⟨h2, e2⟩
    · rw [hi i h1, hi j h2] at z
      exact m.inj i j _ _ e1 e2 n1 n2 z
    · rw [hi i h1, if_pos h2] at z
      exact absurd z (x.ut i _ e1 n1)
    · rw [hi j h2, if_pos h1] at z
      exact absurd z.symm (x.ut j _ e2 n2)
    · omega
  · show (if i = w1.h.length then p else w1.ι i) = _
    rw [hi i (by omega)]
    exact x.l.io i h
  · have h2 : j < (w1.h ++ [o]).length := h2
    show w.H (if j = w1.h.length then p else w1.ι j) = none
    by_cases h3 : j = w1.h.length
    · rw [if_pos h3]; exact x.hp
    · rw [if_neg h3]; exact x.l.nw j h1 (by omega)
  · refine Iff.trans ⟨fun e => ?_, fun e => ?_⟩ (x.l.rk i xs)
    · rcases at' e with ⟨_, e⟩ | ⟨_, e⟩
      · exact e
      · rw [← e] at hl; exact hl.elim
    · show (w1.h ++ [o])[i]? = _
      rw [List.getElem?_append_left (List.getElem?_eq_some_iff.mp e).1]; exact e
end
section
variable {A : Ad} {T : Tb} {X : Cx} {W : WX}
theorem K0.adopt {K : PySem.W.Frag} {w0 w w1 : Wd} {Q : VK} {o : MO} {ho : HO} {p : Addr} (l0 : w0.le w) (x : Ex A T K w w1 p ho) (k : K0 A T K w0 Q (.obj w1.h.length) (w1.h ++ [o])) (hl : live o) (r : RepO A T w1.F w1.ι w1.h.length o ho) : Q (.ref p) w1.H := by
  obtain ⟨m2, l2⟩ := x.adopt hl r
  exact k ⟨w1.F, fun i => if i = w1.h.length then p else w1.ι i, w1.h ++ [o], w1.H⟩ (.ref p) rfl (l0.trans l2) m2 ⟨by simp, by simp⟩
end
end Sd

set_option Elab.async false
set_option linter.all false
set_option maxRecDepth 100000
set_option maxHeartbeats 1000000
/-! displays of dicts, dicts and texts of the module, slices. -/
namespace Sd
open PySem L2 MP
section
variable {A : Ad} {T : Tb} {X : Cx} {W : WX}
/-- the pairs of a display -/
def SPp (A : Ad) (T : Tb) (X : Cx) (W : WX) (pos : Pos) (keys : List (Option Expr)) (values : List Expr) (d : En → Hm → R (List MV × List MV)) : Prop := ∃ trs, PPs X pos keys values trs ∧
  ∀ (w0 : Wd) (σ : L2.St) (e : En) (w : Wd) (P : (List MV × List MV) → Hm → Prop) (Z : List (V × V) → Hp → Prop), w0.le w → EsR A T w e σ → MR A T X.K w → (d e w.h).wp P (X0 A T X.K w0 fun cls d' H' => W cls d' σ H') →
    (∀ p (w1 : Wd) us vs, P p w1.h → w.le w1 → w0.le w1 → MR A T X.K w1 → EsR A T w1 e σ → w1.reps A T p.1 us → w1.reps A T p.2 vs → p.1.length = p.2.length → Z (us.zip vs) w1.H) → tPairs trs σ w.H Z
/-- rE by its own terms -/
theorem re_run {a : EE} {w0 : Wd} {σ : L2.St} {e : En} {w : Wd} {P : MV → Hm → Prop} {Z : VK} (l0 : w0.le w) (es : EsR A T w e σ) (m : MR A T X.K w) (hw : (a e w.h).wp P (X0 A T X.K w0 fun cls d' H' => W cls d' σ H'))
    (hk : ∀ (x : MV) (w1 : Wd) (u : V), P x w1.h → w.le w1 → w0.le w1 → MR A T X.K w1 → EsR A T w1 e σ → w1.rep A T x u → Z u w1.H) : rE A T X.K W a σ w.H Z := re_step l0 es m hw hk
theorem sp_nil {pos : Pos} : SPp A T X W pos [] [] ePnil := ⟨[], pps_nil, fun w0 σ e w P Z l0 es m z k => k ([], []) w [] [] z (Wd.le.refl w) l0 m es Reps.nil Reps.nil rfl⟩
theorem sp_cons {pos : Pos} {k v : Expr} {ks : List (Option Expr)} {vs : List Expr} {a b : EE} {r : En → Hm → R (List MV × List MV)} (ha : SE A T X W k a) (hb : SE A T X W v b) (hr : SPp A T X W pos ks vs r) :
    SPp A T X W pos (some k :: ks) (v :: vs) (ePcons a b r) := by
  obtain ⟨trs, hp, hq⟩ := hr
  refine ⟨(rE A T X.K W a, rE A T X.K W b) :: trs, pps_cons ha hb hp, fun w0 σ e w P Z l0 es m z kk => ?_⟩
  refine re_step l0 es m (R.wp_bind.mp z) fun x w1 u z1 l1 l01 m1 es1 r1 => ?_
  refine re_step l01 es1 m1 (R.wp_bind.mp z1) fun y w2 v z2 l2 l02 m2 es2 r2 => ?_
  refine hq w0 σ e w2 _ _ l02 es2 m2 (R.wp_bind.mp z2) fun p w3 us vs z3 l3 l03 m3 es3 r3 r4 le => ?_
  exact kk (x :: p.1, y :: p.2) w3 (u :: us) (v :: vs) z3 (l1.trans (l2.trans l3)) l03 m3 es3 (Reps.cons (l3.rep (l2.rep r1)) r3) (Reps.cons (l3.rep r2) r4) (by simp [le])
theorem dmk_rep {w : Wd} : ∀ {ks vs : List MV} {us zs : List V} {acc kvs : List (MK × MV)} {acc' : List (Key × V)}, dmk false ks vs acc = some kvs → ks.length = vs.length → w.reps A T ks us → w.reps A T vs zs →
    acc.map (·.1) = acc'.map (fun p => MK.one p.1) → w.reps A T (acc.map (·.2)) (acc'.map (·.2)) →
    ∃ kvs' : List (Key × V), us.zip zs = kvs'.map (fun kv => (kV kv.1, kv.2)) ∧ kvs'.length = ks.length ∧ kvs.map (·.1) = (mergeK acc' kvs').map (fun p => MK.one p.1) ∧ w.reps A T (kvs.map (·.2)) ((mergeK acc' kvs').map (·.2))
  | [], [], _, _, _, _, _, e, _, r1, r2, h1, h2 => by
    cases e
    cases (show _ = [] from r1)
    exact ⟨[], rfl, rfl, h1, h2⟩
  | [], _ :: _, _, _, _, _, _, _, l, _, _, _, _ => by cases l
  | _ :: _, [], _, _, _, _, _, _, l, _, _, _, _ => by cases l
  | k :: ks, v :: vs, _, _, acc, kvs, acc', e, l, r1, r2, h1, h2 => by
    obtain ⟨u, us, e1, r3, r4⟩ := r1
    obtain ⟨z, zs, e2, r5, r6⟩ := r2
    subst e1 e2
    unfold dmk at e
    split at e
    · rename_i q hk
      have hk' : ∃ k0, kyOf k = some k0 ∧ q = .one k0 := by
        cases k <;> simp [keyOf, kyOf] at hk ⊢ <;> first | exact hk.symm | skip
      obtain ⟨k0, g1, g2⟩ := hk'
      subst g2
      have := kyOf_rep g1 r3
      subst this
      obtain ⟨p1, p2⟩ := dput_rep MK.one one_inj r5 k0 h1 h2
      obtain ⟨kvs', q1, q2, q3, q4⟩ := dmk_rep e (by simpa using l) r4 r6 p1 p2
      refine ⟨(k0, z) :: kvs', by simp [q1], by simp [q2], q3, q4⟩
    · cases e
theorem se_disp {pos : Pos} {keys : List (Option Expr)} {values : List Expr} {d : En → Hm → R (List MV × List MV)} (h : SPp A T X W pos keys values d) (hall : keys.all (·.isSome) = true) (hl : keys.length = values.length) (h0 : keys ≠ []) (h15 : keys.length ≤ 15) :
    SE A T X W (.Dict keys values pos) (eDict false d) := by
  obtain ⟨trs, hp, hq⟩ := h
  refine PE.imp (pe_disp hp hall hl h0 h15) fun σ H Q ⟨e, w, hH, es, m, z⟩ => ?_
  subst hH
  intro p hpn
  have x0 : Ex A T X.K w ⟨w.F, w.ι, w.h, upd w.H p (.dK [])⟩ p (.dK []) := Ex.start m hpn
  refine hq w σ e ⟨w.F, w.ι, w.h, upd w.H p (.dK [])⟩ _ _ x0.l (es.le x0.l) x0.m (R.wp_bind.mp z) fun pr w1 us vs z1 l1 l01 m1 es1 r1 r2 le => ?_
  have x1 := x0.step l1 m1
  split at z1
  · rename_i h15'
    split at z1
    · rename_i kvs ek
      obtain ⟨kvs', q1, q2, q3, q4⟩ := dmk_rep (acc' := []) ek le r1 r2 rfl Reps.nil
      have x2 := x1.poke (u := .dK (mergeK [] kvs')) (fun _ _ q => by cases q)
      refine ⟨x1.h1, kvs', q1, by omega, ?_⟩
      exact K0.adopt (Wd.le.refl w) x2 z1 trivial ⟨_, rfl, q3, q4⟩
    · exact z1.elim
  · exact z1.elim
theorem se_empty {t : Bool} {pos : Pos} : SE A T X W (.Dict [] [] pos) (eDict t ePnil) := by
  have fin : ∀ σ H Q, rE A T X.K W (eDict t ePnil) σ H Q → ∀ p, H p = none → Q (.ref p) (upd H p (if t then .dT [] else .dK [])) := fun σ H Q ⟨e, w, hH, es, m, z⟩ p hp => by
    subst hH
    unfold eDict ePnil at z
    simp only [R.bind, List.length_nil, Nat.zero_le, if_true, dmk] at z
    cases t with
    | false => exact K0.fresh (w := w) z m trivial ⟨[], rfl, rfl, Reps.nil⟩ hp
    | true => exact K0.fresh (w := w) z m trivial ⟨[], rfl, rfl, Reps.nil⟩ hp
  cases t with
  | false => exact PE.imp pe_dnewK fun σ H Q z p hp => fin σ H Q z p hp
  | true => exact PE.imp pe_dnewT fun σ H Q z p hp => fin σ H Q z p hp

/-! ### a dict of texts of the module -/
structure GdIs (X : Cx) (C : Ct) (x : PySem.Str) (ps : List (PySem.Str × PySem.Str)) : Prop where
  gd : C.gd x = some ps
  ok : ∃ d es n, X.mg x = some (.ref d) ∧ KDict X.K X.w d es n ∧ ∀ z, ∃ r, PySem.W.nsIn X.K d z = some r ∧ ((ps.lookup z = none ∧ r = none) ∨ ∃ y u, ps.lookup z = some y ∧ r = some u ∧ RelV (.str y) u)
theorem se_gdin {C : Ct} {x : PySem.Str} {ps : List (PySem.Str × PySem.Str)} {ea : Expr} {a : EE} {p pos : Pos} (G : GdIs X C x ps) (ha : SE A T X W ea a) (hg : Gl X x) (hdb : (x == ("__debug__" : PySem.Str)) = false) : SE A T X W (.Compare ea [.In] [.Name x p] pos) (eGdin C a x) := by
  obtain ⟨d, es, n, h1, D, h2⟩ := G.ok
  refine PE.imp (pe_cmpR (op_in_kd D) ha (pe_glob (v := .ref d) hg h1 rfl hdb) rfl) fun σ H Q ⟨e, w, hH, es, m, z⟩ => ?_
  subst hH
  refine re_step (Wd.le.refl w) es m (R.wp_bind.mp z) fun v w1 u z1 l1 _ m1 es1 r1 => ?_
  rw [G.gd] at z1
  split at z1
  · rename_i ps' y e1
    cases e1
    cases rep_str r1
    obtain ⟨r, h3, h4⟩ := h2 y
    refine ⟨y, r, rfl, rfl, h3, ?_⟩
    rcases h4 with ⟨h4, h5⟩ | ⟨y', u', h4, h5, _⟩
    · rw [h4] at z1; rw [h5]; exact (K0.le l1 z1).flat m1 rfl
    · rw [h4] at z1; rw [h5]; exact (K0.le l1 z1).flat m1 rfl
  · exact z1.elim
theorem se_gdat {C : Ct} {x : PySem.Str} {ps : List (PySem.Str × PySem.Str)} {ea : Expr} {a : EE} {p pos : Pos} (G : GdIs X C x ps) (ha : SE A T X W ea a) (hg : Gl X x) (hdb : (x == ("__debug__" : PySem.Str)) = false) (hs : PlainIx ea) : SE A T X W (.Subscript (.Name x p) ea pos) (eGdat C x a) := by
  obtain ⟨d, es, n, h1, D, h2⟩ := G.ok
  refine PE.imp (pe_ix ix_kdict (pe_glob (v := .ref d) hg h1 rfl hdb) ha hs) fun σ H Q ⟨e, w, hH, es, m, z⟩ => ?_
  subst hH
  refine re_step (Wd.le.refl w) es m (R.wp_bind.mp z) fun v w1 u z1 l1 _ m1 es1 r1 => ?_
  rw [G.gd] at z1
  split at z1
  · rename_i ps' y e1
    cases e1
    cases rep_str r1
    split at z1
    · rename_i yr el
      obtain ⟨r, h3, h4⟩ := h2 y
      rcases h4 with ⟨h4, h5⟩ | ⟨y', u', h4, h5, h6⟩
      · rw [h4] at el; cases el
      · rw [h4] at el
        cases el
        subst h5
        exact ⟨d, y, _, rfl, rfl, ⟨_, n, u', D.at_, D.lit, h3, h6⟩, (K0.le l1 z1).flat m1 rfl⟩
    · exact z1.elim
  · exact z1.elim
theorem se_gstr {C : Ct} {x s : PySem.Str} {p : Pos} {t : Tok} (h : C.gs x = some s) (hg : Gl X x) (hm : X.mg x = some (.str s t)) (hdb : (x == ("__debug__" : PySem.Str)) = false) : SE A T X W (.Name x p) (eGstr C x) := by
  refine PE.imp (pe_glob (v := .str s) hg hm ⟨t, rfl⟩ hdb) fun σ H Q ⟨e, w, hH, es, m, z⟩ => ?_
  subst hH
  unfold eGstr at z
  rw [h] at z
  exact z.flat m rfl

/-! ### slices -/
theorem cutS_eq (s : PySem.Str) (lo hi : Option Int) : (⟨(cut s.cps.toList lo hi).toArray⟩ : PySem.Str) = cutS s lo hi := by
  have e : ∀ n d o, MP.sIx n d o = HT.sIx n d o := fun n d o => by cases o <;> rfl
  have l : s.cps.toList.length = s.length := by simp [PySem.Str.length]
  unfold cut cutS
  rw [e, e, l]
theorem fresh_tup {K : PySem.W.Frag} {w : Wd} {Q : VK} {ys : List MV} {vs : List V} {p : Addr} (k : K0 A T K w Q (.tup ys) w.h) (m : MR A T K w) (r : w.reps A T ys vs) (hp : w.H p = none) : Q (.ref p) (upd w.H p (.tup vs)) := by
  obtain ⟨m2, l2⟩ := m.other hp (.tup vs) (upd w.F p (.tup vs)) (.inr rfl)
  exact k ⟨upd w.F p (.tup vs), w.ι, w.h, upd w.H p (.tup vs)⟩ (.ref p) rfl l2 m2 ⟨p, vs, rfl, upd_same, l2.reps r⟩
theorem se_slc {ea : Expr} {a : EE} {lo hi : Option Expr} {l u : EO} {p2 pos : Pos} (ha : SE A T X W ea a) (hl : SO A T X W lo l) (hu : SO A T X W hi u) : SE A T X W (.Subscript ea (.Slice lo hi none p2) pos) (eSlc a l u) := by
  refine PE.imp (pe_slice ((sl_str.or sl_tupA).or sl_list) ha hl hu) fun σ H Q ⟨e, w, hH, es, m, z⟩ => ?_
  subst hH
  refine re_step (Wd.le.refl w) es m (R.wp_bind.mp z) fun x w1 v z1 l1 _ m1 es1 r1 => ?_
  refine ⟨e, w1, rfl, es1, m1, R.wp_mono (R.wp_bind.mp z1) (fun o h' z2 w2 eh l2 m2 => ?_) fun _ _ _ k => X0.le l1 k⟩
  subst eh
  refine ⟨e, w2, rfl, es1.le l2, m2, R.wp_mono (R.wp_bind.mp z2) (fun o2 h' z3 w3 eh l3 m3 => ?_) fun _ _ _ k => X0.le (l1.trans l2) k⟩
  subst eh
  have l03 := l1.trans (l2.trans l3)
  have r3 := l3.rep (l2.rep r1)
  unfold mSlc at z3
  split at z3
  · split at z3
    · rename_i hl
      cases rep_str r3
      refine .inl (.inl ⟨_, rfl, by rw [← lim_eq]; exact hl, ?_⟩)
      rw [← cutS_eq]
      exact (K0.le l03 z3).flat m3 rfl
    · exact z3.elim
  · rename_i xs
    obtain ⟨b, vs, e1, h1, _, rr⟩ := rep_tup m3 r3
    subst e1
    have e : ∀ n d o, MP.sIx n d o = HT.sIx n d o := fun n d o => by cases o <;> rfl
    refine .inl (.inr ⟨b, vs, rfl, h1, fun hw => ?_, fun _ p hp => fresh_tup (K0.le l03 z3) m3 (cut_rep rr o o2) hp⟩)
    have : cut xs o o2 = xs := by
      rw [rr.length, ← e, ← e] at hw
      unfold cut
      rw [hw.1, hw.2]
      simp
    rw [this] at z3
    exact (K0.le l03 z3).flat m3 r3
  · split at z3
    · rename_i q
      unfold seqAt at q
      have fin : ∀ xs vs b, v = .ref b → SqL X.K w3.H b vs → w3.reps A T xs vs → K0 A T X.K w Q (.obj w3.h.length) (w3.h ++ [.lst (cut xs o o2)]) → rSlL X.K v o o2 w3.H Q := fun xs vs b e1 h1 rr k => ⟨b, vs, e1, h1, fun p hp => (K0.le l03 k).fresh m3 trivial ⟨_, rfl, cut_rep rr o o2⟩ hp⟩
      split at q
      · rename_i q1
        cases q
        obtain ⟨vs, e1, h1, h2⟩ := rep_lst m3 r3 q1
        exact .inr (fin _ _ _ e1 (.inl (.inl h1)) h2 z3)
      · rename_i q1
        cases q
        obtain ⟨vs, h1, h2⟩ := m3.ro _ _ q1
        exact .inr (fin _ _ _ r3.1 h1.sq h2 z3)
      · cases q
    · exact z3.elim
  · exact z3.elim
theorem se_rev {ea : Expr} {a : EE} {k : Nat} {p1 p2 p3 pos : Pos} (ha : SE A T X W ea a) : SE A T X W (.Subscript ea (.Slice none none (some (.UnaryOp .USub (.Constant (.int 1) k p1) p2)) p3) pos) (eRev a) := by
  refine PE.imp (pe_revL ha) fun σ H Q ⟨e, w, hH, es, m, z⟩ => ?_
  subst hH
  refine re_step (Wd.le.refl w) es m (R.wp_bind.mp z) fun x w1 v z1 l1 _ m1 es1 r1 => ?_
  split at z1
  · split at z1
    · rename_i q
      obtain ⟨vs, e1, h1, h2⟩ := rep_lst m1 r1 q
      exact ⟨_, vs, e1, .inl (.inl h1), fun p hp => (K0.le l1 z1).fresh m1 trivial ⟨_, rfl, h2.reverse⟩ hp⟩
    · exact z1.elim
  · exact z1.elim
end
end Sd

set_option Elab.async false
set_option linter.all false
set_option maxRecDepth 100000
set_option maxHeartbeats 1000000
/-! targets; what is walked. -/
namespace Sd
open PySem L2 MP
theorem EsR.set {A : Ad} {T : Tb} {w : Wd} {e : En} {σ : L2.St} {x : MV} {v : V} (h : EsR A T w e σ) (r : w.rep A T x v) (i : Nat) : EsR A T w (e.set i (some x)) (σ.set i (some v)) := by
  refine ⟨by rw [List.length_set, List.length_set]; exact h.ln, fun j y q => ?_⟩
  by_cases hj : i = j
  · subst hj
    by_cases hi : i < e.length
    · rw [List.getElem?_set_self hi] at q
      cases q
      exact ⟨v, by rw [List.getElem?_set_self (by rw [← h.ln]; exact hi)], r⟩
    · rw [List.getElem?_eq_none (by rw [List.length_set]; omega)] at q; cases q
  · rw [List.getElem?_set_ne hj] at q
    rw [List.getElem?_set_ne hj]
    exact h.at_ j y q
theorem EsR.setN {A : Ad} {T : Tb} {w : Wd} {e : En} {σ : L2.St} (h : EsR A T w e σ) (i : Nat) : EsR A T w (e.set i none) (σ.set i none) := by
  refine ⟨by rw [List.length_set, List.length_set]; exact h.ln, fun j y q => ?_⟩
  by_cases hj : i = j
  · subst hj
    by_cases hi : i < e.length
    · rw [List.getElem?_set_self hi] at q
      cases q
    · rw [List.getElem?_eq_none (by rw [List.length_set]; omega)] at q; cases q
  · rw [List.getElem?_set_ne hj] at q
    rw [List.getElem?_set_ne hj]
    exact h.at_ j y q
/-- the slots of the state may hold more than the small language's -/
theorem EsR.weak {A : Ad} {T : Tb} {w : Wd} {e e' : En} {σ : L2.St} (h : EsR A T w e σ) (hl : e'.length = e.length) (hw : ∀ (i : Nat) v, e'[i]? = some (some v) → e[i]? = some (some v)) : EsR A T w e' σ :=
  ⟨by rw [hl]; exact h.ln, fun i v q => h.at_ i v (hw i v q)⟩
theorem EsR.wipe {A : Ad} {T : Tb} {w : Wd} {e : En} {σ : L2.St} (h : EsR A T w e σ) : ∀ vs : List Nat, EsR A T w (wipeE e vs) (L2.wipe σ vs)
  | [] => h
  | v :: vs => (EsR.wipe h vs).setN v
mutual
def Tg.sl : Tg → List Nat
  | .nm i => [i]
  | .tup ts => Tg.sls ts
def Tg.sls : List Tg → List Nat
  | [] => []
  | t :: ts => Tg.sl t ++ Tg.sls ts
end
theorem wipe_set {σ : L2.St} {i : Nat} {x : Option V} : ∀ {vs : List Nat}, i ∈ vs → L2.wipe (σ.set i x) vs = L2.wipe σ vs
  | [], h => by cases h
  | v :: vs, h => by
    by_cases hv : v = i
    · subst hv
      by_cases hm : v ∈ vs
      · show (L2.wipe (σ.set v x) vs).set v none = (L2.wipe σ vs).set v none
        rw [wipe_set hm]
      · show (L2.wipe (σ.set v x) vs).set v none = (L2.wipe σ vs).set v none
        have : ∀ vs : List Nat, L2.wipe (σ.set v x) vs = (L2.wipe σ vs).set v ((L2.wipe (σ.set v x) vs)[v]?.getD none) ∨ True := fun _ => .inr trivial
        have key : ∀ vs : List Nat, v ∉ vs → L2.wipe (σ.set v x) vs = (L2.wipe σ vs).set v x := by
          intro vs
          induction vs with
          | nil => intro _; rfl
          | cons u us ih =>
            intro hu
            show (L2.wipe (σ.set v x) us).set u none = ((L2.wipe σ us).set u none).set v x
            rw [ih (fun q => hu (List.mem_cons_of_mem _ q))]
            exact List.set_comm _ _ (fun q => hu (by rw [q]; simp))
        rw [key vs hm, List.set_set]
    · have hm : i ∈ vs := by
        rcases List.mem_cons.mp h with q | q
        · exact absurd q.symm hv
        · exact q
      show (L2.wipe (σ.set i x) vs).set v none = (L2.wipe σ vs).set v none
      rw [wipe_set hm]
section
variable {A : Ad} {T : Tb} {X : Cx} {W : WX}
theorem PG.imp {X : Cx} {e : Expr} {t t' : TG} (h : PG X e t) (q : ∀ v σ H Q, t' v σ H Q → t v σ H Q) : PG X e t' := ⟨fun pins s σ H x u Q I r z => h.run pins s σ H x u Q I r (q x σ H Q z)⟩
theorem PGs.imp {X : Cx} {e : List Expr} {t t' : TGs} (h : PGs X e t) (q : ∀ v σ H Q, t' v σ H Q → t v σ H Q) : PGs X e t' := ⟨fun pins s σ H x u Q I r z => h.run pins s σ H x u Q I r (q x σ H Q z)⟩
/-- what a target is asked -/
def rG (A : Ad) (T : Tb) (K : PySem.W.Frag) (t : Tg) : TG := fun v σ H Q => ∃ (x : MV) (e e' : En) (w : Wd), w.H = H ∧ EsR A T w e σ ∧ MR A T K w ∧ w.rep A T x v ∧ setT t x e = some e' ∧
  ∀ σ', EsR A T w e' σ' → (∀ vs : List Nat, (∀ i ∈ Tg.sl t, i ∈ vs) → L2.wipe σ' vs = L2.wipe σ vs) → Q σ' H
def rGs (A : Ad) (T : Tb) (K : PySem.W.Frag) (ts : List Tg) : TGs := fun vs σ H Q => ∃ (xs : List MV) (e e' : En) (w : Wd), w.H = H ∧ EsR A T w e σ ∧ MR A T K w ∧ w.reps A T xs vs ∧ setTs ts xs e = some e' ∧
  ∀ σ', EsR A T w e' σ' → (∀ vs : List Nat, (∀ i ∈ Tg.sls ts, i ∈ vs) → L2.wipe σ' vs = L2.wipe σ vs) → Q σ' H
theorem sg_name {i : Nat} {x : PySem.Str} {pos : Pos} (hN : X.N.Nodup) (hi : X.N[i]? = some x) (hx : Loc X.env.scope x) (hf : X.fn x = true ∨ X.env.scope.names.lookup x = some .local) : PG X (.Name x pos) (rG A T X.K (.nm i)) := by
  refine PG.imp (pg_name hN hi hx hf) fun v σ H Q ⟨y, e, e', w, hH, es, m, r, hs, k⟩ => ?_
  cases hs
  exact k _ (es.set r i) fun vs h => wipe_set (h i (by simp [Tg.sl]))
theorem sgs_nil : PGs X [] (rGs A T X.K []) := by
  refine PGs.imp pgs_nil fun v σ H Q ⟨xs, e, e', w, hH, es, m, r, hs, k⟩ => ?_
  cases xs with
  | nil =>
    cases hs
    exact ⟨r, k σ es fun _ _ => rfl⟩
  | cons y ys => cases hs
theorem len_sets : ∀ {ts : List Tg} {xs : List MV} {e e' : En}, setTs ts xs e = some e' → xs.length = ts.length
  | [], [], _, _, _ => rfl
  | [], _ :: _, _, _, h => by unfold setTs at h; cases h
  | _ :: _, [], _, _, h => by unfold setTs at h; cases h
  | t :: ts, x :: xs, e, e', h => by
    unfold setTs at h
    split at h
    · simp [len_sets h]
    · cases h
/-- a target's form -/
def isTgt : Expr → Bool
  | .Name _ _ => true
  | .Tuple _ _ _ => true
  | _ => false
theorem assign_cons {e : Expr} {es : List Expr} {env : Env} (h : isTgt e = true) : assignEach (e :: es) env = (false, assign e env) :: assignEach es env := by
  cases e <;> first | rfl | cases h
theorem assign_all {env : Env} : ∀ {es : List Expr}, es.all isTgt = true → (assignEach es env).length = es.length ∧ (assignEach es env).findIdx? (·.1) = none
  | [], _ => ⟨rfl, rfl⟩
  | e :: es, h => by
    rw [List.all_cons, Bool.and_eq_true] at h
    obtain ⟨h1, h2⟩ := assign_all (env := env) h.2
    rw [assign_cons h.1]
    refine ⟨by simp [h1], ?_⟩
    rw [List.findIdx?_cons, h2]
    rfl
theorem sgs_cons {e : Expr} {es : List Expr} {t : Tg} {ts : List Tg} (hn : isTgt e = true) (h1 : PG X e (rG A T X.K t)) (h2 : PGs X es (rGs A T X.K ts)) : PGs X (e :: es) (rGs A T X.K (t :: ts)) := by
  refine PGs.imp (pgs_cons h1 h2 (by rw [assign_cons hn]; rfl)) fun v σ H Q ⟨xs, en, en', w, hH, es', m, r, hs, k⟩ => ?_
  cases xs with
  | nil => unfold setTs at hs; cases hs
  | cons x xs =>
    obtain ⟨u, us, e1, r1, r2⟩ := r
    subst e1
    unfold setTs at hs
    split at hs
    · rename_i en1 h3
      refine ⟨u, us, rfl, x, en, en1, w, hH, es', m, r1, h3, fun σ1 es1 hw1 => ?_⟩
      refine ⟨xs, en1, en', w, hH, es1, m, r2, hs, fun σ2 es2 hw2 => k σ2 es2 fun vs hv => ?_⟩
      rw [hw2 vs fun i hi => hv i (by unfold Tg.sls; exact List.mem_append_right _ hi), hw1 vs fun i hi => hv i (by unfold Tg.sls; exact List.mem_append_left _ hi)]
    · cases hs
theorem sg_tup {es : List Expr} {k : Nat} {pos : Pos} {ts : List Tg} (hc : X.calm = true) (hl : es.length = ts.length) (ht : es.all isTgt = true) (h : PGs X es (rGs A T X.K ts)) : PG X (.Tuple es k pos) (rG A T X.K (.tup ts)) := by
  obtain ⟨h1, h2⟩ := assign_all (env := X.env) ht
  refine PG.imp (pg_tup hc h h1 h2) fun v σ H Q ⟨x, e, e', w, hH, es', m, r, hs, k⟩ => ?_
  cases x <;> first | (unfold setT at hs; cases hs; done) | skip
  rename_i xs
  subst hH
  obtain ⟨a, vs, e1, q1, _, q2⟩ := rep_tup m r
  subst e1
  unfold setT at hs
  exact ⟨a, vs, rfl, q1, by rw [q2.length, len_sets hs, hl], xs, e, e', w, rfl, es', m, q2, hs, fun σ' es1 hw => k σ' es1 fun vs hv => hw vs fun i hi => hv i (by unfold Tg.sl; exact hi)⟩

/-! ### what is walked -/
/-- an iterator gives these, as long as g stands -/
def Wk (A : Ad) (T : Tb) (K : PySem.W.Frag) (w1 : Wd) (p : List MV × Option (Nat × MO)) (J : It) : Prop :=
  (∀ (i : Nat) x (w2 : Wd), p.1[i]? = some x → w1.le w2 → MR A T K w2 → gOk p.2 w2.h = true → J.go i w2.H ∧ ∀ v H', J.yld i w2.H v H' → ∃ w3 : Wd, w3.H = H' ∧ w3.h = w2.h ∧ w2.le w3 ∧ MR A T K w3 ∧ w3.rep A T x v) ∧
  ∀ (w2 : Wd), w1.le w2 → MR A T K w2 → gOk p.2 w2.h = true → J.stop p.1.length w2.H
def rI (A : Ad) (T : Tb) (K : PySem.W.Frag) (W : WX) (d : EI) : TI := fun σ H R => ∃ (e : En) (w : Wd), w.H = H ∧ EsR A T w e σ ∧ MR A T K w ∧
  (d e w.h).wp (fun p h' => ∀ (w1 : Wd) J, w1.h = h' → w.le w1 → MR A T K w1 → Wk A T K w1 p J → R J w1.H) (X0 A T K w fun cls d' H' => W cls d' σ H')
theorem PI.imp {X : Cx} {tg e : Expr} {t t' : TI} (h : PI X tg e t) (q : ∀ σ H Q, t' σ H Q → t σ H Q) : PI X tg e t' := ⟨fun pins s σ H Q I z => h.run pins s σ H Q I (q σ H Q z)⟩
abbrev SI (A : Ad) (T : Tb) (X : Cx) (W : WX) (tg iter : Expr) (d : EI) : Prop := PI X tg iter (rI A T X.K W d)
/-- by the value -/
def PIV (X : Cx) (tg : Expr) (r : V → Hp → (It → Hp → Prop) → Prop) : Prop := ∀ (pins : List (Addr × Obj)) (s : Shared) (σ : L2.St) (H : Hp) (x : V) (v : Value) (R : It → Hp → Prop), Inv X pins σ H s → RelV x v → r x H R →
  wpAny (model X.prog X.w) X.A (pyIter v) (PIE X pins σ tg R) X.xe s
theorem PIV.or {tg : Expr} {r r' : V → Hp → (It → Hp → Prop) → Prop} (h : PIV X tg r) (h' : PIV X tg r') : PIV X tg (fun x H R => r x H R ∨ r' x H R) := fun pins s σ H x v R I rx z => by
  rcases z with z | z
  · exact h pins s σ H x v R I rx z
  · exact h' pins s σ H x v R I rx z
theorem PIV.pi {tg l : Expr} {tl : TE} {r : V → Hp → (It → Hp → Prop) → Prop} (h : PIV X tg r) (hl : PE X l tl) : PI X tg l (fun σ H R => tl σ H fun x H1 => r x H1 R) :=
  ⟨fun pins s σ H R I z => thn (hl.run pins s σ H _ I z) fun v s1 ⟨x, H1, I1, r1, q1⟩ => h pins s1 σ H1 x v R I1 r1 q1⟩
theorem piv_one {tg : Expr} {pins : List (Addr × Obj)} {σ : L2.St} {H : Hp} {s : Shared} {R : It → Hp → Prop} {J : It} {tn : Nat → Heap → Prop} {o : Obj} (I : Inv X pins σ H s) (T : Turn X.prog X.w X.K tg J [s.heap.objs.size] s.heap.objs.size tn) (ht : tn 0 (s.heap.push o)) (q : R J H) :
    PIE X pins σ tg R (.ref s.heap.objs.size) { s with heap := s.heap.push o } := by
  refine ⟨s.heap.objs.size, [s.heap.objs.size], tn, J, H, rfl, I.kept (t' := s.toks) fun b o e => Heap.get?_push_of_some _ e, T, ht, fun b hb => ?_, q⟩
  have e : b = s.heap.objs.size := by simpa using hb
  subst e
  exact I.fpOk (Nat.le_refl _) (I.hok.fresh (Nat.le_refl _))
theorem piv_list {tg : Expr} : PIV X tg (fun x H R => ∃ a, x = .ref a ∧ (∃ xs, SqL X.K H a xs) ∧ R (Itl X.K a) H) := by
  intro pins s σ H x v R I rx ⟨a, e, ⟨xs, hq⟩, q⟩
  subst e
  cases rx
  obtain ⟨its, rv, p, hz⟩ := I.list hq
  exact wpAny_pyIter_list p.isList (piv_one I (turn_list a _) ⟨_, Heap.get?_push_size _ rfl, rfl, rfl⟩ q)
theorem piv_tup {tg : Expr} : PIV X tg (fun x H R => ∃ a, x = .ref a ∧ (∃ xs, SqT X.K H a xs) ∧ R (Itt X.K a) H) := by
  intro pins s σ H x v R I rx ⟨a, e, ⟨xs, hq⟩, q⟩
  subst e
  cases rx
  obtain ⟨its, rv, p, hz⟩ := I.tuple hq
  exact wpAny_pyIter_tuple (show s.heap.IsTuple a its.toArray from p) (piv_one I (turn_tuple a _) ⟨_, Heap.get?_push_size _ rfl, rfl, rfl⟩ q)
theorem piv_str {tg : Expr} : PIV X tg (fun x H R => ∃ z, x = .str z ∧ R (Its z) H) := by
  intro pins s σ H y v R I rx ⟨x, ex, q⟩
  subst ex
  obtain ⟨t, rfl⟩ := rx
  cases ha : x.cps.all (· < 128)
  · exact PySem.wpAny_pyIter_wide ha (piv_one I (turn_str _ x t "str_iterator" (.inr rfl)) ⟨_, Heap.get?_push_size _ rfl, rfl, rfl⟩ q)
  · exact PySem.wpAny_pyIter_ascii ha (piv_one I (turn_str _ x t "str_ascii_iterator" (.inl rfl)) ⟨_, Heap.get?_push_size _ rfl, rfl, rfl⟩ q)
theorem gOk_eq {a : Nat} {o : MO} {h : Hm} (g : gOk (some (a, o)) h = true) : h[a]? = some o := by
  unfold gOk at g
  exact @of_decide_eq_true _ (_) g
/-- the same list walked, by the clause alone -/
theorem wk_list' {K : PySem.W.Frag} {w1 : Wd} {p : List MV × Option (Nat × MO)} {b : Addr} (h : ∀ (w2 : Wd), w1.le w2 → MR A T K w2 → gOk p.2 w2.h = true → ∃ vs, SqL K w2.H b vs ∧ w2.reps A T p.1 vs) : Wk A T K w1 p (Itl K b) := by
  refine ⟨fun i x w2 e l m g => ?_, fun w2 l m g => ?_⟩
  · obtain ⟨vs, h1, h2⟩ := h w2 l m g
    obtain ⟨v, h3, h4⟩ := h2.get e
    refine ⟨⟨vs, v, h1, h3⟩, fun v' H' ⟨e1, e2⟩ => ?_⟩
    have := e2 vs h1
    rw [h3] at this
    cases this
    exact ⟨w2, e1.symm, rfl, Wd.le.refl w2, m, h4⟩
  · obtain ⟨vs, h1, h2⟩ := h w2 l m g
    exact ⟨vs, h1, by rw [h2.length]; exact Nat.le_refl _⟩
theorem wk_tup {K : PySem.W.Frag} {w1 : Wd} {p : List MV × Option (Nat × MO)} {b : Addr} {vs : List V} (h1 : ∀ (w2 : Wd), w1.le w2 → MR A T K w2 → SqT K w2.H b vs) (h2 : w1.reps A T p.1 vs) : Wk A T K w1 p (Itt K b) := by
  refine ⟨fun i x w2 e l m g => ?_, fun w2 l m g => ?_⟩
  · obtain ⟨v, h3, h4⟩ := (l.reps h2).get e
    refine ⟨⟨vs, v, h1 w2 l m, h3⟩, fun v' H' ⟨e1, e2⟩ => ?_⟩
    have := e2 vs (h1 w2 l m)
    rw [h3] at this
    cases this
    exact ⟨w2, e1.symm, rfl, Wd.le.refl w2, m, h4⟩
  · exact ⟨vs, h1 w2 l m, by rw [h2.length]; exact Nat.le_refl _⟩
theorem wk_str {K : PySem.W.Frag} {w1 : Wd} {s : PySem.Str} : Wk A T K w1 (s.cps.toList.map fun c => .str ⟨#[c]⟩, none) (Its s) := by
  refine ⟨fun i x w2 e l m g => ?_, fun w2 l m g => ?_⟩
  · rw [List.getElem?_map, Option.map_eq_some_iff] at e
    obtain ⟨c, h1, h2⟩ := e
    subst h2
    have h3 : i < s.cps.size := by have := (List.getElem?_eq_some_iff.mp h1).1; simpa using this
    refine ⟨h3, fun v H' ⟨e1, c', e2, e3⟩ => ?_⟩
    have : s.cps[i]? = some c := by rw [← Array.getElem?_toList]; exact h1
    rw [this] at e2
    cases e2
    exact ⟨w2, e1.symm, rfl, Wd.le.refl w2, m, e3⟩
  · show s.cps.size ≤ _
    simp
theorem si_walk {C : Ct} (hC : ∀ c, C.ci c = none) {tg ea : Expr} {a : EE} (ha : SE A T X W ea a) : SI A T X W tg ea (fun e h => (a e h).bind (mWalk C)) := by
  refine PI.imp (((piv_list (tg := tg)).or (piv_tup.or piv_str)).pi ha) fun σ H Z ⟨e, w, hH, es, m, z⟩ => ?_
  subst hH
  refine re_step (Wd.le.refl w) es m (R.wp_bind.mp z) fun x w1 u z1 l1 _ m1 es1 r1 => ?_
  have fin : ∀ {p : List MV × Option (Nat × MO)} {J : It}, (∀ (w' : Wd) J, w'.h = w1.h → w.le w' → MR A T X.K w' → Wk A T X.K w' p J → Z J w'.H) → Wk A T X.K w1 p J → Z J w1.H := fun k wk => k w1 _ rfl l1 m1 wk
  unfold mWalk at z1
  split at z1
  · obtain ⟨b, vs, e1, q1, q2, q3⟩ := rep_tup m1 r1
    subst e1
    obtain ⟨b', vs', e2, f2, q4⟩ := r1
    cases e2
    refine .inr (.inl ⟨b, rfl, ⟨vs, q1⟩, fin z1 (wk_tup (vs := vs') (fun w2 l m2 => .inl (.inl (m2.frz _ _ (l.fr _ _ f2)))) q4)⟩)
  · cases rep_str r1
    exact .inr (.inr ⟨_, rfl, fin z1 wk_str⟩)
  · simp only [hC] at z1
    exact z1.elim
  · rename_i b
    split at z1
    · rename_i xs q
      obtain ⟨vs, e1, h1, h2⟩ := rep_lst m1 r1 q
      subst e1
      refine .inl ⟨_, rfl, ⟨vs, .inl (.inl h1)⟩, fin z1 (wk_list' fun w2 l2 m2 g => ?_)⟩
      have hb : w1.rep A T (.obj b) (.ref (w1.ι b)) := r1
      obtain ⟨vs2, e2, h3, h4⟩ := rep_lst m2 (l2.rep hb) (gOk_eq g)
      rw [← V.ref.inj e2] at h3
      exact ⟨vs2, .inl (.inl h3), h4⟩
    · rename_i xs q
      obtain ⟨vs, h1, h2⟩ := m1.ro _ _ q
      have e1 := r1.1
      refine .inl ⟨_, e1, ⟨vs, h1.sq⟩, fin z1 (wk_list' fun w2 l2 m2 g => ?_)⟩
      obtain ⟨vs2, h3, h4⟩ := m2.ro _ _ (gOk_eq g)
      rw [l2.io _ r1.2] at h3
      exact ⟨vs2, h3.sq, h4⟩
    · exact z1.elim
  · exact z1.elim
theorem wk_range {K : PySem.W.Frag} {w1 : Wd} {lo c : Int} {n : Nat} : Wk A T K w1 (rangeL lo n c, none) (Itc lo c n) := by
  refine ⟨fun i x w2 e l m g => ?_, fun w2 l m g => ?_⟩
  · unfold rangeL at e
    rw [List.getElem?_map, Option.map_eq_some_iff] at e
    obtain ⟨j, h1, h2⟩ := e
    subst h2
    obtain ⟨h3, h4⟩ := List.getElem?_eq_some_iff.mp h1
    rw [List.getElem_range] at h4
    subst h4
    rw [List.length_range] at h3
    exact ⟨h3, fun v H' ⟨e1, e2⟩ => ⟨w2, e1.symm, rfl, Wd.le.refl w2, m, e2⟩⟩
  · show n ≤ _
    simp [rangeL]
theorem wk_range1 {K : PySem.W.Frag} {w1 : Wd} {lo : Int} {n : Nat} : Wk A T K w1 (rangeL lo n 1, none) (Itr lo n) := by
  obtain ⟨h1, h2⟩ := wk_range (A := A) (T := T) (K := K) (w1 := w1) (lo := lo) (c := 1) (n := n)
  refine ⟨fun i x w2 e l m g => ?_, fun w2 l m g => h2 w2 l m g⟩
  obtain ⟨h3, h4⟩ := h1 i x w2 e l m g
  exact ⟨h3, fun v H' ⟨e1, e2⟩ => h4 v H' ⟨e1, by rw [e2, Int.mul_one]⟩⟩
theorem small_iff {j : Int} (h : small62 j = true) : -(2 ^ 62) ≤ j ∧ j < 2 ^ 62 := by
  unfold small62 at h
  simpa only [Bool.and_eq_true, decide_eq_true_eq] using h
theorem reps3 {w : Wd} {x y z : MV} {us : List V} (r : w.reps A T [x, y, z] us) : ∃ u v t, us = [u, v, t] ∧ w.rep A T x u ∧ w.rep A T y v ∧ w.rep A T z t := by
  obtain ⟨v, q, e, h1, h2⟩ := r
  obtain ⟨u, t, e2, h3, h4⟩ := reps2 h2
  exact ⟨v, u, t, by rw [e, e2], h1, h3, h4⟩
theorem si_range1 {a : Expr} {d : EL} {tg : Expr} {p pos : Pos} (hg : Gl X "range") (hm : X.mg "range" = none) (ha : SL A T X W [a] d) (ln : LenIs d 1) (hs : noStar a = true) : SI A T X W tg (.Call (.Name "range" p) [a] [] pos) (fun e h => (d e h).bind mRange) := by
  refine PI.imp (pi_range1 hg hm ha (star_cons hs)) fun σ H Z ⟨e, w, hH, es, m, z⟩ => ?_
  subst hH
  refine rel_step (Wd.le.refl w) es m (wp_len ln (R.wp_bind.mp z)) fun xs w1 us z1 l1 _ m1 es1 r1 => ?_
  obtain ⟨lx, z1⟩ := z1
  unfold mRange at z1
  split at z1 <;> first | (cases lx; done) | skip
  · obtain ⟨u, e1, r2⟩ := reps1 r1
    cases rep_int r2
    split at z1
    · rename_i j hj
      obtain ⟨h1, h2⟩ := small_iff hj
      exact ⟨j, e1, h1, h2, z1 w1 _ rfl l1 m1 wk_range1⟩
    · exact z1.elim
  · exact z1.elim
theorem si_range2 {a b : Expr} {d : EL} {tg : Expr} {p pos : Pos} (hg : Gl X "range") (hm : X.mg "range" = none) (ha : SL A T X W [a, b] d) (ln : LenIs d 2) (hs : noStar a = true) (hs2 : noStar b = true) : SI A T X W tg (.Call (.Name "range" p) [a, b] [] pos) (fun e h => (d e h).bind mRange) := by
  refine PI.imp (pi_range2 hg hm ha (by rw [star_cons hs, star_cons hs2]; rfl) (by rw [star_cons hs2]; rfl)) fun σ H Z ⟨e, w, hH, es, m, z⟩ => ?_
  subst hH
  refine rel_step (Wd.le.refl w) es m (wp_len ln (R.wp_bind.mp z)) fun xs w1 us z1 l1 _ m1 es1 r1 => ?_
  obtain ⟨lx, z1⟩ := z1
  unfold mRange at z1
  split at z1 <;> first | (cases lx; done) | skip
  · obtain ⟨u, v, e1, r2, r3⟩ := reps2 r1
    cases rep_int r2; cases rep_int r3
    split at z1
    · rename_i i j hj
      rw [Bool.and_eq_true] at hj
      obtain ⟨h1, h2⟩ := small_iff hj.1
      obtain ⟨h3, h4⟩ := small_iff hj.2
      exact ⟨_, _, e1, ⟨h1, h2, h3, h4⟩, z1 w1 _ rfl l1 m1 wk_range1⟩
    · exact z1.elim
  · exact z1.elim
theorem rgsz_up {i j c : Int} (h5 : 0 < c) : Builtin.Range.rangeSize i j c = ((j - i + c - 1) / c).toNat := by
  unfold Builtin.Range.rangeSize
  rw [if_pos h5]
  have e : (j - i + c - 1) / c = (j - i - 1) / c + 1 := by
    rw [show j - i + c - 1 = (j - i - 1) + 1 * c by omega, Int.add_mul_ediv_right _ _ (by omega)]
  rw [e]
  split
  · have := Int.ediv_nonneg (show 0 ≤ j - i - 1 by omega) (show 0 ≤ c by omega)
    omega
  · have : (j - i - 1) / c < 0 := Int.ediv_neg_of_neg_of_pos (by omega) h5
    omega
theorem rgc_up {i j c : Int} (h1 : -(2 ^ 62) ≤ i) (h2 : i < 2 ^ 62) (h3 : -(2 ^ 62) ≤ j) (h4 : j < 2 ^ 62) (h5 : 0 < c) (h6 : c < 2 ^ 30) : RgC i j c ((j - i + c - 1) / c).toNat := by
  refine ⟨by omega, by omega, ?_, rgsz_up h5⟩
  unfold Builtin.Range.small
  rw [rgsz_up h5]
  have e : (j - i + c - 1) / c = (j - i - 1) / c + 1 := by
    rw [show j - i + c - 1 = (j - i - 1) + 1 * c by omega, Int.add_mul_ediv_right _ _ (by omega)]
  have l1 : (j - i - 1) / c ≤ 2 ^ 63 - 2 := by
    rcases Int.lt_or_le (j - i - 1) 0 with h | h
    · have := Int.ediv_neg_of_neg_of_pos h h5
      omega
    · have := Int.ediv_le_self c h
      omega
  simp only [Builtin.Range.rangeFitsLong, Bool.and_eq_true, Bool.or_eq_true, decide_eq_true_eq, beq_iff_eq]
  rw [e]
  have q : (0:Int) < c := h5
  simp only [q, gt_iff_lt, if_true, Bool.and_eq_true, decide_eq_true_eq]
  refine ⟨⟨⟨⟨by omega, by omega⟩, by omega⟩, ?_⟩, .inr (by omega)⟩
  omega
theorem si_range3 {a b c : Expr} {d : EL} {tg : Expr} {p pos : Pos} (hg : Gl X "range") (hm : X.mg "range" = none) (ha : SL A T X W [a, b, c] d) (ln : LenIs d 3) (hs : noStar a = true) (hs2 : noStar b = true) (hs3 : noStar c = true) : SI A T X W tg (.Call (.Name "range" p) [a, b, c] [] pos) (fun e h => (d e h).bind mRange) := by
  refine PI.imp (pi_range3 hg hm ha (star_cons hs) (star_all (by simp [hs2, hs3]))) fun σ H Z ⟨e, w, hH, es, m, z⟩ => ?_
  subst hH
  refine rel_step (Wd.le.refl w) es m (wp_len ln (R.wp_bind.mp z)) fun xs w1 us z1 l1 _ m1 es1 r1 => ?_
  obtain ⟨lx, z1⟩ := z1
  unfold mRange at z1
  split at z1 <;> first | (cases lx; done) | skip
  · obtain ⟨u, v, t, e1, r2, r3, r4⟩ := reps3 r1
    cases rep_int r2; cases rep_int r3; cases rep_int r4
    split at z1
    · rename_i i j c hj
      simp only [Bool.and_eq_true, beq_iff_eq] at hj
      obtain ⟨h1, h2⟩ := small_iff hj.1.1
      obtain ⟨h3, h4⟩ := small_iff hj.1.2
      have := hj.2
      subst this
      exact ⟨_, _, _, _, e1, RgC.neg h1 h2 h3 h4, z1 w1 _ rfl l1 m1 wk_range⟩
    · split at z1
      · rename_i i j c _ hj
        simp only [Bool.and_eq_true, decide_eq_true_eq] at hj
        obtain ⟨h1, h2⟩ := small_iff hj.1.1.1
        obtain ⟨h3, h4⟩ := small_iff hj.1.1.2
        exact ⟨_, _, _, _, e1, rgc_up h1 h2 h3 h4 hj.1.2 hj.2, z1 w1 _ rfl l1 m1 wk_range⟩
      · exact z1.elim
  · exact z1.elim
/-- enumerate(list) -/
theorem wk_enum {K : PySem.W.Frag} {w1 : Wd} {xs : List MV} {g : Option (Nat × MO)} {b : Addr} (h : ∀ (w2 : Wd), w1.le w2 → MR A T K w2 → gOk g w2.h = true → ∃ vs, SqL K w2.H b vs ∧ w2.reps A T xs vs) : Wk A T K w1 (enumL xs, g) (Ite K b) := by
  refine ⟨fun i x w2 e l m g => ?_, fun w2 l m g => ?_⟩
  · obtain ⟨vs, h1, h2⟩ := h w2 l m g
    unfold enumL at e
    rw [List.getElem?_map, Option.map_eq_some_iff] at e
    obtain ⟨⟨y, j⟩, e1, e2⟩ := e
    rw [List.getElem?_zipIdx, Option.map_eq_some_iff] at e1
    obtain ⟨y', e3, e4⟩ := e1
    cases e4
    subst e2
    obtain ⟨v, h3, h4⟩ := h2.get e3
    refine ⟨⟨vs, v, h1, h3⟩, fun v' H' ⟨t, y2, e5, e6, e7, e8⟩ => ?_⟩
    have := e8 vs h1
    rw [h3] at this
    cases this
    subst e5 e7
    obtain ⟨m2, l2⟩ := m.other e6 (.tup [.int (i : Nat), v]) (upd w2.F t (.tup [.int (i : Nat), v])) (.inr rfl)
    refine ⟨⟨upd w2.F t (.tup [.int (i : Nat), v]), w2.ι, w2.h, upd w2.H t (.tup [.int (i : Nat), v])⟩, rfl, rfl, l2, m2, ⟨t, _, rfl, upd_same, Reps.cons ?_ (Reps.cons (l2.rep h4) Reps.nil)⟩⟩
    simp [Rep]
  · obtain ⟨vs, h1, h2⟩ := h w2 l m g
    refine ⟨vs, h1, ?_⟩
    rw [h2.length]
    simp [enumL]
theorem si_enum {a : Expr} {d : EE} {elts : List Expr} {kk : Nat} {tpos p pos : Pos} (hg : Gl X "enumerate") (hm : X.mg "enumerate" = none) (ha : SE A T X W a d) (hs : noStar a = true) : SI A T X W (.Tuple elts kk tpos) (.Call (.Name "enumerate" p) [a] [] pos) (fun e h => (d e h).bind mEnum) := by
  refine PI.imp (pi_enum hg hm (pa_cons ha pa_nil (star_cons hs)) (star_cons hs)) fun σ H Z ⟨e, w, hH, es, m, z⟩ => ?_
  subst hH
  refine re_step (Wd.le.refl w) es m (R.wp_bind.mp z) fun x w1 u z1 l1 _ m1 es1 r1 => ?_
  unfold mEnum at z1
  split at z1
  · rename_i b
    split at z1
    · rename_i xs q
      obtain ⟨vs, e1, h1, h2⟩ := rep_lst m1 r1 q
      subst e1
      refine ⟨_, vs, rfl, .inl (.inl h1), z1 w1 _ rfl l1 m1 (wk_enum fun w2 l2 m2 g => ?_)⟩
      have hb : w1.rep A T (.obj b) (.ref (w1.ι b)) := r1
      obtain ⟨vs2, e2, h3, h4⟩ := rep_lst m2 (l2.rep hb) (gOk_eq g)
      rw [← V.ref.inj e2] at h3
      exact ⟨vs2, .inl (.inl h3), h4⟩
    · exact z1.elim
  · exact z1.elim
end
end Sd

set_option Elab.async false
set_option linter.all false
set_option maxRecDepth 100000
set_option maxHeartbeats 1000000
/-! statements. -/
namespace MP
structure Po where
  nx : En → Hm → Prop
  bk : En → Hm → Prop
  ct : En → Hm → Prop
  rt : MV → Hm → Prop
  ex : Nat → MV → En → Hm → Prop
def S.wp (s : S) (P : Po) : Prop := match s with
  | .nx e h => P.nx e h
  | .rt v h => P.rt v h
  | .bk e h => P.bk e h
  | .ct e h => P.ct e h
  | .ex c v e h => P.ex c v e h
  | .bad => False
theorem S.wp_bind {s : S} {f : En → Hm → S} {P : Po} : (s.bind f).wp P ↔ s.wp { P with nx := fun e h => (f e h).wp P } := by cases s <;> exact Iff.rfl
theorem R.wp_sb {α : Type} {r : R α} {e : En} {f : α → Hm → S} {P : Po} : (r.sb e f).wp P ↔ r.wp (fun a h => (f a h).wp P) (fun c v h => P.ex c v e h) := by cases r <;> exact Iff.rfl
/-- a loop's turn -/
theorem S.wp_turn {s : S} {F : En → Hm → S} {P : Po} : (match s with | .nx e h => F e h | .ct e h => F e h | .bk e h => .nx e h | r => r).wp P ↔
    s.wp ⟨fun e h => (F e h).wp P, P.nx, fun e h => (F e h).wp P, P.rt, P.ex⟩ := by cases s <;> exact Iff.rfl
theorem S.wp_mono {s : S} {P P' : Po} (h : s.wp P) (h1 : ∀ e h, P.nx e h → P'.nx e h) (h2 : ∀ e h, P.bk e h → P'.bk e h) (h3 : ∀ e h, P.ct e h → P'.ct e h) (h4 : ∀ e h, P.rt e h → P'.rt e h) (h5 : ∀ c v e h, P.ex c v e h → P'.ex c v e h) : s.wp P' := by
  cases s with
  | nx e k => exact h1 _ _ h
  | rt e k => exact h4 _ _ h
  | bk e k => exact h2 _ _ h
  | ct e k => exact h3 _ _ h
  | ex c v e k => exact h5 _ _ _ _ h
  | bad => exact h
end MP
namespace Sd
open PySem L2 MP
section
variable (A : Ad) (T : Tb) (K : PySem.W.Frag)
def kN (w : Wd) (Q : L2.St → Hp → Prop) : En → Hm → Prop := fun e' h' => ∀ (w' : Wd) σ', w'.h = h' → w.le w' → MR A T K w' → EsR A T w' e' σ' → Q σ' w'.H
def po (w : Wd) (W : WX) (D : Ends) : Po := ⟨kN A T K w D.nx, kN A T K w D.bk, kN A T K w D.ct, K0 A T K w D.rt, fun c v e' h' => ∀ (w' : Wd) σ' cls d, w'.h = h' → w.le w' → MR A T K w' → EsR A T w' e' σ' → XRep A T w' c v cls d → W cls d σ' w'.H⟩
def rS (W : WX) (d : En → Hm → S) : TS := fun D σ H => ∃ (e : En) (w : Wd), w.H = H ∧ EsR A T w e σ ∧ MR A T K w ∧ (d e w.h).wp (po A T K w W D)
end
section
variable {A : Ad} {T : Tb} {K : PySem.W.Frag} {w w1 : Wd} {W : WX} {D : Ends}
theorem kN.le {Q : L2.St → Hp → Prop} {e : En} {h : Hm} (l : w.le w1) (k : kN A T K w Q e h) : kN A T K w1 Q e h := fun w' σ' e1 l' m r => k w' σ' e1 (l.trans l') m r
theorem po_le {s : S} (l : w.le w1) (z : s.wp (po A T K w W D)) : s.wp (po A T K w1 W D) :=
  S.wp_mono z (fun _ _ q => kN.le l q) (fun _ _ q => kN.le l q) (fun _ _ q => kN.le l q) (fun _ _ q => K0.le l q) (fun _ _ _ _ q w' σ' cls d e1 l' m r x => q w' σ' cls d e1 (l.trans l') m r x)
/-- what an exception in an expression of the statement is asked -/
theorem X0.of {c : Nat} {v : MV} {e : En} {h : Hm} {σ : L2.St} {w0 : Wd} (l : w0.le w) (es : EsR A T w e σ) (q : (po A T K w0 W D).ex c v e h) : X0 A T K w (fun cls d' H' => W cls d' σ H') c v h := fun w' cls d e1 l' m r => q w' σ cls d e1 (l.trans l') m (es.le l') r
end
theorem PS.imp {X : Cx} {e : Stmt} {t t' : TS} (h : PS X e t) (q : ∀ D σ H, t' D σ H → t D σ H) : PS X e t' := ⟨fun pins s σ H D I z => h.run pins s σ H D I (q D σ H z)⟩
theorem PSs.imp {X : Cx} {e : List Stmt} {t t' : TS} (h : PSs X e t) (q : ∀ D σ H, t' D σ H → t D σ H) : PSs X e t' := ⟨fun pins s σ H D I z => h.run pins s σ H D I (q D σ H z)⟩
section
variable {A : Ad} {T : Tb} {X : Cx} {W : WX}
abbrev SS (A : Ad) (T : Tb) (X : Cx) (W : WX) (st : Stmt) (d : En → Hm → S) : Prop := PS X st (rS A T X.K W d)
abbrev SSs (A : Ad) (T : Tb) (X : Cx) (W : WX) (sts : List Stmt) (d : En → Hm → S) : Prop := PSs X sts (rS A T X.K W d)
/-- an expression of a statement -/
theorem st_step {a : EE} {w0 w : Wd} {e : En} {σ : L2.St} {D : Ends} {f : MV → Hm → S} {Z : VK} (l0 : w0.le w) (es : EsR A T w e σ) (m : MR A T X.K w) (z : ((a e w.h).sb e f).wp (po A T X.K w0 W D))
    (hk : ∀ (x : MV) (w1 : Wd) (u : V), (f x w1.h).wp (po A T X.K w1 W D) → w.le w1 → w0.le w1 → MR A T X.K w1 → EsR A T w1 e σ → w1.rep A T x u → Z u w1.H) : rE A T X.K W a σ w.H Z :=
  re_step (P := fun x h => (f x h).wp (po A T X.K w0 W D)) (Wd.le.refl w) es m (R.wp_mono (R.wp_sb.mp z) (fun _ _ q => q) fun c v h q => X0.of l0 es q) fun x w1 u z1 l1 _ m1 es1 r1 => hk x w1 u (po_le (l0.trans l1) z1) l1 (l0.trans l1) m1 es1 r1
theorem st_step0 {a : EE} {w0 w : Wd} {e : En} {σ : L2.St} {D : Ends} {f : MV → Hm → S} {Z : VK} (l0 : w0.le w) (es : EsR A T w e σ) (m : MR A T X.K w) (z : ((a e w.h).sb e f).wp (po A T X.K w0 W D))
    (hk : ∀ (x : MV) (w1 : Wd) (u : V), (f x w1.h).wp (po A T X.K w0 W D) → w.le w1 → w0.le w1 → MR A T X.K w1 → EsR A T w1 e σ → w1.rep A T x u → Z u w1.H) : rE A T X.K W a σ w.H Z :=
  re_step (P := fun x h => (f x h).wp (po A T X.K w0 W D)) (Wd.le.refl w) es m (R.wp_mono (R.wp_sb.mp z) (fun _ _ q => q) fun c v h q => X0.of l0 es q) fun x w1 u z1 l1 _ m1 es1 r1 => hk x w1 u z1 l1 (l0.trans l1) m1 es1 r1
theorem ss_nil : SSs A T X W [] (fun e h => .nx e h) := PSs.imp pss_nil fun D σ H ⟨e, w, hH, es, m, z⟩ => by
  subst hH
  exact z w σ rfl (Wd.le.refl w) m es
theorem ss_cons {st : Stmt} {sts : List Stmt} {d : En → Hm → S} {r : En → Hm → S} (h1 : SS A T X W st d) (h2 : SSs A T X W sts r) : SSs A T X W (st :: sts) (fun e h => (d e h).bind fun e h => r e h) := by
  refine PSs.imp (pss_cons h1 h2) fun D σ H ⟨e, w, hH, es, m, z⟩ => ?_
  subst hH
  refine ⟨e, w, rfl, es, m, S.wp_mono (S.wp_bind.mp z) (fun e1 h1 q w1 σ1 eh l1 m1 es1 => ?_) (fun _ _ q => q) (fun _ _ q => q) (fun _ _ q => q) (fun _ _ _ _ q => q)⟩
  subst eh
  exact ⟨e1, w1, rfl, es1, m1, po_le l1 q⟩
theorem ss_pass {pos : Pos} : SS A T X W (.Pass pos) (fun e h => .nx e h) := PS.imp ps_pass fun D σ H ⟨e, w, hH, es, m, z⟩ => by
  subst hH
  exact z w σ rfl (Wd.le.refl w) m es
theorem ss_brk {pos : Pos} : SS A T X W (.Break pos) (fun e h => .bk e h) := PS.imp ps_break fun D σ H ⟨e, w, hH, es, m, z⟩ => by
  subst hH
  exact z w σ rfl (Wd.le.refl w) m es
theorem ss_cont {pos : Pos} : SS A T X W (.Continue pos) (fun e h => .ct e h) := PS.imp ps_continue fun D σ H ⟨e, w, hH, es, m, z⟩ => by
  subst hH
  exact z w σ rfl (Wd.le.refl w) m es
theorem ss_expr {ea : Expr} {a : EE} {pos : Pos} (ha : SE A T X W ea a) (hs : swapsWith ea none pos.line X.env = pure false) : SS A T X W (.Expr ea pos) (fun e h => (a e h).sb e fun _ h => .nx e h) := by
  refine PS.imp (ps_expr ha hs) fun D σ H ⟨e, w, hH, es, m, z⟩ => ?_
  subst hH
  exact st_step (Wd.le.refl w) es m z fun x w1 u z1 l1 _ m1 es1 r1 => z1 w1 σ rfl (Wd.le.refl w1) m1 es1
theorem ss_ret {ea : Expr} {a : EE} {pos : Pos} (ha : SE A T X W ea a) : SS A T X W (.Return (some ea) pos) (fun e h => (a e h).sb e fun v h => .rt v h) := by
  refine PS.imp (ps_ret ha) fun D σ H ⟨e, w, hH, es, m, z⟩ => ?_
  subst hH
  exact st_step (Wd.le.refl w) es m z fun x w1 u z1 l1 _ m1 es1 r1 => z1 w1 u rfl (Wd.le.refl w1) m1 r1
theorem ss_retN {pos : Pos} : SS A T X W (.Return none pos) (fun _ h => .rt .non h) := PS.imp ps_retN fun D σ H ⟨e, w, hH, es, m, z⟩ => by
  subst hH
  exact z w .non rfl (Wd.le.refl w) m rfl
theorem ss_if {ec : Expr} {a b : List Stmt} {c : EE} {p q : En → Hm → S} {pos : Pos} (hc : ST A T X W ec c) (ha : SSs A T X W a p) (hb : SSs A T X W b q) : SS A T X W (.If ec a b pos) (sIf c p q) := by
  refine PS.imp (ps_if hc ha hb) fun D σ H ⟨e, w, hH, es, m, z⟩ => ?_
  subst hH
  refine st_step (Wd.le.refl w) es m z fun x w1 u z1 l1 _ m1 es1 r1 => ?_
  split at z1
  · cases rep_bl r1
    exact ⟨true, rfl, e, w1, rfl, es1, m1, z1⟩
  · cases rep_bl r1
    exact ⟨false, rfl, e, w1, rfl, es1, m1, z1⟩
  · exact z1.elim
/-! ### assignments -/
theorem ss_set {i : Nat} {x : PySem.Str} {ea : Expr} {a : EE} {pos' pos : Pos} (hN : X.N.Nodup) (hi : X.N[i]? = some x) (hx : Loc X.env.scope x) (ha : SE A T X W ea a) (hs : swapsWith ea (some (.Name x pos')) pos.line X.env = pure false) (hf : X.fn x = true ∨ X.env.scope.names.lookup x = some .local) :
    SS A T X W (.Assign [.Name x pos'] ea pos) (fun e h => (a e h).sb e fun x h => .nx (e.set i (some x)) h) := by
  refine PS.imp (ps_set hN hi hx ha hs hf) fun D σ H ⟨e, w, hH, es, m, z⟩ => ?_
  subst hH
  exact st_step (Wd.le.refl w) es m z fun x w1 u z1 l1 _ m1 es1 r1 => z1 w1 _ rfl (Wd.le.refl w1) m1 (es1.set r1 i)
theorem ss_tup {ts : List Tg} {tg ea : Expr} {a : EE} {pos : Pos} (ha : SE A T X W ea a) (hg : PG X tg (rG A T X.K (.tup ts))) (hs : swapsWithSole [tg] ea pos.line X.env = pure false) (hw : swappedStores [tg] ea X.env = pure none) (h1 : isTgt tg = true) :
    SS A T X W (.Assign [tg] ea pos) (fun e h => (a e h).sb e fun x h => match setT (.tup ts) x e with
      | some e1 => .nx e1 h
      | none => .bad) := by
  refine PS.imp (ps_asg ha hg hs hw (by rw [assign_cons h1]; rfl)) fun D σ H ⟨e, w, hH, es, m, z⟩ => ?_
  subst hH
  refine st_step (Wd.le.refl w) es m z fun x w1 u z1 l1 _ m1 es1 r1 => ?_
  split at z1
  · rename_i e1 q
    exact ⟨x, e, e1, w1, rfl, es1, m1, r1, q, fun σ' es2 _ => z1 w1 σ' rfl (Wd.le.refl w1) m1 es2⟩
  · exact z1.elim
theorem ss_par {i j : Nat} {x y : PySem.Str} {a b : Expr} {d : EL} {px py pt pos : Pos} {kt k2 : Nat} {pt2 : Pos} (hc : X.calm = true) (hN : X.N.Nodup) (hi : X.N[i]? = some x) (hj : X.N[j]? = some y) (hij : i ≠ j)
    (hx : X.env.scope.names.lookup x = some .local) (hy : X.env.scope.names.lookup y = some .local) (ha : SL A T X W [a, b] d) (ln : LenIs d 2)
    (hw : swappedStores [.Tuple [.Name x px, .Name y py] kt pt] (.Tuple [a, b] k2 pt2) X.env = pure (some [x, y])) (hs : swapsWithSole [.Tuple [.Name x px, .Name y py] kt pt] (.Tuple [a, b] k2 pt2) pos.line X.env = pure false) :
    SS A T X W (.Assign [.Tuple [.Name x px, .Name y py] kt pt] (.Tuple [a, b] k2 pt2) pos) (fun e h => (eTup d e h).sb e fun x h => match setT (.tup [.nm i, .nm j]) x e with
      | some e1 => .nx e1 h
      | none => .bad) := by
  refine PS.imp (ps_par hc hN hi hj hij hx hy ha hw hs) fun D σ H ⟨e, w, hH, es, m, z⟩ => ?_
  subst hH
  have z2 := R.wp_bind.mp (R.wp_sb.mp z)
  refine rel_step (Wd.le.refl w) es m (R.wp_mono (wp_len ln z2) (fun _ _ q => q) fun c v h q => X0.of (Wd.le.refl w) es q) fun xs w1 us z1 l1 _ m1 es1 r1 => ?_
  obtain ⟨lx, z1⟩ := z1
  match xs, lx with
  | [p, q], _ =>
    obtain ⟨u, v, e1, r2, r3⟩ := reps2 r1
    have z3 : (po A T X.K w W D).nx ((e.set i (some p)).set j (some q)) w1.h := z1
    exact ⟨u, v, e1, (z3 w1 _ rfl l1 m1 ((es1.set r2 i).set r3 j))⟩
theorem set_env {C : Ct} (hC : ∀ c, C.ci c = none) (o i v : MV) (e : En) (h : Hm) : mSet C o i v e h = (match mSet C o i v [] h with | .nx _ h' => .nx e h' | _ => .bad) := by
  unfold mSet
  cases o <;> try rfl
  rename_i a
  simp only [noMeth hC]
  cases h[a]? with
  | none => rfl
  | some u =>
    cases u with
    | lst xs =>
      cases i <;> try rfl
      simp only
      cases MP.ixN xs.length _ <;> rfl
    | dct t kvs =>
      simp only
      cases keyOf t i with
      | none => rfl
      | some k => simp only; by_cases q : kvs.length < lim <;> simp [q]
    | ro xs => rfl
    | ins c fs => rfl
    | dead => rfl
theorem ss_sub {C : Ct} (hC : ∀ c, C.ci c = none) (hu : X.A.units + 64 < cLine) {eo ei ea : Expr} {o k a : EE} {pos pos' : Pos} (ho : SE A T X W eo o) (hi : SE A T X W ei k) (ha : SE A T X W ea a)
    (hs : swapsWithSole [.Subscript eo ei pos'] ea pos.line X.env = pure false) (hw : swappedStores [.Subscript eo ei pos'] ea X.env = pure none)
    (hg : ∀ v, assign (.Subscript eo ei pos') X.env v = (do
      let ov ← holding [v] (eval eo X.env)
      let iv ← holding [v, ov] (eval ei X.env)
      standAt pos'
      holding [v, ov, iv] (setItem ov iv v)
      release [v, ov, iv] [])) :
    SS A T X W (.Assign [.Subscript eo ei pos'] ea pos) (fun e h => (a e h).sb e fun x h => (o e h).sb e fun p h => (k e h).sb e fun q h => mSet C p q x e h) := by
  refine PS.imp (ps_asg ha (pg_sub ho hi (ps_store (A := A) (T := T) hC hu) hg) hs hw rfl) fun D σ H ⟨e, w, hH, es, m, z⟩ => ?_
  subst hH
  refine st_step (Wd.le.refl w) es m z fun x w1 u z1 l1 _ m1 es1 r1 => ?_
  refine st_step (Wd.le.refl w1) es1 m1 z1 fun p w2 v z2 l2 _ m2 es2 r2 => ?_
  refine st_step (Wd.le.refl w2) es2 m2 z2 fun q w3 y z3 l3 _ m3 es3 r3 => ?_
  refine ⟨p, q, x, w3, rfl, m3, l3.rep r2, r3, l3.rep (l2.rep r1), ?_⟩
  rw [set_env hC] at z3
  cases y : mSet C p q x [] w3.h with
  | nx e1 h1 =>
    rw [y] at z3
    exact fun w' eh l' m' => z3 w' σ eh l' m' (es3.le l')
  | _ => rw [y] at z3; exact z3.elim
theorem ss_aug {i : Nat} {x : PySem.Str} {ea : Expr} {a : EE} {op : BOp} {pos' pos : Pos} (hop : op = .add ∨ op = .sub) (hN : X.N.Nodup) (hi : X.N[i]? = some x) (hx : Loc X.env.scope x) (ha : SE A T X W ea a) (hf : X.fn x = true ∨ X.env.scope.names.lookup x = some .local) :
    SS A T X W (.AugAssign (.Name x pos') (opOf op) ea pos) (sAug i op a) := by
  have core : ∀ (f : Int → Int → Int), PIp X (opOf op) (ipI f) → (∀ m n, augV op (.int m) (.int n) = some (.int (f m n))) → SS A T X W (.AugAssign (.Name x pos') (opOf op) ea pos) (sAug i op a) := fun f hp hf' => by
    refine PS.imp (ps_aug hN hi hx ha hp hf) fun D σ H ⟨e, w, hH, es, m, z⟩ => ?_
    subst hH
    unfold sAug at z
    split at z
    · rename_i y q
      obtain ⟨u, q1, q2⟩ := es.at_ i y q
      refine ⟨u, q1, st_step (Wd.le.refl w) es m z fun x1 w1 u1 z1 l1 _ m1 es1 r1 => ?_⟩
      have q3 := l1.rep q2
      cases y <;> cases x1 <;> first | exact z1.elim | skip
      cases rep_int q3; cases rep_int r1
      rw [hf'] at z1
      exact ⟨_, _, rfl, rfl, z1 w1 _ rfl (Wd.le.refl w1) m1 (es1.set (x := .int _) (v := .int _) (by simp [Rep]) i)⟩
    · exact z.elim
  rcases hop with h | h
  · subst h
    exact core (· + ·) ip_add fun _ _ => rfl
  · subst h
    exact core (· - ·) ip_sub fun _ _ => rfl

/-! ### loops -/
theorem ss_for {tg : Tg} {et iter : Expr} {body : List Stmt} {it : EI} {b : En → Hm → S} {pos : Pos} (hp : PassesOwn (model X.prog X.w) X.A X.env X.xe) (hc : X.calm = true) (hi : SI A T X W et iter it) (hg : PG X et (rG A T X.K tg)) (hb : SSs A T X W body b)
    (hs : ∀ x, foldedSetIterable iter X.env x = pure x) : SS A T X W (.For et iter body [] pos) (sFor it tg b) := by
  refine PS.imp (ps_for hp hc hi hg hb hs) fun D σ H ⟨e, w, hH, es, m, z⟩ => ?_
  subst hH
  unfold sFor at z
  refine ⟨e, w, rfl, es, m, R.wp_mono (R.wp_sb.mp z) (fun p h1 q w1 J eh l1 m1 wk => ?_) fun c v h q => X0.of (Wd.le.refl w) es q⟩
  subst eh
  obtain ⟨k1, k2⟩ := wk
  refine ⟨fun i n σ' H' => n = p.1.length - i ∧ i ≤ p.1.length ∧ ∃ (e' : En) (w' : Wd), w'.H = H' ∧ w1.le w' ∧ MR A T X.K w' ∧ EsR A T w' e' σ' ∧ (forL p.2 tg b (p.1.drop i) e' w'.h).wp (po A T X.K w W D), ⟨p.1.length, by simp, Nat.zero_le _, e, w1, rfl, Wd.le.refl w1, m1, es.le l1, by simpa using q⟩, ?_⟩
  rintro i n σ1 H1 ⟨rfl, hi, e1, w2, rfl, l2, m2, es2, z2⟩
  have l02 := l1.trans l2
  by_cases hlt : i < p.1.length
  · have ed : p.1.drop i = p.1[i] :: p.1.drop (i + 1) := List.drop_eq_getElem_cons hlt
    rw [ed] at z2
    unfold forL at z2
    split at z2
    · rename_i hgk
      split at z2
      · rename_i e3 hset
        obtain ⟨h3, h4⟩ := k1 i p.1[i] w2 (List.getElem?_eq_getElem hlt) l2 m2 hgk
        refine .inr ⟨h3, fun σ' H' => ∃ (e' : En) (w' : Wd), w'.H = H' ∧ w1.le w' ∧ MR A T X.K w' ∧ EsR A T w' e' σ' ∧ (forL p.2 tg b (p.1.drop (i + 1)) e' w'.h).wp (po A T X.K w W D), fun σ' H' k => ⟨p.1.length - (i + 1), by omega, rfl, hlt, k⟩, fun x H' hy => ?_⟩
        obtain ⟨w3, eH, eh, l3, m3, r3⟩ := h4 x H' hy
        subst eH
        refine ⟨p.1[i], e1, e3, w3, rfl, es2.le l3, m3, r3, hset, fun σ' es3 _ => ?_⟩
        refine ⟨e3, w3, rfl, es3, m3, ?_⟩
        rw [eh]
        have l03 := l02.trans l3
        have l13 := l2.trans l3
        have nx : ∀ e4 h4, (forL p.2 tg b (p.1.drop (i + 1)) e4 h4).wp (po A T X.K w W D) → kN A T X.K w3 (fun σ' H' => ∃ (e' : En) (w' : Wd), w'.H = H' ∧ w1.le w' ∧ MR A T X.K w' ∧ EsR A T w' e' σ' ∧ (forL p.2 tg b (p.1.drop (i + 1)) e' w'.h).wp (po A T X.K w W D)) e4 h4 := fun e4 h4 q4 w4 σ4 eh4 l4 m4 es4 => by
          subst eh4
          exact ⟨e4, w4, rfl, l13.trans l4, m4, es4, q4⟩
        exact S.wp_mono (S.wp_turn.mp z2) nx (fun e4 h4 q4 => kN.le l03 q4) nx (fun e4 h4 q4 => K0.le l03 q4) (fun _ _ _ _ q w' σ' cls d e1 l' m r x => q w' σ' cls d e1 (l03.trans l') m r x)
      · exact z2.elim
    · exact z2.elim
  · have e0 : i = p.1.length := by omega
    subst e0
    rw [List.drop_length] at z2
    unfold forL at z2
    split at z2
    · rename_i hgk
      exact .inl ⟨k2 w2 l2 m2 hgk, z2 w2 σ1 rfl l02 m2 es2⟩
    · exact z2.elim
theorem ss_while {ec : Expr} {body : List Stmt} {c : EE} {b : En → Hm → S} {n : Nat} {pos : Pos} (hp : PassesOwn (model X.prog X.w) X.A X.env X.xe) (hc : ST A T X W ec c) (hb : SSs A T X W body b) : SS A T X W (.While ec body [] pos) (fun e h => whileL c b n e h) := by
  refine PS.imp (ps_while hp hc hb) fun D σ H ⟨e, w, hH, es, m, z⟩ => ?_
  subst hH
  refine ⟨fun k σ' H' => ∃ (e' : En) (w' : Wd), w'.H = H' ∧ w.le w' ∧ MR A T X.K w' ∧ EsR A T w' e' σ' ∧ (whileL c b k e' w'.h).wp (po A T X.K w W D), ⟨n, e, w, rfl, Wd.le.refl w, m, es, z⟩, ?_⟩
  rintro k σ1 H1 ⟨e1, w1, rfl, l1, m1, es1, z1⟩
  cases k with
  | zero => exact z1.elim
  | succ k =>
    unfold whileL at z1
    refine st_step0 l1 es1 m1 z1 fun x w2 u z2 l2 l02 m2 es2 r2 => ?_
    split at z2
    · cases rep_bl r2
      refine ⟨true, rfl, ?_⟩
      simp only [if_true]
      refine ⟨fun σ' H' => ∃ (e' : En) (w' : Wd), w'.H = H' ∧ w.le w' ∧ MR A T X.K w' ∧ EsR A T w' e' σ' ∧ (whileL c b k e' w'.h).wp (po A T X.K w W D), fun σ' H' q => ⟨k, Nat.lt_succ_self k, q⟩, ?_⟩
      have nx : ∀ e4 h4, (whileL c b k e4 h4).wp (po A T X.K w W D) → kN A T X.K w2 (fun σ' H' => ∃ (e' : En) (w' : Wd), w'.H = H' ∧ w.le w' ∧ MR A T X.K w' ∧ EsR A T w' e' σ' ∧ (whileL c b k e' w'.h).wp (po A T X.K w W D)) e4 h4 := fun e4 h4 q4 w4 σ4 eh4 l4 m4 es4 => by
        subst eh4
        exact ⟨e4, w4, rfl, l02.trans l4, m4, es4, q4⟩
      exact ⟨e1, w2, rfl, es2, m2, S.wp_mono (S.wp_turn.mp z2) nx (fun e4 h4 q4 => kN.le l02 q4) nx (fun e4 h4 q4 => K0.le l02 q4) (fun _ _ _ _ q w' σ' cls d e1 l' m r x => q w' σ' cls d e1 (l02.trans l') m r x)⟩
    · cases rep_bl r2
      refine ⟨false, rfl, ?_⟩
      simp only [Bool.false_eq_true, if_false]
      exact z2 w2 σ1 rfl l02 m2 es2
    · exact z2.elim
end
end Sd

set_option Elab.async false
set_option linter.all false
set_option maxRecDepth 100000
set_option maxHeartbeats 1000000
/-! comprehensions. -/
namespace MP
theorem R.noex_wp {α : Type} {r : R α} {Q : α → Hm → Prop} {E E' : Nat → MV → Hm → Prop} (z : (noex r).wp Q E) : r.wp Q E' := by
  cases r with
  | ok a h => exact z
  | ex c v h => exact z.elim
  | bad => exact z.elim
end MP
namespace Sd
open PySem L2 MP
theorem wipe_get (σ : L2.St) (j : Nat) : ∀ vs : List Nat, (L2.wipe σ vs)[j]? = if j ∈ vs then (σ[j]?).map (fun _ => none) else σ[j]?
  | [] => by simp [L2.wipe]
  | v :: vs => by
    show ((L2.wipe σ vs).set v none)[j]? = _
    by_cases h : v = j
    · subst h
      by_cases hl : v < σ.length
      · rw [List.getElem?_set_self (by rw [wipe_length]; exact hl)]
        simp [List.getElem?_eq_getElem hl]
      · rw [List.getElem?_eq_none (by rw [List.length_set, wipe_length]; omega)]
        simp [List.getElem?_eq_none (by omega : σ.length ≤ v)]
    · rw [List.getElem?_set_ne h, wipe_get σ j vs]
      have : (j ∈ v :: vs) = (j ∈ vs) := by simp [Ne.symm h]
      simp [this]
theorem wipe_wipe (σ : L2.St) (vs : List Nat) : L2.wipe (L2.wipe σ vs) vs = L2.wipe σ vs := by
  apply List.ext_getElem?
  intro j
  rw [wipe_get, wipe_get]
  split
  · cases σ[j]? <;> rfl
  · rfl
section
variable {A : Ad} {T : Tb} {X : Cx} {W : WX}
/-- within a block nothing leaves -/
def W0 : WX := fun _ _ _ _ => False
abbrev STs (A : Ad) (T : Tb) (X : Cx) (W : WX) (ifs : List Expr) (d : EE) : Prop := PTs X ifs (rT A T X.K W d)
theorem PTs.imp {X : Cx} {e : List Expr} {t t' : TT} (h : PTs X e t) (q : ∀ σ H Q, t' σ H Q → t σ H Q) : PTs X e t' := ⟨fun pins s σ H Q I z => h.run pins s σ H Q I (q σ H Q z)⟩
theorem sts_nil : STs A T X W [] eTrue := PTs.imp pts_nil fun σ H Q ⟨e, w, hH, es, m, z⟩ => by
  subst hH
  obtain ⟨b, h1, h2⟩ := (show K0 A T X.K w (fun v H' => ∃ b, v = .bl b ∧ Q b H') (.bl true) w.h from z).flat (u := .bl true) m rfl
  cases h1
  exact h2
theorem sts_one {ec : Expr} {c : EE} (h : ST A T X W ec c) : STs A T X W [ec] c := pts_one h
/-- a block's list: what each turn is asked -/
theorem lc_core {tg : Tg} {it : EI} {c el : EE} {own : List Nat} {σ : L2.St} {H : Hp} {Q : VK} {sub : ∀ i ∈ Tg.sl tg, i ∈ own} (z : rE A T X.K W (eLc it tg c el own) σ H Q) :
    tLc (rI A T X.K W it) (rG A T X.K tg) (rT A T X.K W0 c) (rE A T X.K W0 el) own σ H Q := by
  obtain ⟨e, w, hH, es, m, z⟩ := z
  subst hH
  refine ⟨e, w, rfl, es, m, R.wp_mono (R.wp_bind.mp z) (fun p h1 q w1 J eh l1 m1 wk => ?_) fun c v h q => q⟩
  subst eh
  intro D hD
  obtain ⟨k1, k2⟩ := wk
  have x0 : Ex A T X.K w1 ⟨w1.F, w1.ι, w1.h, upd w1.H D (.lst [])⟩ D (.lst []) := Ex.start m1 hD
  have es1 := es.le l1
  let P : List MV → Hm → Prop := fun ys h => K0 A T X.K w Q (.obj h.length) (h ++ [.lst ys])
  let Inv' : Nat → Hp → Prop := fun i H' => ∃ (acc : List MV) (w' : Wd) (vs : List V), w'.H = H' ∧ Ex A T X.K w1 w' D (.lst vs) ∧ w'.reps A T acc vs ∧ (lcL p.2 tg c el (wipeE e own) (p.1.drop i) acc w'.h).wp P (X0 A T X.K w fun cls d' H' => W cls d' σ H')
  refine ⟨fun i n H' => n = p.1.length - i ∧ i ≤ p.1.length ∧ Inv' i H', ⟨p.1.length, by simp, Nat.zero_le _, [], _, [], rfl, x0, Reps.nil, by rw [List.drop_zero]; exact R.wp_bind.mp q⟩, ?_⟩
  rintro i n H1 ⟨rfl, hi, acc, w2, vs, rfl, x2, r2, z2⟩
  by_cases hlt : i < p.1.length
  · have ed : p.1.drop i = p.1[i] :: p.1.drop (i + 1) := List.drop_eq_getElem_cons hlt
    rw [ed] at z2
    unfold lcL at z2
    split at z2
    · rename_i hgk
      split at z2
      · rename_i e3 hset
        obtain ⟨h3, h4⟩ := k1 i p.1[i] w2 (List.getElem?_eq_getElem hlt) x2.l x2.m hgk
        refine .inr ⟨h3, Inv' (i + 1), fun H' k => ⟨p.1.length - (i + 1), by omega, rfl, hlt, k⟩, fun x H' hy => ?_⟩
        obtain ⟨w3, eH, eh, l3, m3, r3⟩ := h4 x H' hy
        subst eH
        refine ⟨p.1[i], wipeE e own, e3, w3, rfl, ((es1.le (x2.l.trans l3)).wipe own), m3, r3, hset, fun σ' es3 hw => ⟨?_, ?_⟩⟩
        · rw [hw own sub, wipe_wipe]
        · rw [← eh] at z2
          refine re_step (Wd.le.refl w3) es3 m3 (R.noex_wp (R.wp_bind.mp z2)) fun y w4 u z4 l4 _ m4 es4 r4 => ?_
          have x4 := (x2.step l3 m3).step l4 m4
          split at z4
          · cases rep_bl r4
            refine ⟨true, rfl, ?_⟩
            simp only [if_true]
            refine re_step (Wd.le.refl w4) es4 m4 (R.noex_wp (R.wp_bind.mp z4)) fun y w5 u z5 l5 _ m5 es5 r5 => ?_
            have x5 := x4.step l5 m5
            have r6 := l5.reps (l4.reps (l3.reps r2))
            split at z5
            · rename_i hl
              refine ⟨vs, x5.h1, by rw [r6.length, ← lim_eq]; exact hl, acc ++ [y], _, vs ++ [u], rfl, x5.poke (fun _ _ q => by cases q), r6.append (Reps.cons r5 Reps.nil), z5⟩
            · exact z5.elim
          · cases rep_bl r4
            refine ⟨false, rfl, ?_⟩
            simp only [Bool.false_eq_true, if_false]
            exact ⟨acc, w4, vs, rfl, x4, l4.reps (l3.reps r2), z4⟩
          · exact z4.elim
      · exact z2.elim
    · exact z2.elim
  · have e0 : i = p.1.length := by omega
    subst e0
    rw [List.drop_length] at z2
    unfold lcL at z2
    split at z2
    · rename_i hgk
      exact .inl ⟨k2 w2 x2.l x2.m hgk, K0.adopt l1 x2 z2 trivial ⟨vs, rfl, r2⟩⟩
    · exact z2.elim
theorem se_lc {eel et iter : Expr} {ifs : List Expr} {scope : Scope} {own : List (PySem.Str × Nat)} {pos : Pos} {tg : Tg} {it : EI} {c el : EE} (hc : X.calm = true) (hN : X.N.Nodup) (hi : SI A T X W et iter it) (ok : BlkOk X.N X.env.scope scope own) (sub : ∀ i ∈ Tg.sl tg, i ∈ own.map (·.2))
    (hg : ∀ (s : Shared) (H : Hp) (C : Addr) (cl : List (PySem.Str × Addr)) (fp : List Addr), PG (X.blk s H scope (compEnvC scope cl C X.env) fp) et (rG A T X.K tg)) (ht : ∀ (s : Shared) (H : Hp) (C : Addr) (cl : List (PySem.Str × Addr)) (fp : List Addr), STs A T (X.blk s H scope (compEnvC scope cl C X.env) fp) W0 ifs c)
    (he : ∀ (s : Shared) (H : Hp) (C : Addr) (cl : List (PySem.Str × Addr)) (fp : List Addr), SE A T (X.blk s H scope (compEnvC scope cl C X.env) fp) W0 eel el) (hs : ∀ x, foldedSetIterable iter X.env x = pure x) :
    SE A T X W (.ListComp eel [⟨et, iter, ifs, 0⟩] scope pos) (eLc it tg c el (own.map (·.2))) :=
  PE.imp (pe_lc (te := rE A T X.K W0 el) (tt := rT A T X.K W0 c) hc hN hi ok hg ht he hs) fun σ H Q z => lc_core (sub := sub) z
theorem ss_setLc {i : Nat} {y : PySem.Str} {py : Pos} {eel et iter : Expr} {ifs : List Expr} {scope : Scope} {own : List (PySem.Str × Nat)} {pos spos : Pos} {tg : Tg} {it : EI} {c el : EE} (hc : X.calm = true) (hN : X.N.Nodup) (hy : X.N[i]? = some y) (hyl : X.env.scope.names.lookup y = some .local)
    (hsw : swapsWith (.ListComp eel [⟨et, iter, ifs, 0⟩] scope pos) (some (.Name y py)) spos.line X.env = pure true) (hi : SI A T X W et iter it) (ok : BlkOk X.N X.env.scope scope own) (sub : ∀ i ∈ Tg.sl tg, i ∈ own.map (·.2))
    (hg : ∀ (s : Shared) (H : Hp) (C : Addr) (cl : List (PySem.Str × Addr)) (fp : List Addr), PG (X.blk s H scope (compEnvC scope cl C X.env) fp) et (rG A T X.K tg)) (ht : ∀ (s : Shared) (H : Hp) (C : Addr) (cl : List (PySem.Str × Addr)) (fp : List Addr), STs A T (X.blk s H scope (compEnvC scope cl C X.env) fp) W0 ifs c)
    (he : ∀ (s : Shared) (H : Hp) (C : Addr) (cl : List (PySem.Str × Addr)) (fp : List Addr), SE A T (X.blk s H scope (compEnvC scope cl C X.env) fp) W0 eel el) (hs : ∀ x, foldedSetIterable iter X.env x = pure x) :
    SS A T X W (.Assign [.Name y py] (.ListComp eel [⟨et, iter, ifs, 0⟩] scope pos) spos) (fun e h => (eLc it tg c el (own.map (·.2)) e h).sb e fun x h => .nx (e.set i (some x)) h) := by
  refine PS.imp (ps_setLc (te := rE A T X.K W0 el) (tt := rT A T X.K W0 c) hc hN hy hyl hsw hi ok hg ht he hs) fun D σ H ⟨e, w, hH, es, m, z⟩ => ?_
  subst hH
  refine lc_core (sub := sub) (st_step (Wd.le.refl w) es m z fun x w1 u z1 l1 _ m1 es1 r1 => z1 w1 _ rfl (Wd.le.refl w1) m1 (es1.set r1 i))
end
end Sd

set_option Elab.async false
set_option linter.all false
set_option maxRecDepth 100000
set_option maxHeartbeats 2000000
/-! An own exception over ValueError whose __init__ says super().__init__(x) and self.f = x. -/
namespace Xn
open PySem PySem.W PySem.Calls PyProof.Rows PySem.HandSPX
abbrev vi : String := "ValueError.__init__"
section
variable {prog : Program} {w : World} {A : Around} {E : Value → Shared → Prop} {h : Heap} {g : Array GenState} {d : Drawn} {t : Nat} {os : OsState}
variable {nm q : PySem.Str} {C N : Addr} {bs bm : List Value} {hdct : Bool} {sn : List PySem.Str} {sub : List Value} {ab : Bool} {col : Option Bool} {dd : Option Addr} {k0 k1 k2 k3 k5 : Option Value}
theorem call_vw {u e t0 : Addr} {rest : List Value} {Q : Value → Shared → Prop}
    (hC : h.get? C = some (excClassObj nm q C N bs bm hdct sn sub ab col dd k0 k1 k2 k3 k5 "ValueError.__new__")) (he : h.get? e = some (excO C t0)) (hu : h.get? u = some (kxs_mw vi e)) (hrest : rest.length ≤ sizeLine)
    (hq : ∀ h' t1, (∀ b o, b ≠ e → h.get? b = some o → h'.get? b = some o) → h'.get? e = some (excO C t1) → Q .none ⟨h', g, d, t, os⟩) :
    wpAny (model prog w) A (call (.ref u) rest) Q E ⟨h, g, d, t, os⟩ := by
  refine wpAny_call (codeAny_of_tree ?_)
  show wpAny _ A.in1 (callAny (.ref u) ⟨rest, []⟩) _ _ _
  simp only [callAny]
  refine wpAny_bind (wpAny_load hu ?_)
  simp only [kxs_mw, show (Value.type "method-wrapper" == Value.type "method" || Value.type "method-wrapper" == Value.type "builtin_function_or_method" || Value.type "method-wrapper" == Value.type "method-wrapper") = true by decide, if_true]
  refine KFB.if_so (by decide) ?_
  refine wpAny_bind (PySem.ESX.check_bound F.excBase_ValueError hC he rfl ?_)
  refine wpAny_bind (wpAny_pure (wpAny_pure ?_))
  refine ⟨plainId_quiet F.excBase_ValueError.init.plain _, codeAny_builtin F.excBase_ValueError.initEntry ?_⟩
  refine exc_init_tree (cls := .ref C) (t0 := t0) (dv := none) (c2 := .none) (c3 := .none) (b4 := .bool false) he hrest fun h' k e' t' => ?_
  exact hq h' h.objs.size k e'
end
/-- what the written part says of such a class and of its __init__ -/
structure ErrTxt (P : Program) (K : Frag) (mg : PySem.Str → Option Value) (nm f : PySem.Str) (C fI : Addr) : Prop where
  gC : mg nm = some (.ref C)
  cls : ∃ nm q N bs bm sn sub ab col dd k0 k1 k2 k3 k5, K.lookup C = some (excClassObj nm q C N bs bm true sn sub ab col dd k0 k1 k2 k3 k5 "ValueError.__new__") ∧ refsVE bm = true
  sa : findIn K (.ref C) "__setattr__" = some (some (.builtin "object.__setattr__"))
  noN : findIn K (.ref C) f = some none
  iC : findIn K (.ref C) "__init__" = some (some (.ref fI))
  tC : typeIn K (.ref fI) = some (.type "function")
  kC : keepIn K (.ref C) = true
  exC : subIn K (.ref C) (.type "BaseException") = some true
  tyC : typeIn K (.ref C) = some (.type "type")
  sub : subIn K (.ref C) (.type "ValueError") = some true
  sup : ks_superIn K C C "__init__" = some (some (.builtin vi))
  opq : nsIn K cStatics "thirdparty.any" = some none
  top : (P.main.scope.names.lookup ("super" : PySem.Str)).isSome = false
  sg : mg "super" = none
  nf : (("self" : PySem.Str) == f) = false
  fn : ∃ (oc : Value) (od : Option Addr) (qual : PySem.Str) (params : Arguments) (scope : Scope) (dV kV doc pm ct : Value) (an : Option Addr) (cda cc : Addr) (osl : Array (Option Value)) (q0 q1 q2 q3 q4 q5 q6 q7 q8 q9 : Pos)
      (ccl cl : Value) (cdd cld : Option Addr) (vs : Array Value) (ccs csl : Array (Option Value)) (file : PySem.Str) (tf : Tok) (ar : Arg),
    K.lookup fI = some ⟨oc, od, .func (ksFn "__init__" qual params [.Expr (.Call (.Attribute (.Call (.Name "super" q0) [] [] q1) "__init__" q2) [.Name f q3] [] q4) q5, .Assign [.Attribute (.Name "self" q6) f q7] (.Name f q8) q9] scope dV kV doc pm an (.ref cda) ct cc), osl⟩ ∧
    codeIn K (.ref cda) qual = true ∧ K.lookup cda = some ⟨ccl, cdd, .fields vs, ccs⟩ ∧ vs[2]? = some (.str file tf) ∧ ((P.main.file : PySem.Str) == file) = true ∧ K.lookup cc = some ⟨cl, cld, .cell (some (.ref C)), csl⟩ ∧
    (params.posonlyargs ++ params.args).head? = some ar ∧ ar.arg = "self" ∧
    (∀ (s : Shared) (x v : Value), K.In s.heap → BindsTo s (ksFn "__init__" qual params [.Expr (.Call (.Attribute (.Call (.Name "super" q0) [] [] q1) "__init__" q2) [.Name f q3] [] q4) q5, .Assign [.Attribute (.Name "self" q6) f q7] (.Name f q8) q9] scope dV kV doc pm an (.ref cda) ct cc) ⟨[x, v], []⟩ [(("self" : PySem.Str), x), (f, v)]) ∧
    scope.names.lookup ("super" : PySem.Str) = some .globalImplicit ∧ scope.names.lookup ("__class__" : PySem.Str) = some .free ∧ scope.names.lookup ("self" : PySem.Str) = some .local ∧ scope.names.lookup f = some .local ∧
    (∀ x ∈ scope.names, x.2 ≠ .cell) ∧ scope.isCoroutine = false ∧ scope.isGenerator = false ∧ scope.kind = .function ∧ (f == ("__debug__" : PySem.Str)) = false ∧ (q2.endLine == q4.line) = true
/-- what __init__ leaves of a fresh exception at x -/
structure InitEnd (h h' : Heap) (x C dx t1 : Addr) (f : PySem.Str) (v : Value) : Prop where
  keep : ∀ b o, b ≠ x → h.get? b = some o → h'.get? b = some o
  obj : h'.get? x = some { cls := .ref C, dict := some dx, data := .fields #[.ref t1, .none, .none, .none, .bool false, .none] }
  dbig : h.objs.size ≤ dx
  dne : dx ≠ x
  ns : h'.Ns1 dx (fun y => if y = f then some v else none)
/-- a made one -/
structure OwnMade (h h' : Heap) (e C d : Addr) (f : PySem.Str) (v : Value) : Prop where
  keep : ∀ b o, h.get? b = some o → h'.get? b = some o
  new : h.objs.size ≤ e
  obj : ∃ oe vs, h'.get? e = some oe ∧ oe.cls = .ref C ∧ oe.dict = some d ∧ oe.data = .fields vs ∧ vs[1]? = some .none
  dbig : h.objs.size ≤ d
  dne : d ≠ e
  ns : h'.Ns1 d (fun y => if y = f then some v else none)
section
variable {prog : Program} {w : World} {A : Around} {E : Value → Shared → Prop} {R : Result → Shared → Prop} {s : Shared} {K : Frag} {mg : PySem.Str → Option Value} {nm f : PySem.Str} {C fI : Addr}
theorem one_size (v : Value) : [v].length ≤ sizeLine := by
  rw [sizeLine_eq]
  exact (by decide : 1 ≤ 16777216)
theorem kept_but {K : Frag} {h h' : Heap} {x : Addr} (X : K.In h) (hx : K.lookup x = none) (k : ∀ b o, b ≠ x → h.get? b = some o → h'.get? b = some o) : K.In h' := fun a o e =>
  k a o (fun z => by rw [z, hx] at e; cases e) (X a o e)
theorem ldE {M : Model} {A : Around} {E : Value → Shared → Prop} {s : Shared} {env : Env} {L : Addr} {m : PySem.Str → Option Value} {x : PySem.Str} {pos : Pos} {v : Value} {Q : Value → Shared → Prop} (hL : env.locals = L) (hn : s.heap.Ns L m) (hv : m x = some v) (h : Q v s)
    (hk : env.scope.kind = .function) (hl : env.kindOf x = some .local) (hd : (x == ("__debug__" : PySem.Str)) = false) : wpAny M A (eval (.Name x pos) env) Q E s := by
  subst hL
  exact wpAny_Name (wpAny_loadName_local hk hl hn hv h) hd
theorem call_eq {o : Expr} {name : PySem.Str} {apos pos : Pos} {e : Expr} {env : Env} (hln : (apos.endLine == pos.line) = true) (hs : starEach [e] env = [(false, eval e env)] := by rfl) :
    eval (.Call (.Attribute o name apos) [e] [] pos) env = (do
      let ov ← attributeBase o name env (eval o env)
      standAt apos.atName
      let (f, first) ← holding [ov] (getMethod ov name (do return (← importBound o env).getD true))
      callWith pos f first (backTo pos (starEach [e] env)) []) := by
  have h1 : ∀ b, methodCallPos b o env apos pos = pure pos := fun b => by
    unfold methodCallPos
    rw [hln, Bool.or_true]
    rfl
  show (do
    let ov ← attributeBase o name env (eval o env)
    standAt apos.atName
    methodCall o name apos pos env ov 1 (backTo pos (starEach [e] env)) (backToKw pos (keywordEach [] env))) = _
  unfold methodCall
  simp only [h1]
  rw [hs]
  rfl
theorem err_init (T : ErrTxt prog K mg nm f C fI) {x t0 : Addr} {v : Value} (X : K.In s.heap) (hlim : s.heap.NoLimit) (hgl : s.heap.Ns mainGlobals mg) (hbl : ∃ mb, s.heap.Ns builtinsNs mb ∧ ∀ x : PySem.Str, x ≠ "__name__" → mb x = bootBuiltins x)
    (hx : s.heap.get? x = some (excO C t0)) (hnx : K.lookup x = none) (hroom : A.depth < recursionLimit)
    (hq : ∀ h' tk dx t1, InitEnd s.heap h' x C dx t1 f v → R (.ok (.ret .none)) { s with heap := h', toks := tk }) :
    codeAny (model prog w) A (.call (.ref fI) ⟨[.ref x, v], []⟩) R s := by
  obtain ⟨oc, od, qual, params, scope, dV, kV, doc, pm, ct, an, cda, cc, osl, q0, q1, q2, q3, q4, q5, q6, q7, q8, q9, ccl, cl, cdd, cld, vs, ccs, csl, file, tf, ar, ho, hcd, hcode, hvs, hfile, hcell, hp, har, hb, n1, n2, n3, n4, ncell, nco, ngen, nk, nd, hln⟩ := T.fn
  obtain ⟨nmc, qc, N, bs, bm, sn, sub, ab, col, dd, k0, k1, k2, k3, k5, hC, hbm⟩ := T.cls
  have hcl : clsIn K C = some { name := nmc, bases := bs, mro := .ref C :: bm, ns := N, qualname := qc, hasDict := true, slotNames := sn, subclasses := sub, abstract := ab, collection := col, hasDel := false } := by unfold clsIn; rw [hC] <;> rfl
  have nf' : (f == ("self" : PySem.Str)) = false := by
    cases z : (f == ("self" : PySem.Str)) with
    | false => rfl
    | true =>
      have := T.nf
      rw [eq_of_beq z] at this
      simp at this
  refine ks_codeAny_call_defAt (binds := [("self", .ref x), (f, v)]) hroom (X _ _ ho) rfl hlim (codeRec_of X hcd) rfl (hb s _ _ X) ncell (fun y hy => ?_) (fun h₁ hns k => ?_) nco ngen nk
  · rcases List.mem_cons.mp hy with rfl | hy
    · exact n3
    · rcases List.mem_cons.mp hy with rfl | hy
      · exact n4
      · cases hy
  generalize henv : callEnv (ksFn "__init__" qual params [.Expr (.Call (.Attribute (.Call (.Name "super" q0) [] [] q1) "__init__" q2) [.Name f q3] [] q4) q5, .Assign [.Attribute (.Name "self" q6) f q7] (.Name f q8) q9] scope dV kV doc pm an (.ref cda) ct cc) s.heap.objs.size fI = env
  have eL : env.locals = s.heap.objs.size := by subst henv; rfl
  have ek : env.scope.kind = .function := by subst henv; exact nk
  have es : env.kindOf "super" = some .globalImplicit := by subst henv; exact n1
  have ec : env.kindOf "__class__" = some .free := by subst henv; exact n2
  have eself : env.kindOf "self" = some .local := by subst henv; exact n3
  have ef : env.kindOf f = some .local := by subst henv; exact n4
  have efn : env.func = some fI := by subst henv; rfl
  have eco : env.code = .ref cda := by subst henv; rfl
  have ecl : env.cells.lookup ("__class__" : PySem.Str) = some cc := by subst henv; rfl
  have egl : env.globals = mainGlobals := by subst henv; rfl
  have ebl : env.builtins = builtinsNs := by subst henv; rfl
  have X₁ : K.In h₁ := X.keeps k
  have hx₁ := k _ _ hx
  have hC₁ := X₁ _ _ hC
  have mself : (fun y => List.lookup y ([("self", Value.ref x), (f, v)] : List (PySem.Str × Value)).reverse) "self" = some (.ref x) := by
    show List.lookup ("self" : PySem.Str) [(f, v), ("self", .ref x)] = _
    rw [List.lookup_cons, T.nf]
    rfl
  have mf : (fun y => List.lookup y ([("self", Value.ref x), (f, v)] : List (PySem.Str × Value)).reverse) f = some v := by
    show List.lookup f [(f, v), ("self", .ref x)] = _
    rw [List.lookup_cons, beq_self_eq_true]
  have hxL : s.heap.objs.size ≠ x := Nat.ne_of_gt (Heap.lt_size hx)
  have hxC : x ≠ C := fun z => by rw [z, hC] at hnx; cases hnx
  refine ks_wpAt_execs_cons (ks_wpAt_Expr_any ?_ (by simp [interactive, ek]) rfl)
  refine ks_wpAt_MethodCall (pl := do return (← importBound (.Call (.Name "super" q0) [] [] q1) env).getD true) ?_ (call_eq hln)
  refine ks_wpAt_super_base es ec rfl efn (X₁ _ _ ho) rfl hp eco (X₁ _ _ hcode) rfl hvs hfile T.top ?_
  obtain ⟨mb, hb1, hb2⟩ := hbl
  refine ks_loadName_global ek es (loadGlobal_builtin (by rw [egl]; exact hgl.keeps k) T.sg (by rw [ebl]; exact hb1.keeps k) ((hb2 _ (by decide)).trans (by decide +kernel)) ⟨rfl, ?_⟩)
  refine wpAny_loadName_free ek ec ecl ⟨_, X₁ _ _ hcell, rfl⟩ ?_
  rw [har]
  refine wpAny_loadName_local ek eself (by rw [eL]; exact hns) mself ?_
  refine ks_wpAny_isType_cls hC₁ rfl ⟨rfl, ?_⟩
  refine ks_wpAny_call_super hC₁ rfl hx₁ rfl (fun c e => by cases e) (looks_mroIn X₁ ?_) (fun h₂ e₂ kk₂ => ?_)
  · unfold mroIn
    rw [hcl]
    simp
  have X₂ := X₁.keeps kk₂
  have hx₂ := kk₂ _ _ hx₁
  have I₂ : InstAt h₂ x (excO C t0) C none := ⟨hx₂, rfl, rfl, trivial⟩
  have hI : Looks (model prog w) h₂ (isInstance (.ref x) (.type "ValueError")) true := I₂.type.andThen (looks_subIn X₂ T.sub)
  have hsup := T.sup
  unfold ks_superIn at hsup
  rw [hcl] at hsup
  refine kxs_getMethod kxs_ValueError e₂ (looks_opaque X₂ T.opq) (l₀ := .ref C :: bm) (fun A Q E s k q => wpAny_bind ((looks_clsIn X₂ hcl) A _ E s k (wpAny_pure q))) rfl X₂ hsup hI hxC rfl ?_
  have kk₃ : ∀ b o, h₂.get? b = some o → (h₂.push (kxs_mw vi x)).get? b = some o := fun b o e => Heap.get?_push_of_some _ e
  have hmw : (h₂.push (kxs_mw vi x)).get? h₂.objs.size = some (kxs_mw vi x) := Heap.get?_push_at rfl rfl
  have hns₃ : (h₂.push (kxs_mw vi x)).Ns s.heap.objs.size _ := (hns.keeps kk₂).keeps kk₃
  refine kxs_callWith (i := vi) (x := x) rfl (evalArgs_plain ?_)
  refine args_cons (ldE eL hns₃ mf (args_nil ⟨hmw, ?_⟩) ek ef nd) rfl
  refine call_vw (kk₃ _ _ (kk₂ _ _ hC₁)) (kk₃ _ _ hx₂) hmw (one_size v) fun h₄ t1 k₄ hx₄ => ?_
  have k14 : ∀ b o, b ≠ x → h₁.get? b = some o → h₄.get? b = some o := fun b o hb e => k₄ b o hb (kk₃ b o (kk₂ b o e))
  have X₄ : K.In h₄ := kept_but X₁ hnx k14
  have hns₄ : h₄.Ns s.heap.objs.size _ := hns.at fun o e => k14 _ o hxL e
  refine wpAt_of_wpAny (wpAny_execs_cons (plainObj_wpAny_Assign_Attribute ?_))
  refine ldE eL hns₄ mf (ldE eL hns₄ mself ?_ ek eself rfl) ek ef nd
  refine set_plain X₄ (ox := excO C t1) (od := none) ⟨hx₄, rfl, rfl, trivial⟩ T.sa ?_
  refine exc_osa X₄ hx₄ hcl (show refsVE (.ref C :: bm) = true from hbm) rfl T.noN (fun h₅ tk₅ dx k₅ dn dne hx₅ hn₅ => ?_)
  refine wpAny_execs_nil (hq h₅ tk₅ dx t1 ⟨fun b o hb e => k₅ b o hb (k14 b o hb (k b o e)), hx₅, ?_, dne, hn₅⟩)
  have z : s.heap.objs.size < h₄.objs.size := hns₄.lt
  exact Nat.le_of_lt (Nat.lt_of_lt_of_le z dn)
theorem err_made (T : ErrTxt prog K mg nm f C fI) {v : Value} (X : K.In s.heap) (hlim : s.heap.NoLimit) (hgl : s.heap.Ns mainGlobals mg) (hbl : ∃ mb, s.heap.Ns builtinsNs mb ∧ ∀ x : PySem.Str, x ≠ "__name__" → mb x = bootBuiltins x) (hroom : A.depth + 1 < recursionLimit)
    (hq : ∀ h' tk e d, OwnMade s.heap h' e C d f v → R (.ok (.ret (.ref e))) { s with heap := h', toks := tk }) :
    codeAny (model prog w) A (.call (.ref C) ⟨[v], []⟩) R s := by
  obtain ⟨nmc, q, N, bs, bm, sn, sub, ab, col, dd, k0, k1, k2, k3, k5, hC, hbm⟩ := T.cls
  obtain ⟨hp, g, dr, tk, os⟩ := s
  have k : ∀ b o, hp.get? b = some o → ((hp.push (kdv_tup [v])).push (excO C hp.objs.size)).get? b = some o := fun b o e => Heap.get?_push_of_some _ (Heap.get?_push_of_some _ e)
  have hget : ((hp.push (kdv_tup [v])).push (excO C hp.objs.size)).get? (hp.objs.size + 1) = some (excO C hp.objs.size) := by heap_get
  have hnx : K.lookup (hp.objs.size + 1) = none := by
    cases e : K.lookup (hp.objs.size + 1) with
    | none => rfl
    | some o =>
      have z : hp.get? (hp.objs.size + 1) = some o := X _ _ e
      exact absurd (Nat.lt_of_succ_lt (Heap.lt_size z)) (Nat.lt_irrefl _)
  obtain ⟨mb, hb1, hb2⟩ := hbl
  refine call_own F.excBase_ValueError (fun X => refsVE_contains X bm hbm) (X _ _ hC) (looks_findIn X T.iC) (fun self => bind_fn X self T.tC) (one_size v) ?_
  refine err_init (s := ⟨(hp.push (kdv_tup [v])).push (excO C hp.objs.size), g, dr, tk, os⟩) T (X.keeps k) (hlim.keeps k) (hgl.keeps k) ⟨mb, hb1.keeps k, hb2⟩ hget hnx ?_ fun h' tk' dx t1 ⟨k', hx, dn, dne, hns⟩ => ?_
  · show A.depth + 1 < recursionLimit
    exact hroom
  · have old : ∀ b o, hp.get? b = some o → h'.get? b = some o := fun b o e => k' b o (Nat.ne_of_lt (Nat.lt_succ_of_lt (Heap.lt_size e))) (k b o e)
    have z : hp.objs.size + 1 + 1 ≤ dx := by
      first
        | (simpa only [Heap.size_push] using dn)
        | exact dn
        | (have q := dn; rw [Heap.size_push, Heap.size_push] at q; exact q)
    exact ⟨rfl, hq h' tk' (hp.objs.size + 1) dx ⟨old, Nat.le_succ _, ⟨_, _, hx, rfl, rfl, rfl, rfl⟩, Nat.le_trans (Nat.le_trans (Nat.le_succ _) (Nat.le_succ _)) z, dne, hns⟩⟩
end
end Xn
namespace L2
open PySem PySem.Spec PyProof.Rows
theorem relO_one {f : PySem.Str} {v : V} {v' : Value} (r : RelV v v') (g : PySem.Str) : RelO (List.lookup g [(f, v)]) (if g = f then some v' else none) := by
  by_cases hw : g = f
  · subst hw
    rw [if_pos rfl]
    have q : List.lookup g [(g, v)] = some v := by simp [List.lookup]
    rw [q]
    exact r
  · rw [if_neg hw]
    have qw : (g == f) = false := by simpa using hw
    have q2 : List.lookup g [(f, v)] = none := by simp [List.lookup, qw]
    rw [q2]
    trivial
section
variable {X : Cx} {C fI : Addr} {nm f : PySem.Str}
/-- C(e) -/
def tMkErr (C : Addr) (f : PySem.Str) (ta : TA) : St → Hp → XK → Prop := fun σ H Q => ta σ H fun vs H1 => ∃ v, vs = [v] ∧ ∀ d, H1 d = none → Q (.ref C) (some d) (upd H1 d (.xd [(f, v)]))
theorem pmk_err {a : Expr} {ta : TA} {p pos : Pos} {k : Nat} (T : Xn.ErrTxt X.prog X.K X.mg nm f C fI) (hr : Room k X.A) (ha : PA X [a] ta) (hg : Gl X nm) (hdb : (nm == ("__debug__" : PySem.Str)) = false)
    (he : starEach (a :: []) X.env = (false, eval a X.env) :: starEach [] X.env) (hpl : (backTo pos (starEach [] X.env)).any (·.1) = false := by rfl) :
    PMk X (.Call (.Name nm p) [a] [] pos) (tMkErr C f ta) := by
  intro pins s σ H Q I h
  refine wpAny_Call_Name_kw (ld_glob I hg T.gC ?_ hdb)
  refine PySem.W.callWith_K (h₀ := X.base) I.ok.mod.kin T.kC (thn (ha.run pos pins s σ H _ I h) fun us s1 hh => ?_) he hpl
  obtain ⟨vs, H1, I1, r1, v, ev, q1⟩ := hh
  subst ev
  refine ⟨I1.kIn, ?_⟩
  cases r1 with
  | cons rv rn =>
    rename_i v' us'
    cases rn
    show wpAny _ _ (call (.ref C) [v']) _ _ _
    have hlim := I1.nolimit
    have hgl := I1.mod.glob.keeps I1.bk
    have hbl : ∃ mb, s1.heap.Ns builtinsNs mb ∧ ∀ x : PySem.Str, x ≠ "__name__" → mb x = bootBuiltins x := by
      obtain ⟨mb, h1, h2⟩ := I1.mod.blt
      exact ⟨mb, h1.keeps I1.bk, h2⟩
    obtain ⟨hp, g, dr, tk, os⟩ := s1
    refine wpAny_call (Xn.err_made T I1.kIn hlim hgl hbl (by have := hr.dp; omega) fun h' tk' e d M => ?_)
    show MkP X pins σ Q (.ref e) ⟨h', g, dr, tk', os⟩
    obtain ⟨oe, fv, hoe, hc, hd, hdat, h1⟩ := M.obj
    have hns := M.ns
    obtain ⟨G', g1, g2⟩ := restrict h' fun b => decide (b ≠ e)
    have gk : ∀ b, b ≠ e → G'.get? b = h'.get? b := fun b hb => g1 b (decide_eq_true hb)
    have ge : G'.get? e = none := g2 e (by simp)
    have old : ∀ b o, hp.get? b = some o → G'.get? b = some o := fun b o q => (gk b (Nat.ne_of_lt (Nat.lt_of_lt_of_le (Heap.lt_size q) M.new))).trans (M.keep b o q)
    have ob : ObjOk X.prog X.w (upd H1 d (.xd [(f, v)])) G' d (.xd [(f, v)]) :=
      ⟨_, hns.at (fun o q => (gk d M.dne).trans q), fun g => relO_one rv g⟩
    have J : Inv X pins σ (upd H1 d (.xd [(f, v)])) ⟨G', g, dr, tk', os⟩ := I1.laid (t' := tk') old M.dbig ob
    refine ⟨e, oe, fv, ⟨G', g, dr, tk', os⟩, _, .ref C, some d, rfl, J, fun b o q => ?_, ge, hoe, ⟨hc, hd⟩, hdat, h1, ?_, rfl, I1.bare, raises_own T.exC T.tyC, q1 d (I1.hok.fresh M.dbig)⟩
    · by_cases hb : b = e
      · have q' : G'.get? b = some o := q
        rw [hb, ge] at q'; cases q'
      · exact (gk b hb).symm.trans q
    · rw [upd_ne (Ne.symm M.dne)]
      exact I1.hok.fresh M.new
end
end L2

set_option Elab.async false
set_option linter.all false
set_option maxRecDepth 100000
set_option maxHeartbeats 2000000
/-! raise; try with several clauses, each with a name. -/
namespace Sd
open PySem L2 MP
/-- the classes of exceptions of a program -/
structure Errs (A : Ad) (P : Program) (K : PySem.W.Frag) (mg : PySem.Str → Option Value) (nm : Nat → PySem.Str) : Prop where
  txt : ∀ c, c ∈ A.xn → ∃ fI, Xn.ErrTxt P K mg (nm c) (A.xf c) (A.xa c) fI
  xf : ∀ c, c ∈ A.xn → XfC K (A.xa c)
  exm : ∀ c d, c ∈ A.xn → d ∈ A.xn → PySem.W.exmOne K (.ref (A.xa c)) (.ref (A.xa d)) = some (decide (d = c))
section
variable {A : Ad} {T : Tb} {X : Cx} {W : WX}
theorem ss_raise {nm : Nat → PySem.Str} {c k : Nat} {ea : Expr} {a : EE} {p pos pos2 : Pos} (hc : X.calm = true) (R : Errs A X.prog X.K X.mg nm) (hcn : c ∈ A.xn) (hr : Room k X.A) (tk : Takes X W) (ha : SE A T X W ea a) (hg : Gl X (nm c)) (hdb : (nm c == ("__debug__" : PySem.Str)) = false) (hs : noStar ea = true) :
    SS A T X W (.Raise (some (.Call (.Name (nm c) p) [ea] [] pos)) none pos2) (fun e h => (a e h).sb e fun v h => .ex c v e h) := by
  obtain ⟨fI, E⟩ := R.txt c hcn
  refine PS.imp (ps_raise hc tk (pmk_err E hr (pa_cons ha pa_nil (star_cons hs)) hg hdb (star_cons hs) rfl)) fun D σ H ⟨e, w, hH, es, m, z⟩ => ?_
  subst hH
  refine st_step0 (Wd.le.refl w) es m z fun x w1 u z1 l1 _ m1 es1 r1 => ?_
  refine ⟨u, rfl, fun d hd => ?_⟩
  obtain ⟨m2, l2⟩ := m1.other hd (.xd [(A.xf c, u)]) w1.F (.inl rfl)
  exact z1 ⟨w1.F, w1.ι, w1.h, upd w1.H d (.xd [(A.xf c, u)])⟩ σ (.ref (A.xa c)) (some d) rfl (l1.trans l2) m2 (es1.le l2) ⟨rfl, hcn, d, u, rfl, upd_same, l2.rep r1⟩
end
end Sd
namespace L2
open PySem PySem.Spec PyProof.Rows
/-- what clauses with names wish of an exception of the body: (the class, the name's slot, the suite) -/
def wManyAs (K : PySem.W.Frag) (Wout : WX) (D : Ends) : List (Value × Nat × (Addr → Value → Option Addr → TS)) → WX
  | [] => Wout
  | (c, i, ts) :: r => fun cls d σ H => ∃ b, PySem.W.exmOne K cls c = some b ∧
      (b = true → ∀ a, H a = none → ts a cls d { nx := fun σ' H' => D.nx (σ'.set i none) H', rt := D.rt, bk := fun σ' H' => D.bk (σ'.set i none) H', ct := fun σ' H' => D.ct (σ'.set i none) H' } (σ.set i (some (.ref a))) H) ∧
      (b = false → wManyAs K Wout D r cls d σ H)
inductive HdsAs (X : Cx) : List ExceptHandler → List (Value × Nat × (Addr → Value → Option Addr → TS)) → Prop
  | nil : HdsAs X [] []
  | cons {x n : PySem.Str} {c : Value} {i : Nat} {ts : Addr → Value → Option Addr → TS} {b₀ : Stmt} {suite : List Stmt} {np pos' : Pos} {hds : List ExceptHandler} {l : List (Value × Nat × (Addr → Value → Option Addr → TS))} (hc : Names X x c) (hi : X.N[i]? = some n) (hln : X.env.kindOf n = some .local)
      (hsu : ∀ (a : Addr) (oe : Obj) (cls : Value) (d : Option Addr) (pn : List (Addr × Obj)), Zc cls d oe → (∃ vs, oe.data = .fields vs) → PSs (X.suite a ((a, oe) :: pn)) (b₀ :: suite) (ts a cls d)) (r : HdsAs X hds l) :
      HdsAs X (.ExceptHandler (some (.Name x np)) (some n) (b₀ :: suite) pos' :: hds) ((c, i, ts) :: l)
section
variable {X : Cx} {body : List Stmt} {h₀ : ExceptHandler} {hds : List ExceptHandler} {l : List (Value × Nat × (Addr → Value → Option Addr → TS))} {pos : Pos} {tb : WX → TS} {Wout : WX}
theorem ps_try_manyAs (hs : X.stack = X.env :: X.outer) (hf : X.env.frame = some X.env.locals) (hN : X.N.Nodup) (tk : Takes X Wout)
    (hb : ∀ (W : WX) (pn : List (Addr × Obj)) (xe : Value → Shared → Prop), Takes (X.tr pn xe) W → PassesOwn (model X.prog X.w) X.A X.env xe → PSs (X.tr pn xe) body (tb W))
    (hh : HdsAs X (h₀ :: hds) l) : PS X (.Try body (h₀ :: hds) [] [] pos) (fun D σ H => tb (wManyAs X.K Wout D l) D σ H) := by
  refine ⟨fun pins s σ H D I h => ?_⟩
  have ok := I.ok
  have hfr : X.A.frames = some (X.env :: X.outer) := by rw [ok.frames, hs]
  refine wpAny_Try_except ?_
  refine wpAny_mono ((hb (wManyAs X.K Wout D l) (X.pn ++ pins) (fun e s₁ => wpAny (model X.prog X.w) X.A (noteFrame e X.env) (fun _ s₂ => wpAny (model X.prog X.w) X.A (setFlight e none) (fun _ s₃ =>
    wpAny (model X.prog X.w) X.A (handleBy e X.env (h₀ :: hds)) (SP X pins D) X.xe s₃) X.xe s₂) X.xe s₁) (fun u s' xx => ?_) PassesOwn.looking).run [] s σ H D (I.toTry _) h) (fun f s1 hsp => ?_) (fun e s1 he => he)
  · obtain ⟨a, B, sI, pins', σ', H', cls, d, rfl, J', nb, up, sky, na, os, ag, w⟩ := xx
    have J : Inv X pins σ' H' sI := J'.ofTry ok
    have sky' : Sky B (X.env :: X.outer) a (Zc cls d) X.env.locals s'.heap := by rw [← hs]; exact sky
    show wpAny (model X.prog X.w) X.A (noteFrame (.ref a) X.env) _ _ _
    refine Sky.land Zc.steady hfr hf sky' fun h3 fl3 up3 => ?_
    have J3 : Inv X pins σ' H' { s' with heap := h3 } := J.landed nb fl3.1 (up.trans up3) os ag
    obtain ⟨oe3, vs3, he3, hz3, hd3⟩ := fl3.there
    have notFr : ∀ {h : Heap} {o : Obj} {vs : Array Value}, h.FunFrames B (X.env :: X.outer) → h.get? a = some o → o.data = .fields vs → a ∉ frs (X.env :: X.outer) := fun {h o vs} ff e dd hm => by
      obtain ⟨_, o', e', hnf⟩ := ff.mem hm
      rw [e] at e'; cases e'
      exact hnf _ dd
    have nfr := notFr fl3.2.2.1 he3 hd3
    have nL : a ≠ X.env.locals := fun z => nfr (List.mem_filterMap.mpr ⟨X.env, List.mem_cons_self, by rw [hf, z]⟩)
    have nF : a ∉ X.fs := fun hm => by
      obtain ⟨e, he, q⟩ := List.mem_filterMap.mp hm
      exact nfr (List.mem_filterMap.mpr ⟨e, List.mem_cons_of_mem _ he, q⟩)
    have S3 := J3.suite he3 hd3 na nL nF
    have go : ∀ {hds' : List ExceptHandler} {l' : List (Value × Nat × (Addr → Value → Option Addr → TS))}, HdsAs X hds' l' → wManyAs X.K Wout D l' cls d σ' H' →
        wpAny (model X.prog X.w) X.A (handleBy (.ref a) X.env hds') (SP X pins D) X.xe { s' with heap := h3 } := by
      intro hds' l' hk
      induction hk with
      | nil =>
        intro w
        refine wpAny_handleBy_nil ?_
        obtain ⟨k1, k2, k3, oe, vs, T, oT, ts', he, hz, hd, h1, hr⟩ := id fl3
        unfold PySem.passOn
        refine wpAny_bind (wpAny_field he hd h1 ?_)
        rw [if_neg (show ¬ ((Value.ref T == Value.none) = true) from by simp)]
        have fin : wpAny (model X.prog X.w) X.A (setFlight (.ref a) X.env.frame) (fun _ s4 => wpAny (model X.prog X.w) X.A (throw (.ref a) : Sem Flow) (SP X pins D) X.xe s4) X.xe { s' with heap := h3 } := by
          rw [hf]
          refine HandSPX.setFlight_upZ fl3 fun h4 hh4 up4 => wpAny_throw (tk _ _ ?_)
          exact ⟨a, B, sI, pins, σ', H', cls, d, rfl, J, nb, (up.trans up3).trans up4, .inr (.inr (by rw [hs]; exact hh4)), na, os, ag, w⟩
        first
          | exact wpAny_bind (wpAny_pure (wpAny_bind fin))
          | exact wpAny_bind fin
      | @cons x n c i ts b₀ suite np pos' hds2 l2 hc hi hln hsu r ih =>
        intro w
        have hloc : Loc X.env.scope n := .inl hln
        obtain ⟨b, hb1, hyes, hno⟩ := w
        refine wpAny_handleBy_cons (codeAny_handlers_test ?_) (by intro q; cases q)
        have LT : PySem.W.Looks (model X.prog X.w) h3 (typeOf (.ref a)) cls := fun A Q E s k q => wpAny_typeOf_ref (k _ _ he3) (by rw [hz3.1]; exact q)
        have LM := PySem.W.exm_one (M := model X.prog X.w) (J3.kIn) LT hb1
        have test : ∀ {Q : Value → Shared → Prop} {E : Value → Shared → Prop}, Q c { s' with heap := h3 } → wpAny (model X.prog X.w) (X.A.mark (some (.ref a))) (eval (.Name x np) X.env) Q E { s' with heap := h3 } := fun {Q E} q => by
          obtain ⟨hg, hdbg, hm | ⟨hm, hv, hnn⟩⟩ := hc
          · exact ld_glob (X := X.suite a ((a, oe3) :: (X.pn ++ pins))) S3 hg hm q hdbg
          · exact ld_blt (X := X.suite a ((a, oe3) :: (X.pn ++ pins))) S3 hg hm hv q hnn hdbg
        refine test (LM.here ?_)
        cases b with
        | true =>
          refine codeAny_handlers_suite_as ?_
          refine HandSPX.lands_againZ fl3 fun h4 fl4 up4 => ?_
          have J4 : Inv X pins σ' H' { s' with heap := h4 } := J.landed nb fl4.1 ((up.trans up3).trans up4) os ag
          obtain ⟨oe4, vs4, he4, hz4, hd4⟩ := fl4.there
          have S4 := J4.suite he4 hd4 na nL nF
          refine store_ok (X := X.suite a ((a, oe4) :: (X.pn ++ pins))) (v := .ref a) S4 hN hi hloc rfl (fun s5 S5 => ?_) (.inr hln)
          refine wpAny_mono ((hsu a oe4 cls d (X.pn ++ pins) hz4 ⟨_, hd4⟩).run [] s5 _ H' _ S5 (hyes rfl a na)) (fun f s6 hsp => ?_) (fun _ _ z => False.elim z)
          have end_ : ∀ {σ6 : St} {H6 : Hp} {Q : Shared → Prop}, Inv (X.suite a ((a, oe4) :: (X.pn ++ pins))) [] σ6 H6 s6 → (∀ s7, Inv X pins (σ6.set i none) H6 s7 → Q s7) →
              wpAny (model X.prog X.w) X.A (do bindName X.env n .none; unbindBehindTheSuite X.env n pos') (fun _ s7 => Q s7) X.xe s6 := fun {σ6 H6 Q} S6 hq => gone_ok (S6.unsuite ok) hN hi hln hq
          cases f with
          | next =>
            obtain ⟨σ6, H6, S6, q6⟩ := hsp
            exact end_ S6 fun s7 J7 => ⟨_, _, J7, q6⟩
          | brk =>
            obtain ⟨σ6, H6, S6, q6⟩ := hsp
            exact end_ S6 fun s7 J7 => ⟨_, _, J7, q6⟩
          | cont =>
            obtain ⟨σ6, H6, S6, q6⟩ := hsp
            exact end_ S6 fun s7 J7 => ⟨_, _, J7, q6⟩
          | ret u =>
            obtain ⟨v6, σ6, H6, S6, r6, q6⟩ := hsp
            exact end_ S6 fun s7 J7 => ⟨_, _, _, J7, r6, q6⟩
        | false =>
          show wpAny _ X.A (handleBy (.ref a) X.env hds2) _ _ _
          exact ih (hno rfl)
    exact go hh w
  · cases f with
    | next =>
      obtain ⟨σ', H', J', q⟩ := hsp
      exact wpAny_execs_nil ⟨σ', H', J'.ofTry ok, q⟩
    | brk =>
      obtain ⟨σ', H', J', q⟩ := hsp
      exact ⟨σ', H', J'.ofTry ok, q⟩
    | cont =>
      obtain ⟨σ', H', J', q⟩ := hsp
      exact ⟨σ', H', J'.ofTry ok, q⟩
    | ret u =>
      obtain ⟨v, σ', H', J', r, q⟩ := hsp
      exact ⟨v, σ', H', J'.ofTry ok, r, q⟩
end
end L2

namespace Sd
open PySem L2 MP
section
variable {A : Ad} {T : Tb} {X : Cx} {W : WX}
/-- what a suite does with the exception's field: (x = e.f | [e.f] | [k, e.f]) -/
def tsH (A : Ad) (c es tg : Nat) (pre : Option (Option Kc)) (a : Addr) (cls : Value) (d : Option Addr) : TS := fun D σ H => σ[es]? = some (some (.ref a)) ∧ cls = .ref (A.xa c) ∧ ∃ dd u, d = some dd ∧ H dd = some (.xd [(A.xf c, u)]) ∧
  match pre with
  | none => D.nx (σ.set tg (some u)) H
  | some none => ∀ p, H p = none → D.nx (σ.set tg (some (.ref p))) (upd H p (.lst [u]))
  | some (some k) => ∀ p, H p = none → D.nx (σ.set tg (some (.ref p))) (upd H p (.lst [kcV k, u]))
inductive Rhs (en f : PySem.Str) : Option (Option Kc) → Expr → Prop
  | one {p1 p2 : Pos} : Rhs en f none (.Attribute (.Name en p1) f p2)
  | lst {p1 p2 p3 : Pos} : Rhs en f (some none) (.List [.Attribute (.Name en p1) f p2] p3)
  | tag {p1 p2 p3 : Pos} {k : Kc} {ek : Expr} (hk : ∀ X : Cx, PE X ek (tC (kcV k))) (hs : noStar ek = true) : Rhs en f (some (some k)) (.List [ek, .Attribute (.Name en p1) f p2] p3)
theorem suite_ok {c es tg : Nat} {pre : Option (Option Kc)} {en x f : PySem.Str} {rhs : Expr} {p1 p2 : Pos} (hN : X.N.Nodup) (hen : X.N[es]? = some en) (hel : X.env.scope.names.lookup en = some .local) (hx : X.N[tg]? = some x) (hxl : X.env.scope.names.lookup x = some .local) (hr : Rhs en f pre rhs) (hf : f = A.xf c)
    (T : XfC X.K (A.xa c)) (hno : PySem.W.findIn X.K (.ref (A.xa c)) f = some none) (hd1 : (en == ("__debug__" : PySem.Str)) = false) (hd2 : (en == ("__classdict__" : PySem.Str)) = false) :
    ∀ (a : Addr) (oe : Obj) (cls : Value) (d : Option Addr) (pn : List (Addr × Obj)), Zc cls d oe → (∃ vs, oe.data = .fields vs) → PSs (X.suite a ((a, oe) :: pn)) [.Assign [.Name x p1] rhs p2] (tsH A c es tg pre a cls d) := by
  intro a oe cls d pn hz hfd
  subst hf
  have fld : ∀ {p1 p2 : Pos}, PE (X.suite a ((a, oe) :: pn)) (.Attribute (.Name en p1) (A.xf c) p2) (tXf a cls d (A.xa c) (A.xf c) (tVar es)) := fun {p1 p2} => pe_xf T hno hz hfd (pe_var (X := X.suite a ((a, oe) :: pn)) hen (.inl hel) hd1 hd2) rfl
  have got : ∀ {σ : L2.St} {H : Hp} {dd : Addr} {u : V} {Q : VK}, σ[es]? = some (some (.ref a)) → cls = .ref (A.xa c) → d = some dd → H dd = some (.xd [(A.xf c, u)]) → Q u H → tXf a cls d (A.xa c) (A.xf c) (tVar es) σ H Q := fun {σ H dd u Q} h1 h2 h3 h4 q => ⟨_, h1, rfl, h2, dd, _, u, h3, h4, by simp [List.lookup], q⟩
  cases hr with
  | one =>
    refine PSs.imp (pss_one (ps_set (X := X.suite a ((a, oe) :: pn)) hN hx (.inl hxl) fld rfl (.inr hxl))) fun D σ H ⟨h1, h2, dd, u, h3, h4, h5⟩ => ?_
    exact got h1 h2 h3 h4 h5
  | lst =>
    refine PSs.imp (pss_one (ps_set (X := X.suite a ((a, oe) :: pn)) hN hx (.inl hxl) (pe_lst (pa_cons fld pa_nil rfl)) rfl (.inr hxl))) fun D σ H ⟨h1, h2, dd, u, h3, h4, h5⟩ => ?_
    refine got h1 h2 h3 h4 ⟨?_, fun p hp => h5 p hp⟩
    show 1 ≤ sizeLine
    rw [← lim_eq]; decide
  | tag hk hs =>
    refine PSs.imp (pss_one (ps_set (X := X.suite a ((a, oe) :: pn)) hN hx (.inl hxl) (pe_lst (pa_cons (hk _) (pa_cons fld pa_nil rfl) (star_cons hs))) rfl (.inr hxl))) fun D σ H ⟨h1, h2, dd, u, h3, h4, h5⟩ => ?_
    refine got h1 h2 h3 h4 ⟨?_, fun p hp => h5 p hp⟩
    show 2 ≤ sizeLine
    rw [← lim_eq]; decide
/-- a clause and its form in the small language -/
structure HdIs (A : Ad) (X : Cx) (nm : Nat → PySem.Str) (d : Hd) (h : ExceptHandler) : Prop where
  cn : d.c ∈ A.xn
  gl : Gl X (nm d.c)
  db : (nm d.c == ("__debug__" : PySem.Str)) = false
  is : ∃ (en x : PySem.Str) (rhs : Expr) (np p1 p2 pos' : Pos), h = .ExceptHandler (some (.Name (nm d.c) np)) (some en) [.Assign [.Name x p1] rhs p2] pos' ∧ X.N[d.es]? = some en ∧ X.env.scope.names.lookup en = some .local ∧ X.N[d.tg]? = some x ∧ X.env.scope.names.lookup x = some .local ∧ Rhs en (A.xf d.c) d.pre rhs ∧
    (en == ("__debug__" : PySem.Str)) = false ∧ (en == ("__classdict__" : PySem.Str)) = false
theorem hds_ok {nm : Nat → PySem.Str} (hN : X.N.Nodup) (R : Errs A X.prog X.K X.mg nm) : ∀ {ds : List Hd} {hs : List ExceptHandler}, Paired (HdIs A X nm) ds hs → HdsAs X hs (ds.map fun d => (Value.ref (A.xa d.c), d.es, fun a cls dd => tsH A d.c d.es d.tg d.pre a cls dd))
  | _, _, .nil => .nil
  | d :: ds, _ :: hs, .cons h r => by
    obtain ⟨h1, h2, h3, en, x, rhs, np, p1, p2, pos', e, a1, a2, a3, a4, a5, a6, a7⟩ := h
    subst e
    obtain ⟨fI, E⟩ := R.txt _ h1
    exact .cons ⟨h2, h3, .inl E.gC⟩ a1 a2 (suite_ok hN a1 a2 a3 a4 a5 rfl (R.xf _ h1) E.noN a6 a7) (hds_ok hN R r)
theorem EsR.setX {w : Wd} {e : En} {σ : L2.St} (h : EsR A T w e σ) (i : Nat) (x : Option V) : EsR A T w (e.set i none) (σ.set i x) := by
  refine ⟨by rw [List.length_set, List.length_set]; exact h.ln, fun j y q => ?_⟩
  by_cases hj : i = j
  · subst hj
    by_cases hi : i < e.length
    · rw [List.getElem?_set_self hi] at q
      cases q
    · rw [List.getElem?_eq_none (by rw [List.length_set]; omega)] at q; cases q
  · rw [List.getElem?_set_ne hj] at q
    rw [List.getElem?_set_ne hj]
    exact h.at_ j y q
theorem set_none {α : Type} (e : List (Option α)) (i j : Nat) (x : Option α) : ((e.set i none).set j x).set i none = (e.set j x).set i none := by
  by_cases h : i = j
  · subst h; simp
  · rw [List.set_comm none x h, List.set_set]
theorem handle_ok {nm : Nat → PySem.Str} (R : Errs A X.prog X.K X.mg nm) {w0 w : Wd} {D : Ends} {c : Nat} {v : MV} {e : En} {σ : L2.St} {cls : Value} {d : Option Addr} (l0 : w0.le w) (m : MR A T X.K w) (es : EsR A T w e σ) (xr : XRep A T w c v cls d) : ∀ {ds : List Hd}, (∀ h ∈ ds, h.c ∈ A.xn) →
    (handle c v e w.h ds).wp (po A T X.K w0 W D) → wManyAs X.K W D (ds.map fun d => (Value.ref (A.xa d.c), d.es, fun a cls dd => tsH A d.c d.es d.tg d.pre a cls dd)) cls d σ w.H
  | [], _, z => z w σ cls d rfl l0 m es xr
  | h :: ds, hc, z => by
    obtain ⟨x1, x2, dd, u, x3, x4, x5⟩ := id xr
    unfold handle at z
    refine ⟨decide (h.c = c), ?_, fun hb a ha => ?_, fun hb => ?_⟩
    · rw [x1]; exact R.exm c h.c x2 (hc h (by simp))
    · have hb := of_decide_eq_true hb
      rw [if_pos hb] at z
      split at z
      · rename_i hlt
        refine ⟨by rw [List.getElem?_set_self (by rw [← es.ln]; exact hlt)], by rw [hb]; exact x1, dd, u, x3, by rw [hb]; exact x4, ?_⟩
        have es1 := es.setX h.es (some (.ref a))
        have fin : ∀ {w' : Wd} {v' : MV} {u' : V}, w.le w' → MR A T X.K w' → w'.rep A T v' u' → (po A T X.K w0 W D).nx ((e.set h.tg (some v')).set h.es none) w'.h → D.nx (((σ.set h.es (some (.ref a))).set h.tg (some u')).set h.es none) w'.H := fun {w' v' u'} l m' r q => by
          have es2 := ((es1.le l).set r h.tg).setN h.es
          rw [set_none] at es2
          exact q w' _ rfl (l0.trans l) m' es2
        unfold hdV at z
        cases hp : h.pre with
        | none =>
          rw [hp] at z
          exact fin (Wd.le.refl w) m x5 z
        | some k =>
          cases k with
          | none =>
            rw [hp] at z
            intro p hpn
            obtain ⟨m2, l2⟩ := m.new (o := .lst [v]) (u := .lst [u]) hpn trivial ⟨_, rfl, Reps.cons x5 Reps.nil⟩
            exact fin (u' := .ref p) (v' := .obj w.h.length) l2 m2 ⟨by simp, by simp⟩ z
          | some k =>
            rw [hp] at z
            intro p hpn
            obtain ⟨m2, l2⟩ := m.new (o := .lst [k.v, v]) (u := .lst [kcV k, u]) hpn trivial ⟨_, rfl, Reps.cons (kc_rep k) (Reps.cons x5 Reps.nil)⟩
            exact fin (u' := .ref p) (v' := .obj w.h.length) l2 m2 ⟨by simp, by simp⟩ z
      · exact z.elim
    · have hb := of_decide_eq_false hb
      rw [if_neg hb] at z
      exact handle_ok R l0 m es xr (fun y hy => hc y (List.mem_cons_of_mem _ hy)) z
theorem ss_try {nm : Nat → PySem.Str} {body : List Stmt} {h₀ : ExceptHandler} {hds : List ExceptHandler} {ds : List Hd} {b : En → Hm → S} {pos : Pos} (hs : X.stack = X.env :: X.outer) (hf : X.env.frame = some X.env.locals) (hN : X.N.Nodup) (R : Errs A X.prog X.K X.mg nm) (tk : Takes X W)
    (hb : ∀ (W : WX) (pn : List (Addr × Obj)) (xe : Value → Shared → Prop), Takes (X.tr pn xe) W → PassesOwn (model X.prog X.w) X.A X.env xe → SSs A T (X.tr pn xe) W body b)
    (hh : Paired (HdIs A X nm) ds (h₀ :: hds)) : SS A T X W (.Try body (h₀ :: hds) [] [] pos) (sTry b ds) := by
  refine PS.imp (ps_try_manyAs (tb := fun W => rS A T X.K W b) hs hf hN tk hb (hds_ok hN R hh)) fun D σ H ⟨e, w, hH, es, m, z⟩ => ?_
  subst hH
  have hc : ∀ h ∈ ds, h.c ∈ A.xn := by
    intro h hm
    have : ∀ {ds : List Hd} {hs : List ExceptHandler}, Paired (HdIs A X nm) ds hs → ∀ h ∈ ds, h.c ∈ A.xn := by
      intro ds hs p
      induction p with
      | nil => intro h hm; cases hm
      | cons q r ih =>
        intro h hm
        rcases List.mem_cons.mp hm with e | e
        · subst e; exact q.cn
        · exact ih h e
    exact this hh h hm
  have z2 : (b e w.h).wp { po A T X.K w W D with ex := fun c v e h => (handle c v e h ds).wp (po A T X.K w W D) } := by
    unfold sTry at z
    cases q : b e w.h <;> (rw [q] at z; exact z)
  refine ⟨e, w, rfl, es, m, S.wp_mono z2 (fun _ _ q => q) (fun _ _ q => q) (fun _ _ q => q) (fun _ _ q => q) fun c v e1 h1 q w' σ' cls d eh l' m' es' xr => ?_⟩
  subst eh
  exact handle_ok R l' m' es' xr hc q
end
end Sd

set_option Elab.async false
set_option linter.all false
set_option maxRecDepth 100000
set_option maxHeartbeats 2000000
/-! A program's text against the small language's: a check, and that it is enough. -/
namespace Sd
open PySem L2 MP
/-- what the check knows of a def -/
structure Cf where
  N : List PySem.Str
  sc : Scope
  fnt : List (PySem.Str × Nat)
  top : Bool
  nm : Nat → PySem.Str
  xn : List Nat
  xf : Nat → PySem.Str
def bltNames : List PySem.Str := ["len", "int", "list", "tuple", "sorted", "sum", "abs", "max", "min", "str", "isinstance", "range", "enumerate", "bool", "dict", "set", "super"]
/-- what must be seen of the context -/
structure XOk (A : Ad) (T : Tb) (X : Cx) (W : WX) (k : Nat) (cf : Cf) : Prop where
  N : X.N = cf.N
  nd : X.N.Nodup
  sc : X.env.scope = cf.sc
  calm : X.calm = true
  fnm : ∀ x f, cf.fnt.lookup x = some f → ∃ d, FnIs A T X k f d x
  hr : Room (lv k) X.A
  tk : Takes X W
  fnc : ∀ x, cf.sc.names.lookup x = some .cell → cf.top = true → X.fn x = true
  blt : ∀ x ∈ bltNames, X.mg x = none
  err : Errs A X.prog X.K X.mg cf.nm
  xn : A.xn = cf.xn
  xf : ∀ c, A.xf c = cf.xf c
  gd : ∀ (C : Ct) x ps, C.toTb = T → T.gd x = some ps → GdIs X C x ps
  gs : ∀ x s, T.gs x = some s → ∃ t, X.mg x = some (.str s t)
  hC : ∀ c, T.ci c = none
  top : cf.top = true → X.stack = X.env :: X.outer ∧ X.env.frame = some X.env.locals ∧ PassesOwn (model X.prog X.w) X.A X.env X.xe
/-! ### the parts of the check -/
def dbgOk (x : PySem.Str) : Bool := !(x == ("__debug__" : PySem.Str)) && !(x == ("__classdict__" : PySem.Str))
theorem dbgOk_1 {x : PySem.Str} (h : dbgOk x = true) : (x == ("__debug__" : PySem.Str)) = false ∧ (x == ("__classdict__" : PySem.Str)) = false := by
  unfold dbgOk at h
  rw [Bool.and_eq_true, Bool.not_eq_true', Bool.not_eq_true'] at h
  exact h
def visB (cf : Cf) (x : PySem.Str) : Bool := match cf.sc.names.lookup x with
  | some .local => true
  | some .cell => true
  | some .free => true
  | _ => false
def glB (cf : Cf) (x : PySem.Str) : Bool := decide (cf.sc.names.lookup x = some .globalImplicit)
def locB (cf : Cf) (x : PySem.Str) : Bool := match cf.sc.names.lookup x with
  | some .local => true
  | some .cell => cf.top
  | _ => false
section
variable {A : Ad} {T : Tb} {X : Cx} {W : WX} {k : Nat} {cf : Cf}
theorem vis_of (h : X.env.scope = cf.sc) {x : PySem.Str} (v : visB cf x = true) : Vis X.env.scope x := by
  unfold visB at v
  unfold Vis
  rw [h]
  split at v
  · rename_i q; exact .inl q
  · rename_i q; exact .inr (.inl q)
  · rename_i q; exact .inr (.inr q)
  · cases v
theorem gl_of (h : X.env.scope = cf.sc) {x : PySem.Str} (v : glB cf x = true) : Gl X x := by
  unfold Gl Env.kindOf
  rw [h]
  exact of_decide_eq_true v
theorem loc_of (h : XOk A T X W k cf) {x : PySem.Str} (v : locB cf x = true) : L2.Loc X.env.scope x ∧ (X.fn x = true ∨ X.env.scope.names.lookup x = some .local) := by
  unfold locB at v
  unfold L2.Loc
  rw [h.sc]
  split at v
  · rename_i q; exact ⟨.inl q, .inr q⟩
  · rename_i q; exact ⟨.inr q, .inl (h.fnc x q v)⟩
  · cases v
end
def ckK (c : Kc) (e : Expr) : Bool := match c, e with
  | .non, .Constant .none _ _ => true
  | .bl b, .Constant (.bool a) _ _ => a == b
  | .int i, .Constant (.int j) _ _ => decide (i = j)
  | .str s, .Constant (.str t) _ _ => decide (s = t)
  | _, _ => false
theorem ckK_ok {c : Kc} {e : Expr} (h : ckK c e = true) : (∀ X : Cx, PE X e (tC (kcV c))) ∧ noStar e = true := by
  unfold ckK at h
  split at h
  · exact ⟨fun X => pe_non, rfl⟩
  · rw [beq_iff_eq] at h; subst h; exact ⟨fun X => pe_bl, rfl⟩
  · have := of_decide_eq_true h; subst this; exact ⟨fun X => pe_int, rfl⟩
  · have := of_decide_eq_true h; subst this; exact ⟨fun X => pe_str, rfl⟩
  · cases h
/-- an expression whose test is its value's -/
def plainT : Expr → Bool
  | .Name _ _ => true
  | .Call _ _ _ _ => true
  | .Subscript _ _ _ => true
  | .Attribute _ _ _ => true
  | .Constant _ _ _ => true
  | _ => false
theorem plainT_ok {e : Expr} {env : Env} (h : plainT e = true) : ∀ whole, isTrue e env whole = (do let v ← whole; standAt e.pos; holding [v] (truthy v)) := by
  cases e <;> first | (cases h; done) | exact fun _ => rfl
def notIf : Expr → Bool
  | .IfExp _ _ _ _ => false
  | .BinOp _ _ _ _ => false
  | .UnaryOp .USub _ _ => false
  | .List _ _ => false
  | .Tuple _ _ _ => false
  | .Dict _ _ _ => false
  | .ListComp _ _ _ _ => false
  | .DictComp _ _ _ _ _ => false
  | _ => true
def isBo : Expr → Bool
  | .BoolOp _ _ _ => true
  | _ => false
def plainIx : Expr → Bool
  | .Slice _ _ _ _ => false
  | .Tuple _ _ _ => true
  | .Starred _ _ => false
  | _ => true
/-- value, test, member of a chain of tests -/
structure OK3 (A : Ad) (T : Tb) (X : Cx) (W : WX) (e : Expr) (d : EE) : Prop where
  v : SE A T X W e d
  t : notIf e = true → ST A T X W e d
  b : isBo e = true → SW A T X W e d
section
variable {A : Ad} {T : Tb} {X : Cx} {W : WX}
theorem OK3.plain {e : Expr} {d : EE} (h : SE A T X W e d) (p : plainT e = true) : OK3 A T X W e d := ⟨h, fun _ => st_val h (plainT_ok p), fun q => by cases e <;> first | (cases q; done) | (cases p; done)⟩
theorem OK3.val {e : Expr} {d : EE} (h : SE A T X W e d) (p : notIf e = false) : OK3 A T X W e d := ⟨h, fun q => by rw [p] at q; (cases q), fun q => by cases e <;> first | (cases q; done) | (cases p; done)⟩
end
def opB (op : BOp) (o : Operator) : Bool := match op, o with
  | .add, .Add => true
  | .sub, .Sub => true
  | .mul, .Mult => true
  | .fdiv, .FloorDiv => true
  | .mod, .Mod => true
  | .pow, .Pow => true
  | _, _ => false
theorem opB_ok {op : BOp} {o : Operator} (h : opB op o = true) : o = opOf op := by
  cases op <;> cases o <;> first | rfl | (cases h; done)
def cmpB (op : COp) (o : CmpOp) : Bool := match op, o with
  | .eq, .Eq => true
  | .ne, .NotEq => true
  | .lt, .Lt => true
  | .le, .LtE => true
  | .gt, .Gt => true
  | .ge, .GtE => true
  | .in_, .In => true
  | .notin, .NotIn => true
  | _, _ => false
theorem cmpB_ok {op : COp} {o : CmpOp} (h : cmpB op o = true) : o = cmpOf op := by
  cases op <;> cases o <;> first | rfl | (cases h; done)
def notSet : Expr → Bool
  | .Set _ _ _ => false
  | _ => true
theorem notSet_mark {e : Expr} {op : CmpOp} (h : notSet e = true) : behindInMarks op e = false := by
  cases e <;> first | rfl | (cases h; done)
theorem notSet_fold {e : Expr} {env : Env} (h : notSet e = true) : ∀ x, foldedSetIterable e env x = pure x := by
  cases e <;> first | exact fun _ => rfl | (cases h; done)
def isBltK : Bl → Bool
  | .str => false
  | .sorted => false
  | _ => true
theorem plainIx_ok {e : Expr} (h : plainIx e = true) : PlainIx e := by
  cases e <;> first | (cases h; done) | exact fun _ _ => rfl
/-! ### targets -/
mutual
def ckG (cf : Cf) : Tg → Expr → Bool
  | .nm i, e => (match e with
    | .Name x _ => decide (cf.N[i]? = some x) && locB cf x
    | _ => false)
  | .tup ts, e => (match e with
    | .Tuple es _ _ => ckGs cf ts es
    | _ => false)
def ckGs (cf : Cf) : List Tg → List Expr → Bool
  | [], [] => true
  | t :: ts, e :: es => ckG cf t e && ckGs cf ts es
  | _, _ => false
end
section
variable {A : Ad} {T : Tb} {X : Cx} {W : WX} {k : Nat} {cf : Cf}
mutual
theorem ckG_tgt {cf : Cf} : ∀ {t : Tg} {e : Expr}, ckG cf t e = true → isTgt e = true
  | .nm i, e, h => by
    unfold ckG at h
    split at h
    · rfl
    · cases h
  | .tup ts, e, h => by
    unfold ckG at h
    split at h
    · rfl
    · cases h
end
theorem ckGs_len {cf : Cf} : ∀ {ts : List Tg} {es : List Expr}, ckGs cf ts es = true → es.length = ts.length ∧ es.all isTgt = true
  | [], [], _ => ⟨rfl, rfl⟩
  | [], _ :: _, h => by unfold ckGs at h; cases h
  | _ :: _, [], h => by unfold ckGs at h; cases h
  | t :: ts, e :: es, h => by
    unfold ckGs at h
    rw [Bool.and_eq_true] at h
    obtain ⟨h1, h2⟩ := ckGs_len h.2
    exact ⟨by simp [h1], by rw [List.all_cons, ckG_tgt h.1, h2]; rfl⟩
mutual
theorem ckG_ok (o : XOk A T X W k cf) : ∀ {t : Tg} {e : Expr}, ckG cf t e = true → PG X e (rG A T X.K t)
  | .nm i, e, h => by
    unfold ckG at h
    split at h
    · rw [Bool.and_eq_true] at h
      obtain ⟨l1, l2⟩ := loc_of o h.2
      exact sg_name o.nd (by rw [o.N]; exact of_decide_eq_true h.1) l1 l2
    · cases h
  | .tup ts, e, h => by
    unfold ckG at h
    split at h
    · obtain ⟨h1, h2⟩ := ckGs_len h
      exact sg_tup o.calm h1 h2 (ckGs_ok o h)
    · cases h
theorem ckGs_ok (o : XOk A T X W k cf) : ∀ {ts : List Tg} {es : List Expr}, ckGs cf ts es = true → PGs X es (rGs A T X.K ts)
  | [], [], _ => sgs_nil
  | [], _ :: _, h => by unfold ckGs at h; cases h
  | _ :: _, [], h => by unfold ckGs at h; cases h
  | t :: ts, e :: es, h => by
    unfold ckGs at h
    rw [Bool.and_eq_true] at h
    exact sgs_cons (ckG_tgt h.1) (ckG_ok o h.1) (ckGs_ok o h.2)
end
end
/-! ### blocks -/
def Cf.blk (cf : Cf) (scope : Scope) : Cf := { cf with sc := relS scope cf.sc, top := false }
def ownOf (cf : Cf) (own : List Nat) : List (PySem.Str × Nat) := own.map fun i => ((cf.N[i]?).getD "", i)
def blkB (cf : Cf) (scope : Scope) (own : List Nat) : Bool :=
  decide (scope.kind = .function) && scope.names.all (fun y => decide (scope.names.lookup y.1 = some y.2)) && own.all (fun i => decide (i < cf.N.length)) &&
  scope.names.all (fun y => decide (y.2 ≠ .free) || decide (cf.sc.names.lookup y.1 = some .cell) || decide (cf.sc.names.lookup y.1 = some .free)) &&
  scope.names.all (fun y => (decide (y.2 ≠ .local) && decide (y.2 ≠ .cell)) || decide (y.1 ∈ (ownOf cf own).map (·.1)) || decide (y.1 ∉ cf.N))
section
variable {A : Ad} {T : Tb} {X : Cx} {W : WX} {k : Nat} {cf : Cf}
theorem ownOf_snd (cf : Cf) (own : List Nat) : (ownOf cf own).map (·.2) = own := by
  unfold ownOf
  rw [List.map_map]
  simp [Function.comp_def]
theorem blkB_ok (o : XOk A T X W k cf) {scope : Scope} {own : List Nat} (h : blkB cf scope own = true) : BlkOk X.N X.env.scope scope (ownOf cf own) := by
  unfold blkB at h
  simp only [Bool.and_eq_true, List.all_eq_true, Bool.or_eq_true, decide_eq_true_eq] at h
  obtain ⟨⟨⟨⟨h1, h2⟩, h3⟩, h4⟩, h5⟩ := h
  refine ⟨h1, h2, fun p hp => ?_, fun y hy e => ?_, fun y hy e => ?_⟩
  · unfold ownOf at hp
    obtain ⟨i, hi, e⟩ := List.mem_map.mp hp
    subst e
    have := h3 i hi
    rw [o.N]
    show cf.N[i]? = some ((cf.N[i]?).getD "")
    rw [List.getElem?_eq_getElem this]
    rfl
  · rw [o.sc]
    rcases h4 y hy with (q | q) | q
    · exact absurd e q
    · exact .inl q
    · exact .inr q
  · rw [o.N]
    rcases h5 y hy with (q | q) | q
    · rcases e with e | e
      · exact absurd e q.1
      · exact absurd e q.2
    · exact .inl q
    · exact .inr q
theorem XOk.blk (o : XOk A T X W k cf) {scope : Scope} (s : Shared) (H : Hp) (C : Addr) (cl : List (PySem.Str × Addr)) (fp : List Addr) : XOk A T (X.blk s H scope (compEnvC scope cl C X.env) fp) W0 k (cf.blk scope) where
  N := o.N
  nd := o.nd
  sc := by
    show relS scope X.env.scope = relS scope cf.sc
    rw [o.sc]
  calm := o.calm
  fnm := fun x f h => by
    obtain ⟨d, F⟩ := o.fnm x f h
    exact ⟨d, F.fn, F.ok, F.mg, F.kp, F.bd⟩
  hr := o.hr
  tk := takes_none5
  fnc := fun x _ h => by cases h
  blt := o.blt
  err := o.err
  xn := o.xn
  xf := o.xf
  gd := fun C x ps h1 h2 => by
    obtain ⟨g, q⟩ := o.gd C x ps h1 h2
    exact ⟨g, q⟩
  gs := o.gs
  hC := o.hC
  top := fun h => by cases h
end
end Sd

set_option Elab.async false
set_option linter.all false
set_option maxRecDepth 100000
set_option maxHeartbeats 4000000
namespace Sd
open PySem L2 MP
mutual
def ckE (T : Tb) (cf : Cf) : ME → Expr → Bool
  | .var i, e => (match e with
    | .Name x _ => decide (cf.N[i]? = some x) && (visB cf x && dbgOk x)
    | _ => false)
  | .kon c, e => ckK c e
  | .gstr x, e => (match e with
    | .Name y _ => decide (y = x) && (glB cf x && (dbgOk x && (T.gs x).isSome))
    | _ => false)
  | .bin op a b, e => (match e with
    | .BinOp ea o eb _ => opB op o && (ckE T cf a ea && ckE T cf b eb)
    | _ => false)
  | .neg a, e => (match e with
    | .UnaryOp .USub ea _ => ckE T cf a ea
    | _ => false)
  | .not a, e => (match e with
    | .UnaryOp .Not ea _ => notIf ea && ckE T cf a ea
    | _ => false)
  | .and a b, e => (match e with
    | .BoolOp .And (ea :: eb :: r) pos => notIf ea && (ckE T cf a ea && ckE T cf b (.BoolOp .And (eb :: r) pos))
    | _ => false)
  | .or a b, e => (match e with
    | .BoolOp .Or (ea :: eb :: r) pos => notIf ea && (ckE T cf a ea && ckE T cf b (.BoolOp .Or (eb :: r) pos))
    | _ => false)
  | .one a, e => (match e with
    | .BoolOp _ [ea] _ => notIf ea && ckE T cf a ea
    | _ => false)
  | .cmp op a b, e => (match e with
    | .Compare ea [o] [eb] _ => cmpB op o && (notSet eb && (ckE T cf a ea && ckE T cf b eb))
    | _ => false)
  | .isN a, e => (match e with
    | .Compare ea [.Is] [.Constant .none _ _] _ => ckE T cf a ea
    | _ => false)
  | .notN a, e => (match e with
    | .Compare ea [.IsNot] [.Constant .none _ _] _ => ckE T cf a ea
    | _ => false)
  | .ite c a b, e => (match e with
    | .IfExp ec ea eb _ => notIf ec && (ckE T cf c ec && (ckE T cf a ea && ckE T cf b eb))
    | _ => false)
  | .call f es, e => (match e with
    | .Call (.Name x _) args [] _ => decide (cf.fnt.lookup x = some f) && (glB cf x && (dbgOk x && (ckEs T cf es args && (match T.fn f with
      | some d => decide (d.ar - args.length ≤ d.dfl.length)
      | none => false))))
    | _ => false)
  | .blt b es, e => (match e with
    | .Call (.Name x _) (a :: args) [] _ => decide (x = nmB b) && (isBltK b && (glB cf x && ckEs T cf es (a :: args)))
    | _ => false)
  | .isi a t, e => (match e with
    | .Call (.Name x _) [ea, .Name y _] [] _ => decide (x = "isinstance") && (isBty t && (decide (y = nmTS t) && (glB cf x && (glB cf y && ckE T cf a ea))))
    | _ => false)
  | .sub a i, e => (match e with
    | .Subscript ea ei _ => plainIx ei && (ckE T cf a ea && ckE T cf i ei)
    | _ => false)
  | .slc a lo hi, e => (match e with
    | .Subscript ea (.Slice l h none _) _ => ckE T cf a ea && (ckO T cf lo l && ckO T cf hi h)
    | _ => false)
  | .rev a, e => (match e with
    | .Subscript ea (.Slice none none (some (.UnaryOp .USub (.Constant (.int 1) _ _) _)) _) _ => ckE T cf a ea
    | _ => false)
  | .list es, e => (match e with
    | .List xs _ => ckEs T cf es xs
    | _ => false)
  | .tup es, e => (match e with
    | .Tuple xs _ _ => ckEs T cf es xs
    | _ => false)
  | .dict t ps, e => (match e with
    | .Dict [] [] _ => (match ps with
      | [] => true
      | _ => false)
    | .Dict (k :: ks) vs _ => !t && (decide ((k :: ks).length = vs.length) && (decide ((k :: ks).length ≤ 15) && ckP T cf ps (k :: ks) vs))
    | _ => false)
  | .lc el tg it c own, e => (match e with
    | .ListComp eel [⟨et, iter, ifs, 0⟩] scope _ => blkB cf scope own && ((Tg.sl tg).all (fun i => decide (i ∈ own)) && (notSet iter && (ckI T cf it et iter && (ckG (cf.blk scope) tg et && (ckC T (cf.blk scope) c ifs && ckE T (cf.blk scope) el eel)))))
    | _ => false)
  | .gdin a x, e => (match e with
    | .Compare ea [.In] [.Name y _] _ => decide (y = x) && (glB cf x && (dbgOk x && ((T.gd x).isSome && ckE T cf a ea)))
    | _ => false)
  | .gdat x a, e => (match e with
    | .Subscript (.Name y _) ea _ => decide (y = x) && (glB cf x && (dbgOk x && ((T.gd x).isSome && (plainIx ea && ckE T cf a ea))))
    | _ => false)
  | .make _ _, _ => false
  | .meth _ _ _, _ => false
  | .attr _ _, _ => false
  | .chain _ _ _ _ _, _ => false
  | .lc2 _ _ _ _ _ _ _ _, _ => false
  | .dc _ _ _ _ _ _ _, _ => false
  | .lenset _, _ => false
  | .sortset _, _ => false
  | .walk _, _ => false
  | .range _, _ => false
  | .enum _, _ => false
  | .items _, _ => false
  | .join _ _, _ => false
  | .bad, e => noStar e
def ckEs (T : Tb) (cf : Cf) : List ME → List Expr → Bool
  | [], [] => true
  | m :: ms, e :: es => noStar e && (ckE T cf m e && ckEs T cf ms es)
  | _, _ => false
def ckP (T : Tb) (cf : Cf) : List ME → List (Option Expr) → List Expr → Bool
  | [], [], [] => true
  | k :: v :: ms, some ek :: ks, ev :: vs => ckE T cf k ek && (ckE T cf v ev && ckP T cf ms ks vs)
  | _, _, _ => false
def ckO (T : Tb) (cf : Cf) : Option ME → Option Expr → Bool
  | none, none => true
  | some m, some e => ckE T cf m e
  | _, _ => false
def ckC (T : Tb) (cf : Cf) : Option ME → List Expr → Bool
  | none, [] => true
  | some m, [e] => notIf e && ckE T cf m e
  | _, _ => false
def ckI (T : Tb) (cf : Cf) : ME → Expr → Expr → Bool
  | .walk a, _, e => ckE T cf a e
  | .range es, _, e => (match e with
    | .Call (.Name x _) args [] _ => decide (x = "range") && (glB cf x && (ckEs T cf es args && (match args with
      | [_] => true
      | [_, _] => true
      | [_, _, _] => true
      | _ => false)))
    | _ => false)
  | .enum a, tg, e => (match tg, e with
    | .Tuple _ _ _, .Call (.Name x _) [ea] [] _ => decide (x = "enumerate") && (glB cf x && (noStar ea && ckE T cf a ea))
    | _, _ => false)
  | _, _, _ => false
end
section
variable {A : Ad} {T : Tb} {X : Cx} {W : WX} {k : Nat} {cf : Cf} {C : Ct}
theorem len_evEs : ∀ es : List ME, LenIs (evEs C es) es.length
  | [] => len_nil
  | _ :: es => len_cons (len_evEs es)
theorem ckEs_len : ∀ {ms : List ME} {es : List Expr}, ckEs T cf ms es = true → ms.length = es.length ∧ es.all noStar = true
  | [], [], _ => ⟨rfl, rfl⟩
  | [], _ :: _, h => by unfold ckEs at h; cases h
  | _ :: _, [], h => by unfold ckEs at h; cases h
  | m :: ms, e :: es, h => by
    unfold ckEs at h
    rw [Bool.and_eq_true, Bool.and_eq_true] at h
    obtain ⟨h1, h2⟩ := ckEs_len h.2.2
    exact ⟨by simp [h1], by rw [List.all_cons, h.1, h2]; rfl⟩
theorem ckP_some : ∀ {ms : List ME} {ks : List (Option Expr)} {vs : List Expr}, ckP T cf ms ks vs = true → ks.all (·.isSome) = true
  | [], [], [], _ => rfl
  | [], [], _ :: _, h => by unfold ckP at h; cases h
  | [], _ :: _, _, h => by unfold ckP at h; cases h
  | [_], _, _, h => by unfold ckP at h; cases h
  | _ :: _ :: _, [], _, h => by unfold ckP at h; cases h
  | _ :: _ :: _, none :: _, _, h => by unfold ckP at h; cases h
  | _ :: _ :: _, some _ :: _, [], h => by unfold ckP at h; cases h
  | _ :: _ :: ms, some _ :: ks, _ :: vs, h => by
    unfold ckP at h
    rw [Bool.and_eq_true, Bool.and_eq_true] at h
    rw [List.all_cons, ckP_some h.2.2]
    rfl
theorem kc_v {c : Kc} {e : Expr} (h : ∀ X : Cx, PE X e (tC (kcV c))) : SE A T X W e (fun _ h => .ok c.v h) := se_kon (h X) fun F ι n => kc_rep c
theorem OK3.bad {e : Expr} : OK3 A T X W e (fun _ _ => .bad) := by
  refine ⟨⟨fun pins s σ H Q I h => ?_⟩, fun _ => ⟨fun pins s σ H Q I h => ?_⟩, fun _ => ⟨fun w pins s σ H Q I h => ?_⟩⟩
  · obtain ⟨_, _, _, _, _, z⟩ := h
    exact z.elim
  · obtain ⟨_, _, _, _, _, z⟩ := h
    exact z.elim
  · obtain ⟨_, _, _, _, _, z⟩ := h
    exact z.elim
theorem ckE_star {m : ME} {e : Expr} (h : ckE T cf m e = true) : noStar e = true := by
  cases e <;> first | rfl | skip
  exfalso
  cases m <;> (unfold ckE at h; first | (cases h; done) | skip)
  have := (ckK_ok h).2
  cases this
theorem gdin_core {x : PySem.Str} {ps : List (PySem.Str × PySem.Str)} {a : EE} {d : Addr} {es : Array DictEntry} {n : Nat} (h0 : C.gd x = some ps) (h2 : ∀ z, ∃ r, PySem.W.nsIn X.K d z = some r ∧ ((ps.lookup z = none ∧ r = none) ∨ ∃ y u, ps.lookup z = some y ∧ r = some u ∧ RelV (.str y) u)) {σ : L2.St} {H : Hp} {Q : VK} (z : rE A T X.K W (eGdin C a x) σ H Q) :
    tOp (fun x y H Q => ∃ (z : PySem.Str) (r : Option Value), x = .str z ∧ y = .ref d ∧ PySem.W.nsIn X.K d z = some r ∧ Q (.bl r.isSome) H) (rE A T X.K W a) (tC (.ref d)) σ H Q := by
  obtain ⟨e, w, hH, es, m, z⟩ := z
  subst hH
  refine re_step (Wd.le.refl w) es m (R.wp_bind.mp z) fun v w1 u z1 l1 _ m1 es1 r1 => ?_
  rw [h0] at z1
  split at z1
  · rename_i ps' y e1
    cases e1
    cases rep_str r1
    obtain ⟨r, h3, h4⟩ := h2 y
    refine ⟨y, r, rfl, rfl, h3, ?_⟩
    rcases h4 with ⟨h4, h5⟩ | ⟨y', u', h4, h5, _⟩
    · rw [h4] at z1; rw [h5]; exact (K0.le l1 z1).flat m1 rfl
    · rw [h4] at z1; rw [h5]; exact (K0.le l1 z1).flat m1 rfl
  · exact z1.elim
theorem st_gdin {x : PySem.Str} {ps : List (PySem.Str × PySem.Str)} {ea : Expr} {a : EE} {p pos : Pos} (G : GdIs X C x ps) (ha : SE A T X W ea a) (hg : Gl X x) (hdb : (x == ("__debug__" : PySem.Str)) = false) : ST A T X W (.Compare ea [.In] [.Name x p] pos) (eGdin C a x) := by
  obtain ⟨d, es, n, h1, D, h2⟩ := G.ok
  exact PT.imp (pt_cmpR (op_in_kd D) ha (pe_glob (v := .ref d) hg h1 rfl hdb) rfl) fun σ H Q z => gdin_core (es := es) (n := n) G.gd h2 z
theorem se_bB (hC : ∀ c, C.ci c = none) {b : Bl} {id : String} (hm : X.mg (nmB b) = none) {ea : Expr} {es : List Expr} {a : EL} {p pos : Pos} (hg : Gl X (nmB b)) (ha : SL A T X W (ea :: es) a) (h1 : noStar ea = true) (h2 : es.all noStar = true) (h : CallR X (.builtin id) (rBlt A T C X.K b)) (hv : bootBuiltins (nmB b) = some (.builtin id)) :
    SE A T X W (.Call (.Name (nmB b) p) (ea :: es) [] pos) (eBlt C b a) :=
  PE.imp (pe_callB h hg hm hv ha (by cases b <;> decide) (by cases b <;> decide) (star_cons h1) (star_all h2)) fun σ H Q z => key_blt (blt_noex hC b) z
theorem se_bT (hC : ∀ c, C.ci c = none) {b : Bl} {id : String} (hm : X.mg (nmB b) = none) {ea : Expr} {es : List Expr} {a : EL} {p pos : Pos} (hg : Gl X (nmB b)) (ha : SL A T X W (ea :: es) a) (h1 : noStar ea = true) (h2 : es.all noStar = true) (h : CallR X (.type id) (rBlt A T C X.K b)) (hv : bootBuiltins (nmB b) = some (.type id)) :
    SE A T X W (.Call (.Name (nmB b) p) (ea :: es) [] pos) (eBlt C b a) :=
  PE.imp (pe_callTy h hg hm hv ha (by cases b <;> decide) (by cases b <;> decide) (star_cons h1) (star_all h2)) fun σ H Q z => key_blt (blt_noex hC b) z
theorem se_blt (o : XOk A T X W k cf) (hC : ∀ c, C.ci c = none) {b : Bl} (hb : isBltK b = true) {ea : Expr} {es : List Expr} {a : EL} {p pos : Pos} (hg : Gl X (nmB b)) (ha : SL A T X W (ea :: es) a) (hs : (ea :: es).all noStar = true) :
    SE A T X W (.Call (.Name (nmB b) p) (ea :: es) [] pos) (eBlt C b a) := by
  rw [List.all_cons, Bool.and_eq_true] at hs
  have hm : X.mg (nmB b) = none := o.blt _ (by cases b <;> decide)
  cases b with
  | len => exact se_bB hC hm hg ha hs.1 hs.2 (cr_len hC) (by decide +kernel)
  | int => exact se_bT hC hm hg ha hs.1 hs.2 cr_int (by decide +kernel)
  | list => exact se_bT hC hm hg ha hs.1 hs.2 (cr_list o.calm) (by decide +kernel)
  | tuple => exact se_bT hC hm hg ha hs.1 hs.2 cr_tuple (by decide +kernel)
  | sum => exact se_bB hC hm hg ha hs.1 hs.2 (cr_sums o.calm) (by decide +kernel)
  | abs => exact se_bB hC hm hg ha hs.1 hs.2 cr_abs (by decide +kernel)
  | max => exact se_bB hC hm hg ha hs.1 hs.2 (cr_max2 o.calm) (by decide +kernel)
  | min => exact se_bB hC hm hg ha hs.1 hs.2 (cr_min2 o.calm) (by decide +kernel)
  | sorted => cases hb
  | str => cases hb
theorem and2 {a b : Bool} (h : (a && b) = true) : a = true ∧ b = true := Bool.and_eq_true_iff.mp h
end
section
variable {A : Ad} {T : Tb} {k : Nat} {C : Ct}
mutual
theorem ckE_ok (hCk : C = { T with call := callK T k }) : ∀ (m : ME) {X : Cx} {W : WX} {cf : Cf} {e : Expr}, XOk A T X W k cf → ckE T cf m e = true → OK3 A T X W e (evE C m)
  | .var i, X, W, cf, e, o, h => by
    unfold ckE at h
    split at h
    · obtain ⟨h1, h⟩ := and2 h
      obtain ⟨h2, h3⟩ := and2 h
      obtain ⟨h4, h5⟩ := dbgOk_1 h3
      exact OK3.plain (se_var (by rw [o.N]; exact of_decide_eq_true h1) (vis_of o.sc h2) h4 h5) rfl
    · cases h
  | .kon c, X, W, cf, e, o, h => by
    unfold ckE at h
    have hp : plainT e = true := by
      unfold ckK at h
      split at h <;> first | rfl | cases h
    exact OK3.plain (kc_v (ckK_ok h).1) hp
  | .gstr x, X, W, cf, e, o, h => by
    unfold ckE at h
    split at h
    · obtain ⟨h1, h⟩ := and2 h
      obtain ⟨h2, h⟩ := and2 h
      obtain ⟨h3, h4⟩ := and2 h
      have := of_decide_eq_true h1
      subst this
      cases q : T.gs _ with
      | none => rw [q] at h4; cases h4
      | some s =>
        obtain ⟨t, ht⟩ := o.gs _ _ q
        exact OK3.plain (se_gstr (C := C) (by rw [hCk]; exact q) (gl_of o.sc h2) ht (dbgOk_1 h3).1) rfl
    · cases h
  | .bin op a b, X, W, cf, e, o, h => by
    unfold ckE at h
    split at h
    · obtain ⟨h1, h⟩ := and2 h
      obtain ⟨h2, h3⟩ := and2 h
      have := opB_ok h1
      subst this
      exact OK3.val (se_bin (ckE_ok hCk a o h2).v (ckE_ok hCk b o h3).v) rfl
    · cases h
  | .neg a, X, W, cf, e, o, h => by
    unfold ckE at h
    split at h
    · exact OK3.val (se_neg (ckE_ok hCk a o h).v) rfl
    · cases h
  | .not a, X, W, cf, e, o, h => by
    unfold ckE at h
    split at h
    · obtain ⟨h1, h2⟩ := and2 h
      exact ⟨se_not (ckE_ok hCk a o h2).v, fun _ => st_not ((ckE_ok hCk a o h2).t h1), fun q => by cases q⟩
    · cases h
  | .and a b, X, W, cf, e, o, h => by
    unfold ckE at h
    split at h
    · obtain ⟨h1, h⟩ := and2 h
      obtain ⟨h2, h3⟩ := and2 h
      have ha := ckE_ok hCk a o h2
      have hb := ckE_ok hCk b o h3
      have hw := sw_and (ha.t h1) (hb.b rfl)
      exact ⟨se_and ha.v hb.v, fun _ => hw.pt, fun _ => hw⟩
    · cases h
  | .or a b, X, W, cf, e, o, h => by
    unfold ckE at h
    split at h
    · obtain ⟨h1, h⟩ := and2 h
      obtain ⟨h2, h3⟩ := and2 h
      have ha := ckE_ok hCk a o h2
      have hb := ckE_ok hCk b o h3
      have hw := sw_or (ha.t h1) (hb.b rfl)
      exact ⟨se_or ha.v hb.v, fun _ => hw.pt, fun _ => hw⟩
    · cases h
  | .one a, X, W, cf, e, o, h => by
    unfold ckE at h
    split at h
    · rename_i op ea pos
      obtain ⟨h1, h2⟩ := and2 h
      have ha := ckE_ok hCk a o h2
      cases op with
      | And => exact ⟨se_one ha.v, fun _ => (sw_one_and (ha.t h1)).pt, fun _ => sw_one_and (ha.t h1)⟩
      | Or => exact ⟨se_one ha.v, fun _ => (sw_one_or (ha.t h1)).pt, fun _ => sw_one_or (ha.t h1)⟩
    · cases h
  | .cmp op a b, X, W, cf, e, o, h => by
    unfold ckE at h
    split at h
    · obtain ⟨h1, h⟩ := and2 h
      obtain ⟨h2, h⟩ := and2 h
      obtain ⟨h3, h4⟩ := and2 h
      have := cmpB_ok h1
      subst this
      have hC : ∀ c, C.ci c = none := by rw [hCk]; exact o.hC
      exact ⟨se_cmp (os_cmp hC o.hr.units op) (mcmp_noex hC op) (ckE_ok hCk a o h3).v (ckE_ok hCk b o h4).v (notSet_mark h2),
        fun _ => st_cmp (os_cmp hC o.hr.units op) (mcmp_noex hC op) (ckE_ok hCk a o h3).v (ckE_ok hCk b o h4).v (notSet_mark h2), fun q => by cases q⟩
    · cases h
  | .isN a, X, W, cf, e, o, h => by
    unfold ckE at h
    split at h
    · exact ⟨se_isN (ckE_ok hCk a o h).v, fun _ => st_isN (ckE_ok hCk a o h).v, fun q => by cases q⟩
    · cases h
  | .notN a, X, W, cf, e, o, h => by
    unfold ckE at h
    split at h
    · exact ⟨se_notN (ckE_ok hCk a o h).v, fun _ => st_notN (ckE_ok hCk a o h).v, fun q => by cases q⟩
    · cases h
  | .ite c a b, X, W, cf, e, o, h => by
    unfold ckE at h
    split at h
    · obtain ⟨h1, h⟩ := and2 h
      obtain ⟨h2, h⟩ := and2 h
      obtain ⟨h3, h4⟩ := and2 h
      exact OK3.val (se_ite ((ckE_ok hCk c o h2).t h1) (ckE_ok hCk a o h3).v (ckE_ok hCk b o h4).v) rfl
    · cases h
  | .call f es, X, W, cf, e, o, h => by
    unfold ckE at h
    split at h
    · rename_i x p args pos
      obtain ⟨h1, h⟩ := and2 h
      obtain ⟨h2, h⟩ := and2 h
      obtain ⟨h3, h⟩ := and2 h
      obtain ⟨h4, h5⟩ := and2 h
      obtain ⟨d, F⟩ := o.fnm _ _ (of_decide_eq_true h1)
      rw [F.fn] at h5
      have h5 := of_decide_eq_true h5
      have ha := ckEs_ok hCk es o h4
      obtain ⟨hl, hs⟩ := ckEs_len h4
      cases args with
      | nil =>
        cases es with
        | nil => exact OK3.plain (se_call0 hCk F o.hr (gl_of o.sc h2) o.tk (dbgOk_1 h3).1 (by simpa using h5)) rfl
        | cons _ _ => cases hl
      | cons a args => exact OK3.plain (se_call hCk F o.hr (gl_of o.sc h2) o.tk (by rw [← hl]; exact len_evEs es) ha (dbgOk_1 h3).1 hs h5) rfl
    · cases h
  | .blt b es, X, W, cf, e, o, h => by
    unfold ckE at h
    split at h
    · obtain ⟨h1, h⟩ := and2 h
      obtain ⟨h2, h⟩ := and2 h
      obtain ⟨h3, h4⟩ := and2 h
      have := of_decide_eq_true h1
      subst this
      exact OK3.plain (se_blt o (by rw [hCk]; exact o.hC) h2 (gl_of o.sc h3) (ckEs_ok hCk es o h4) (ckEs_len h4).2) rfl
    · cases h
  | .isi a t, X, W, cf, e, o, h => by
    unfold ckE at h
    split at h
    · obtain ⟨h1, h⟩ := and2 h
      obtain ⟨h2, h⟩ := and2 h
      obtain ⟨h3, h⟩ := and2 h
      obtain ⟨h4, h⟩ := and2 h
      obtain ⟨h5, h6⟩ := and2 h
      have e1 := of_decide_eq_true h1
      have e3 := of_decide_eq_true h3
      subst e1 e3
      have hs : noStar _ = true := ckE_star h6
      exact OK3.plain (se_isi (by rw [hCk]; exact o.hC) o.hC h2 (ckE_ok hCk a o h6).v (gl_of o.sc h4) (o.blt _ (by decide)) (gl_of o.sc h5) (o.blt _ (by cases t <;> first | decide | cases h2)) hs) rfl
    · cases h
  | .sub a i, X, W, cf, e, o, h => by
    unfold ckE at h
    split at h
    · obtain ⟨h1, h⟩ := and2 h
      obtain ⟨h2, h3⟩ := and2 h
      exact OK3.plain (se_sub (by rw [hCk]; exact o.hC) o.hr.units (ckE_ok hCk a o h2).v (ckE_ok hCk i o h3).v (plainIx_ok h1)) rfl
    · cases h
  | .slc a lo hi, X, W, cf, e, o, h => by
    unfold ckE at h
    split at h
    · obtain ⟨h1, h⟩ := and2 h
      obtain ⟨h2, h3⟩ := and2 h
      exact OK3.plain (se_slc (ckE_ok hCk a o h1).v (ckO_ok hCk lo o h2) (ckO_ok hCk hi o h3)) rfl
    · cases h
  | .rev a, X, W, cf, e, o, h => by
    unfold ckE at h
    split at h
    · exact OK3.plain (se_rev (ckE_ok hCk a o h).v) rfl
    · cases h
  | .list es, X, W, cf, e, o, h => by
    unfold ckE at h
    split at h
    · exact OK3.val (se_list (ckEs_ok hCk es o h)) rfl
    · cases h
  | .tup es, X, W, cf, e, o, h => by
    unfold ckE at h
    split at h
    · exact OK3.val (se_tup (ckEs_ok hCk es o h)) rfl
    · cases h
  | .dict t ps, X, W, cf, e, o, h => by
    unfold ckE at h
    split at h
    · split at h
      · exact OK3.val se_empty rfl
      · cases h
    · obtain ⟨h1, h⟩ := and2 h
      obtain ⟨h2, h⟩ := and2 h
      obtain ⟨h3, h4⟩ := and2 h
      rw [Bool.not_eq_true'] at h1
      subst h1
      exact OK3.val (se_disp (ckP_ok hCk ps o h4) (ckP_some h4) (of_decide_eq_true h2) (by simp) (of_decide_eq_true h3)) rfl
    · cases h
  | .lc el tg it c own, X, W, cf, e, o, h => by
    unfold ckE at h
    split at h
    · rename_i eel et iter ifs scope pos
      obtain ⟨h1, h⟩ := and2 h
      obtain ⟨h2, h⟩ := and2 h
      obtain ⟨h3, h⟩ := and2 h
      obtain ⟨h4, h⟩ := and2 h
      obtain ⟨h5, h⟩ := and2 h
      obtain ⟨h6, h7⟩ := and2 h
      have key := se_lc (T := T) (W := W) (pos := pos) o.calm o.nd (ckI_ok hCk it o h4) (blkB_ok o h1) (tg := tg) (by
          rw [ownOf_snd]
          intro i hi
          exact of_decide_eq_true (List.all_eq_true.mp h2 i hi)) (fun s H C cl fp => ckG_ok (o.blk s H C cl fp) h5) (fun s H C' cl fp => ckC_ok hCk c (o.blk s H C' cl fp) h6) (fun s H C' cl fp => (ckE_ok hCk el (o.blk s H C' cl fp) h7).v) (notSet_fold h3)
      rw [ownOf_snd] at key
      exact OK3.val key rfl
    · cases h
  | .gdin a x, X, W, cf, e, o, h => by
    unfold ckE at h
    split at h
    · obtain ⟨h1, h⟩ := and2 h
      obtain ⟨h2, h⟩ := and2 h
      obtain ⟨h3, h⟩ := and2 h
      obtain ⟨h4, h5⟩ := and2 h
      have e1 := of_decide_eq_true h1
      subst e1
      cases q : T.gd _ with
      | none => rw [q] at h4; cases h4
      | some ps =>
        have G := o.gd C _ _ (by rw [hCk]) q
        refine ⟨se_gdin (W := W) G (ckE_ok hCk a o h5).v (gl_of o.sc h2) (dbgOk_1 h3).1, fun _ => ?_, fun q => by cases q⟩
        exact st_gdin G (ckE_ok hCk a o h5).v (gl_of o.sc h2) (dbgOk_1 h3).1
    · cases h
  | .gdat x a, X, W, cf, e, o, h => by
    unfold ckE at h
    split at h
    · obtain ⟨h1, h⟩ := and2 h
      obtain ⟨h2, h⟩ := and2 h
      obtain ⟨h3, h⟩ := and2 h
      obtain ⟨h4, h⟩ := and2 h
      obtain ⟨h5, h6⟩ := and2 h
      have e1 := of_decide_eq_true h1
      subst e1
      cases q : T.gd _ with
      | none => rw [q] at h4; cases h4
      | some ps => exact OK3.plain (se_gdat (o.gd C _ _ (by rw [hCk]) q) (ckE_ok hCk a o h6).v (gl_of o.sc h2) (dbgOk_1 h3).1 (plainIx_ok h5)) rfl
    · cases h
  | .make _ _, _, _, _, _, _, h => by unfold ckE at h; cases h
  | .meth _ _ _, _, _, _, _, _, h => by unfold ckE at h; cases h
  | .attr _ _, _, _, _, _, _, h => by unfold ckE at h; cases h
  | .chain _ _ _ _ _, _, _, _, _, _, h => by unfold ckE at h; cases h
  | .lc2 _ _ _ _ _ _ _ _, _, _, _, _, _, h => by unfold ckE at h; cases h
  | .dc _ _ _ _ _ _ _, _, _, _, _, _, h => by unfold ckE at h; cases h
  | .lenset _, _, _, _, _, _, h => by unfold ckE at h; cases h
  | .sortset _, _, _, _, _, _, h => by unfold ckE at h; cases h
  | .walk _, _, _, _, _, _, h => by unfold ckE at h; cases h
  | .range _, _, _, _, _, _, h => by unfold ckE at h; cases h
  | .enum _, _, _, _, _, _, h => by unfold ckE at h; cases h
  | .items _, _, _, _, _, _, h => by unfold ckE at h; cases h
  | .join _ _, _, _, _, _, _, h => by unfold ckE at h; cases h
  | .bad, _, _, _, _, _, _ => OK3.bad
theorem ckEs_ok (hCk : C = { T with call := callK T k }) : ∀ (ms : List ME) {X : Cx} {W : WX} {cf : Cf} {es : List Expr}, XOk A T X W k cf → ckEs T cf ms es = true → SL A T X W es (evEs C ms)
  | [], X, W, cf, es, o, h => by
    cases es with
    | nil => exact sl_nil
    | cons _ _ => unfold ckEs at h; cases h
  | m :: ms, X, W, cf, es, o, h => by
    cases es with
    | nil => unfold ckEs at h; cases h
    | cons e es =>
      unfold ckEs at h
      obtain ⟨h1, h⟩ := and2 h
      obtain ⟨h2, h3⟩ := and2 h
      exact sl_cons (ckE_ok hCk m o h2).v (ckEs_ok hCk ms o h3) (star_cons h1)
theorem ckP_ok (hCk : C = { T with call := callK T k }) : ∀ (ms : List ME) {X : Cx} {W : WX} {cf : Cf} {ks : List (Option Expr)} {vs : List Expr} {pos : Pos}, XOk A T X W k cf → ckP T cf ms ks vs = true → SPp A T X W pos ks vs (evP C ms)
  | [], X, W, cf, ks, vs, pos, o, h => by
    cases ks <;> cases vs <;> first | exact sp_nil | (unfold ckP at h; cases h)
  | [_], X, W, cf, ks, vs, pos, o, h => by unfold ckP at h; cases h
  | k :: v :: ms, X, W, cf, ks, vs, pos, o, h => by
    cases ks with
    | nil => unfold ckP at h; cases h
    | cons kk ks =>
      cases kk with
      | none => unfold ckP at h; cases h
      | some ek =>
        cases vs with
        | nil => unfold ckP at h; cases h
        | cons ev vs =>
          unfold ckP at h
          obtain ⟨h1, h⟩ := and2 h
          obtain ⟨h2, h3⟩ := and2 h
          exact sp_cons (ckE_ok hCk k o h1).v (ckE_ok hCk v o h2).v (ckP_ok hCk ms o h3)
theorem ckO_ok (hCk : C = { T with call := callK T k }) : ∀ (m : Option ME) {X : Cx} {W : WX} {cf : Cf} {e : Option Expr}, XOk A T X W k cf → ckO T cf m e = true → SO A T X W e (evO C m)
  | none, X, W, cf, e, o, h => by
    cases e with
    | none => exact so_none
    | some _ => unfold ckO at h; cases h
  | some m, X, W, cf, e, o, h => by
    cases e with
    | none => unfold ckO at h; cases h
    | some e =>
      unfold ckO at h
      exact so_some (ckE_ok hCk m o h).v
theorem ckC_ok (hCk : C = { T with call := callK T k }) : ∀ (m : Option ME) {X : Cx} {W : WX} {cf : Cf} {e : List Expr}, XOk A T X W k cf → ckC T cf m e = true → STs A T X W e (evC C m)
  | none, X, W, cf, e, o, h => by
    cases e with
    | nil => exact sts_nil
    | cons _ _ => unfold ckC at h; cases h
  | some m, X, W, cf, e, o, h => by
    match e, h with
    | [], h => unfold ckC at h; cases h
    | [e], h =>
      unfold ckC at h
      obtain ⟨h1, h2⟩ := and2 h
      exact sts_one ((ckE_ok hCk m o h2).t h1)
    | _ :: _ :: _, h => unfold ckC at h; cases h
theorem ckI_ok (hCk : C = { T with call := callK T k }) : ∀ (m : ME) {X : Cx} {W : WX} {cf : Cf} {tg e : Expr}, XOk A T X W k cf → ckI T cf m tg e = true → SI A T X W tg e (evI C m)
  | .walk a, X, W, cf, tg, e, o, h => by
    unfold ckI at h
    exact si_walk (by rw [hCk]; exact o.hC) (ckE_ok hCk a o h).v
  | .range es, X, W, cf, tg, e, o, h => by
    unfold ckI at h
    split at h
    · rename_i x p args pos
      obtain ⟨h1, h⟩ := and2 h
      obtain ⟨h2, h⟩ := and2 h
      obtain ⟨h3, h4⟩ := and2 h
      have e1 := of_decide_eq_true h1
      subst e1
      have ha := ckEs_ok hCk es o h3
      obtain ⟨hl, hs⟩ := ckEs_len h3
      have hm : X.mg "range" = none := o.blt _ (by decide)
      have ln := len_evEs (C := C) es
      rw [hl] at ln
      match args, h4, ha, hs, ln with
      | [a], _, ha, hs, ln =>
        simp only [List.all_cons, List.all_nil, Bool.and_true] at hs
        exact si_range1 (gl_of o.sc h2) hm ha ln hs
      | [a, b], _, ha, hs, ln =>
        simp only [List.all_cons, List.all_nil, Bool.and_true, Bool.and_eq_true] at hs
        exact si_range2 (gl_of o.sc h2) hm ha ln hs.1 hs.2
      | [a, b, c], _, ha, hs, ln =>
        simp only [List.all_cons, List.all_nil, Bool.and_true, Bool.and_eq_true] at hs
        exact si_range3 (gl_of o.sc h2) hm ha ln hs.1 hs.2.1 hs.2.2
      | [], h4, _, _, _ => cases h4
      | _ :: _ :: _ :: _ :: _, h4, _, _, _ => cases h4
    · cases h
  | .enum a, X, W, cf, tg, e, o, h => by
    unfold ckI at h
    split at h
    · obtain ⟨h1, h⟩ := and2 h
      obtain ⟨h2, h⟩ := and2 h
      obtain ⟨h3, h4⟩ := and2 h
      have e1 := of_decide_eq_true h1
      subst e1
      exact si_enum (gl_of o.sc h2) (o.blt _ (by decide)) (ckE_ok hCk a o h4).v h3
    · cases h
  | .var _, _, _, _, _, _, _, h => by unfold ckI at h; cases h
  | .kon _, _, _, _, _, _, _, h => by unfold ckI at h; cases h
  | .gstr _, _, _, _, _, _, _, h => by unfold ckI at h; cases h
  | .bin _ _ _, _, _, _, _, _, _, h => by unfold ckI at h; cases h
  | .neg _, _, _, _, _, _, _, h => by unfold ckI at h; cases h
  | .not _, _, _, _, _, _, _, h => by unfold ckI at h; cases h
  | .and _ _, _, _, _, _, _, _, h => by unfold ckI at h; cases h
  | .or _ _, _, _, _, _, _, _, h => by unfold ckI at h; cases h
  | .one _, _, _, _, _, _, _, h => by unfold ckI at h; cases h
  | .cmp _ _ _, _, _, _, _, _, _, h => by unfold ckI at h; cases h
  | .isN _, _, _, _, _, _, _, h => by unfold ckI at h; cases h
  | .notN _, _, _, _, _, _, _, h => by unfold ckI at h; cases h
  | .chain _ _ _ _ _, _, _, _, _, _, _, h => by unfold ckI at h; cases h
  | .ite _ _ _, _, _, _, _, _, _, h => by unfold ckI at h; cases h
  | .call _ _, _, _, _, _, _, _, h => by unfold ckI at h; cases h
  | .make _ _, _, _, _, _, _, _, h => by unfold ckI at h; cases h
  | .blt _ _, _, _, _, _, _, _, h => by unfold ckI at h; cases h
  | .isi _ _, _, _, _, _, _, _, h => by unfold ckI at h; cases h
  | .meth _ _ _, _, _, _, _, _, _, h => by unfold ckI at h; cases h
  | .attr _ _, _, _, _, _, _, _, h => by unfold ckI at h; cases h
  | .sub _ _, _, _, _, _, _, _, h => by unfold ckI at h; cases h
  | .slc _ _ _, _, _, _, _, _, _, h => by unfold ckI at h; cases h
  | .rev _, _, _, _, _, _, _, h => by unfold ckI at h; cases h
  | .list _, _, _, _, _, _, _, h => by unfold ckI at h; cases h
  | .tup _, _, _, _, _, _, _, h => by unfold ckI at h; cases h
  | .dict _ _, _, _, _, _, _, _, h => by unfold ckI at h; cases h
  | .lc _ _ _ _ _, _, _, _, _, _, _, h => by unfold ckI at h; cases h
  | .lc2 _ _ _ _ _ _ _ _, _, _, _, _, _, _, h => by unfold ckI at h; cases h
  | .dc _ _ _ _ _ _ _, _, _, _, _, _, _, h => by unfold ckI at h; cases h
  | .lenset _, _, _, _, _, _, _, h => by unfold ckI at h; cases h
  | .sortset _, _, _, _, _, _, _, h => by unfold ckI at h; cases h
  | .gdin _ _, _, _, _, _, _, _, h => by unfold ckI at h; cases h
  | .gdat _ _, _, _, _, _, _, _, h => by unfold ckI at h; cases h
  | .items _, _, _, _, _, _, _, h => by unfold ckI at h; cases h
  | .join _ _, _, _, _, _, _, _, h => by unfold ckI at h; cases h
  | .bad, _, _, _, _, _, _, h => by unfold ckI at h; cases h
end
end
end Sd

set_option Elab.async false
set_option linter.all false
set_option maxRecDepth 100000
set_option maxHeartbeats 4000000
namespace Sd
open PySem L2 MP
def notComp : Expr → Bool
  | .ListComp _ _ _ _ => false
  | .SetComp _ _ _ _ => false
  | .DictComp _ _ _ _ _ => false
  | _ => true
theorem notComp_sw {e : Expr} {t : Option Expr} {l : Nat} {env : Env} (h : notComp e = true) : swapsWith e t l env = pure false := by
  cases e <;> first | rfl | (cases h; done)
def swB (sc : Scope) (scope : Scope) (y : PySem.Str) (py pos : Pos) : Bool := decide (sc.names.lookup y = some .local) && (py.line == pos.line) && !(scope.names.any fun (n, k) => n == y && (k == .local || k == .cell))
theorem swB_eq {eel : Expr} {gs : List Comprehension} {scope : Scope} {pos py : Pos} {y : PySem.Str} {l : Nat} {env : Env} (hk : env.scope.kind = .function) :
    swapsWith (.ListComp eel gs scope pos) (some (.Name y py)) l env = pure (swB env.scope scope y py pos) := by
  have hb : env.blockKind = .function := by unfold Env.blockKind; rw [hk]; rfl
  unfold swapsWith swB
  have e1 : (env.kindOf y == some NameKind.local) = decide (env.scope.names.lookup y = some .local) := by
    show (env.scope.names.lookup y == some NameKind.local) = _
    rw [Bool.eq_iff_iff, beq_iff_eq, decide_eq_true_eq]
  simp only [hb, e1, Expr.pos]
  rfl
def noTup : Expr → Bool
  | .Tuple _ _ _ => false
  | _ => true
theorem noTup_sw {ts : List Expr} {e : Expr} {env : Env} (h : noTup e = true) : swappedStores ts e env = pure none := by
  cases e <;> first | (cases h; done) | skip
  all_goals (cases ts with
    | nil => rfl
    | cons t ts => cases t <;> first | rfl | (cases ts <;> rfl))
def parB (sc : Scope) (x y : PySem.Str) (px py : Pos) (a b : Expr) : Bool :=
  decide (sc.names.lookup x = some .local) && (decide (sc.names.lookup y = some .local) && ((px.line == py.line) && (!(x == y) && (!(y == x) && (noStar a && (noStar b && (!([a, b].all (foldedForSure 8)) && !([a, b].all (constantsAlone 8)))))))))
theorem parB_ok {x y : PySem.Str} {px py pt pt2 : Pos} {kt k2 : Nat} {a b : Expr} {env : Env} (hk : env.scope.kind = .function) (h : parB env.scope x y px py a b = true) : swappedStores [.Tuple [.Name x px, .Name y py] kt pt] (.Tuple [a, b] k2 pt2) env = pure (some [x, y]) := by
  unfold parB at h
  obtain ⟨h1, h⟩ := and2 h
  obtain ⟨h2, h⟩ := and2 h
  obtain ⟨h3, h⟩ := and2 h
  obtain ⟨h4, h⟩ := and2 h
  obtain ⟨h5, h⟩ := and2 h
  obtain ⟨h6, h⟩ := and2 h
  obtain ⟨h7, h⟩ := and2 h
  obtain ⟨h8, h9⟩ := and2 h
  have hb : env.blockKind = .function := by unfold Env.blockKind; rw [hk]; rfl
  have e1 : env.kindOf x = some .local := of_decide_eq_true h1
  have e2 : env.kindOf y = some .local := of_decide_eq_true h2
  have e3 : px.line = py.line := by simpa using h3
  rw [Bool.not_eq_true'] at h4 h5 h8 h9
  unfold swappedStores
  dsimp only
  rw [if_neg, if_neg, if_neg, if_neg, if_neg]
  · simp [e1, e2, e3, Expr.pos]
  · rw [h9]; decide
  · rw [h8]; decide
  · simp [e1, e2, e3, Expr.pos, List.eraseDups, List.eraseDupsBy, List.eraseDupsBy.loop, h4, h5]
  · intro q
    obtain ⟨e, he, q2⟩ := List.any_eq_true.mp q
    clear q
    have he : e = a ∨ e = b := by simpa using he
    rcases he with he | he
    · subst he
      cases e <;> first | (cases h6; done) | (exact Bool.noConfusion q2)
    · subst he
      cases e <;> first | (cases h7; done) | (exact Bool.noConfusion q2)
  · simp [hb]
/-! ### statements -/
def rhsB (en f : PySem.Str) (p : Option (Option Kc)) (e : Expr) : Bool := match p, e with
  | none, .Attribute (.Name x _) g _ => decide (x = en) && decide (g = f)
  | some none, .List [.Attribute (.Name x _) g _] _ => decide (x = en) && decide (g = f)
  | some (some k), .List [ek, .Attribute (.Name x _) g _] _ => ckK k ek && (decide (x = en) && decide (g = f))
  | _, _ => false
theorem rhsB_ok {en f : PySem.Str} {p : Option (Option Kc)} {e : Expr} (h : rhsB en f p e = true) : Rhs en f p e := by
  unfold rhsB at h
  split at h
  · obtain ⟨h1, h2⟩ := and2 h
    have e1 := of_decide_eq_true h1
    have e2 := of_decide_eq_true h2
    subst e1 e2
    exact .one
  · obtain ⟨h1, h2⟩ := and2 h
    have e1 := of_decide_eq_true h1
    have e2 := of_decide_eq_true h2
    subst e1 e2
    exact .lst
  · obtain ⟨h0, h⟩ := and2 h
    obtain ⟨h1, h2⟩ := and2 h
    have e1 := of_decide_eq_true h1
    have e2 := of_decide_eq_true h2
    subst e1 e2
    exact .tag (ckK_ok h0).1 (ckK_ok h0).2
  · cases h
def okV : Expr → Bool
  | .ListComp _ _ _ _ => true
  | e => notComp e
def lcl (cf : Cf) (i : Nat) (x : PySem.Str) : Bool := decide (cf.N[i]? = some x) && decide (cf.sc.names.lookup x = some .local)
def ckH (cf : Cf) (d : Hd) (h : ExceptHandler) : Bool := match h with
  | .ExceptHandler (some (.Name x _)) (some en) [.Assign [.Name t _] rhs _] _ => decide (d.c ∈ cf.xn) && (decide (x = cf.nm d.c) && (glB cf x && (dbgOk x && (lcl cf d.es en && (lcl cf d.tg t && (rhsB en (cf.xf d.c) d.pre rhs && dbgOk en))))))
  | _ => false
def ckHs (cf : Cf) : List Hd → List ExceptHandler → Bool
  | [], [] => true
  | d :: ds, h :: hs => ckH cf d h && ckHs cf ds hs
  | _, _ => false
theorem ckHs_ok {A : Ad} {T : Tb} {X : Cx} {W : WX} {k : Nat} {cf : Cf} (o : XOk A T X W k cf) : ∀ {ds : List Hd} {hs : List ExceptHandler}, ckHs cf ds hs = true → Paired (HdIs A X cf.nm) ds hs
  | [], [], _ => .nil
  | [], _ :: _, h => by unfold ckHs at h; cases h
  | _ :: _, [], h => by unfold ckHs at h; cases h
  | d :: ds, h :: hs, q => by
    unfold ckHs at q
    obtain ⟨q1, q2⟩ := and2 q
    refine .cons ?_ (ckHs_ok o q2)
    unfold ckH at q1
    split at q1
    · obtain ⟨h1, h⟩ := and2 q1
      obtain ⟨h2, h⟩ := and2 h
      obtain ⟨h3, h⟩ := and2 h
      obtain ⟨h4, h⟩ := and2 h
      obtain ⟨h5, h⟩ := and2 h
      obtain ⟨h6, h⟩ := and2 h
      obtain ⟨h7, h8⟩ := and2 h
      have e2 := of_decide_eq_true h2
      subst e2
      unfold lcl at h5 h6
      obtain ⟨a1, a2⟩ := and2 h5
      obtain ⟨a3, a4⟩ := and2 h6
      refine ⟨by rw [o.xn]; exact of_decide_eq_true h1, gl_of o.sc h3, (dbgOk_1 h4).1, _, _, _, _, _, _, _, rfl, by rw [o.N]; exact of_decide_eq_true a1, by rw [o.sc]; exact of_decide_eq_true a2, by rw [o.N]; exact of_decide_eq_true a3, by rw [o.sc]; exact of_decide_eq_true a4, ?_, (dbgOk_1 h8).1, (dbgOk_1 h8).2⟩
      rw [o.xf]
      exact rhsB_ok h7
    · cases q1
mutual
def ckS (T : Tb) (cf : Cf) : MS → Stmt → Bool
  | .asg (.nm i) m, s => (match s with
    | .Assign [.Name x _] ve _ => decide (cf.N[i]? = some x) && (locB cf x && (ckE T cf m ve && okV ve))
    | _ => false)
  | .asg (.tup ts) m, s => (match s with
    | .Assign [tg] ve _ => (match tg, ve, ts, m with
      | .Tuple [.Name x px, .Name y py] _ _, .Tuple [a, b] _ _, [.nm i, .nm j], .tup [ma, mb] => decide (cf.N[i]? = some x) && (decide (cf.N[j]? = some y) && (decide (i ≠ j) && (parB cf.sc x y px py a b && ckEs T cf [ma, mb] [a, b])))
      | tg, ve, ts, m => noTup ve && (notComp ve && (ckG cf (.tup ts) tg && ckE T cf m ve)))
    | _ => false)
  | .asg (.sub a i) m, s => (match s with
    | .Assign [.Subscript eo ei _] ve _ => plainIx ei && (notComp ve && (ckE T cf a eo && (ckE T cf i ei && ckE T cf m ve)))
    | _ => false)
  | .asg (.attr _ _) _, _ => false
  | .aug i op m, s => (match s with
    | .AugAssign (.Name x _) o ve _ => opB op o && (decide (op = .add ∨ op = .sub) && (decide (cf.N[i]? = some x) && (locB cf x && ckE T cf m ve)))
    | _ => false)
  | .expr m, s => (match s with
    | .Expr ve _ => notComp ve && ckE T cf m ve
    | _ => false)
  | .ret m, s => (match s with
    | .Return (some ve) _ => ckE T cf m ve
    | _ => false)
  | .retN, s => (match s with
    | .Return none _ => true
    | _ => false)
  | .ifs c a b, s => (match s with
    | .If ec ea eb _ => notIf ec && (ckE T cf c ec && (ckSs T cf a ea && ckSs T cf b eb))
    | _ => false)
  | .for_ t it b, s => (match s with
    | .For et iter body [] _ => cf.top && (notSet iter && (ckI T cf it et iter && (ckG cf t et && ckSs T cf b body)))
    | _ => false)
  | .while_ c b, s => (match s with
    | .While ec body [] _ => cf.top && (notIf ec && (ckE T cf c ec && ckSs T cf b body))
    | _ => false)
  | .brk, s => (match s with
    | .Break _ => true
    | _ => false)
  | .cont, s => (match s with
    | .Continue _ => true
    | _ => false)
  | .pass, s => (match s with
    | .Pass _ => true
    | _ => false)
  | .raise c m, s => (match s with
    | .Raise (some (.Call (.Name x _) [ea] [] _)) none _ => decide (c ∈ cf.xn) && (decide (x = cf.nm c) && (glB cf x && (dbgOk x && (noStar ea && ckE T cf m ea))))
    | _ => false)
  | .try_ b ds, s => (match s with
    | .Try body (h :: hs) [] [] _ => cf.top && (ckSs T cf b body && ckHs cf ds (h :: hs))
    | _ => false)
  | .bad, _ => true
def ckSs (T : Tb) (cf : Cf) : MSs → List Stmt → Bool
  | .nil, [] => true
  | .cons s r, st :: sts => ckS T cf s st && ckSs T cf r sts
  | _, _ => false
end
end Sd

set_option Elab.async false
set_option linter.all false
set_option maxRecDepth 100000
set_option maxHeartbeats 4000000
namespace Sd
open PySem L2 MP
section
variable {A : Ad} {T : Tb} {k : Nat} {C : Ct}
theorem XOk.tr {X : Cx} {W W' : WX} {cf : Cf} (o : XOk A T X W k cf) {pn : List (Addr × Obj)} {xe : Value → Shared → Prop} (tk : Takes (X.tr pn xe) W') (po : PassesOwn (model X.prog X.w) X.A X.env xe) : XOk A T (X.tr pn xe) W' k cf where
  N := o.N
  nd := o.nd
  sc := o.sc
  calm := o.calm
  fnm := fun x f h => by
    obtain ⟨d, F⟩ := o.fnm x f h
    exact ⟨d, F.fn, F.ok, F.mg, F.kp, F.bd⟩
  hr := o.hr
  tk := tk
  fnc := o.fnc
  blt := o.blt
  err := o.err
  xn := o.xn
  xf := o.xf
  gd := fun C x ps h1 h2 => by
    obtain ⟨g, q⟩ := o.gd C x ps h1 h2
    exact ⟨g, q⟩
  gs := o.gs
  hC := o.hC
  top := fun h => by
    obtain ⟨h1, h2, _⟩ := o.top h
    exact ⟨h1, h2, po⟩
theorem SS.bad {X : Cx} {W : WX} {s : Stmt} : SS A T X W s (fun _ _ => .bad) := ⟨fun pins s σ H D I h => by
  obtain ⟨_, _, _, _, _, z⟩ := h
  exact z.elim⟩
theorem SS.bad' {X : Cx} {W : WX} {s : Stmt} {d : En → Hm → S} (h : ∀ e h, d e h = .bad) : SS A T X W s d := by
  have : d = fun _ _ => .bad := by funext e h'; exact h e h'
  rw [this]
  exact SS.bad
theorem ckK_plain {c : Kc} {e : Expr} (h : ckK c e = true) : plainT e = true := by
  unfold ckK at h
  split at h <;> first | rfl | cases h
/-- name = value -/
theorem set_ok (hCk : C = { T with call := callK T k }) {X : Cx} {W : WX} {cf : Cf} (o : XOk A T X W k cf) {i : Nat} {m : ME} {x : PySem.Str} {ve : Expr} {p pos : Pos} (hkf : X.env.scope.kind = .function) (h1 : cf.N[i]? = some x) (h2 : locB cf x = true) (h3 : ckE T cf m ve = true) (h4 : okV ve = true) : SS A T X W (.Assign [.Name x p] ve pos) (sAsg C (.nm i) (evE C m)) := by
  obtain ⟨l1, l2⟩ := loc_of o h2
  have hi : X.N[i]? = some x := by rw [o.N]; exact h1
  have hv := (ckE_ok hCk m o h3).v
  by_cases hn : notComp ve = true
  · exact ss_set o.nd hi l1 hv (notComp_sw hn) l2
  · cases ve <;> first | (exact absurd rfl hn) | (cases h4; done) | skip
    rename_i eel gs scope cpos
    cases hb : swB X.env.scope scope x p cpos with
    | false => exact ss_set o.nd hi l1 hv (by rw [swB_eq hkf, hb]) l2
    | true =>
      have hloc : X.env.scope.names.lookup x = some .local := by
        unfold swB at hb
        exact of_decide_eq_true (and2 (and2 hb).1).1
      cases m <;> (unfold ckE at h3; first | (cases h3; done) | skip)
      · have := ckK_plain h3
        cases this
      · rename_i el tg it c own
        split at h3
        · rename_i heq
          cases heq
          obtain ⟨g1, h⟩ := and2 h3
          obtain ⟨g2, h⟩ := and2 h
          obtain ⟨g3, h⟩ := and2 h
          obtain ⟨g4, h⟩ := and2 h
          obtain ⟨g5, h⟩ := and2 h
          obtain ⟨g6, g7⟩ := and2 h
          have key := ss_setLc (T := T) (W := W) (spos := pos) (py := p) o.calm o.nd hi hloc (by rw [swB_eq hkf, hb]) (ckI_ok hCk it o g4) (blkB_ok o g1) (tg := tg) (by
            rw [ownOf_snd]
            intro i hi
            exact of_decide_eq_true (List.all_eq_true.mp g2 i hi)) (fun s H C cl fp => ckG_ok (o.blk s H C cl fp) g5) (fun s H C' cl fp => ckC_ok hCk c (o.blk s H C' cl fp) g6) (fun s H C' cl fp => (ckE_ok hCk el (o.blk s H C' cl fp) g7).v) (notSet_fold g3)
          rw [ownOf_snd] at key
          exact key
        · cases h3
      · exact SS.bad' fun _ _ => rfl
theorem swsole {tg e : Expr} {l : Nat} {env : Env} (h : notComp e = true) : swapsWithSole [tg] e l env = pure false := notComp_sw h
theorem noSub_sw {eo ei ve : Expr} {p : Pos} {env : Env} : swappedStores [.Subscript eo ei p] ve env = pure none := by cases ve <;> rfl
theorem asgSub {eo ei : Expr} {p : Pos} {env : Env} (h : plainIx ei = true) : ∀ v, assign (.Subscript eo ei p) env v = (do
      let ov ← holding [v] (eval eo env)
      let iv ← holding [v, ov] (eval ei env)
      standAt p
      holding [v, ov, iv] (setItem ov iv v)
      release [v, ov, iv] []) := by
  cases ei <;> first | (cases h; done) | exact fun _ => rfl
theorem tup_gen (hCk : C = { T with call := callK T k }) {X : Cx} {W : WX} {cf : Cf} (o : XOk A T X W k cf) {ts : List Tg} {m : ME} {tg ve : Expr} {pos : Pos} (h : (noTup ve && (notComp ve && (ckG cf (.tup ts) tg && ckE T cf m ve))) = true) : SS A T X W (.Assign [tg] ve pos) (sAsg C (.tup ts) (evE C m)) := by
  obtain ⟨h1, h⟩ := and2 h
  obtain ⟨h2, h⟩ := and2 h
  obtain ⟨h3, h4⟩ := and2 h
  exact ss_tup (ckE_ok hCk m o h4).v (ckG_ok o h3) (swsole h2) (noTup_sw h1) (ckG_tgt h3)
mutual
theorem ckS_ok (hCk : C = { T with call := callK T k }) : ∀ (m : MS) {X : Cx} {W : WX} {cf : Cf} {s : Stmt}, X.env.scope.kind = .function → XOk A T X W k cf → ckS T cf m s = true → SS A T X W s (exS C m)
  | .asg (.nm i) m, X, W, cf, s, hk, o, h => by
    unfold ckS at h
    split at h
    · obtain ⟨h1, h⟩ := and2 h
      obtain ⟨h2, h⟩ := and2 h
      obtain ⟨h3, h4⟩ := and2 h
      exact set_ok hCk o hk (of_decide_eq_true h1) h2 h3 h4
    · cases h
  | .asg (.tup ts) m, X, W, cf, s, hk, o, h => by
    unfold ckS at h
    split at h
    · split at h
      · rename_i x px y py kt pt a b k2 pt2 i j ma mb
        obtain ⟨h1, h⟩ := and2 h
        obtain ⟨h2, h⟩ := and2 h
        obtain ⟨h3, h⟩ := and2 h
        obtain ⟨h4, h5⟩ := and2 h
        have hp := h4
        unfold parB at hp
        obtain ⟨p1, hp⟩ := and2 hp
        obtain ⟨p2, hp⟩ := and2 hp
        have ln := len_evEs (C := C) [ma, mb]
        exact ss_par o.calm o.nd (by rw [o.N]; exact of_decide_eq_true h1) (by rw [o.N]; exact of_decide_eq_true h2) (of_decide_eq_true h3) (by rw [o.sc]; exact of_decide_eq_true p1) (by rw [o.sc]; exact of_decide_eq_true p2) (ckEs_ok hCk [ma, mb] o h5) ln (parB_ok hk (by rw [o.sc]; exact h4)) rfl
      · exact tup_gen hCk o h
    · cases h
  | .asg (.sub a i) m, X, W, cf, s, hk, o, h => by
    unfold ckS at h
    split at h
    · obtain ⟨h0, h⟩ := and2 h
      obtain ⟨h1, h⟩ := and2 h
      obtain ⟨h2, h⟩ := and2 h
      obtain ⟨h3, h4⟩ := and2 h
      refine ss_sub (by rw [hCk]; exact o.hC) o.hr.units (ckE_ok hCk a o h2).v (ckE_ok hCk i o h3).v (ckE_ok hCk m o h4).v (swsole h1) noSub_sw (asgSub h0)
    · cases h
  | .asg (.attr _ _) _, _, _, _, _, _, _, h => by unfold ckS at h; cases h
  | .aug i op m, X, W, cf, s, hk, o, h => by
    unfold ckS at h
    split at h
    · obtain ⟨h1, h⟩ := and2 h
      obtain ⟨h2, h⟩ := and2 h
      obtain ⟨h3, h⟩ := and2 h
      obtain ⟨h4, h5⟩ := and2 h
      have e1 := opB_ok h1
      subst e1
      obtain ⟨l1, l2⟩ := loc_of o h4
      exact ss_aug (of_decide_eq_true h2) o.nd (by rw [o.N]; exact of_decide_eq_true h3) l1 (ckE_ok hCk m o h5).v l2
    · cases h
  | .expr m, X, W, cf, s, hk, o, h => by
    unfold ckS at h
    split at h
    · obtain ⟨h1, h2⟩ := and2 h
      exact ss_expr (ckE_ok hCk m o h2).v (notComp_sw h1)
    · cases h
  | .ret m, X, W, cf, s, hk, o, h => by
    unfold ckS at h
    split at h
    · exact ss_ret (ckE_ok hCk m o h).v
    · cases h
  | .retN, X, W, cf, s, hk, o, h => by
    unfold ckS at h
    split at h
    · exact ss_retN
    · cases h
  | .ifs c a b, X, W, cf, s, hk, o, h => by
    unfold ckS at h
    split at h
    · obtain ⟨h1, h⟩ := and2 h
      obtain ⟨h2, h⟩ := and2 h
      obtain ⟨h3, h4⟩ := and2 h
      exact ss_if ((ckE_ok hCk c o h2).t h1) (ckSs_ok hCk a hk o h3) (ckSs_ok hCk b hk o h4)
    · cases h
  | .for_ t it b, X, W, cf, s, hk, o, h => by
    unfold ckS at h
    split at h
    · obtain ⟨h1, h⟩ := and2 h
      obtain ⟨h2, h⟩ := and2 h
      obtain ⟨h3, h⟩ := and2 h
      obtain ⟨h4, h5⟩ := and2 h
      exact ss_for (o.top h1).2.2 o.calm (ckI_ok hCk it o h3) (ckG_ok o h4) (ckSs_ok hCk b hk o h5) (notSet_fold h2)
    · cases h
  | .while_ c b, X, W, cf, s, hk, o, h => by
    unfold ckS at h
    split at h
    · obtain ⟨h1, h⟩ := and2 h
      obtain ⟨h2, h⟩ := and2 h
      obtain ⟨h3, h4⟩ := and2 h
      exact ss_while (o.top h1).2.2 ((ckE_ok hCk c o h3).t h2) (ckSs_ok hCk b hk o h4)
    · cases h
  | .brk, X, W, cf, s, hk, o, h => by
    unfold ckS at h
    split at h
    · exact ss_brk
    · cases h
  | .cont, X, W, cf, s, hk, o, h => by
    unfold ckS at h
    split at h
    · exact ss_cont
    · cases h
  | .pass, X, W, cf, s, hk, o, h => by
    unfold ckS at h
    split at h
    · exact ss_pass
    · cases h
  | .raise c m, X, W, cf, s, hk, o, h => by
    unfold ckS at h
    split at h
    · obtain ⟨h1, h⟩ := and2 h
      obtain ⟨h2, h⟩ := and2 h
      obtain ⟨h3, h⟩ := and2 h
      obtain ⟨h4, h⟩ := and2 h
      obtain ⟨h5, h6⟩ := and2 h
      have e1 := of_decide_eq_true h2
      subst e1
      exact ss_raise o.calm o.err (by rw [o.xn]; exact of_decide_eq_true h1) o.hr o.tk (ckE_ok hCk m o h6).v (gl_of o.sc h3) (dbgOk_1 h4).1 h5
    · cases h
  | .try_ b ds, X, W, cf, s, hk, o, h => by
    unfold ckS at h
    split at h
    · obtain ⟨h1, h⟩ := and2 h
      obtain ⟨h2, h3⟩ := and2 h
      obtain ⟨t1, t2, _⟩ := o.top h1
      exact ss_try t1 t2 o.nd o.err o.tk (fun W' pn xe tk po => ckSs_ok hCk b hk (o.tr tk po) h2) (ckHs_ok o h3)
    · cases h
  | .bad, _, _, _, _, _, _, _ => SS.bad
theorem ckSs_ok (hCk : C = { T with call := callK T k }) : ∀ (m : MSs) {X : Cx} {W : WX} {cf : Cf} {s : List Stmt}, X.env.scope.kind = .function → XOk A T X W k cf → ckSs T cf m s = true → SSs A T X W s (exSs C m)
  | .nil, X, W, cf, s, hk, o, h => by
    cases s with
    | nil => exact ss_nil
    | cons _ _ => unfold ckSs at h; cases h
  | .cons m r, X, W, cf, s, hk, o, h => by
    cases s with
    | nil => unfold ckSs at h; cases h
    | cons st sts =>
      unfold ckSs at h
      obtain ⟨h1, h2⟩ := and2 h
      exact ss_cons (ckS_ok hCk m hk o h1) (ckSs_ok hCk r hk o h2)
end
end
end Sd

set_option Elab.async false
set_option linter.all false
set_option maxRecDepth 100000
set_option maxHeartbeats 4000000
namespace Sd
open PySem L2 MP
/-- what is told of a def -/
structure DefOk (A : Ad) (T : Tb) (K : PySem.W.Frag) (mg : PySem.Str → Option Value) (fnt : List (PySem.Str × Nat)) (nm : Nat → PySem.Str) (x : PySem.Str) (f : Nat) : Prop where
  is : ∃ (d : FD) (nx qual : PySem.Str) (params : Arguments) (body : List Stmt) (scope : Scope) (kws : List (PySem.Str × V)) (N : List PySem.Str), T.fn f = some d ∧ FunD K nx qual params body scope (d.dfl.map kcV) kws (A.fa f) (A.fd f) ∧ FnScope N (A.fps f) scope ∧
    (A.fps f).length = d.ar ∧ N.length = d.slots ∧ ckSs T ⟨N, scope, fnt, true, nm, A.xn, A.xf⟩ d.body body = true ∧ (∀ m, m ≤ d.dfl.length → ∃ ds, Vals ((d.dfl.drop (d.dfl.length - m)).map kcV) ds ∧ Binds K (A.fd f) (A.fps f) ds)
  mg : mg x = some (.ref (A.fa f))
/-- a dict of texts, a text of the module -/
structure GdK (K : PySem.W.Frag) (w : World) (mg : PySem.Str → Option Value) (x : PySem.Str) (ps : List (PySem.Str × PySem.Str)) : Prop where
  ok : ∃ d es n, mg x = some (.ref d) ∧ KDict K w d es n ∧ ∀ z, ∃ r, PySem.W.nsIn K d z = some r ∧ ((ps.lookup z = none ∧ r = none) ∨ ∃ y u, ps.lookup z = some y ∧ r = some u ∧ RelV (.str y) u)
/-- what is told of the program -/
structure PgOk (A : Ad) (T : Tb) (P : Program) (w : World) (K : PySem.W.Frag) (mg : PySem.Str → Option Value) (fnt : List (PySem.Str × Nat)) (nm : Nat → PySem.Str) : Prop where
  fn : ∀ x f, fnt.lookup x = some f → DefOk A T K mg fnt nm x f
  blt : ∀ x ∈ bltNames, mg x = none
  err : Errs A P K mg nm
  gd : ∀ x ps, T.gd x = some ps → GdK K w mg x ps
  gs : ∀ x s, T.gs x = some s → ∃ t, mg x = some (.str s t)
  hC : ∀ c, T.ci c = none
section
variable {A : Ad} {T : Tb} {P : Program} {w : World} {K : PySem.W.Frag} {mg : PySem.Str → Option Value} {base : Heap} {fnt : List (PySem.Str × Nat)} {nm : Nat → PySem.Str}
theorem start_rep {K : PySem.W.Frag} {w0 : Wd} {N : List PySem.Str} {xs : List MV} {us : List V} {n : Nat} (r : w0.reps A T xs us) (hn : N.length = n) (hl : xs.length ≤ n) : EsR A T w0 (startE n xs) (L2.start N us) := by
  have l := r.length
  unfold startE L2.start
  refine ⟨?_, fun i v q => ?_⟩
  · rw [List.length_append, List.length_append, List.length_map, List.length_map, List.length_replicate, List.length_replicate, l, hn]
  · by_cases hi : i < xs.length
    · rw [List.getElem?_append_left (by simpa using hi), List.getElem?_map, Option.map_eq_some_iff] at q
      obtain ⟨y, h1, h2⟩ := q
      cases h2
      obtain ⟨u, h3, h4⟩ := r.get h1
      refine ⟨u, ?_, h4⟩
      rw [List.getElem?_append_left (by rw [List.length_map, l]; exact hi), List.getElem?_map, h3]
      rfl
    · rw [List.getElem?_append_right (by simpa using hi), List.getElem?_replicate] at q
      split at q <;> cases q
theorem out_po {K : PySem.W.Frag} {w0 : Wd} {Q : VK} {E : XK} {s : S} (z : s.out.wp (K0 A T K w0 Q) (X0 A T K w0 E)) : s.wp (po A T K w0 (fun cls d _ H => E cls d H) { nx := fun _ H' => Q .non H', rt := Q }) := by
  cases s with
  | nx e h =>
    have z : K0 A T K w0 Q .non h := z
    exact fun w' σ' eh l m es => z w' .non eh l m rfl
  | rt v h => exact z
  | bk e h => exact z.elim
  | ct e h => exact z.elim
  | ex c v e h =>
    have z : X0 A T K w0 E c v h := z
    exact fun w' σ' cls d eh l m es x => z w' cls d eh l m x
  | bad => exact z.elim
theorem fn_all (G : PgOk A T P w K mg fnt nm) : ∀ (k : Nat) (x : PySem.Str) (f : Nat), fnt.lookup x = some f → FnOk P w K mg base (L2.CX P w) (lv k) (A.fa f) (A.fd f) (A.fps f) (spF A T K k f)
  | 0, x, f, h => by
    refine ⟨fun vs H Q E z => ?_, fun A' outer s H args us vs Q E hr he hb hv z => ?_⟩
    · obtain ⟨_, _, _, _, _, z⟩ := z
      exact z.elim
    · obtain ⟨_, _, _, _, _, z⟩ := z
      exact z.elim
  | k + 1, x, f, h => by
    obtain ⟨d, nx, qual, params, body, scope, kws, N, hd, F, S, hps, hN, hck, hb⟩ := (G.fn x f h).is
    have un : ∀ {xs : List MV} {w0 : Wd} {Q : VK} {E : XK}, (callK T (k + 1) f xs w0.h).wp (K0 A T K w0 Q) (X0 A T K w0 E) → xs.length = d.ar ∧ (exSs { T with call := callK T k } d.body (startE d.slots xs) w0.h).out.wp (K0 A T K w0 Q) (X0 A T K w0 E) := fun {xs w0 Q E} z => by
      unfold callK at z
      rw [hd] at z
      simp only at z
      split at z
      · rename_i hl; exact ⟨hl, z⟩
      · exact z.elim
    have hlv : lv (k + 1) = 2 * k + 1 + 1 := by unfold lv; omega
    rw [hlv]
    refine F.ok S (fun vs H Q E z => ?_) fun cdv A' outer s H vs Q E hr z => ?_
    · obtain ⟨xs, w0, _, _, r, z⟩ := z
      rw [r.length, (un z).1, hps]
    · obtain ⟨xs, w0, hH, m, r, z⟩ := z
      obtain ⟨hl, z⟩ := un z
      subst hH
      refine ⟨rS A T K (fun cls d _ H => E cls d H) (exSs { T with call := callK T k } d.body), ?_, startE d.slots xs, w0, rfl, start_rep (K := K) r hN ?_, m, out_po z⟩
      · have o : XOk A T (cxOf (L2.CX P w) P w K mg base N qual scope (A.fa f) cdv A' outer s w0.H E) (fun cls d _ H => E cls d H) k ⟨N, scope, fnt, true, nm, A.xn, A.xf⟩ := {
          N := rfl
          nd := S.nd
          sc := rfl
          calm := rfl
          fnm := fun y g hy => by
            obtain ⟨d2, nx2, qual2, params2, body2, scope2, kws2, N2, hd2, F2, S2, hps2, hN2, hck2, hb2⟩ := (G.fn y g hy).is
            exact ⟨d2, hd2, fn_all G k y g hy, (G.fn y g hy).mg, F2.kp, hb2⟩
          hr := hr.mono (by unfold lv; omega)
          tk := takes_of rfl rfl rfl rfl
          fnc := fun _ _ _ => rfl
          blt := G.blt
          err := G.err
          xn := rfl
          xf := fun _ => rfl
          gd := fun C y ps hT q => by
            obtain ⟨d', es, n, g1, g2, g3⟩ := (G.gd y ps q).ok
            exact ⟨by rw [hT]; exact q, d', es, n, g1, g2, g3⟩
          gs := G.gs
          hC := G.hC
          top := fun _ => ⟨rfl, rfl, passes_of rfl⟩ }
        exact ckSs_ok rfl d.body S.kind o hck
      · rw [hl, ← hps, ← hN]
        have : (N.take (A.fps f).length).length = (A.fps f).length := by rw [S.pre]
        rw [List.length_take] at this
        omega
end
end Sd

set_option Elab.async false
set_option linter.all false
set_option maxRecDepth 100000
set_option maxHeartbeats 4000000
namespace Sd
open PySem PySem.W PySem.HandSPX PySem.Calls PyProof.Rows L2 MP
/-! ### the exceptions' facts from what the head looks at -/
structure ErrD where
  nm : PySem.Str
  f : PySem.Str
  qual : PySem.Str
  params : Arguments
  body : List Stmt
  scope : Scope
abbrev FnE : Type := Option (PySem.Str × PySem.Str × Arguments × FuncBody × Scope × Addr × List PySem.Str × Addr)
abbrev eC (K : Frag) (e : ErrD) : Addr := He.ga K e.nm
abbrev eI (K : Frag) (e : ErrD) : Addr := He.ma K (He.ga K e.nm) "__init__"
def errW (K : Frag) (e : ErrD) : FnE := match K.lookup (eI K e) with
  | some ⟨_, _, .func fd, _⟩ => some (fd.name, fd.qualname, fd.params, fd.body, fd.scope, fd.globals, fd.closure.map (·.1), fd.builtins)
  | _ => none
def ErrD.val (e : ErrD) : FnE := some ("__init__", e.qual, e.params, .stmts e.body, e.scope, mainGlobals, ["__class__"], builtinsNs)
def clsB (K : Frag) (C : Addr) : Bool := match K.lookup C with
  | some ⟨.type "type", _, .cls cd, sl⟩ => (match cd.mro, sl.toList with
    | .ref C' :: bm, [_, _, _, _, some (.builtin n), _] => C' == C && n == "ValueError.__new__" && !cd.hasDel && cd.hasDict && refsVE bm
    | _, _ => false)
  | _ => false
theorem clsB_ok {K : Frag} {C : Addr} (q : clsB K C = true) : ∃ nm q N bs bm sn sub ab col dd k0 k1 k2 k3 k5, K.lookup C = some (excClassObj nm q C N bs bm true sn sub ab col dd k0 k1 k2 k3 k5 "ValueError.__new__") ∧ refsVE bm = true := by
  unfold clsB at q
  split at q
  · rename_i dd cd sl ho
    split at q
    · rename_i C' bm k0 k1 k2 k3 n k5 hm hs
      simp only [Bool.and_eq_true, beq_iff_eq, Bool.not_eq_true'] at q
      obtain ⟨⟨⟨⟨h1, h2⟩, hdel⟩, hdct⟩, ht⟩ := q
      subst h1 h2
      obtain ⟨nm, bs, mro, ns, qn, hd, sn, sub, ab, col, del⟩ := cd
      dsimp only at hm hdel hdct
      subst hm hdel hdct
      have hsl : sl = #[k0, k1, k2, k3, some (.builtin "ValueError.__new__"), k5] := by
        obtain ⟨l⟩ := sl
        simp only at hs
        rw [hs]
      subst hsl
      exact ⟨nm, qn, ns, bs, bm, sn, sub, ab, col, dd, k0, k1, k2, k3, k5, ho, ht⟩
    · cases q
  · cases q
def codeB (K : Frag) (P : Program) (e : ErrD) : Bool := match K.lookup (eI K e) with
  | some ⟨_, _, .func fd, _⟩ => (match fd.code, fd.closure with
    | .ref cda, [(_, cc)] => codeIn K (.ref cda) e.qual && ((match fd.defaults with
      | .ref D => (match K.lookup D with
        | some ⟨_, _, .seq its _, _⟩ => (match its.toList with
          | [_] => true
          | _ => false)
        | _ => false)
      | _ => false) && ((match K.lookup cda with
      | some ⟨_, _, .fields vs, _⟩ => (match (vs[2]? : Option Value) with
        | some (Value.str file _) => (P.main.file : PySem.Str) == file
        | _ => false)
      | _ => false) && (match K.lookup cc with
      | some ⟨_, _, .cell (some (.ref D)), _⟩ => decide (D = eC K e)
      | _ => false)))
    | _, _ => false)
  | _ => false
def errB (K : Frag) (P : Program) (e : ErrD) : Bool :=
  clsB K (eC K e) && (He.eqO (findIn K (.ref (eC K e)) "__setattr__") (some (some (.builtin "object.__setattr__"))) && (He.eqO (findIn K (.ref (eC K e)) e.f) (some none) && (He.eqO (findIn K (.ref (eC K e)) "__init__") (some (some (.ref (eI K e)))) &&
  (decide (typeIn K (.ref (eI K e)) = some (.type "function")) && (keepIn K (.ref (eC K e)) && (decide (subIn K (.ref (eC K e)) (.type "BaseException") = some true) && (decide (typeIn K (.ref (eC K e)) = some (.type "type")) &&
  (decide (subIn K (.ref (eC K e)) (.type "ValueError") = some true) && (He.eqO (ks_superIn K (eC K e) (eC K e) "__init__") (some (some (.builtin Xn.vi))) && (He.eqO (nsIn K cStatics "thirdparty.any") (some none) && (xfB K (eC K e) && codeB K P e)))))))))))
/-- what is to be seen of the text of such an __init__ -/
structure ErrS (P : Program) (e : ErrD) : Prop where
  top : (P.main.scope.names.lookup ("super" : PySem.Str)).isSome = false
  nf : (("self" : PySem.Str) == e.f) = false
  is : ∃ (q0 q1 q2 q3 q4 q5 q6 q7 q8 q9 : Pos) (ar : Arg), e.body = [.Expr (.Call (.Attribute (.Call (.Name "super" q0) [] [] q1) "__init__" q2) [.Name e.f q3] [] q4) q5, .Assign [.Attribute (.Name "self" q6) e.f q7] (.Name e.f q8) q9] ∧
    (e.params.posonlyargs ++ e.params.args).head? = some ar ∧ ar.arg = "self" ∧ (q2.endLine == q4.line) = true
  bind : ∀ (D : Addr) (kV doc pm ct : Value) (an : Option Addr) (cda cc : Addr) (x v z : Value), ∃ k, bindArgs (ksFn "__init__" e.qual e.params e.body e.scope (.ref D) kV doc pm an (.ref cda) ct cc) ⟨[x, v], []⟩ = seqItems? (.ref D) >>= k ∧ k (some [z].toArray) = (pure [(("self" : PySem.Str), x), (e.f, v)] : Sem (List (PySem.Str × Value)))
  sc : e.scope.names.lookup ("super" : PySem.Str) = some .globalImplicit ∧ e.scope.names.lookup ("__class__" : PySem.Str) = some .free ∧ e.scope.names.lookup ("self" : PySem.Str) = some .local ∧ e.scope.names.lookup e.f = some .local ∧
    (∀ x ∈ e.scope.names, x.2 ≠ .cell) ∧ e.scope.isCoroutine = false ∧ e.scope.isGenerator = false ∧ e.scope.kind = .function ∧ (e.f == ("__debug__" : PySem.Str)) = false
theorem err_ok {P : Program} {K : Frag} {mg : PySem.Str → Option Value} {e : ErrD} (S : ErrS P e) (gC : mg e.nm = some (.ref (eC K e))) (sg : mg "super" = none) (b : errB K P e = true) (v : errW K e = e.val) : Xn.ErrTxt P K mg e.nm e.f (eC K e) (eI K e) ∧ XfC K (eC K e) := by
  unfold errB at b
  obtain ⟨b1, b⟩ := and2 b
  obtain ⟨b2, b⟩ := and2 b
  obtain ⟨b3, b⟩ := and2 b
  obtain ⟨b4, b⟩ := and2 b
  obtain ⟨b5, b⟩ := and2 b
  obtain ⟨b6, b⟩ := and2 b
  obtain ⟨b7, b⟩ := and2 b
  obtain ⟨b8, b⟩ := and2 b
  obtain ⟨b9, b⟩ := and2 b
  obtain ⟨b10, b⟩ := and2 b
  obtain ⟨b11, b⟩ := and2 b
  obtain ⟨b12, b13⟩ := and2 b
  refine ⟨⟨gC, clsB_ok b1, He.eqO_ok b2, He.eqO_ok b3, He.eqO_ok b4, of_decide_eq_true b5, b6, of_decide_eq_true b7, of_decide_eq_true b8, of_decide_eq_true b9, He.eqO_ok b10, He.eqO_ok b11, S.top, sg, S.nf, ?_⟩, xfB_ok b12⟩
  obtain ⟨q0, q1, q2, q3, q4, q5, q6, q7, q8, q9, ar, hb, hp, har, hln⟩ := S.is
  obtain ⟨s1, s2, s3, s4, s5, s6, s7, s8, s9⟩ := S.sc
  unfold codeB at b13
  unfold errW at v
  cases q : K.lookup (eI K e) with
  | none => rw [q] at b13; cases b13
  | some o =>
    obtain ⟨oc, od, dt, osl⟩ := o
    rw [q] at b13 v
    cases dt with
    | func fd =>
      obtain ⟨n1, n2, n3, n4, n5, n6, n7, n8, n9, n10, n11, n12, n13, n14, n15⟩ := fd
      have e2 : (some (n1, n2, n3, n4, n5, n6, n7.map (·.1), n15) : FnE) = (some ("__init__", e.qual, e.params, FuncBody.stmts e.body, e.scope, mainGlobals, ["__class__"], builtinsNs) : FnE) := v
      simp only [Option.some.injEq, Prod.mk.injEq] at e2
      obtain ⟨h1, h2, h3, h4, h5, h6, h7, h8⟩ := e2
      dsimp only at b13
      split at b13
      · rename_i cda n0 cc
        obtain ⟨c1, c2⟩ := and2 b13
        obtain ⟨c0, c2⟩ := and2 c2
        obtain ⟨c3, c4⟩ := and2 c2
        obtain ⟨D, hD0, oD, its, n, hl, hits, z, hz⟩ : ∃ D, n8 = .ref D ∧ ∃ (o : Obj) (its : Array Value) (n : Nat), K.lookup D = some o ∧ o.data = .seq its n ∧ ∃ z, its.toList = [z] := by
          split at c0
          · rename_i D
            split at c0
            · rename_i hl
              split at c0
              · rename_i z hz
                exact ⟨D, rfl, _, _, _, hl, rfl, z, hz⟩
              · cases c0
            · cases c0
          · cases c0
        subst h1 h2 h3 h4 h5 h6 h8
        have h7 : n0 = "__class__" := by simpa using h7
        subst h7
        split at c3
        · rename_i ccl cdd vs ccs hcode
          split at c3
          · rename_i file tf hvs
            split at c4
            · rename_i cl cld D csl hcell
              have hD := of_decide_eq_true c4
              subst hD
              have hbd := S.bind
              rw [hb] at hbd
              refine ⟨oc, od, e.qual, e.params, e.scope, n8, n9, n10, n11, n14, n12, cda, cc, osl, q0, q1, q2, q3, q4, q5, q6, q7, q8, q9, ccl, cl, cdd, cld, vs, ccs, csl, file, tf, ar, ?_, c1, hcode, hvs, c3, hcell, hp, har, ?_, s1, s2, s3, s4, s5, s6, s7, s8, s9, hln⟩
              · rw [← hb]
                all_goals exact q
              · intro sh x1 v1 X1
                subst hD0
                obtain ⟨kk, k1, k2⟩ := hbd D n9 n10 n11 n14 n12 cda cc x1 v1 z
                refine BindsTo.of_looks fun M => ?_
                rw [k1]
                refine looks_items X1 hl hits (.of_pure ?_)
                have : its = [z].toArray := by rw [← hz]
                rw [this]
                exact k2
            · cases c4
          · cases c3
        · cases c3
      · cases b13
    | _ => cases b13
/-! ### the Hook -/
abbrev AlS : Type := He.AlT × (Bool × List FnE)
def obsS (fa : List He.Fa) (fn : List He.DefD) (ts : List He.Tab) (es : List ErrD) (P : Program) (ex : Frag → Bool) (K : Frag) : AlS := (He.obsT fa fn ts K, ((es.all fun e => errB K P e) && ex K, es.map fun e => errW K e))
def valS (fn : List He.DefD) (ts : List He.Tab) (es : List ErrD) (w : World) : AlS := (He.valT fn ts w, (true, es.map ErrD.val))
def SaysS (fa : List He.Fa) (fn : List He.DefD) (ts : List He.Tab) (es : List ErrD) (P : Program) (ex : Frag → Bool) (w : World) (K : Frag) : Prop := obsS fa fn ts es P ex K = valS fn ts es w
def obsSG (n : Nat) (fa : List He.Fa) (fn : List He.DefD) (ts : List He.Tab) (es : List ErrD) (P : Program) (ex : Frag → Bool) (g : Addr → Option Obj) : AlS := obsS fa fn ts es P ex (He.frG g (cStatics :: He.asD g n))
def hookS (n : Nat) (fa : List He.Fa) (fn : List He.DefD) (ts : List He.Tab) (es : List ErrD) (P : Program) (ex : Frag → Bool) : Hook where
  α := AlS
  obs := fun s => obsSG n fa fn ts es P ex s.heap.get?
  val := fun w => valS fn ts es w
  says := fun w h => ∃ K : Frag, K.In h ∧ SaysS fa fn ts es P ex w K
  of := fun _ _ e => ⟨_, He.frG_in, e⟩
  keeps := fun _ _ _ ⟨K, hK, c⟩ k => ⟨K, Frag.In.keeps hK k, c⟩
theorem obsSG_eq {n : Nat} {fa : List He.Fa} {fn : List He.DefD} {ts : List He.Tab} {es : List ErrD} {P : Program} {ex : Frag → Bool} {g : Addr → Option Obj} {s : Shared} (h : ∀ a, g a = s.heap.get? a) : obsSG n fa fn ts es P ex g = (hookS n fa fn ts es P ex).obs s := by
  have e : g = s.heap.get? := funext h
  rw [e] <;> rfl
section
variable {fa : List He.Fa} {fn : List He.DefD} {ts : List He.Tab} {es : List ErrD} {P : Program} {ex : Frag → Bool} {w : World} {K : Frag}
theorem SaysS.t (c : SaysS fa fn ts es P ex w K) : He.SaysT fa fn ts w K := congrArg (fun z : AlS => z.1) c
theorem SaysS.fact (c : SaysS fa fn ts es P ex w K) {f : He.Fa} (h : f ∈ fa) : f.ok K = true := by
  obtain ⟨i, hi, e⟩ := List.mem_iff_getElem.mp h
  exact c.t.d.fact i (f := f) (by rw [List.getElem?_eq_getElem hi, e])
theorem SaysS.def_ (c : SaysS fa fn ts es P ex w K) {d : He.DefD} (h : d ∈ fn) : ∃ fd, FunD K d.name d.qual d.params d.body d.scope (d.dvs K) (d.kws K) (He.fAd K d.at_) fd := by
  obtain ⟨i, hi, e⟩ := List.mem_iff_getElem.mp h
  exact c.t.d.def_ i (d := d) (by rw [List.getElem?_eq_getElem hi, e])
theorem SaysS.exk (c : SaysS fa fn ts es P ex w K) : ex K = true :=
  (and2 (show ((es.all fun e => errB K P e) && ex K) = true from congrArg (fun z : AlS => z.2.1) c)).2
theorem SaysS.err (c : SaysS fa fn ts es P ex w K) {e : ErrD} (h : e ∈ es) : errB K P e = true ∧ errW K e = e.val := by
  have h1 := (and2 (show ((es.all fun e => errB K P e) && ex K) = true from congrArg (fun z : AlS => z.2.1) c)).1
  have h2 : es.map (fun e => errW K e) = es.map ErrD.val := congrArg (fun z : AlS => z.2.2) c
  obtain ⟨i, hi, e1⟩ := List.mem_iff_getElem.mp h
  have h3 : (es.map fun e => errW K e)[i]? = (es.map ErrD.val)[i]? := by rw [h2]
  rw [List.getElem?_map, List.getElem?_map, List.getElem?_eq_getElem hi, e1] at h3
  exact ⟨List.all_eq_true.mp h1 e h, Option.some.inj h3⟩
end
/-! ### the law's call -/
theorem law_start {A : Ad} {T : Tb} {K : Frag} {H : Hp} {a : Addr} {ns : List Int} {k f : Nat} {h' : Hm} (hO : Only H) (hS : SqL K H a (ns.map V.int)) (hc : callK T k f [.obj 0] [.ro (ns.map MV.int)] = .ok (.bl true) h') : spF A T K k f [.ref a] H (fun v _ => v = .bl true) (fun _ _ _ => False) := by
  have ro : RoAt K H a (ns.map V.int) := by
    rcases hS with (h | h) | h
    · rcases hO a with q | ⟨o, xs, q⟩
      · rw [q] at h; cases h
      · rw [q] at h; cases h
    · exact .inl h
    · exact .inr fun H' => .inr h
  refine ⟨[.obj 0], ⟨fun _ => none, fun _ => a, [.ro (ns.map MV.int)], H⟩, rfl, ⟨fun _ _ e => (nomatch e), fun i xs e => ?_, fun i o e l => ?_, fun i e => ?_, fun i j oi oj e1 e2 n1 n2 _ => ?_⟩, Reps.cons ⟨rfl, by simp⟩ Reps.nil, ?_⟩
  · cases i with
    | zero =>
      have e : xs = ns.map MV.int := by simpa using e.symm
      subst e
      exact ⟨_, ro, Reps.ints⟩
    | succ i => simp at e
  · cases i with
    | zero =>
      have e : MO.ro (ns.map MV.int) = o := by simpa using e
      subst e
      exact l.elim
    | succ i => simp at e
  · cases i with
    | zero => simp at e
    | succ i => simp at e
  · cases i with
    | zero =>
      have e : MO.ro (ns.map MV.int) = oi := by simpa using e1
      subst e
      exact absurd trivial n1
    | succ i => simp at e1
  · rw [hc]
    intro w' u _ _ _ r
    exact r
end Sd

set_option Elab.async false
set_option linter.all false
set_option maxRecDepth 100000
set_option maxHeartbeats 4000000
namespace Sd
open PySem PySem.W L2 MP
def entV (e : DictEntry) : Option (PySem.Str × PySem.Str) := match e.key, e.val with
  | .str k _, .str v _ => some (k, v)
  | _, _ => none
def gdB (K : Frag) (x : PySem.Str) (ps : List (PySem.Str × PySem.Str)) : Bool := match K.lookup (He.ga K x) with
  | some ⟨_, _, .dict es _, _⟩ => decide (es.toList.map entV = ps.map some)
  | _ => false
theorem ents_find : ∀ {l : List DictEntry} {ps : List (PySem.Str × PySem.Str)} (z : PySem.Str), l.map entV = ps.map some →
    (l.any (·.refKey)) = false ∧ ((ps.lookup z = none ∧ l.find? (·.key.isStr z) = none) ∨ ∃ y e, ps.lookup z = some y ∧ l.find? (·.key.isStr z) = some e ∧ RelV (.str y) e.val)
  | [], [], z, _ => ⟨rfl, .inl ⟨rfl, rfl⟩⟩
  | [], _ :: _, z, h => by cases h
  | _ :: _, [], z, h => by cases h
  | e :: l, (k, v) :: ps, z, h => by
    simp only [List.map_cons, List.cons.injEq] at h
    obtain ⟨h1, h2⟩ := h
    obtain ⟨i1, i2⟩ := ents_find z h2
    obtain ⟨eh, ek, ev⟩ := e
    unfold entV at h1
    split at h1
    · rename_i k0 t0 v0 t1 e1 e2
      simp only [Option.some.injEq, Prod.mk.injEq] at h1
      obtain ⟨h3, h4⟩ := h1
      have e1 : ek = .str k0 t0 := e1
      have e2 : ev = .str v0 t1 := e2
      subst e1 e2 h3 h4
      refine ⟨by rw [List.any_cons, i1]; rfl, ?_⟩
      by_cases hz : k0 = z
      · subst hz
        refine .inr ⟨v0, ⟨eh, .str k0 t0, .str v0 t1⟩, by simp [List.lookup], ?_, ⟨t1, rfl⟩⟩
        rw [List.find?_cons]
        have : (Value.str k0 t0).isStr k0 = true := by simp [Value.isStr]
        rw [this]
      · have q1 : (z == k0) = false := by simpa using fun q => hz q.symm
        have q2 : (Value.str k0 t0).isStr z = false := by simpa [Value.isStr] using hz
        rw [List.find?_cons]
        simp only [q2]
        have q3 : List.lookup z ((k0, v0) :: ps) = ps.lookup z := by simp [List.lookup, q1]
        rw [q3]
        exact i2
    · cases h1
theorem gdB_ok {K : Frag} {w : World} {mg : PySem.Str → Option Value} {x : PySem.Str} {ps : List (PySem.Str × PySem.Str)} (hg : mg x = some (.ref (He.ga K x))) (D : ∃ es n, KDict K w (He.ga K x) es n) (h : gdB K x ps = true) : GdK K w mg x ps := by
  obtain ⟨es, n, D⟩ := D
  refine ⟨_, es, n, hg, D, fun z => ?_⟩
  unfold gdB at h
  rw [D.at_] at h
  have h := of_decide_eq_true h
  obtain ⟨h1, h2⟩ := ents_find z h
  unfold nsIn
  rw [D.at_]
  simp only
  rcases h2 with ⟨a, b⟩ | ⟨y, e, a, b, c⟩
  · rw [b]
    simp only [h1]
    exact ⟨none, rfl, .inl ⟨a, rfl⟩⟩
  · rw [b]
    exact ⟨some e.val, rfl, .inr ⟨y, e.val, a, rfl, c⟩⟩
/-- where things stand, by names -/
def adOf (K : Frag) (fns : Nat → PySem.Str × Option PySem.Str) (fps : Nat → List PySem.Str) (nm xf : Nat → PySem.Str) (xn : List Nat) : Ad where
  fa := fun f => He.fAd K (fns f)
  fd := fun f => match K.lookup (He.fAd K (fns f)) with
    | some ⟨_, _, .func fd, _⟩ => fd
    | _ => fnOf "" "" default [] default .none .none .none .none none .none .none
  fps := fps
  ca := fun _ => 0
  xa := fun c => He.ga K (nm c)
  xf := xf
  xn := xn
theorem fd_of {K : Frag} {fns : Nat → PySem.Str × Option PySem.Str} {fps : Nat → List PySem.Str} {nm xf : Nat → PySem.Str} {xn : List Nat} {f : Nat} {x qual : PySem.Str} {params : Arguments} {body : List Stmt} {scope : Scope} {dvs : List V} {kws : List (PySem.Str × V)} {fd : FuncData}
    (F : FunD K x qual params body scope dvs kws (He.fAd K (fns f)) fd) : (adOf K fns fps nm xf xn).fd f = fd := by
  obtain ⟨oc, od, dV, kV, doc, pm, an, cdv, ct, osl, e, lk, _⟩ := F.ex
  show (match K.lookup (He.fAd K (fns f)) with
    | some ⟨_, _, .func fd, _⟩ => fd
    | _ => _) = fd
  rw [lk]
theorem mk_def {K : Frag} {T : Tb} {fns : Nat → PySem.Str × Option PySem.Str} {fps : Nat → List PySem.Str} {nm xf : Nat → PySem.Str} {xn : List Nat} {f : Nat} {fnt : List (PySem.Str × Nat)} {mg : PySem.Str → Option Value} {x : PySem.Str} {D : He.DefD} {d : FD} {N : List PySem.Str}
    (hat : fns f = D.at_) (hF : ∃ fd, FunD K D.name D.qual D.params D.body D.scope (D.dvs K) (D.kws K) (He.fAd K D.at_) fd) (hdv : D.dfl = []) (hd : d.dfl = []) (hT : T.fn f = some d) (S : FnScope N (fps f) D.scope) (h1 : (fps f).length = d.ar) (h2 : N.length = d.slots)
    (ck : ckSs T ⟨N, D.scope, fnt, true, nm, xn, xf⟩ d.body D.body = true)
    (bi : ∀ (kV doc pm : Value) (an : Option Addr) (cdv ct : Value) (us : List Value), us.length = (fps f).length → bindArgs (PySem.W.fnOf D.name D.qual D.params D.body D.scope .none kV doc pm an cdv ct) ⟨us, []⟩ = pure ((fps f).zip us))
    (hm : mg x = some (.ref (He.fAd K D.at_))) : DefOk (adOf K fns fps nm xf xn) T K mg fnt nm x f := by
  obtain ⟨fd, F⟩ := hF
  have e0 : D.dvs K = [] := by unfold He.DefD.dvs; rw [hdv]; rfl
  rw [e0] at F
  rw [← hat] at F
  have e := fd_of (fps := fps) (nm := nm) (xf := xf) (xn := xn) F
  refine ⟨⟨d, D.name, D.qual, D.params, D.body, D.scope, D.kws K, N, hT, ?_, S, h1, h2, ck, fun m hmm => ?_⟩, ?_⟩
  · rw [e, hd]
    exact F
  · rw [hd] at hmm ⊢
    rw [e]
    exact ⟨[], by rw [List.drop_nil]; exact .nil, F.bindsN bi⟩
  · show mg x = some (.ref (He.fAd K (fns f)))
    rw [hat]; exact hm
theorem blt_ok {K : Frag} {h : Heap} {mg : PySem.Str → Option Value} (X : K.In h) (G : h.Ns mainGlobals mg) (c : ∀ f ∈ bltNames.map He.Fa.free, f.ok K = true) : ∀ x ∈ bltNames, mg x = none := fun x hx => He.free_ok X G (c _ (List.mem_map_of_mem hx))
end Sd

set_option Elab.async false
set_option linter.all false
set_option maxRecDepth 100000
set_option maxHeartbeats 4000000
namespace Sd
open PySem PySem.W L2 MP
/-- the law's end, exceptions wished for at each world -/
theorem walk_ofS {l : PySem.W.OpenLaw} {n k : Nat} {q : Program} {loose : List PySem.Str} {XP : (PySem.Str → Option Value) → Heap → Prop} {YP : World → Heap → Prop} {d : DefRec} {x : PySem.Str}
    (hn : l.most = some n) (hn2 : n ≤ sizeLine) (hdf : d.params.defaults = []) (hr : Room k callerA)
    (F : ∀ (w : World) (mg : PySem.Str → Option Value) (fa : Addr) (h : Heap), YP w h → h.Ns mainGlobals mg → mg d.name = some (.ref fa) →
      ∃ (K : PySem.W.Frag) (fd : FuncData) (sp : Sp), K.In h ∧ (∀ (s : Shared) (u : Value), BindsTo s fd ⟨[u], []⟩ [(x, u)]) ∧
        (∀ (H : Hp) (a : Addr) (ns : List Int), ns.length ≤ n → Only H → SqL K H a (ns.map V.int) → sp [.ref a] H (fun v _ => v = .bl true) fun _ _ _ => False) ∧
        ∀ base : Heap, K.In base → base.Ns mainGlobals mg → FnOk l.prog w K mg base (L2.CX l.prog w) k fa fd [x] sp) :
    PySem.W.WalkO q loose XP YP l.row.toRowW d [] (fun f vs => PySem.call f vs) := by
  refine Att.attach_call hn hdf fun w s₀ s₁ mg mb fa o pm cd doc a vs ns G Y ho hd hcd hmg hobj hints hlen hg => ?_
  obtain ⟨K, fd, sp, KX, hb, hsp, hF⟩ := F w mg fa _ Y G.T.g hmg
  refine law_call KX G.T.g G.T.b G.T.builtins G.T.nolimit hg hobj hints (Nat.le_trans hlen hn2) hr hF hb (fun H hO hS => hsp H a ns hlen hO hS) fun H e s' z => ?_
  obtain ⟨_, _, _, _, _, _, _, _, _, _, _, _, z⟩ := z
  exact z
/-- a law whose def is f of the table, its promise from the evaluator's answer -/
theorem law_ok {l : PySem.W.OpenLaw} {A : Ad} {T : Tb} {w : World} {K : PySem.W.Frag} {mg : PySem.Str → Option Value} {fnt : List (PySem.Str × Nat)} {nm : Nat → PySem.Str} {k f : Nat} {x : PySem.Str} {h : Heap} {fa : Addr} (hx : fnt.lookup ("law" : PySem.Str) = some f) (hp : A.fps f = [x]) (KX : K.In h) (G : PgOk A T l.prog w K mg fnt nm) (hfa : mg ("law" : PySem.Str) = some (.ref fa))
    (bi : ∀ (s : Shared) (u : Value), BindsTo s (A.fd f) ⟨[u], []⟩ [(x, u)]) (math : ∀ ns : List Int, ns.length ≤ 63 → ∃ h', callK T k f [.obj 0] [.ro (ns.map MV.int)] = .ok (.bl true) h') :
    ∃ (K : PySem.W.Frag) (fd : FuncData) (sp : Sp), K.In h ∧ (∀ (s : Shared) (u : Value), BindsTo s fd ⟨[u], []⟩ [(x, u)]) ∧
        (∀ (H : Hp) (a : Addr) (ns : List Int), ns.length ≤ 63 → Only H → SqL K H a (ns.map V.int) → sp [.ref a] H (fun v _ => v = .bl true) fun _ _ _ => False) ∧
        ∀ base : Heap, K.In base → base.Ns mainGlobals mg → FnOk l.prog w K mg base (L2.CX l.prog w) (lv k) fa fd [x] sp := by
  have e := (G.fn _ _ hx).mg
  rw [hfa] at e
  cases e
  refine ⟨K, A.fd f, spF A T K k f, KX, bi, fun H a ns hl hO hS => ?_, fun base _ _ => ?_⟩
  · obtain ⟨h', q⟩ := math ns hl
    exact law_start hO hS q
  · rw [← hp]
    exact fn_all G k _ f hx
theorem bi_of {K : Frag} {fns : Nat → PySem.Str × Option PySem.Str} {fps : Nat → List PySem.Str} {nm xf : Nat → PySem.Str} {xn : List Nat} {f : Nat} {x : PySem.Str} {D : He.DefD}
    (hat : fns f = D.at_) (hF : ∃ fd, FunD K D.name D.qual D.params D.body D.scope (D.dvs K) (D.kws K) (He.fAd K D.at_) fd) (hdv : D.dfl = []) (hp : fps f = [x])
    (bi : ∀ (kV doc pm : Value) (an : Option Addr) (cdv ct : Value) (us : List Value), us.length = (fps f).length → bindArgs (PySem.W.fnOf D.name D.qual D.params D.body D.scope .none kV doc pm an cdv ct) ⟨us, []⟩ = pure ((fps f).zip us)) :
    ∀ (s : Shared) (u : Value), BindsTo s ((adOf K fns fps nm xf xn).fd f) ⟨[u], []⟩ [(x, u)] := by
  obtain ⟨fd, F⟩ := hF
  have e0 : D.dvs K = [] := by unfold He.DefD.dvs; rw [hdv]; rfl
  rw [e0] at F
  rw [← hat] at F
  have e := fd_of (fps := fps) (nm := nm) (xf := xf) (xn := xn) F
  have b := FunD.bindsA (ps := fps f) F bi
  intro s u
  rw [e]
  have := b s [u] (by rw [hp]; rfl)
  rw [hp] at this
  exact this
end Sd

set_option linter.all false
set_option maxRecDepth 100000
/-! Laws of the evaluator, for simp: what follows a part is always a named function, so that simp does not walk into it. -/
namespace MP
open PySem (Str)
section
variable {α β : Type} {a : α} {h : Hm} {c : Nat} {v : MV} {e : En}
@[simp] theorem R.bind_ok {f : α → Hm → R β} : (R.ok a h).bind f = f a h := rfl
@[simp] theorem R.bind_ex {f : α → Hm → R β} : (R.ex c v h : R α).bind f = .ex c v h := rfl
@[simp] theorem R.bind_bad {f : α → Hm → R β} : (R.bad : R α).bind f = .bad := rfl
@[simp] theorem R.sb_ok {f : α → Hm → S} : (R.ok a h).sb e f = f a h := rfl
@[simp] theorem R.sb_ex {f : α → Hm → S} : (R.ex c v h : R α).sb e f = .ex c v e h := rfl
@[simp] theorem R.sb_bad {f : α → Hm → S} : (R.bad : R α).sb e f = .bad := rfl
@[simp] theorem S.bind_nx {f : En → Hm → S} : (S.nx e h).bind f = f e h := rfl
@[simp] theorem S.bind_rt {f : En → Hm → S} : (S.rt v h).bind f = .rt v h := rfl
@[simp] theorem S.bind_bk {f : En → Hm → S} : (S.bk e h).bind f = .bk e h := rfl
@[simp] theorem S.bind_ct {f : En → Hm → S} : (S.ct e h).bind f = .ct e h := rfl
@[simp] theorem S.bind_ex {f : En → Hm → S} : (S.ex c v e h).bind f = .ex c v e h := rfl
@[simp] theorem S.bind_bad {f : En → Hm → S} : S.bad.bind f = .bad := rfl
@[simp] theorem S.out_nx : (S.nx e h).out = .ok .non h := rfl
@[simp] theorem S.out_rt : (S.rt v h).out = .ok v h := rfl
@[simp] theorem S.out_ex : (S.ex c v e h).out = .ex c v h := rfl
@[simp] theorem noex_ok : noex (R.ok a h) = .ok a h := rfl
end
section
variable {C : Ct} {e : En} {h : Hm} {a b c : ME} {es : List ME} {x y : MV}
/-! what follows -/
noncomputable def kOp (m : MV → MV → Hm → R MV) (x y : MV) (h : Hm) : R MV := m x y h
noncomputable def kR (C : Ct) (b : ME) (e : En) (m : MV → MV → Hm → R MV) (x : MV) (h : Hm) : R MV := (evE C b e h).bind (kOp m x)
@[simp] theorem kOp_eq {m : MV → MV → Hm → R MV} : kOp m x y h = m x y h := rfl
@[simp] theorem kR_eq {m : MV → MV → Hm → R MV} : kR C b e m x h = (evE C b e h).bind (kOp m x) := rfl
noncomputable def kNeg (x : MV) (h : Hm) : R MV := match x with | .int i => .ok (.int (-i)) h | _ => .bad
@[simp] theorem kNeg_eq {i : Int} : kNeg (.int i) h = .ok (.int (-i)) h := rfl
noncomputable def kNot (x : MV) (h : Hm) : R MV := asB x h fun b h => .ok (.bl (!b)) h
@[simp] theorem kNot_eq {i : Bool} : kNot (.bl i) h = .ok (.bl (!i)) h := rfl
noncomputable def kAnd (C : Ct) (b : ME) (e : En) (x : MV) (h : Hm) : R MV := asB x h fun c h => if c then evE C b e h else .ok (.bl false) h
@[simp] theorem kAnd_t : kAnd C b e (.bl true) h = evE C b e h := rfl
@[simp] theorem kAnd_f : kAnd C b e (.bl false) h = .ok (.bl false) h := rfl
theorem kAnd_b {k : Bool} : kAnd C b e (.bl k) h = if k then evE C b e h else .ok (.bl false) h := rfl
noncomputable def kOr (C : Ct) (b : ME) (e : En) (x : MV) (h : Hm) : R MV := asB x h fun c h => if c then .ok (.bl true) h else evE C b e h
@[simp] theorem kOr_t : kOr C b e (.bl true) h = .ok (.bl true) h := rfl
@[simp] theorem kOr_f : kOr C b e (.bl false) h = evE C b e h := rfl
theorem kOr_b {k : Bool} : kOr C b e (.bl k) h = if k then .ok (.bl true) h else evE C b e h := rfl
noncomputable def kIte (C : Ct) (a b : ME) (e : En) (x : MV) (h : Hm) : R MV := asB x h fun k h => if k then evE C a e h else evE C b e h
@[simp] theorem kIte_t : kIte C a b e (.bl true) h = evE C a e h := rfl
@[simp] theorem kIte_f : kIte C a b e (.bl false) h = evE C b e h := rfl
theorem kIte_b {k : Bool} : kIte C a b e (.bl k) h = if k then evE C a e h else evE C b e h := rfl
noncomputable def kIsN (n : Bool) (x : MV) (h : Hm) : R MV := match x with | .non => .ok (.bl (!n)) h | _ => .ok (.bl n) h
@[simp] theorem kIsN_eq {n} : kIsN n x h = (match x with | .non => .ok (.bl (!n)) h | _ => .ok (.bl n) h) := rfl
noncomputable def kCh3 (C : Ct) (o2 : COp) (y w : MV) (h : Hm) : R MV := mCmp C o2 y w h
noncomputable def kCh2 (C : Ct) (o2 : COp) (c : ME) (e : En) (y z : MV) (h : Hm) : R MV := asB z h fun k h => if k then (evE C c e h).bind (kCh3 C o2 y) else .ok (.bl false) h
noncomputable def kCh1 (C : Ct) (o1 o2 : COp) (c : ME) (e : En) (x y : MV) (h : Hm) : R MV := (mCmp C o1 x y h).bind (kCh2 C o2 c e y)
noncomputable def kCh (C : Ct) (o1 o2 : COp) (b c : ME) (e : En) (x : MV) (h : Hm) : R MV := (evE C b e h).bind (kCh1 C o1 o2 c e x)
@[simp] theorem kCh3_eq {o2} : kCh3 C o2 x y h = mCmp C o2 x y h := rfl
@[simp] theorem kCh2_t {o2} : kCh2 C o2 c e y (.bl true) h = (evE C c e h).bind (kCh3 C o2 y) := rfl
@[simp] theorem kCh2_f {o2} : kCh2 C o2 c e y (.bl false) h = .ok (.bl false) h := rfl
theorem kCh2_b {o2 k} : kCh2 C o2 c e y (.bl k) h = if k then (evE C c e h).bind (kCh3 C o2 y) else .ok (.bl false) h := rfl
@[simp] theorem kCh1_eq {o1 o2} : kCh1 C o1 o2 c e x y h = (mCmp C o1 x y h).bind (kCh2 C o2 c e y) := rfl
@[simp] theorem kCh_eq {o1 o2} : kCh C o1 o2 b c e x h = (evE C b e h).bind (kCh1 C o1 o2 c e x) := rfl
noncomputable def kCall (C : Ct) (f : Nat) (vs : List MV) (h : Hm) : R MV := callF C f vs h
@[simp] theorem kCall_eq {f vs} : kCall C f vs h = callF C f vs h := rfl
noncomputable def kMake (C : Ct) (f : Nat) (vs : List MV) (h : Hm) : R MV := makeC C f vs h
@[simp] theorem kMake_eq {f vs} : kMake C f vs h = makeC C f vs h := rfl
noncomputable def kBlt (C : Ct) (b : Bl) (vs : List MV) (h : Hm) : R MV := mBlt C b vs h
@[simp] theorem kBlt_eq {b vs} : kBlt C b vs h = mBlt C b vs h := rfl
noncomputable def kIsi (C : Ct) (t : Ty) (x : MV) (h : Hm) : R MV := match isiB C h x t with | some b => .ok (.bl b) h | none => .bad
@[simp] theorem kIsi_eq {t} : kIsi C t x h = (match isiB C h x t with | some b => .ok (.bl b) h | none => .bad) := rfl
noncomputable def kAttr (C : Ct) (f : Str) (x : MV) (h : Hm) : R MV := attrOf C x f h
@[simp] theorem kAttr_eq {f} : kAttr C f x h = attrOf C x f h := rfl
noncomputable def kSl2 (x : MV) (l u : Option Int) (h : Hm) : R MV := mSlc x l u h
noncomputable def kSl1 (C : Ct) (hi : Option ME) (e : En) (x : MV) (l : Option Int) (h : Hm) : R MV := (evO C hi e h).bind (kSl2 x l)
noncomputable def kSl (C : Ct) (lo hi : Option ME) (e : En) (x : MV) (h : Hm) : R MV := (evO C lo e h).bind (kSl1 C hi e x)
@[simp] theorem kSl2_eq {l u} : kSl2 x l u h = mSlc x l u h := rfl
@[simp] theorem kSl1_eq {hi l} : kSl1 C hi e x l h = (evO C hi e h).bind (kSl2 x l) := rfl
@[simp] theorem kSl_eq {lo hi} : kSl C lo hi e x h = (evO C lo e h).bind (kSl1 C hi e x) := rfl
noncomputable def kRev (x : MV) (h : Hm) : R MV := match x with
  | .obj a => (match h[a]? with
    | some (.lst xs) => .ok (.obj h.length) (h ++ [.lst xs.reverse])
    | _ => .bad)
  | _ => .bad
@[simp] theorem kRev_eq {a : Nat} : kRev (.obj a) h = (match h[a]? with
    | some (.lst xs) => .ok (.obj h.length) (h ++ [.lst xs.reverse])
    | _ => .bad) := rfl
noncomputable def kNewL (vs : List MV) (h : Hm) : R MV := newL vs h
@[simp] theorem kNewL_eq {vs} : kNewL vs h = if vs.length ≤ lim then .ok (.obj h.length) (h ++ [.lst vs]) else .bad := rfl
noncomputable def kTup (vs : List MV) (h : Hm) : R MV := if vs.length ≤ lim then .ok (.tup vs) h else .bad
@[simp] theorem kTup_eq {vs} : kTup vs h = if vs.length ≤ lim then .ok (.tup vs) h else .bad := rfl
noncomputable def kDict (t : Bool) (p : List MV × List MV) (h : Hm) : R MV := if p.1.length ≤ 15 then (match dmk t p.1 p.2 [] with | some kvs => .ok (.obj h.length) (h ++ [.dct t kvs]) | none => .bad) else .bad
@[simp] theorem kDict_eq {t p} : kDict t p h = if p.1.length ≤ 15 then (match dmk t p.1 p.2 [] with | some kvs => .ok (.obj h.length) (h ++ [.dct t kvs]) | none => .bad) else .bad := rfl
noncomputable def kFin (ys : List MV) (h : Hm) : R MV := .ok (.obj h.length) (h ++ [.lst ys])
@[simp] theorem kFin_eq {vs} : kFin vs h = .ok (.obj h.length) (h ++ [.lst vs]) := rfl
noncomputable def kLc (C : Ct) (el : ME) (tg : Tg) (k : Option ME) (e : En) (p : List MV × Option (Nat × MO)) (h : Hm) : R MV := (lcL p.2 tg (evC C k) (evE C el) e p.1 [] h).bind kFin
@[simp] theorem kLc_eq {el tg k p} : kLc C el tg k e p h = (lcL p.2 tg (evC C k) (evE C el) e p.1 [] h).bind kFin := rfl
noncomputable def kGdin (C : Ct) (x : Str) (v : MV) (h : Hm) : R MV := match C.gd x, v with | some ps, .str s => .ok (.bl (ps.lookup s).isSome) h | _, _ => .bad
@[simp] theorem kGdin_eq {s v} : kGdin C s v h = (match C.gd s, v with | some ps, .str s => .ok (.bl (ps.lookup s).isSome) h | _, _ => .bad) := rfl
noncomputable def kGdat (C : Ct) (x : Str) (v : MV) (h : Hm) : R MV := match C.gd x, v with | some ps, .str s => (match ps.lookup s with | some r => .ok (.str r) h | none => .bad) | _, _ => .bad
@[simp] theorem kGdat_eq {s v} : kGdat C s v h = (match C.gd s, v with | some ps, .str s => (match ps.lookup s with | some r => .ok (.str r) h | none => .bad) | _, _ => .bad) := rfl
noncomputable def kC1 (x : MV) (xs : List MV) (h : Hm) : R (List MV) := .ok (x :: xs) h
@[simp] theorem kC1_eq {xs} : kC1 x xs h = .ok (x :: xs) h := rfl
noncomputable def kC (C : Ct) (es : List ME) (e : En) (x : MV) (h : Hm) : R (List MV) := (evEs C es e h).bind (kC1 x)
@[simp] theorem kC_eq : kC C es e x h = (evEs C es e h).bind (kC1 x) := rfl
noncomputable def kP2 (x y : MV) (p : List MV × List MV) (h : Hm) : R (List MV × List MV) := .ok (x :: p.1, y :: p.2) h
@[simp] theorem kP2_eq {p} : kP2 x y p h = .ok (x :: p.1, y :: p.2) h := rfl
noncomputable def kP1 (C : Ct) (es : List ME) (e : En) (x y : MV) (h : Hm) : R (List MV × List MV) := (evP C es e h).bind (kP2 x y)
@[simp] theorem kP1_eq : kP1 C es e x y h = (evP C es e h).bind (kP2 x y) := rfl
noncomputable def kP (C : Ct) (b : ME) (es : List ME) (e : En) (x : MV) (h : Hm) : R (List MV × List MV) := (evE C b e h).bind (kP1 C es e x)
@[simp] theorem kP_eq : kP C b es e x h = (evE C b e h).bind (kP1 C es e x) := rfl
noncomputable def kO (x : MV) (h : Hm) : R (Option Int) := match x with | .int i => .ok (some i) h | _ => .bad
@[simp] theorem kO_eq {i : Int} : kO (.int i) h = .ok (some i) h := rfl
/-! the forms -/
@[simp] theorem evE_var {i} : evE C (.var i) e h = (match e[i]? with | some (some v) => .ok v h | _ => .bad) := rfl
@[simp] theorem evE_kon {k} : evE C (.kon k) e h = .ok k.v h := rfl
@[simp] theorem evE_gstr {x} : evE C (.gstr x) e h = (match C.gs x with | some s => .ok (.str s) h | none => .bad) := rfl
@[simp] theorem evE_bin {op} : evE C (.bin op a b) e h = (evE C a e h).bind (kR C b e (mbin op)) := rfl
@[simp] theorem evE_neg : evE C (.neg a) e h = (evE C a e h).bind kNeg := rfl
@[simp] theorem evE_not : evE C (.not a) e h = (evE C a e h).bind kNot := rfl
@[simp] theorem evE_and : evE C (.and a b) e h = (evE C a e h).bind (kAnd C b e) := rfl
@[simp] theorem evE_or : evE C (.or a b) e h = (evE C a e h).bind (kOr C b e) := rfl
@[simp] theorem evE_one : evE C (.one a) e h = evE C a e h := rfl
@[simp] theorem evE_cmp {op} : evE C (.cmp op a b) e h = (evE C a e h).bind (kR C b e (mCmp C op)) := rfl
@[simp] theorem evE_isN : evE C (.isN a) e h = (evE C a e h).bind (kIsN false) := rfl
@[simp] theorem evE_notN : evE C (.notN a) e h = (evE C a e h).bind (kIsN true) := rfl
@[simp] theorem evE_chain {o1 o2} : evE C (.chain o1 o2 a b c) e h = (evE C a e h).bind (kCh C o1 o2 b c e) := rfl
@[simp] theorem evE_ite : evE C (.ite c a b) e h = (evE C c e h).bind (kIte C a b e) := rfl
@[simp] theorem evE_call {f} : evE C (.call f es) e h = (evEs C es e h).bind (kCall C f) := rfl
@[simp] theorem evE_make {c} : evE C (.make c es) e h = (evEs C es e h).bind (kMake C c) := rfl
@[simp] theorem evE_blt {b} : evE C (.blt b es) e h = (evEs C es e h).bind (kBlt C b) := rfl
@[simp] theorem evE_isi {t} : evE C (.isi a t) e h = (evE C a e h).bind (kIsi C t) := rfl
@[simp] theorem evE_meth {m} : evE C (.meth a m es) e h = eMeth C (evE C a) m (evEs C es) e h := rfl
@[simp] theorem evE_attr {f} : evE C (.attr a f) e h = (evE C a e h).bind (kAttr C f) := rfl
@[simp] theorem evE_sub : evE C (.sub a b) e h = (evE C a e h).bind (kR C b e (mSub C)) := rfl
@[simp] theorem evE_slc {lo hi} : evE C (.slc a lo hi) e h = (evE C a e h).bind (kSl C lo hi e) := rfl
@[simp] theorem evE_rev : evE C (.rev a) e h = (evE C a e h).bind kRev := rfl
@[simp] theorem evE_list : evE C (.list es) e h = (evEs C es e h).bind kNewL := rfl
@[simp] theorem evE_tup : evE C (.tup es) e h = (evEs C es e h).bind kTup := rfl
@[simp] theorem evE_dict {t ps} : evE C (.dict t ps) e h = (evP C ps e h).bind (kDict t) := rfl
@[simp] theorem evE_lc {el tg it k own} : evE C (.lc el tg it k own) e h = (evI C it e h).bind (kLc C el tg k (wipeE e own)) := rfl
@[simp] theorem evE_lenset : evE C (.lenset a) e h = eLenset (evE C a) e h := rfl
@[simp] theorem evE_sortset : evE C (.sortset a) e h = eSortset (evE C a) e h := rfl
@[simp] theorem evE_gdin {x} : evE C (.gdin a x) e h = (evE C a e h).bind (kGdin C x) := rfl
@[simp] theorem evE_gdat {x} : evE C (.gdat x a) e h = (evE C a e h).bind (kGdat C x) := rfl
@[simp] theorem evEs_nil : evEs C [] e h = .ok [] h := rfl
@[simp] theorem evEs_cons : evEs C (a :: es) e h = (evE C a e h).bind (kC C es e) := rfl
@[simp] theorem evP_nil : evP C [] e h = .ok ([], []) h := rfl
@[simp] theorem evP_cons : evP C (a :: b :: es) e h = (evE C a e h).bind (kP C b es e) := rfl
@[simp] theorem evO_none : evO C none e h = .ok none h := rfl
@[simp] theorem evO_some : evO C (some a) e h = (evE C a e h).bind kO := rfl
@[simp] theorem evC_none : evC C none e h = .ok (.bl true) h := rfl
@[simp] theorem evC_some : evC C (some a) e h = evE C a e h := rfl
@[simp] theorem evI_range : evI C (.range es) e h = (evEs C es e h).bind mRange := rfl
@[simp] theorem evI_enum : evI C (.enum a) e h = (evE C a e h).bind mEnum := rfl
@[simp] theorem evI_items : evI C (.items a) e h = (evE C a e h).bind mItems := rfl
@[simp] theorem evI_walk : evI C (.walk a) e h = (evE C a e h).bind (mWalk C) := rfl
end
@[simp] theorem asB_bl {b h f} : asB (.bl b) h f = f b h := rfl
@[simp] theorem Kc.v_non : Kc.non.v = .non := rfl
@[simp] theorem Kc.v_bl {b} : (Kc.bl b).v = .bl b := rfl
@[simp] theorem Kc.v_int {b} : (Kc.int b).v = .int b := rfl
@[simp] theorem Kc.v_str {b} : (Kc.str b).v = .str b := rfl
section
variable {C : Ct} {e : En} {h : Hm} {a c : ME} {s : MS} {r b : MSs} {x : MV}
noncomputable def kSs (C : Ct) (r : MSs) (e : En) (h : Hm) : S := exSs C r e h
@[simp] theorem kSs_eq : kSs C r e h = exSs C r e h := rfl
noncomputable def kSet (i : Nat) (e : En) (x : MV) (h : Hm) : S := .nx (e.set i (some x)) h
@[simp] theorem kSet_eq {i} : kSet i e x h = .nx (e.set i (some x)) h := rfl
noncomputable def kTgt (ts : List Tg) (e : En) (x : MV) (h : Hm) : S := match setT (.tup ts) x e with | some e1 => .nx e1 h | none => .bad
@[simp] theorem kTgt_eq {ts} : kTgt ts e x h = (match setT (.tup ts) x e with | some e1 => .nx e1 h | none => .bad) := rfl
noncomputable def kSt2 (C : Ct) (e : En) (x o k : MV) (h : Hm) : S := mSet C o k x e h
noncomputable def kSt1 (C : Ct) (i : ME) (e : En) (x o : MV) (h : Hm) : S := (evE C i e h).sb e (kSt2 C e x o)
noncomputable def kSt (C : Ct) (o i : ME) (e : En) (x : MV) (h : Hm) : S := (evE C o e h).sb e (kSt1 C i e x)
@[simp] theorem kSt2_eq {o k} : kSt2 C e x o k h = mSet C o k x e h := rfl
@[simp] theorem kSt1_eq {i o} : kSt1 C i e x o h = (evE C i e h).sb e (kSt2 C e x o) := rfl
@[simp] theorem kSt_eq {o i} : kSt C o i e x h = (evE C o e h).sb e (kSt1 C i e x) := rfl
noncomputable def kSA1 (f : Str) (e : En) (x o : MV) (h : Hm) : S := mSetA o f x e h
noncomputable def kSA (C : Ct) (o : ME) (f : Str) (e : En) (x : MV) (h : Hm) : S := (evE C o e h).sb e (kSA1 f e x)
@[simp] theorem kSA1_eq {f o} : kSA1 f e x o h = mSetA o f x e h := rfl
@[simp] theorem kSA_eq {f o} : kSA C o f e x h = (evE C o e h).sb e (kSA1 f e x) := rfl
noncomputable def kAug (i : Nat) (op : BOp) (e : En) (x y : MV) (h : Hm) : S := match augV op x y with | some v => .nx (e.set i (some v)) h | none => .bad
@[simp] theorem kAug_eq {i op y} : kAug i op e x y h = (match augV op x y with | some v => .nx (e.set i (some v)) h | none => .bad) := rfl
noncomputable def kDrop (e : En) (_ : MV) (h : Hm) : S := .nx e h
@[simp] theorem kDrop_eq : kDrop e x h = .nx e h := rfl
noncomputable def kRet (x : MV) (h : Hm) : S := .rt x h
@[simp] theorem kRet_eq : kRet x h = .rt x h := rfl
noncomputable def kIf (C : Ct) (r b : MSs) (e : En) (x : MV) (h : Hm) : S := match x with | .bl true => exSs C r e h | .bl false => exSs C b e h | _ => .bad
@[simp] theorem kIf_t : kIf C r b e (.bl true) h = exSs C r e h := rfl
@[simp] theorem kIf_f : kIf C r b e (.bl false) h = exSs C b e h := rfl
theorem kIf_b {k : Bool} : kIf C r b e (.bl k) h = if k then exSs C r e h else exSs C b e h := by cases k <;> rfl
noncomputable def kFor (C : Ct) (t : Tg) (b : MSs) (e : En) (p : List MV × Option (Nat × MO)) (h : Hm) : S := forL p.2 t (exSs C b) p.1 e h
@[simp] theorem kFor_eq {t p} : kFor C t b e p h = forL p.2 t (exSs C b) p.1 e h := rfl
noncomputable def kRaise (k : Nat) (e : En) (x : MV) (h : Hm) : S := .ex k x e h
@[simp] theorem kRaise_eq {k} : kRaise k e x h = .ex k x e h := rfl
def S.catch (hs : List Hd) (s : S) : S := match s with | .ex c v e h => handle c v e h hs | r => r
@[simp] theorem catch_ex {hs c v} : (S.ex c v e h).catch hs = handle c v e h hs := rfl
@[simp] theorem catch_nx {hs} : (S.nx e h).catch hs = .nx e h := rfl
@[simp] theorem catch_rt {hs} : (S.rt x h).catch hs = .rt x h := rfl
@[simp] theorem catch_bk {hs} : (S.bk e h).catch hs = .bk e h := rfl
@[simp] theorem catch_ct {hs} : (S.ct e h).catch hs = .ct e h := rfl
@[simp] theorem exSs_nil : exSs C .nil e h = .nx e h := rfl
@[simp] theorem exSs_cons : exSs C (.cons s r) e h = (exS C s e h).bind (kSs C r) := rfl
@[simp] theorem exS_nm {i} : exS C (.asg (.nm i) a) e h = (evE C a e h).sb e (kSet i e) := rfl
@[simp] theorem exS_tup {ts} : exS C (.asg (.tup ts) a) e h = (evE C a e h).sb e (kTgt ts e) := rfl
@[simp] theorem exS_sub {o i} : exS C (.asg (.sub o i) a) e h = (evE C a e h).sb e (kSt C o i e) := rfl
@[simp] theorem exS_attr {o f} : exS C (.asg (.attr o f) a) e h = (evE C a e h).sb e (kSA C o f e) := rfl
@[simp] theorem exS_aug {i op} : exS C (.aug i op a) e h = (match e[i]? with | some (some x) => (evE C a e h).sb e (kAug i op e x) | _ => .bad) := rfl
@[simp] theorem exS_expr : exS C (.expr a) e h = (evE C a e h).sb e (kDrop e) := rfl
@[simp] theorem exS_ret : exS C (.ret a) e h = (evE C a e h).sb e kRet := rfl
@[simp] theorem exS_retN : exS C .retN e h = .rt .non h := rfl
@[simp] theorem exS_ifs : exS C (.ifs c r b) e h = (evE C c e h).sb e (kIf C r b e) := by
  show (evE C c e h).sb e _ = _
  rfl
@[simp] theorem exS_for {t it} : exS C (.for_ t it b) e h = (evI C it e h).sb e (kFor C t b e) := rfl
@[simp] theorem exS_while : exS C (.while_ c b) e h = whileL (evE C c) (exSs C b) C.fl e h := rfl
@[simp] theorem exS_brk : exS C .brk e h = .bk e h := rfl
@[simp] theorem exS_cont : exS C .cont e h = .ct e h := rfl
@[simp] theorem exS_pass : exS C .pass e h = .nx e h := rfl
@[simp] theorem exS_raise {k} : exS C (.raise k a) e h = (evE C a e h).sb e (kRaise k e) := rfl
@[simp] theorem exS_try {hs} : exS C (.try_ b hs) e h = (exSs C b e h).catch hs := rfl
end
@[simp] theorem setT_nm {i v e} : setT (.nm i) v e = some (e.set i (some v)) := rfl
@[simp] theorem setT_tup {ts vs e} : setT (.tup ts) (.tup vs) e = setTs ts vs e := rfl
@[simp] theorem setTs_nil {e} : setTs [] [] e = some e := rfl
@[simp] theorem setTs_cons {t ts v vs e} : setTs (t :: ts) (v :: vs) e = (match setT t v e with | some e1 => setTs ts vs e1 | none => none) := rfl
section
variable {C : Ct} {h : Hm}
@[simp] theorem cmp_eq_int {a b} : mCmp C .eq (.int a) (.int b) h = .ok (.bl (decide (a = b))) h := rfl
@[simp] theorem cmp_ne_int {a b} : mCmp C .ne (.int a) (.int b) h = .ok (.bl (!decide (a = b))) h := rfl
@[simp] theorem cmp_eq_str {a b} : mCmp C .eq (.str a) (.str b) h = .ok (.bl (decide (a = b))) h := rfl
@[simp] theorem cmp_ne_str {a b} : mCmp C .ne (.str a) (.str b) h = .ok (.bl (!decide (a = b))) h := rfl
@[simp] theorem cmp_lt_int {a b} : mCmp C .lt (.int a) (.int b) h = .ok (.bl (decide (a < b))) h := rfl
@[simp] theorem cmp_le_int {a b} : mCmp C .le (.int a) (.int b) h = .ok (.bl (decide (a ≤ b))) h := rfl
@[simp] theorem cmp_gt_int {a b} : mCmp C .gt (.int a) (.int b) h = .ok (.bl (decide (b < a))) h := rfl
@[simp] theorem cmp_ge_int {a b} : mCmp C .ge (.int a) (.int b) h = .ok (.bl (decide (b ≤ a))) h := rfl
@[simp] theorem bin_add_int {i j} : mbin .add (.int i) (.int j) h = .ok (.int (i + j)) h := rfl
@[simp] theorem bin_sub_int {i j} : mbin .sub (.int i) (.int j) h = .ok (.int (i - j)) h := rfl
@[simp] theorem bin_mul_int {i j} : mbin .mul (.int i) (.int j) h = (if mulB i j then .ok (.int (i * j)) h else .bad) := rfl
@[simp] theorem bin_fdiv_int {i j} : mbin .fdiv (.int i) (.int j) h = (if divB j then .ok (.int (i / j)) h else .bad) := rfl
@[simp] theorem bin_mod_int {i j} : mbin .mod (.int i) (.int j) h = (if decide (0 < j) then .ok (.int (i % j)) h else .bad) := rfl
@[simp] theorem bin_pow_int {i j} : mbin .pow (.int i) (.int j) h = (if powB i j then .ok (.int (i ^ j.toNat)) h else .bad) := rfl
end
end MP

set_option linter.all false
set_option maxRecDepth 100000
/-! Plain lemmas about values, heaps, loops, numbers. -/
namespace MP
open PySem (Str)
/-! ### texts -/
theorem map_toNat_inj : ∀ {a b : List Char}, a.map Char.toNat = b.map Char.toNat → a = b
  | [], [], _ => rfl
  | [], _ :: _, h => by simp at h
  | _ :: _, [], h => by simp at h
  | x :: a, y :: b, h => by
    simp only [List.map_cons, List.cons.injEq] at h
    rw [map_toNat_inj h.2, Char.ext (UInt32.toNat_inj.mp h.1)]
@[simp] theorem ofString_inj {a b : String} : (Str.ofString a = Str.ofString b) ↔ a = b := by
  constructor
  · intro h
    rw [Str.ofString_eq_toList, Str.ofString_eq_toList] at h
    have h2 : (a.toList.map Char.toNat).toArray = (b.toList.map Char.toNat).toArray := by injection h
    have h3 := congrArg Array.toList h2
    exact String.toList_injective (map_toNat_inj (by simpa using h3))
  · rintro rfl; rfl
/-! ### heaps -/
@[simp] theorem gOk_none {h : Hm} : gOk none h = true := rfl
@[simp] theorem gOk_some {h : Hm} {a : Nat} {o : MO} : gOk (some (a, o)) h = true ↔ h[a]? = some o := by
  unfold gOk; simp
theorem get_app {α : Type} {h t : List α} {a : Nat} {o : α} (e : h[a]? = some o) : (h ++ t)[a]? = some o := by
  have := (List.getElem?_eq_some_iff.mp e).1
  rw [List.getElem?_append_left this]; exact e
theorem get_lt {α : Type} {h : List α} {a : Nat} {o : α} (e : h[a]? = some o) : a < h.length := (List.getElem?_eq_some_iff.mp e).1
@[simp] theorem get_end {α : Type} {h : List α} {t : List α} : (h ++ t)[h.length]? = t[0]? := by
  rw [List.getElem?_append_right (Nat.le_refl _)]; simp
@[simp] theorem get_end_add {α : Type} {h : List α} {t : List α} {n : Nat} : (h ++ t)[h.length + n]? = t[n]? := by
  rw [List.getElem?_append_right (by omega)]; simp
theorem set_end {α : Type} {h : List α} {t : List α} {x : α} : (h ++ t).set h.length x = h ++ t.set 0 x := by
  rw [List.set_append_right _ _ (Nat.le_refl _)]; simp
theorem set_end_add {α : Type} {h : List α} {t : List α} {n : Nat} {x : α} : (h ++ t).set (h.length + n) x = h ++ t.set n x := by
  rw [List.set_append_right _ _ (by omega)]; simp
/-! ### loops -/
section
variable {g : Option (Nat × MO)} {tg : Tg} {b : En → Hm → S} {e e1 : En} {h : Hm} {x : MV} {xs : List MV}
theorem forL_nil (hg : gOk g h = true) : forL g tg b [] e h = .nx e h := by unfold forL; rw [if_pos hg]
theorem forL_cons (hg : gOk g h = true) (ht : setT tg x e = some e1) : forL g tg b (x :: xs) e h = (match b e1 h with
      | .nx e h => forL g tg b xs e h
      | .ct e h => forL g tg b xs e h
      | .bk e h => .nx e h
      | r => r) := by rw [forL]; simp only [hg, if_true, ht]; try (cases b e1 h <;> rfl)
/-- a loop that runs through -/
theorem forL_nx (I : List MV → En → Hm → Prop) (h0 : I xs e h) (hg : ∀ xs e h, I xs e h → gOk g h = true)
    (hs : ∀ x xs e h, I (x :: xs) e h → ∃ e1 e2 h2, setT tg x e = some e1 ∧ (b e1 h = .nx e2 h2 ∨ b e1 h = .ct e2 h2) ∧ I xs e2 h2) : ∃ e' h', forL g tg b xs e h = .nx e' h' ∧ I [] e' h' := by
  induction xs generalizing e h with
  | nil => exact ⟨e, h, forL_nil (hg _ _ _ h0), h0⟩
  | cons x xs ih =>
    obtain ⟨e1, e2, h2, ht, hb, h3⟩ := hs x xs e h h0
    obtain ⟨e', h', h4, h5⟩ := ih h3
    refine ⟨e', h', ?_, h5⟩
    rw [forL_cons (hg _ _ _ h0) ht]
    rcases hb with hb | hb <;> rw [hb] <;> exact h4
/-- a loop that runs through or returns -/
theorem forL_ends (I : List MV → En → Hm → Prop) (Q : S → Prop) (h0 : I xs e h) (hg : ∀ xs e h, I xs e h → gOk g h = true) (hq : ∀ e h, I [] e h → Q (.nx e h))
    (hs : ∀ x xs e h, I (x :: xs) e h → ∃ e1, setT tg x e = some e1 ∧ (match b e1 h with
      | .nx e2 h2 => I xs e2 h2
      | .ct e2 h2 => I xs e2 h2
      | .bk e2 h2 => Q (.nx e2 h2)
      | r => Q r)) : Q (forL g tg b xs e h) := by
  induction xs generalizing e h with
  | nil => rw [forL_nil (hg _ _ _ h0)]; exact hq _ _ h0
  | cons x xs ih =>
    obtain ⟨e1, ht, hb⟩ := hs x xs e h h0
    rw [forL_cons (hg _ _ _ h0) ht]
    cases q : b e1 h <;> rw [q] at hb <;> first | exact ih hb | exact hb
end
/-! ### comprehensions -/
section
variable {g : Option (Nat × MO)} {tg : Tg} {c el : EE} {e : En} {h : Hm}
theorem lcL_nil {acc : List MV} (hg : gOk g h = true) : lcL g tg c el e [] acc h = .ok acc h := by unfold lcL; rw [if_pos hg]
/-- a comprehension whose parts do not touch the heap -/
theorem lcL_map {f : MV → MV} {p : MV → Bool} : ∀ {xs acc : List MV}, gOk g h = true → acc.length + xs.length ≤ lim →
    (∀ x ∈ xs, ∃ e1, setT tg x e = some e1 ∧ c e1 h = .ok (.bl (p x)) h ∧ (p x = true → el e1 h = .ok (f x) h)) → lcL g tg c el e xs acc h = .ok (acc ++ (xs.filter p).map f) h
  | [], acc, hg, _, _ => by rw [lcL_nil hg]; simp
  | x :: xs, acc, hg, hl, hs => by
    obtain ⟨e1, h1, h2, h3⟩ := hs x (by simp)
    have hl' : acc.length + (xs.length + 1) ≤ lim := by simpa using hl
    rw [lcL]
    simp only [hg, if_true, h1, h2, noex_ok, R.bind_ok]
    cases q : p x with
    | true =>
      simp only [h3 q, noex_ok, R.bind_ok]
      rw [if_pos (by omega), lcL_map hg (by simp; omega) (fun y hy => hs y (by simp [hy]))]
      simp [q]
    | false =>
      simp only
      rw [lcL_map hg (by omega) (fun y hy => hs y (by simp [hy]))]
      simp [q]
end
theorem exSs_two {C : Ct} {s1 s2 : MS} {r : MSs} {e : En} {h : Hm} : exSs C (.cons s1 (.cons s2 r)) e h = ((exS C s1 e h).bind fun e h => exS C s2 e h).bind (kSs C r) := by
  rw [exSs_cons]
  cases exS C s1 e h <;> rfl
@[simp] theorem newL_ok {xs : List MV} {h : Hm} : newL xs h = if xs.length ≤ lim then .ok (.obj h.length) (h ++ [.lst xs]) else .bad := rfl
@[simp] theorem lim_ge {n : Nat} : (n ≤ lim) = (n ≤ 16777216) := rfl
/-! ### equality of two lists on the heap -/
/-- the answer where the two are no lists -/
def eqRest (C : Ct) (a b : Nat) (h : Hm) (f : Bool → Hm → R MV) : R MV := mEq C (.obj a) (.obj b) h f
def eqOb (C : Ct) (a b : Nat) (h : Hm) (f : Bool → Hm → R MV) : R MV := match h[a]?, h[b]? with
  | some (.lst xs), some (.lst ys) => (match (if a = b then some true else if xs.length = ys.length then eqAll (eqm h 39) xs ys else some false) with
    | some c => f c h
    | none => .bad)
  | _, _ => eqRest C a b h f
theorem eqOb_eq {C : Ct} {a b : Nat} {h : Hm} {f : Bool → Hm → R MV} : mEq C (.obj a) (.obj b) h f = eqOb C a b h f := by
  unfold eqOb
  split
  · rename_i xs ys h1 h2
    have e : eqm h eqDeep (.obj a) (.obj b) = (if a = b then some true else if xs.length = ys.length then eqAll (eqm h 39) xs ys else some false) := by
      show eqm h (39 + 1) _ _ = _
      rw [eqm]
      simp [h1, h2]
    simp only [mEq, methOf, clsOf, h1, eqData, h2, Option.bind_none, e]
    try (split <;> rename_i q <;> simp [q])
  · rfl
@[simp] theorem cmp_eq_obj {C : Ct} {a b : Nat} {h : Hm} : mCmp C .eq (.obj a) (.obj b) h = eqOb C a b h fun b h => .ok (.bl b) h := eqOb_eq
@[simp] theorem cmp_ne_obj {C : Ct} {a b : Nat} {h : Hm} : mCmp C .ne (.obj a) (.obj b) h = eqOb C a b h fun b h => .ok (.bl (!b)) h := eqOb_eq
@[simp] theorem eqAll_nil {f : MV → MV → Option Bool} : eqAll f [] [] = some true := rfl
@[simp] theorem eqAll_cons {f : MV → MV → Option Bool} {x y : MV} {xs ys : List MV} : eqAll f (x :: xs) (y :: ys) = (match f x y, eqAll f xs ys with
    | some a, some b => some (a && b)
    | _, _ => none) := rfl
@[simp] theorem eqm_int {h : Hm} {n : Nat} {a b : Int} : eqm h (n + 1) (.int a) (.int b) = some (decide (a = b)) := rfl
@[simp] theorem eqm_str {h : Hm} {n : Nat} {a b : Str} : eqm h (n + 1) (.str a) (.str b) = some (decide (a = b)) := rfl
/-! ### things on the heap -/
@[simp] theorem mSub_obj {C : Ct} {a : Nat} {i : MV} {h : Hm} : mSub C (.obj a) i h = (match h[a]? with
    | some (.lst xs) => (match i with
      | .int k => (match atI xs k with
        | some v => .ok v h
        | none => .bad)
      | _ => .bad)
    | some (.ro xs) => (match i with
      | .int k => (match atI xs k with
        | some v => .ok v h
        | none => .bad)
      | _ => .bad)
    | some (.dct t kvs) => (match keyOf t i with
      | some k => (match dget kvs k with
        | some v => .ok v h
        | none => .bad)
      | none => .bad)
    | some (.ins _ _) => (match methOf C h (.obj a) "__getitem__" with
      | some g => callF C g [.obj a, i] h
      | none => .bad)
    | _ => .bad) := rfl
@[simp] theorem mWalk_obj {C : Ct} {a : Nat} {h : Hm} : mWalk C (.obj a) h = (match h[a]? with
    | some (.lst xs) => .ok (xs, some (a, .lst xs)) h
    | some (.ro xs) => .ok (xs, some (a, .ro xs)) h
    | _ => .bad) := rfl
@[simp] theorem dmk_nil {t : Bool} {vs : List MV} {acc : List (MK × MV)} : dmk t [] vs acc = some acc := by unfold dmk; rfl
@[simp] theorem dmk_cons {t : Bool} {k v : MV} {ks vs : List MV} {acc : List (MK × MV)} : dmk t (k :: ks) (v :: vs) acc = (match keyOf t k with
    | some q => dmk t ks vs (dput acc q v)
    | none => none) := rfl
@[simp] theorem bin_add_obj {a b : Nat} {h : Hm} : mbin .add (.obj a) (.obj b) h = (match h[a]?, h[b]? with
    | some (.lst xs), some (.lst ys) => if xs.length + ys.length ≤ lim then .ok (.obj h.length) (h ++ [.lst (xs ++ ys)]) else .bad
    | _, _ => .bad) := rfl
/-! ### numbers -/
theorem ipow_le {b : Int} {m n : Nat} (hb : 1 ≤ b) (h : m ≤ n) : b ^ m ≤ b ^ n := by
  obtain ⟨d, rfl⟩ := Nat.exists_eq_add_of_le h
  induction d with
  | zero => exact Int.le_refl _
  | succ d ih =>
    refine Int.le_trans (ih (by omega)) ?_
    rw [show m + (d + 1) = (m + d) + 1 by omega, Int.pow_succ]
    have h0 : 0 ≤ b ^ (m + d) := Int.pow_nonneg (by omega)
    have := Int.mul_le_mul_of_nonneg_left hb h0
    omega
theorem log2_lt_of {n k : Nat} (h : n < 2 ^ k) (hk : 0 < k) : n.log2 < k := by
  by_cases h0 : n = 0
  · subst h0; simpa using hk
  · exact (Nat.log2_lt h0).mpr h
theorem mulB_of {i j : Int} (a b : Nat) (h1 : i.natAbs < 2 ^ a) (h2 : j.natAbs < 2 ^ b) (ha : 0 < a := by decide) (hb : 0 < b := by decide) (h : a + b < 1000000 := by decide) : mulB i j = true := by
  unfold mulB
  have := log2_lt_of h1 ha
  have := log2_lt_of h2 hb
  simp; omega
theorem divB_of {j : Int} (a : Nat) (h0 : 0 < j) (h1 : j.natAbs < 2 ^ a) (ha : 0 < a := by decide) (h : a < 9000 := by decide) : divB j = true := by
  unfold divB
  have := log2_lt_of h1 ha
  simp [h0]; omega
end MP

set_option linter.all false
set_option maxRecDepth 100000
/-! What a run ends in: predicates. -/
namespace MP
open PySem (Str)
/-- what is wanted of a statement's ends -/
structure Pw where
  nx : En → Hm → Prop
  rt : MV → Hm → Prop
  bk : En → Hm → Prop
  ct : En → Hm → Prop
  ex : Nat → MV → En → Hm → Prop
def S.go (s : S) (p : Pw) : Prop := match s with
  | .nx e h => p.nx e h
  | .rt v h => p.rt v h
  | .bk e h => p.bk e h
  | .ct e h => p.ct e h
  | .ex c v e h => p.ex c v e h
  | .bad => False
section
variable {p : Pw} {e : En} {h : Hm} {v : MV} {c : Nat} {s : S} {α : Type} {r : R α} {Q : α → Hm → Prop} {E : Nat → MV → Hm → Prop}
@[simp] theorem go_nx : (S.nx e h).go p = p.nx e h := rfl
@[simp] theorem go_rt : (S.rt v h).go p = p.rt v h := rfl
@[simp] theorem go_bk : (S.bk e h).go p = p.bk e h := rfl
@[simp] theorem go_ct : (S.ct e h).go p = p.ct e h := rfl
@[simp] theorem go_ex : (S.ex c v e h).go p = p.ex c v e h := rfl
def kgo (f : En → Hm → S) (p : Pw) (e : En) (h : Hm) : Prop := (f e h).go p
@[simp] theorem kgo_eq {f : En → Hm → S} : kgo f p e h = (f e h).go p := rfl
def kgs (f : α → Hm → S) (p : Pw) (a : α) (h : Hm) : Prop := (f a h).go p
@[simp] theorem kgs_eq {f : α → Hm → S} {a : α} : kgs f p a h = (f a h).go p := rfl
def kex (p : Pw) (e : En) (c : Nat) (v : MV) (h : Hm) : Prop := p.ex c v e h
@[simp] theorem kex_eq : kex p e c v h = p.ex c v e h := rfl
@[simp] theorem go_bind {f : En → Hm → S} : (s.bind f).go p = s.go ⟨kgo f p, p.rt, p.bk, p.ct, p.ex⟩ := by cases s <;> rfl
@[simp] theorem go_sb {f : α → Hm → S} : (r.sb e f).go p = r.wp (kgs f p) (kex p e) := by cases r <;> rfl
@[simp] theorem wp_ok {a : α} : (R.ok a h).wp Q E = Q a h := rfl
@[simp] theorem wp_ex : (R.ex c v h : R α).wp Q E = E c v h := rfl
def kwp {α β : Type} (f : α → Hm → R β) (Q : β → Hm → Prop) (E : Nat → MV → Hm → Prop) (a : α) (h : Hm) : Prop := (f a h).wp Q E
@[simp] theorem kwp_eq {β : Type} {f : α → Hm → R β} {Q : β → Hm → Prop} {a : α} : kwp f Q E a h = (f a h).wp Q E := rfl
@[simp] theorem wp_bind' {β : Type} {f : α → Hm → R β} {Q : β → Hm → Prop} : (r.bind f).wp Q E = r.wp (kwp f Q E) E := by cases r <;> rfl
def knon (Q : MV → Hm → Prop) (_ : En) (h : Hm) : Prop := Q .non h
@[simp] theorem knon_eq {Q : MV → Hm → Prop} : knon Q e h = Q .non h := rfl
def kno (_ : En) (_ : Hm) : Prop := False
@[simp] theorem kno_eq : kno e h = False := rfl
def kxo (E : Nat → MV → Hm → Prop) (c : Nat) (v : MV) (_ : En) (h : Hm) : Prop := E c v h
@[simp] theorem kxo_eq : kxo E c v e h = E c v h := rfl
@[simp] theorem wp_out {Q : MV → Hm → Prop} : s.out.wp Q E = s.go ⟨knon Q, Q, kno, kno, kxo E⟩ := by cases s <;> rfl
theorem go_mono {p' : Pw} (k : s.go p) (h1 : ∀ e h, p.nx e h → p'.nx e h) (h2 : ∀ v h, p.rt v h → p'.rt v h) (h3 : ∀ e h, p.bk e h → p'.bk e h) (h4 : ∀ e h, p.ct e h → p'.ct e h) (h5 : ∀ c v e h, p.ex c v e h → p'.ex c v e h) : s.go p' := by
  cases s <;> first | exact h1 _ _ k | exact h2 _ _ k | exact h3 _ _ k | exact h4 _ _ k | exact h5 _ _ _ _ k | exact k
/-- from what a run ends in to the run -/
theorem ok_of_wp {Q : α → Hm → Prop} (k : r.wp Q (fun _ _ _ => False)) : ∃ a h, r = .ok a h ∧ Q a h := by
  cases r with
  | ok a h => exact ⟨a, h, rfl, k⟩
  | ex c v h => exact k.elim
  | bad => exact k.elim
end
/-- a loop -/
theorem go_for {g : Option (Nat × MO)} {tg : Tg} {b : En → Hm → S} {p : Pw} (I : List MV → En → Hm → Prop) {xs : List MV} {e : En} {h : Hm} (h0 : I xs e h) (hg : ∀ xs e h, I xs e h → gOk g h = true)
    (hs : ∀ x xs e h, I (x :: xs) e h → ∃ e1, setT tg x e = some e1 ∧ (b e1 h).go ⟨I xs, p.rt, p.nx, I xs, p.ex⟩) (hq : ∀ e h, I [] e h → p.nx e h) : (forL g tg b xs e h).go p := by
  induction xs generalizing e h with
  | nil => rw [forL_nil (hg _ _ _ h0)]; exact hq _ _ h0
  | cons x xs ih =>
    obtain ⟨e1, ht, hb⟩ := hs x xs e h h0
    rw [forL_cons (hg _ _ _ h0) ht]
    cases q : b e1 h <;> rw [q] at hb <;> first | exact ih hb | exact hb
/-- a while loop, by a measure -/
theorem go_while {c : EE} {b : En → Hm → S} {p : Pw} (I : Nat → En → Hm → Prop) {n m : Nat} {e : En} {h : Hm} (hm : m < n) (h0 : I m e h)
    (hs : ∀ m e h, I m e h → (c e h).wp (fun k h => match k with
      | .bl true => (b e h).go ⟨fun e h => ∃ m', m' < m ∧ I m' e h, p.rt, p.nx, fun e h => ∃ m', m' < m ∧ I m' e h, p.ex⟩
      | .bl false => p.nx e h
      | _ => False) (fun c v h => p.ex c v e h)) : (whileL c b n e h).go p := by
  induction n generalizing m e h with
  | zero => omega
  | succ n ih =>
    have q := hs m e h h0
    rw [whileL, go_sb]
    refine R.wp_mono q (fun k h1 q => ?_) fun _ _ _ q => q
    split at q
    · show (match b e h1 with
        | .nx e h => whileL c b n e h
        | .ct e h => whileL c b n e h
        | .bk e h => .nx e h
        | r => r).go p
      have nx : ∀ e h, (∃ m', m' < m ∧ I m' e h) → (whileL c b n e h).go p := fun e h ⟨m', l, i⟩ => ih (by omega) i
      cases z : b e h1 <;> rw [z] at q <;> first | exact nx _ _ q | exact q
    · exact q
    · exact q.elim
end MP

set_option linter.all false
set_option maxRecDepth 100000
namespace U
open PySem MP
/-- is_whole(value); slots value -/
def b0 : MSs := .cons (.ret (.and (.isi (.var 0) .int) (.one (.not (.isi (.var 0) .bool))))) .nil
def d0 : FD := ⟨1, 1, [], b0⟩
def n0 : List PySem.Str := ["value"]
/-- check_whole(value); slots value -/
def b4 : MSs := .cons (.ifs (.not (.call 0 [.var 0])) (.cons (.raise 1 (.var 0)) .nil) (.nil)) .nil
def d4 : FD := ⟨1, 1, [], b4⟩
def n4 : List PySem.Str := ["value"]
/-- check_least(value, least); slots value least -/
def b5 : MSs := .cons (.ifs (.or (.not (.call 0 [.var 0])) (.one (.cmp .lt (.var 0) (.var 1)))) (.cons (.raise 1 (.var 0)) .nil) (.nil)) .nil
def d5 : FD := ⟨2, 2, [], b5⟩
def n5 : List PySem.Str := ["value", "least"]
/-- is_way(value); slots value -/
def b9 : MSs := .cons (.ret (.and (.isi (.var 0) .str) (.one (.gdin (.var 0) "OTHER_WAYS")))) .nil
def d9 : FD := ⟨1, 1, [], b9⟩
def n9 : List PySem.Str := ["value"]
/-- check_way(value); slots value -/
def b10 : MSs := .cons (.ifs (.not (.call 9 [.var 0])) (.cons (.raise 2 (.var 0)) .nil) (.nil)) .nil
def d10 : FD := ⟨1, 1, [], b10⟩
def n10 : List PySem.Str := ["value"]
/-- rounded_by(value, unit, way); slots value unit way -/
def b11 : MSs := .cons (.ifs (.cmp .eq (.var 2) (.kon (.str "down"))) (.cons (.ret (.bin .mul (.bin .fdiv (.var 0) (.var 1)) (.var 1))) .nil) (.nil))
    (.cons (.ifs (.cmp .eq (.var 2) (.kon (.str "up"))) (.cons (.ret (.bin .mul (.neg (.bin .fdiv (.neg (.var 0)) (.var 1))) (.var 1))) .nil) (.nil))
    (.cons (.ifs (.cmp .eq (.var 2) (.kon (.str "half up"))) (.cons (.ret (.bin .mul (.bin .fdiv (.bin .add (.bin .mul (.kon (.int 2)) (.var 0)) (.var 1)) (.bin .mul (.kon (.int 2)) (.var 1))) (.var 1))) .nil) (.nil))
    (.cons (.ret (.bin .mul (.neg (.bin .fdiv (.bin .sub (.var 1) (.bin .mul (.kon (.int 2)) (.var 0))) (.bin .mul (.kon (.int 2)) (.var 1)))) (.var 1))) .nil)))
def d11 : FD := ⟨3, 3, [], b11⟩
def n11 : List PySem.Str := ["value", "unit", "way"]
/-- rounded(value, unit, way); slots value unit way -/
def b13 : MSs := .cons (.expr (.call 4 [.var 0]))
    (.cons (.expr (.call 5 [.var 1, .kon (.int 1)]))
    (.cons (.expr (.call 10 [.var 2]))
    (.cons (.ret (.call 11 [.var 0, .var 1, .var 2])) .nil)))
def d13 : FD := ⟨3, 3, [], b13⟩
def n13 : List PySem.Str := ["value", "unit", "way"]
/-- _law_pump(_law_script, _law_at); slots _law_script _law_at _law_cell _law_near _law_far _law_full _law_turn _law_deep -/
def b200 : MSs := .cons (.asg (.nm 2) (.bin .add (.bin .mul (.kon (.int 13)) (.var 1)) (.kon (.int 8))))
    (.cons (.ifs (.cmp .lt (.var 1) (.blt .len [.var 0])) (.cons (.asg (.nm 2) (.sub (.var 0) (.var 1))) .nil) (.nil))
    (.cons (.ifs (.cmp .ge (.var 2) (.bin .pow (.kon (.int 10)) (.kon (.int 18)))) (.cons (.asg (.nm 7) (.bin .mul (.bin .mul (.bin .mul (.bin .pow (.kon (.int 10)) (.kon (.int 60))) (.bin .pow (.kon (.int 10)) (.kon (.int 60)))) (.bin .pow (.kon (.int 10)) (.kon (.int 60)))) (.bin .pow (.kon (.int 10)) (.kon (.int 60)))))
    (.cons (.ret (.list [.bin .mod (.blt .int [.bin .sub (.var 2) (.bin .pow (.kon (.int 10)) (.kon (.int 18)))]) (.bin .mul (.var 7) (.var 7))])) .nil)) (.nil))
    (.cons (.asg (.tup [(.nm 3), (.nm 4)]) (.tup [.bin .mod (.blt .int [.bin .add (.var 2) (.bin .mul (.kon (.int 9)) (.var 1))]) (.kon (.int 2147483477)), .bin .mod (.blt .int [.var 2]) (.kon (.int 2147483423))]))
    (.cons (.asg (.nm 5) (.kon (.int 0)))
    (.cons (.for_ (.nm 6) (.range [.kon (.int 45)]) (.cons (.asg (.nm 3) (.bin .mod (.blt .int [.bin .add (.bin .add (.bin .add (.bin .mul (.var 3) (.kon (.int 45991))) (.bin .mul (.var 6) (.kon (.int 523)))) (.bin .mul (.kon (.int 3001)) (.var 1))) (.kon (.int 7))]) (.kon (.int 2147483477))))
    (.cons (.asg (.nm 4) (.bin .mod (.blt .int [.bin .add (.bin .add (.bin .mul (.var 4) (.var 4)) (.bin .mul (.kon (.int 39119)) (.var 6))) (.kon (.int 6151))]) (.kon (.int 2147483423))))
    (.cons (.asg (.nm 5) (.bin .add (.bin .mul (.var 5) (.kon (.int 2147483422))) (.bin .mod (.blt .int [.bin .add (.bin .mul (.var 3) (.var 4)) (.bin .mul (.kon (.int 17)) (.var 6))]) (.kon (.int 2147483422))))) .nil))))
    (.cons (.ret (.list [.var 5])) .nil))))))
def d200 : FD := ⟨2, 8, [], b200⟩
def n200 : List PySem.Str := ["_law_script", "_law_at", "_law_cell", "_law_near", "_law_far", "_law_full", "_law_turn", "_law_deep"]
/-- _law_cup(_law_pump_here, _law_many); slots _law_pump_here _law_many _law_digit -/
def b201 : MSs := .cons (.asg (.nm 2) (.bin .mod (.blt .int [.sub (.var 0) (.kon (.int 0))]) (.var 1)))
    (.cons (.asg (.sub (.var 0) (.kon (.int 0))) (.bin .fdiv (.sub (.var 0) (.kon (.int 0))) (.var 1)))
    (.cons (.ret (.var 2)) .nil))
def d201 : FD := ⟨2, 3, [], b201⟩
def n201 : List PySem.Str := ["_law_pump_here", "_law_many", "_law_digit"]
/-- _law_rounded(_law_value, _law_unit, _law_way); slots _law_value _law_unit _law_way _law_low _law_rest -/
def b208 : MSs := .cons (.asg (.nm 3) (.bin .sub (.var 0) (.bin .mod (.blt .int [.var 0]) (.var 1))))
    (.cons (.asg (.nm 4) (.bin .sub (.var 0) (.var 3)))
    (.cons (.ifs (.or (.cmp .eq (.var 4) (.kon (.int 0))) (.one (.cmp .eq (.var 2) (.kon (.str "down"))))) (.cons (.ret (.var 3)) .nil) (.nil))
    (.cons (.ifs (.or (.cmp .eq (.var 2) (.kon (.str "up"))) (.or (.cmp .gt (.bin .mul (.kon (.int 2)) (.var 4)) (.var 1)) (.one (.and (.cmp .eq (.bin .mul (.kon (.int 2)) (.var 4)) (.var 1)) (.one (.cmp .eq (.var 2) (.kon (.str "half up")))))))) (.cons (.ret (.bin .add (.var 3) (.var 1))) .nil) (.nil))
    (.cons (.ret (.var 3)) .nil))))
def d208 : FD := ⟨3, 5, [], b208⟩
def n208 : List PySem.Str := ["_law_value", "_law_unit", "_law_way", "_law_low", "_law_rest"]
/-- _law_told(_law_value, _law_unit, _law_way); slots _law_value _law_unit _law_way _law_told_here e -/
def b209 : MSs := .cons (.asg (.nm 3) (.list [.kon (.str "none")]))
    (.cons (.try_ (.cons (.asg (.nm 3) (.list [.call 13 [.var 0, .var 1, .var 2], .kon (.int 0), .kon (.int 0)])) .nil) [⟨1, 4, 3, (some (some (.str "number")))⟩, ⟨2, 4, 3, (some (some (.str "way")))⟩])
    (.cons (.ret (.var 3)) .nil))
def d209 : FD := ⟨3, 5, [], b209⟩
def n209 : List PySem.Str := ["_law_value", "_law_unit", "_law_way", "_law_told_here", "e"]
/-- _law_right(_law_value, _law_unit, _law_step); slots _law_value _law_unit _law_step _law_turned _law_way _law_due _law_told_here -/
def b210 : MSs := .cons (.asg (.nm 3) (.dict false [.kon (.str "down"), .kon (.str "up"), .kon (.str "up"), .kon (.str "down"), .kon (.str "half up"), .kon (.str "half down"), .kon (.str "half down"), .kon (.str "half up")]))
    (.cons (.for_ (.nm 4) (.walk (.list [.kon (.str "down"), .kon (.str "up"), .kon (.str "half up"), .kon (.str "half down")])) (.cons (.asg (.nm 5) (.call 208 [.var 0, .var 1, .var 4]))
    (.cons (.asg (.nm 6) (.call 13 [.var 0, .var 1, .var 4]))
    (.cons (.ifs (.or (.cmp .ne (.var 6) (.var 5)) (.or (.isi (.var 6) .bool) (.one (.cmp .ne (.bin .mod (.blt .int [.var 6]) (.var 1)) (.kon (.int 0)))))) (.cons (.ret (.kon (.bl false))) .nil) (.nil))
    (.cons (.ifs (.cmp .ne (.call 13 [.bin .add (.var 0) (.bin .mul (.var 2) (.var 1)), .var 1, .var 4]) (.bin .add (.var 5) (.bin .mul (.var 2) (.var 1)))) (.cons (.ret (.kon (.bl false))) .nil) (.nil))
    (.cons (.ifs (.or (.cmp .ne (.call 13 [.bin .sub (.kon (.int 0)) (.var 0), .var 1, .sub (.var 3) (.var 4)]) (.bin .sub (.kon (.int 0)) (.var 5))) (.one (.cmp .ne (.call 13 [.var 5, .var 1, .var 4]) (.var 5)))) (.cons (.ret (.kon (.bl false))) .nil) (.nil)) .nil))))))
    (.cons (.ret (.kon (.bl true))) .nil))
def d210 : FD := ⟨3, 7, [], b210⟩
def n210 : List PySem.Str := ["_law_value", "_law_unit", "_law_step", "_law_turned", "_law_way", "_law_due", "_law_told_here"]
/-- _law_refused(_law_value, _law_unit); slots _law_value _law_unit _law_odd _law_way -/
def b211 : MSs := .cons (.for_ (.nm 2) (.walk (.list [.kon (.non), .kon (.bl true), .kon (.str "1"), .list [.kon (.int 1)], .tup [.kon (.int 1)], .dict false [], .cmp .eq (.kon (.int 1)) (.kon (.int 1))])) (.cons (.for_ (.nm 3) (.walk (.list [.kon (.str "down"), .kon (.str "no"), .kon (.non)])) (.cons (.ifs (.or (.cmp .ne (.call 209 [.var 2, .kon (.int 0), .var 3]) (.list [.kon (.str "number"), .var 2])) (.one (.cmp .ne (.call 209 [.var 2, .var 1, .var 3]) (.list [.kon (.str "number"), .var 2])))) (.cons (.ret (.kon (.bl false))) .nil) (.nil))
    (.cons (.ifs (.cmp .ne (.call 209 [.var 0, .var 2, .var 3]) (.list [.kon (.str "number"), .var 2])) (.cons (.ret (.kon (.bl false))) .nil) (.nil)) .nil))) .nil))
    (.cons (.for_ (.nm 2) (.walk (.list [.kon (.int 0), .neg (.kon (.int 1)), .bin .sub (.kon (.int 0)) (.bin .pow (.kon (.int 10)) (.kon (.int 39)))])) (.cons (.ifs (.or (.cmp .ne (.call 209 [.var 0, .var 2, .kon (.str "down")]) (.list [.kon (.str "number"), .var 2])) (.one (.cmp .ne (.call 209 [.var 0, .var 2, .kon (.non)]) (.list [.kon (.str "number"), .var 2])))) (.cons (.ret (.kon (.bl false))) .nil) (.nil)) .nil))
    (.cons (.asg (.nm 2) (.list [.kon (.non), .kon (.str ""), .kon (.str "Down"), .kon (.str "half"), .kon (.str "half-up"), .kon (.str "halfup"), .kon (.str "half  up"), .kon (.str " down"), .kon (.str "down "), .kon (.int 0), .kon (.bl true), .list [.kon (.str "down")], .tup [.kon (.str "up")], .dict false []]))
    (.cons (.ret (.cmp .eq (.lc (.var 3) (.nm 3) (.walk (.bin .add (.var 2) (.list [.kon (.str "near"), .kon (.str "DOWN"), .kon (.str "up\n")]))) (some (.cmp .ne (.call 209 [.var 0, .var 1, .var 3]) (.list [.kon (.str "way"), .var 3]))) [3]) (.list []))) .nil)))
def d211 : FD := ⟨2, 4, [], b211⟩
def n211 : List PySem.Str := ["_law_value", "_law_unit", "_law_odd", "_law_way"]
/-- law(_law_script); slots _law_script _law_at _law_pump_here _law_unit _law_many _law_value -/
def b212 : MSs := .cons (.for_ (.nm 1) (.range [.bin .add (.blt .min [.blt .len [.var 0], .kon (.int 20)]) (.kon (.int 5))]) (.cons (.asg (.nm 2) (.call 200 [.var 0, .var 1]))
    (.cons (.asg (.nm 3) (.bin .add (.kon (.int 1)) (.call 201 [.var 2, .sub (.list [.kon (.int 2), .kon (.int 12), .kon (.int 1000), .bin .pow (.kon (.int 10)) (.kon (.int 19))]) (.call 201 [.var 2, .kon (.int 4)])])))
    (.cons (.asg (.nm 4) (.bin .sub (.call 201 [.var 2, .sub (.list [.kon (.int 3), .kon (.int 100), .bin .pow (.kon (.int 10)) (.kon (.int 18))]) (.call 201 [.var 2, .kon (.int 3)])]) (.kon (.int 1))))
    (.cons (.asg (.nm 5) (.bin .sub (.bin .add (.bin .add (.bin .mul (.var 4) (.var 3)) (.sub (.list [.kon (.int 0), .kon (.int 0), .bin .fdiv (.var 3) (.kon (.int 2)), .bin .fdiv (.bin .add (.var 3) (.kon (.int 1))) (.kon (.int 2))]) (.call 201 [.var 2, .kon (.int 4)]))) (.call 201 [.var 2, .kon (.int 3)])) (.kon (.int 1))))
    (.cons (.ifs (.cmp .eq (.call 201 [.var 2, .kon (.int 2)]) (.kon (.int 1))) (.cons (.asg (.nm 5) (.bin .sub (.kon (.int 0)) (.var 5))) .nil) (.nil))
    (.cons (.ifs (.or (.not (.call 210 [.var 5, .var 3, .bin .sub (.call 201 [.var 2, .kon (.int 9)]) (.kon (.int 4))])) (.one (.not (.call 211 [.var 5, .var 3])))) (.cons (.ret (.kon (.bl false))) .nil) (.nil)) .nil)))))))
    (.cons (.ret (.and (.cmp .eq (.call 13 [.kon (.int 7), .kon (.int 4), .kon (.str "half up")]) (.kon (.int 8))) (.and (.cmp .eq (.call 13 [.neg (.kon (.int 6)), .kon (.int 4), .kon (.str "half up")]) (.neg (.kon (.int 4)))) (.one (.cmp .eq (.call 13 [.neg (.kon (.int 6)), .kon (.int 4), .kon (.str "half down")]) (.neg (.kon (.int 8)))))))) .nil)
def d212 : FD := ⟨1, 6, [], b212⟩
def n212 : List PySem.Str := ["_law_script", "_law_at", "_law_pump_here", "_law_unit", "_law_many", "_law_value"]
def fnOf : Nat → Option FD
  | 0 => some d0
  | 4 => some d4
  | 5 => some d5
  | 9 => some d9
  | 10 => some d10
  | 11 => some d11
  | 13 => some d13
  | 200 => some d200
  | 201 => some d201
  | 208 => some d208
  | 209 => some d209
  | 210 => some d210
  | 211 => some d211
  | 212 => some d212
  | _ => none
def gdOf (x : PySem.Str) : Option (List (PySem.Str × PySem.Str)) := if x = "OTHER_WAYS" then some [("down", "up"), ("up", "down"), ("half up", "half down"), ("half down", "half up")] else none
def gsOf (x : PySem.Str) : Option PySem.Str := none
def T : Tb := ⟨fnOf, fun _ => none, gsOf, gdOf, 100000⟩
noncomputable abbrev CK (k : Nat) : Ct := { T with call := callK T k }
@[simp] theorem T_fl : T.fl = 100000 := rfl
@[simp] theorem T_gd_OTHER_WAYS : T.gd "OTHER_WAYS" = some [(("down" : Str), ("up" : Str)), (("up" : Str), ("down" : Str)), (("half up" : Str), ("half down" : Str)), (("half down" : Str), ("half up" : Str))] := by simp [T, gdOf]
@[simp] theorem cf0 {k a0 h} : callF (CK k) 0 [a0] h = callK T k 0 [a0] h := rfl
theorem ck0 {k a0 h} : callK T (k + 1) 0 [a0] h = (exSs (CK k) b0 [some a0] h).out := rfl
@[simp] theorem cf4 {k a0 h} : callF (CK k) 4 [a0] h = callK T k 4 [a0] h := rfl
theorem ck4 {k a0 h} : callK T (k + 1) 4 [a0] h = (exSs (CK k) b4 [some a0] h).out := rfl
@[simp] theorem cf5 {k a0 a1 h} : callF (CK k) 5 [a0, a1] h = callK T k 5 [a0, a1] h := rfl
theorem ck5 {k a0 a1 h} : callK T (k + 1) 5 [a0, a1] h = (exSs (CK k) b5 [some a0, some a1] h).out := rfl
@[simp] theorem cf9 {k a0 h} : callF (CK k) 9 [a0] h = callK T k 9 [a0] h := rfl
theorem ck9 {k a0 h} : callK T (k + 1) 9 [a0] h = (exSs (CK k) b9 [some a0] h).out := rfl
@[simp] theorem cf10 {k a0 h} : callF (CK k) 10 [a0] h = callK T k 10 [a0] h := rfl
theorem ck10 {k a0 h} : callK T (k + 1) 10 [a0] h = (exSs (CK k) b10 [some a0] h).out := rfl
@[simp] theorem cf11 {k a0 a1 a2 h} : callF (CK k) 11 [a0, a1, a2] h = callK T k 11 [a0, a1, a2] h := rfl
theorem ck11 {k a0 a1 a2 h} : callK T (k + 1) 11 [a0, a1, a2] h = (exSs (CK k) b11 [some a0, some a1, some a2] h).out := rfl
@[simp] theorem cf13 {k a0 a1 a2 h} : callF (CK k) 13 [a0, a1, a2] h = callK T k 13 [a0, a1, a2] h := rfl
theorem ck13 {k a0 a1 a2 h} : callK T (k + 1) 13 [a0, a1, a2] h = (exSs (CK k) b13 [some a0, some a1, some a2] h).out := rfl
@[simp] theorem cf200 {k a0 a1 h} : callF (CK k) 200 [a0, a1] h = callK T k 200 [a0, a1] h := rfl
theorem ck200 {k a0 a1 h} : callK T (k + 1) 200 [a0, a1] h = (exSs (CK k) b200 [some a0, some a1, none, none, none, none, none, none] h).out := rfl
@[simp] theorem cf201 {k a0 a1 h} : callF (CK k) 201 [a0, a1] h = callK T k 201 [a0, a1] h := rfl
theorem ck201 {k a0 a1 h} : callK T (k + 1) 201 [a0, a1] h = (exSs (CK k) b201 [some a0, some a1, none] h).out := rfl
@[simp] theorem cf208 {k a0 a1 a2 h} : callF (CK k) 208 [a0, a1, a2] h = callK T k 208 [a0, a1, a2] h := rfl
theorem ck208 {k a0 a1 a2 h} : callK T (k + 1) 208 [a0, a1, a2] h = (exSs (CK k) b208 [some a0, some a1, some a2, none, none] h).out := rfl
@[simp] theorem cf209 {k a0 a1 a2 h} : callF (CK k) 209 [a0, a1, a2] h = callK T k 209 [a0, a1, a2] h := rfl
theorem ck209 {k a0 a1 a2 h} : callK T (k + 1) 209 [a0, a1, a2] h = (exSs (CK k) b209 [some a0, some a1, some a2, none, none] h).out := rfl
@[simp] theorem cf210 {k a0 a1 a2 h} : callF (CK k) 210 [a0, a1, a2] h = callK T k 210 [a0, a1, a2] h := rfl
theorem ck210 {k a0 a1 a2 h} : callK T (k + 1) 210 [a0, a1, a2] h = (exSs (CK k) b210 [some a0, some a1, some a2, none, none, none, none] h).out := rfl
@[simp] theorem cf211 {k a0 a1 h} : callF (CK k) 211 [a0, a1] h = callK T k 211 [a0, a1] h := rfl
theorem ck211 {k a0 a1 h} : callK T (k + 1) 211 [a0, a1] h = (exSs (CK k) b211 [some a0, some a1, none, none] h).out := rfl
@[simp] theorem cf212 {k a0 h} : callF (CK k) 212 [a0] h = callK T k 212 [a0] h := rfl
theorem ck212 {k a0 h} : callK T (k + 1) 212 [a0] h = (exSs (CK k) b212 [some a0, none, none, none, none, none] h).out := rfl
def fnt : List (PySem.Str × Nat) := [("is_whole", 0), ("check_whole", 4), ("check_least", 5), ("is_way", 9), ("check_way", 10), ("rounded_by", 11), ("rounded", 13), ("_law_pump", 200), ("_law_cup", 201), ("_law_rounded", 208), ("_law_told", 209), ("_law_right", 210), ("_law_refused", 211), ("law", 212)]
def nm : Nat → PySem.Str
  | 1 => "InvalidNumber"
  | 2 => "InvalidWay"
  | _ => ""
def xf : Nat → PySem.Str
  | 1 => "value"
  | 2 => "value"
  | _ => ""
def xn : List Nat := [1, 2]
end U

set_option linter.all false
set_option maxRecDepth 100000
namespace U
open PySem MP
/-! ### names, units: the small checks -/
def wholeB : MV → Bool
  | .int _ => true
  | _ => false
/-- a value whose type is known -/
def tyOk (h : Hm) (x : MV) : Prop := (tyN h x).isSome = true
@[simp] theorem whole_int {i} : wholeB (.int i) = true := rfl
theorem whole_is {x} (w : wholeB x = true) : ∃ i, x = .int i := by cases x <;> first | exact ⟨_, rfl⟩ | cases w
@[simp] theorem tyOk_non {h} : tyOk h .non := rfl
@[simp] theorem tyOk_bl {h b} : tyOk h (.bl b) := rfl
@[simp] theorem tyOk_int {h i} : tyOk h (.int i) := rfl
@[simp] theorem tyOk_str {h s} : tyOk h (.str s) := rfl
@[simp] theorem tyOk_tup {h s} : tyOk h (.tup s) := rfl
theorem tyOk_app {h t x} (k : tyOk h x) : tyOk (h ++ t) x := by
  unfold tyOk tyN at k ⊢
  cases x <;> first | exact k | skip
  rename_i a
  cases q : h[a]? with
  | none => simp [q] at k
  | some o =>
    simp only [get_app q]
    simp only [q] at k
    exact k
theorem isi_int {C : Ct} {h x} (t : tyOk h x) : isiB C h x .int = some (match x with | .int _ => true | .bl _ => true | _ => false) := by
  unfold tyOk at t
  cases x <;> first | rfl | skip
  rename_i a
  unfold isiB tyN at *
  simp only at t ⊢
  cases q : h[a]? with
  | none => rw [q] at t; cases t
  | some o => rw [q] at t; cases o <;> first | rfl | cases t
theorem isi_bool {C : Ct} {h x} (t : tyOk h x) : isiB C h x .bool = some (match x with | .bl _ => true | _ => false) := by
  unfold tyOk at t
  cases x <;> first | rfl | skip
  rename_i a
  unfold isiB tyN at *
  simp only at t ⊢
  cases q : h[a]? with
  | none => rw [q] at t; cases t
  | some o => rw [q] at t; cases o <;> first | rfl | cases t
theorem isi_str {C : Ct} {h x} (t : tyOk h x) : isiB C h x .str = some (match x with | .str _ => true | _ => false) := by
  unfold tyOk at t
  cases x <;> first | rfl | skip
  rename_i a
  unfold isiB tyN at *
  simp only at t ⊢
  cases q : h[a]? with
  | none => rw [q] at t; cases t
  | some o => rw [q] at t; cases o <;> first | rfl | cases t
theorem is_whole {k x h} (t : tyOk h x) : callK T (k + 1) 0 [x] h = .ok (.bl (wholeB x)) h := by
  rw [ck0]
  cases x <;> simp [b0, isi_int t, isi_bool t, wholeB]
theorem check_whole {k x h} (t : tyOk h x) : callK T (k + 2) 4 [x] h = if wholeB x then .ok .non h else .ex 1 x h := by
  rw [ck4]
  cases q : wholeB x <;> simp [b4, is_whole t, q]
/-- a whole number, at least l -/
def leastB (l : Int) : MV → Bool
  | .int i => decide (l ≤ i)
  | _ => false
theorem check_least {k x l h} (t : tyOk h x) : callK T (k + 2) 5 [x, .int l] h = if leastB l x then .ok .non h else .ex 1 x h := by
  rw [ck5]
  cases q : wholeB x with
  | false => 
    have : leastB l x = false := by cases x <;> first | rfl | cases q
    simp [b5, is_whole t, q, this]
  | true =>
    obtain ⟨i, rfl⟩ := whole_is q
    by_cases h1 : i < l
    · simp [b5, is_whole t, q, leastB, h1]
    · have : l ≤ i := by omega
      simp [b5, is_whole t, q, leastB, h1, this]
def ways : List (Str × Str) := [("down", "up"), ("up", "down"), ("half up", "half down"), ("half down", "half up")]
def isWay (s : Str) : Bool := (ways.lookup s).isSome
def wayB : MV → Bool
  | .str s => isWay s
  | _ => false
theorem is_way {k x h} (t : tyOk h x) : callK T (k + 1) 9 [x] h = .ok (.bl (wayB x)) h := by
  rw [ck9]
  cases x <;> simp [b9, isi_str t, wayB, isWay, ways]
theorem check_way {k x h} (t : tyOk h x) : callK T (k + 2) 10 [x] h = if wayB x then .ok .non h else .ex 2 x h := by
  rw [ck10]
  cases q : wayB x <;> simp [b10, is_way t, q]
/-- rounding, as the program does it -/
def rdn (v u : Int) (w : Str) : Int := if w = "down" then v / u * u else if w = "up" then -(-v / u) * u else if w = "half up" then (2 * v + u) / (2 * u) * u else -((u - 2 * v) / (2 * u)) * u
/-- numbers that are not too long -/
def fit (i : Int) : Prop := i.natAbs < 2 ^ 4000
theorem rounded_by {k v u w h} (hu : 0 < u) (fu : fit u) (fv : fit v) : callK T (k + 1) 11 [.int v, .int u, .str w] h = .ok (.int (rdn v u w)) h := by
  rw [ck11]
  unfold fit at fu fv
  have p4 : (2:Nat) ^ 4001 = 2 ^ 4000 * 2 := by rw [← Nat.pow_succ]
  have p5 : (2:Nat) ^ 4002 = 2 ^ 4001 * 2 := by rw [← Nat.pow_succ]
  have p6 : (2:Nat) ^ 4003 = 2 ^ 4002 * 2 := by rw [← Nat.pow_succ]
  have e1 : divB u = true := divB_of 4000 hu fu
  have e2 : divB (2 * u) = true := divB_of 4001 (by omega) (by omega)
  have ed : ∀ a b : Int, 0 < b → a.natAbs < 2 ^ 4002 → (a / b).natAbs < 2 ^ 4003 := fun a b hb ha => by
    have h1 := Int.natAbs_ediv_le_natAbs a b
    omega
  have e3 : ∀ i : Int, i.natAbs < 2 ^ 4003 → mulB i u = true := fun i hi => mulB_of 4003 4000 hi fu
  have e4 : ∀ i : Int, i.natAbs < 2 ^ 4000 → mulB 2 i = true := fun i hi => mulB_of 2 4000 (by decide) hi
  have m1 := e3 _ (ed v u hu (by omega))
  have m2 : mulB (-(-v / u)) u = true := e3 _ (by rw [Int.natAbs_neg]; exact ed (-v) u hu (by omega))
  have m3 := e3 _ (ed (2 * v + u) (2 * u) (by omega) (by omega))
  have m4 : mulB (-((u - 2 * v) / (2 * u))) u = true := e3 _ (by rw [Int.natAbs_neg]; exact ed (u - 2 * v) (2 * u) (by omega) (by omega))
  unfold rdn
  by_cases h1 : w = "down"
  · simp [b11, h1, e1, m1]
  by_cases h2 : w = "up"
  · simp [b11, h2, e1, m2]
  by_cases h3 : w = "half up"
  · simp [b11, h3, e2, m3, e4 _ fu, e4 _ fv]
  simp [b11, h1, h2, h3, e2, m4, e4 _ fu, e4 _ fv]
/-- rounded: the errors in order, else the number -/
theorem rounded {k v u w h} (tv : tyOk h v) (tu : tyOk h u) (tw : tyOk h w) (fu : ∀ i, u = .int i → fit i) (fv : ∀ i, v = .int i → fit i) : callK T (k + 3) 13 [v, u, w] h =
    if wholeB v then (if leastB 1 u then (match v, u, w with | .int i, .int j, .str s => if isWay s then .ok (.int (rdn i j s)) h else .ex 2 w h | _, _, _ => .ex 2 w h) else .ex 1 u h) else .ex 1 v h := by
  rw [ck13]
  cases q1 : wholeB v with
  | false => simp [b13, check_whole tv, q1]
  | true =>
    obtain ⟨i, rfl⟩ := whole_is q1
    cases q2 : leastB 1 u with
    | false => simp [b13, check_whole tv, check_least tu, q2]
    | true =>
      have : ∃ j, u = .int j ∧ 1 ≤ j := by
        cases u <;> first | cases q2 | skip
        exact ⟨_, rfl, of_decide_eq_true q2⟩
      obtain ⟨j, rfl, hj⟩ := this
      cases w with
      | str s =>
        cases q3 : isWay s <;> simp [b13, check_whole tv, check_least tu, check_way tw, q2, wayB, q3, rounded_by (k := k + 1) (show 0 < j by omega) (fu _ rfl) (fv _ rfl)]
      | _ => simp [b13, check_whole tv, check_least tu, check_way tw, q2, wayB]
end U

set_option linter.all false
set_option maxRecDepth 100000
namespace U
open PySem MP
/-! ### the laws' draws: the pump, the cup -/
theorem range_mem {lo : Int} {n : Nat} {x : MV} (h : x ∈ rangeL lo n 1) : ∃ i : Int, x = .int i ∧ lo ≤ i ∧ i < lo + n := by
  unfold rangeL at h
  obtain ⟨j, hj, e⟩ := List.mem_map.mp h
  have := List.mem_range.mp hj
  exact ⟨lo + j, by rw [← e]; simp, by omega, by omega⟩
@[simp] theorem range_len {lo : Int} {n : Nat} {c : Int} : (rangeL lo n c).length = n := by simp [rangeL]
theorem atI_nat {α : Type} {xs : List α} {i : Int} {x : α} (h0 : 0 ≤ i) (e : xs[i.toNat]? = some x) : atI xs i = some x := by
  have := (List.getElem?_eq_some_iff.mp e).1
  unfold atI MP.ixN
  rw [if_pos h0, if_pos (by omega)]
  exact e
theorem range1 {n : Int} {h : Hm} (h1 : -(2 ^ 62) ≤ n) (h2 : n < 2 ^ 62) : mRange [.int n] h = .ok (rangeL 0 n.toNat 1, none) h := by
  unfold mRange small62
  simp only [h1, h2, decide_true, Bool.and_self, if_true]
theorem len_ro {C : Ct} {h : Hm} {a : Nat} {xs : List MV} (e : h[a]? = some (.ro xs)) : mBlt C .len [.obj a] h = .ok (.int xs.length) h := by
  simp [mBlt, mLen, e]
theorem len_lst {C : Ct} {h : Hm} {a : Nat} {xs : List MV} (e : h[a]? = some (.lst xs)) : mBlt C .len [.obj a] h = .ok (.int xs.length) h := by
  simp [mBlt, mLen, e]
@[simp] theorem int_int {C : Ct} {h : Hm} {i : Int} : mBlt C .int [.int i] h = .ok (.int i) h := rfl
theorem sub_ro {C : Ct} {h : Hm} {a : Nat} {xs : List MV} {i : Int} {x : MV} (e : h[a]? = some (.ro xs)) (q : atI xs i = some x) : mSub C (.obj a) (.int i) h = .ok x h := by
  simp [mSub, e, q]
theorem sub_lst {C : Ct} {h : Hm} {a : Nat} {xs : List MV} {i : Int} {x : MV} (e : h[a]? = some (.lst xs)) (q : atI xs i = some x) : mSub C (.obj a) (.int i) h = .ok x h := by
  simp [mSub, e, q]
theorem mulB_lit {i j : Int} (h1 : i.natAbs < 2 ^ 2000) (h2 : j.natAbs < 2 ^ 2000) : mulB i j = true := mulB_of 2000 2000 h1 h2
theorem pump {k a at_ h} {ns : List Int} (ha : h[a]? = some (.ro (ns.map MV.int))) (h0 : 0 ≤ at_) (h1 : at_ < 1000) :
    ∃ p : Int, 0 ≤ p ∧ p < 2 ^ 1600 ∧ callK T (k + 1) 200 [.obj a, .int at_] h = .ok (.obj h.length) (h ++ [.lst [.int p]]) := by
  rw [ck200]
  have m13 : mulB 13 at_ = true := mulB_of 10 10 (by decide) (by omega)
  have m9 : mulB 9 at_ = true := mulB_of 10 10 (by decide) (by omega)
  -- the cell
  obtain ⟨c, hc⟩ : ∃ c : Int, (exS (CK k) (.asg (.nm 2) (.bin .add (.bin .mul (.kon (.int 13)) (.var 1)) (.kon (.int 8)))) [some (.obj a), some (.int at_), none, none, none, none, none, none] h).bind (fun e h => exS (CK k) (.ifs (.cmp .lt (.var 1) (.blt .len [.var 0])) (.cons (.asg (.nm 2) (.sub (.var 0) (.var 1))) .nil) .nil) e h) =
      .nx [some (.obj a), some (.int at_), some (.int c), none, none, none, none, none] h := by
    by_cases q : at_ < ns.length
    · refine ⟨ns[at_.toNat]'(by omega), ?_⟩
      have e : atI (ns.map MV.int) at_ = some (.int (ns[at_.toNat]'(by omega))) := atI_nat h0 (by simp)
      simp [m13, len_ro ha, q, sub_ro ha e]
    · exact ⟨13 * at_ + 8, by simp [m13, len_ro ha, q]⟩
  rw [b200, exSs_two, hc, S.bind_nx]
  by_cases q : (10:Int) ^ 18 ≤ c
  · refine ⟨(c - 10 ^ 18) % (10 ^ 240 * 10 ^ 240), Int.emod_nonneg _ (by decide), ?_, ?_⟩
    · refine Int.lt_trans (Int.emod_lt_of_pos _ (by decide)) (by decide +kernel)
    · have q' : 1000000000000000000 ≤ c := q
      have p1 : powB 10 18 = true := by decide +kernel
      have p2 : powB 10 60 = true := by decide +kernel
      have m1 : mulB (10 ^ 60) (10 ^ 60) = true := by decide +kernel
      have m2 : mulB (10 ^ 60 * 10 ^ 60) (10 ^ 60) = true := by decide +kernel
      have m3 : mulB (10 ^ 60 * 10 ^ 60 * 10 ^ 60) (10 ^ 60) = true := by decide +kernel
      have m4 : mulB (10 ^ 60 * 10 ^ 60 * 10 ^ 60 * 10 ^ 60) (10 ^ 60 * 10 ^ 60 * 10 ^ 60 * 10 ^ 60) = true := by decide +kernel
      simp at m1 m2 m3 m4
      simp [p1, p2, m1, m2, m3, m4, q']
  · have q' : ¬ 1000000000000000000 ≤ c := q
    have p1 : powB 10 18 = true := by decide +kernel
    have r45 : mRange [.int 45] h = .ok (rangeL 0 45 1, none) h := range1 (by decide) (by decide)
    simp [p1, q', m9, r45]
    obtain ⟨e', h', e1, e2⟩ := forL_nx (g := none) (tg := .nm 6) (h := h) (xs := rangeL 0 45 1)
      (e := [some (.obj a), some (.int at_), some (.int c), some (.int ((c + 9 * at_) % 2147483477)), some (.int (c % 2147483423)), some (.int 0), none, none])
      (b := exSs (CK k) (.cons (.asg (.nm 3) (.bin .mod (.blt .int [.bin .add (.bin .add (.bin .add (.bin .mul (.var 3) (.kon (.int 45991))) (.bin .mul (.var 6) (.kon (.int 523)))) (.bin .mul (.kon (.int 3001)) (.var 1))) (.kon (.int 7))]) (.kon (.int 2147483477))))
    (.cons (.asg (.nm 4) (.bin .mod (.blt .int [.bin .add (.bin .add (.bin .mul (.var 4) (.var 4)) (.bin .mul (.kon (.int 39119)) (.var 6))) (.kon (.int 6151))]) (.kon (.int 2147483423))))
    (.cons (.asg (.nm 5) (.bin .add (.bin .mul (.var 5) (.kon (.int 2147483422))) (.bin .mod (.blt .int [.bin .add (.bin .mul (.var 3) (.var 4)) (.bin .mul (.kon (.int 17)) (.var 6))]) (.kon (.int 2147483422))))) .nil))))
      (fun xs e h2 => h2 = h ∧ xs.length ≤ 45 ∧ (∀ x ∈ xs, ∃ i : Int, x = .int i ∧ 0 ≤ i ∧ i < 45) ∧ ∃ (n f u : Int) (t : Option MV), e = [some (.obj a), some (.int at_), some (.int c), some (.int n), some (.int f), some (.int u), t, none] ∧
        0 ≤ n ∧ n < 2147483477 ∧ 0 ≤ f ∧ f < 2147483423 ∧ 0 ≤ u ∧ u < 2147483422 ^ (46 - xs.length))
      ⟨rfl, by simp, fun x hx => by obtain ⟨i, e, h1, h2⟩ := range_mem hx; exact ⟨i, e, h1, by omega⟩, _, _, _, _, rfl, Int.emod_nonneg _ (by decide), Int.emod_lt_of_pos _ (by decide), Int.emod_nonneg _ (by decide), Int.emod_lt_of_pos _ (by decide), Int.le_refl _, by simp⟩
      (fun _ _ _ _ => rfl) (fun x xs e h2 hI => by
        obtain ⟨rfl, hl, hx, n, f, u, t, rfl, n0, n1, f0, f1, u0, u1⟩ := hI
        obtain ⟨i, rfl, i0, i1⟩ := hx x (by simp)
        have hl : xs.length < 45 := by simp at hl; omega
        have u2 : u < 2147483422 ^ 46 := Int.lt_of_lt_of_le u1 (ipow_le (by decide) (by omega))
        have u3 : u < 2 ^ 1500 := Int.lt_of_lt_of_le u2 (by decide +kernel)
        have a1 : mulB n 45991 = true := mulB_of 32 32 (by omega) (by decide)
        have a2 : mulB i 523 = true := mulB_of 32 32 (by omega) (by decide)
        have a3 : mulB 3001 at_ = true := mulB_of 32 32 (by decide) (by omega)
        have a4 : mulB f f = true := mulB_of 32 32 (by omega) (by omega)
        have a5 : mulB 39119 i = true := mulB_of 32 32 (by decide) (by omega)
        have a6 : mulB u 2147483422 = true := mulB_of 1500 32 (by omega) (by decide)
        generalize hn : (n * 45991 + i * 523 + 3001 * at_ + 7) % 2147483477 = n'
        generalize hf : (f * f + 39119 * i + 6151) % 2147483423 = f'
        have n0' : 0 ≤ n' := by rw [← hn]; exact Int.emod_nonneg _ (by decide)
        have n1' : n' < 2147483477 := by rw [← hn]; exact Int.emod_lt_of_pos _ (by decide)
        have f0' : 0 ≤ f' := by rw [← hf]; exact Int.emod_nonneg _ (by decide)
        have f1' : f' < 2147483423 := by rw [← hf]; exact Int.emod_lt_of_pos _ (by decide)
        have a7 : mulB n' f' = true := mulB_of 32 32 (by omega) (by omega)
        have a8 : mulB 17 i = true := mulB_of 32 32 (by decide) (by omega)
        refine ⟨[some (.obj a), some (.int at_), some (.int c), some (.int n), some (.int f), some (.int u), some (.int i), none], [some (.obj a), some (.int at_), some (.int c), some (.int n'), some (.int f'), some (.int (u * 2147483422 + (n' * f' + 17 * i) % 2147483422)), some (.int i), none], h2, rfl, .inl ?_, rfl, by omega, fun y hy => hx y (by simp [hy]), n', f', u * 2147483422 + (n' * f' + 17 * i) % 2147483422, _, rfl, n0', n1', f0', f1', ?_, ?_⟩
        · simp [a1, a2, a3, a4, a5, a6, a7, a8, hn, hf]
        · have := Int.emod_nonneg (n' * f' + 17 * i) (show (2147483422 : Int) ≠ 0 by decide)
          omega
        · have h1 := Int.emod_lt_of_pos (n' * f' + 17 * i) (show (0 : Int) < 2147483422 by decide)
          have h2 : (46 - xs.length) = (46 - (MV.int i :: xs).length) + 1 := by simp; omega
          rw [h2, Int.pow_succ]
          have h3 : u + 1 ≤ 2147483422 ^ (46 - (MV.int i :: xs).length) := u1
          have h4 := Int.mul_le_mul_of_nonneg_right h3 (show (0 : Int) ≤ 2147483422 by decide)
          omega)
    obtain ⟨rfl, _, _, n, f, u, t, rfl, n0, n1, f0, f1, u0, u1⟩ := e2
    rw [e1]
    refine ⟨u, u0, ?_, by simp⟩
    exact Int.lt_of_lt_of_le u1 (by decide +kernel)
end U

set_option linter.all false
set_option maxRecDepth 100000
set_option exponentiation.threshold 5000
namespace U
open PySem MP
theorem cup {k b p m h} (hb : h[b]? = some (.lst [.int p])) (hm : 0 < m) (m1 : m < 2 ^ 1000) :
    callK T (k + 1) 201 [.obj b, .int m] h = .ok (.int (p % m)) (h.set b (.lst [.int (p / m)])) := by
  rw [ck201]
  have e : atI [MV.int p] 0 = some (.int p) := rfl
  have e2 : MP.ixN 1 0 = some 0 := rfl
  have d : divB m = true := divB_of 1000 hm (by omega)
  simp [b201, sub_lst hb e, hm, d, mSet, hb, e2]
/-- what a cup draws, and what is left -/
theorem cup_at {p m : Int} (h0 : 0 ≤ p) (h1 : p < 2 ^ 1600) (hm : 0 < m) : 0 ≤ p / m ∧ p / m < 2 ^ 1600 ∧ 0 ≤ p % m ∧ p % m < m :=
  ⟨Int.ediv_nonneg h0 (by omega), Int.lt_of_le_of_lt (Int.ediv_le_self _ h0) h1, Int.emod_nonneg _ (by omega), Int.emod_lt_of_pos _ hm⟩
/-- the law's own rounding -/
def rdl (v u : Int) (w : Str) : Int := if v % u = 0 ∨ w = "down" then v - v % u else if w = "up" ∨ u < 2 * (v % u) ∨ (2 * (v % u) = u ∧ w = "half up") then v - v % u + u else v - v % u
theorem law_rounded {k v u w h} (hu : 0 < u) (fu : fit u) : callK T (k + 1) 208 [.int v, .int u, .str w] h = .ok (.int (rdl v u w)) h := by
  rw [ck208]
  have r0 := Int.emod_nonneg v (show u ≠ 0 by omega)
  have r1 := Int.emod_lt_of_pos v hu
  have e : v - (v - v % u) = v % u := by omega
  unfold fit at fu
  have e4 : mulB 2 (v % u) = true := mulB_of 2 4000 (by decide) (by omega)
  unfold rdl
  by_cases h1 : v % u = 0
  · simp [b208, hu, e, h1]
  by_cases h2 : w = "down"
  · simp [b208, hu, e, h1, h2]
  by_cases h3 : w = "up"
  · simp [b208, hu, e, h1, h3, e4]
  by_cases h4 : u < 2 * (v % u)
  · simp [b208, hu, e, h1, h2, h3, h4, e4]
  by_cases h5 : 2 * (v % u) = u
  · by_cases h6 : w = "half up"
    · simp [b208, hu, e, h1, h6, h5, h4, e4]
    · simp [b208, hu, e, h1, h2, h3, h6, h5, h4, e4]
  · simp [b208, hu, e, h1, h2, h3, h4, h5, e4]
/-! ### the two roundings agree -/
theorem ediv_of {a b q r : Int} (h : a = q * b + r) (h0 : 0 ≤ r) (h1 : r < b) : a / b = q := by
  rw [h, Int.add_comm, Int.add_mul_ediv_right _ _ (by omega), Int.ediv_eq_zero_of_lt h0 h1]; omega
theorem isWay_cases {w : Str} (h : isWay w = true) : w = "down" ∨ w = "up" ∨ w = "half up" ∨ w = "half down" := by
  unfold isWay ways at h
  by_cases h1 : w = "down"
  · exact .inl h1
  by_cases h2 : w = "up"
  · exact .inr (.inl h2)
  by_cases h3 : w = "half up"
  · exact .inr (.inr (.inl h3))
  by_cases h4 : w = "half down"
  · exact .inr (.inr (.inr h4))
  have q1 : (w == Str.ofString "down") = false := by simpa using h1
  have q2 : (w == Str.ofString "up") = false := by simpa using h2
  have q3 : (w == Str.ofString "half up") = false := by simpa using h3
  have q4 : (w == Str.ofString "half down") = false := by simpa using h4
  simp [List.lookup, q1, q2, q3, q4] at h
theorem rdn_rdl {v u : Int} {w : Str} (hu : 0 < u) (hw : isWay w = true) : rdn v u w = rdl v u w := by
  have r0 := Int.emod_nonneg v (show u ≠ 0 by omega)
  have r1 := Int.emod_lt_of_pos v hu
  have d := Int.mul_ediv_add_emod v u
  rw [Int.mul_comm] at d
  unfold rdn rdl
  generalize hq : v / u = q at d ⊢
  generalize v % u = r at d r0 r1 ⊢
  have e1 : v - r = q * u := by omega
  rw [e1]
  have m1 : (q + 1) * u = q * u + u := by rw [Int.add_mul]; omega
  rcases isWay_cases hw with rfl | rfl | rfl | rfl
  · simp
  · by_cases h : r = 0
    · have : -v / u = -q := ediv_of (r := 0) (by rw [Int.neg_mul]; omega) (by omega) hu
      simp [this, h]
    · have : -v / u = -(q + 1) := ediv_of (r := u - r) (by rw [Int.neg_mul, m1]; omega) (by omega) (by omega)
      simp [this, h, m1]
  · have m2 : q * (2 * u) = 2 * (q * u) := by rw [Int.mul_left_comm]
    have m3 : (q + 1) * (2 * u) = 2 * (q * u) + 2 * u := by rw [Int.add_mul, m2]; omega
    by_cases h : 2 * r < u
    · have : (2 * v + u) / (2 * u) = q := ediv_of (r := 2 * r + u) (by rw [m2]; omega) (by omega) (by omega)
      have h1 : ¬ u < 2 * r := by omega
      have h2 : ¬ 2 * r = u := by omega
      simp [this, h1, h2]
    · have : (2 * v + u) / (2 * u) = q + 1 := ediv_of (r := 2 * r - u) (by rw [m3]; omega) (by omega) (by omega)
      have h0 : ¬ r = 0 := by omega
      have h1 : u < 2 * r ∨ 2 * r = u := by omega
      simp [this, h0, h1, m1]
  · have m2 : -q * (2 * u) = -(2 * (q * u)) := by rw [Int.neg_mul, Int.mul_left_comm]
    have m3 : -(q + 1) * (2 * u) = -(2 * (q * u)) - 2 * u := by rw [Int.neg_mul, Int.add_mul, Int.mul_left_comm]; omega
    by_cases h : 2 * r ≤ u
    · have : (u - 2 * v) / (2 * u) = -q := ediv_of (r := u - 2 * r) (by rw [m2]; omega) (by omega) (by omega)
      have h1 : ¬ u < 2 * r := by omega
      simp [this, h1]
    · have : (u - 2 * v) / (2 * u) = -(q + 1) := ediv_of (r := 3 * u - 2 * r) (by rw [m3]; omega) (by omega) (by omega)
      have h0 : ¬ r = 0 := by omega
      have h1 : u < 2 * r := by omega
      simp [this, h0, h1, m1]
/-! ### laws of the rounding -/
theorem rdl_mod {v u : Int} {w : Str} (hu : 0 < u) : rdl v u w % u = 0 := by
  have d := Int.mul_ediv_add_emod v u
  rw [Int.mul_comm] at d
  unfold rdl
  have e1 : v - v % u = v / u * u := by omega
  rw [e1]
  split
  · simp
  · split
    · rw [show v / u * u + u = (v / u + 1) * u by rw [Int.add_mul]; omega]; simp
    · simp
theorem rdl_id {v u : Int} {w : Str} (hu : 0 < u) (h : v % u = 0) : rdl v u w = v := by
  unfold rdl; simp [h]
theorem rdl_add {v u s : Int} {w : Str} (hu : 0 < u) : rdl (v + s * u) u w = rdl v u w + s * u := by
  unfold rdl
  have : (v + s * u) % u = v % u := by simp
  rw [this]
  split
  · omega
  · split <;> omega
def turned (w : Str) : Str := if w = "down" then "up" else if w = "up" then "down" else if w = "half up" then "half down" else "half up"
theorem rdl_neg {v u : Int} {w : Str} (hu : 0 < u) (hw : isWay w = true) : rdl (-v) u (turned w) = - rdl v u w := by
  have r0 := Int.emod_nonneg v (show u ≠ 0 by omega)
  have r1 := Int.emod_lt_of_pos v hu
  unfold rdl turned
  have e : (-v) % u = if v % u = 0 then 0 else u - v % u := by
    have d := Int.mul_ediv_add_emod v u
    rw [Int.mul_comm] at d
    split
    · rename_i h
      have : -v = -(v / u) * u := by rw [Int.neg_mul]; omega
      rw [this]; simp
    · have : -v = (u - v % u) + (-(v / u) - 1) * u := by rw [Int.sub_mul, Int.neg_mul]; omega
      rw [this, Int.add_mul_emod_self_right]
      exact Int.emod_eq_of_lt (by omega) (by omega)
  rw [e]
  generalize v % u = r at *
  by_cases h : r = 0
  · simp [h]
  have h' : ¬ u - r = 0 := by omega
  rcases isWay_cases hw with rfl | rfl | rfl | rfl
  · simp [h, h']; omega
  · simp [h, h']; omega
  · simp only [h, h', if_false]
    simp
    split <;> split <;> omega
  · simp only [h, h', if_false]
    simp
    split <;> split <;> omega
end U

set_option linter.all false
set_option maxRecDepth 100000
set_option exponentiation.threshold 5000
namespace U
open PySem MP
def simp1 : MV → Bool
  | .non => true
  | .bl _ => true
  | .int _ => true
  | .str _ => true
  | .obj _ => true
  | _ => false
def simp2 : MV → Bool
  | .tup xs => xs.all simp1
  | x => simp1 x
theorem eqm_rfl1 {h n x} (s : simp1 x = true) : eqm h (n + 1) x x = some true := by
  cases x <;> first | (cases s; done) | simp [eqm, eqFlat]
theorem eqAll_rfl {h n} : ∀ {xs : List MV}, xs.all simp1 = true → eqAll (eqm h (n + 1)) xs xs = some true
  | [], _ => rfl
  | x :: xs, s => by
    simp only [List.all_cons, Bool.and_eq_true] at s
    simp [eqAll, eqm_rfl1 s.1, eqAll_rfl s.2]
theorem eqm_rfl2 {h n x} (s : simp2 x = true) : eqm h (n + 2) x x = some true := by
  cases x with
  | tup xs => rw [eqm]; simp [eqAll_rfl (n := n) (show xs.all simp1 = true from s)]
  | _ => exact eqm_rfl1 s
theorem told_value {k v u w h} (tv : tyOk h v) (tu : tyOk h u) (tw : tyOk h w) (fu : ∀ i, u = .int i → fit i) (fv : ∀ i, v = .int i → fit i) (q : wholeB v = false) :
    callK T (k + 4) 209 [v, u, w] h = .ok (.obj (h.length + 1)) (h ++ [.lst [.str "none"], .lst [.str "number", v]]) := by
  rw [ck209]
  simp [b209, rounded (tyOk_app tv) (tyOk_app tu) (tyOk_app tw) fu fv, q, handle, hdV]
theorem told_unit {k v u w h} (tv : tyOk h v) (tu : tyOk h u) (tw : tyOk h w) (fu : ∀ i, u = .int i → fit i) (fv : ∀ i, v = .int i → fit i) (q : wholeB v = true) (q2 : leastB 1 u = false) :
    callK T (k + 4) 209 [v, u, w] h = .ok (.obj (h.length + 1)) (h ++ [.lst [.str "none"], .lst [.str "number", u]]) := by
  rw [ck209]
  simp [b209, rounded (tyOk_app tv) (tyOk_app tu) (tyOk_app tw) fu fv, q, q2, handle, hdV]
theorem told_way {k v u w h} (tv : tyOk h v) (tu : tyOk h u) (tw : tyOk h w) (fu : ∀ i, u = .int i → fit i) (fv : ∀ i, v = .int i → fit i) (q : wholeB v = true) (q2 : leastB 1 u = true) (q3 : wayB w = false) :
    callK T (k + 4) 209 [v, u, w] h = .ok (.obj (h.length + 1)) (h ++ [.lst [.str "none"], .lst [.str "way", w]]) := by
  rw [ck209]
  have e : callK T (k + 3) 13 [v, u, w] (h ++ [.lst [.str "none"]]) = .ex 2 w (h ++ [.lst [.str "none"]]) := by
    rw [rounded (tyOk_app tv) (tyOk_app tu) (tyOk_app tw) fu fv, q, q2]
    simp only [if_true]
    cases w with
    | str s =>
      have : isWay s = false := q3
      cases v <;> cases u <;> simp [this]
    | _ => cases v <;> cases u <;> rfl
  simp [b209, e, handle, hdV]
theorem fit_non {x : MV} (q : wholeB x = false) : ∀ i, x = .int i → fit i := fun i e => by subst e; cases q
theorem refused1 {k h v u x w} (tv : tyOk h v) (tu : tyOk h u) (tx : tyOk h x) (tw : tyOk h w) (fu : ∀ i, u = .int i → fit i) (fv : ∀ i, v = .int i → fit i) (q : wholeB x = false) (sx : simp2 x = true) (wv : wholeB v = true) :
    ∃ t, exSs (CK (k + 4)) (.cons (.ifs (.or (.cmp .ne (.call 209 [.var 2, .kon (.int 0), .var 3]) (.list [.kon (.str "number"), .var 2])) (.one (.cmp .ne (.call 209 [.var 2, .var 1, .var 3]) (.list [.kon (.str "number"), .var 2])))) (.cons (.ret (.kon (.bl false))) .nil) (.nil))
    (.cons (.ifs (.cmp .ne (.call 209 [.var 0, .var 2, .var 3]) (.list [.kon (.str "number"), .var 2])) (.cons (.ret (.kon (.bl false))) .nil) (.nil)) .nil)) [some v, some u, some x, some w] h = .nx [some v, some u, some x, some w] (h ++ t) := by
  have f0 : ∀ i, MV.int 0 = .int i → fit i := fun i e => by cases e; unfold fit; decide +kernel
  have T1 := told_value (k := k) (h := h) tx (tyOk_int (i := 0)) tw f0 (fit_non q) q
  have T2 : ∀ t, _ := fun t => told_value (k := k) (h := h ++ t) (tyOk_app tx) (tyOk_app tu) (tyOk_app tw) fu (fit_non q) q
  have l : leastB 1 x = false := by cases x <;> first | rfl | cases q
  have T3 : ∀ t, _ := fun t => told_unit (k := k) (h := h ++ t) (tyOk_app tv) (tyOk_app tx) (tyOk_app tw) (fit_non q) fv wv l
  have e : ∀ h', eqm h' 39 x x = some true := fun h' => eqm_rfl2 sx
  simp [T1, T2, T3, eqOb, e, Nat.add_assoc]
end U

set_option linter.all false
set_option maxRecDepth 100000
set_option exponentiation.threshold 5000
namespace U
open PySem MP
theorem fit_small {i : Int} (h : i.natAbs < 2 ^ 200) : fit i := by
  unfold fit
  exact Nat.lt_trans h (by decide +kernel)
theorem refused2 {k h v u x} (tv : tyOk h v) (tu : tyOk h u) (fu : ∀ i, u = .int i → fit i) (fv : ∀ i, v = .int i → fit i) (wv : wholeB v = true) (i : Int) (hx : x = .int i) (l : i < 1) (fi : i.natAbs < 2 ^ 200) :
    ∃ t, exSs (CK (k + 4)) (.cons (.ifs (.or (.cmp .ne (.call 209 [.var 0, .var 2, .kon (.str "down")]) (.list [.kon (.str "number"), .var 2])) (.one (.cmp .ne (.call 209 [.var 0, .var 2, .kon (.non)]) (.list [.kon (.str "number"), .var 2])))) (.cons (.ret (.kon (.bl false))) .nil) (.nil)) .nil) [some v, some u, some x, w] h = .nx [some v, some u, some x, w] (h ++ t) := by
  subst hx
  have l1 : leastB 1 (.int i) = false := by simp [leastB]; omega
  have ff : ∀ j, MV.int i = .int j → fit j := fun j e => by cases e; exact fit_small fi
  have T1 := told_unit (k := k) (h := h) tv (tyOk_int (i := i)) (tyOk_str (s := "down")) ff fv wv l1
  have T2 : ∀ t, _ := fun t => told_unit (k := k) (h := h ++ t) (tyOk_app tv) (tyOk_int (i := i)) tyOk_non ff fv wv l1
  simp [T1, T2, eqOb, Nat.add_assoc]
theorem refused3 {k h v u x} (tv : tyOk h v) (tu : tyOk h u) (tx : tyOk h x) (fu : ∀ i, u = .int i → fit i) (fv : ∀ i, v = .int i → fit i) (wv : wholeB v = true) (lu : leastB 1 u = true) (sx : simp2 x = true) (wx : wayB x = false) :
    ∃ t, evE (CK (k + 4)) (.cmp .ne (.call 209 [.var 0, .var 1, .var 3]) (.list [.kon (.str "way"), .var 3])) [some v, some u, w, some x] h = .ok (.bl false) (h ++ t) := by
  have T1 := told_way (k := k) (h := h) tv tu tx fu fv wv lu wx
  have e : ∀ h', eqm h' 39 x x = some true := fun h' => eqm_rfl2 sx
  simp [T1, e, eqOb, Nat.add_assoc]
theorem lcL_none {g : Option (Nat × MO)} {tg : Tg} {c el : EE} {e : En} (I : List MV → Hm → Prop) {xs : List MV} {h : Hm} (h0 : I xs h) (hg : ∀ xs h, I xs h → gOk g h = true)
    (hs : ∀ x xs h, I (x :: xs) h → ∃ e1 h1, setT tg x e = some e1 ∧ c e1 h = .ok (.bl false) h1 ∧ I xs h1) : ∃ h', lcL g tg c el e xs [] h = .ok [] h' ∧ I [] h' := by
  induction xs generalizing h with
  | nil => exact ⟨h, lcL_nil (hg _ _ h0), h0⟩
  | cons x xs ih =>
    obtain ⟨e1, h1, a, b, i⟩ := hs x xs h h0
    obtain ⟨h', p, q⟩ := ih i
    refine ⟨h', ?_, q⟩
    rw [lcL, if_pos (hg _ _ h0), a]
    simp only [b, noex_ok, R.bind_ok]
    exact p
theorem refused {k v u h} (tv : tyOk h v) (tu : tyOk h u) (fu : ∀ i, u = .int i → fit i) (fv : ∀ i, v = .int i → fit i) (wv : wholeB v = true) (lu : leastB 1 u = true) :
    (callK T (k + 5) 211 [v, u] h).wp (fun r h' => r = .bl true ∧ ∃ t, h' = h ++ t) (fun _ _ _ => False) := by
  rw [ck211]
  have p39 : powB 10 39 = true := by decide +kernel
  simp [b211, Nat.add_assoc]
  obtain ⟨I, hI⟩ : ∃ I : List MV → En → Hm → Prop, I = (fun xs e h2 => ∃ t a b, h2 = h ++ (MO.lst [.int 1] :: .dct false [] :: .lst [MV.non, .bl true, .str "1", .obj h.length, .tup [.int 1], .obj (h.length + 1), .bl true] :: t) ∧ e = [some v, some u, a, b] ∧
    ∀ x ∈ xs, wholeB x = false ∧ simp2 x = true ∧ ∀ t, tyOk (h ++ MO.lst [.int 1] :: .dct false [] :: t) x) := ⟨_, rfl⟩
  refine go_for I ?_ ?_ ?_ ?_
  · rw [hI]
    refine ⟨[], none, none, by simp, rfl, ?_⟩
    simp [wholeB, simp2, simp1, tyOk, tyN]
  · intro xs e h2 q
    rw [hI] at q
    obtain ⟨t, a, b, rfl, rfl, hx⟩ := q
    simp
  · intro x xs e h2 q
    rw [hI] at q
    obtain ⟨t, a, b, rfl, rfl, hx⟩ := q
    obtain ⟨q, sx, tx⟩ := hx x (by simp)
    refine ⟨_, rfl, ?_⟩
    simp
    refine go_for (fun ws e h2 => ∃ t2 b, h2 = h ++ (MO.lst [.int 1] :: .dct false [] :: .lst [MV.non, .bl true, .str "1", .obj h.length, .tup [.int 1], .obj (h.length + 1), .bl true] :: (t ++ .lst [MV.str "down", .str "no", .non] :: t2)) ∧ e = [some v, some u, some x, b] ∧
      ∀ w ∈ ws, w ∈ [MV.str "down", .str "no", .non]) ?_ ?_ ?_ ?_
    · exact ⟨[], b, rfl, rfl, fun _ hw => hw⟩
    · rintro ws e h2 ⟨t2, b, rfl, rfl, hw⟩
      simp
    · rintro w ws e h2 ⟨t2, b, rfl, rfl, hw⟩
      refine ⟨_, rfl, ?_⟩
      have tw : ∀ h, tyOk h w := fun h => by
        have := hw w (by simp)
        simp at this
        rcases this with rfl | rfl | rfl <;> rfl
      obtain ⟨t3, e3⟩ := refused1 (k := k) (h := h ++ (MO.lst [.int 1] :: .dct false [] :: .lst [MV.non, .bl true, .str "1", .obj h.length, .tup [.int 1], .obj (h.length + 1), .bl true] :: (t ++ .lst [MV.str "down", .str "no", .non] :: t2)))
        (tyOk_app tv) (tyOk_app tu) (tx _) (tw _) fu fv q sx wv
      show (exSs (CK (k + 4)) _ [some v, some u, some x, some w] _).go _
      rw [e3]
      exact ⟨t2 ++ t3, some w, by simp, rfl, fun y hy => hw y (by simp [hy])⟩
    · rintro e h2 ⟨t2, b, rfl, rfl, _⟩
      show I _ _ _
      rw [hI]
      exact ⟨t ++ .lst [MV.str "down", .str "no", .non] :: t2, some x, b, rfl, rfl, fun y hy => hx y (by simp [hy])⟩
  · intro e h2 q
    rw [hI] at q
    obtain ⟨t, a, b, rfl, rfl, hx⟩ := q
    clear hI
    generalize (MO.lst [.int 1] :: .dct false [] :: .lst [MV.non, .bl true, .str "1", .obj h.length, .tup [.int 1], .obj (h.length + 1), .bl true] :: t) = t0
    simp [p39]
    obtain ⟨I, hI⟩ : ∃ I : List MV → En → Hm → Prop, I = (fun xs e h2 => ∃ t a b, h2 = h ++ (t0 ++ MO.lst [MV.int 0, .int (-1), .int (-1000000000000000000000000000000000000000)] :: t) ∧ e = [some v, some u, a, b] ∧
      ∀ x ∈ xs, ∃ i : Int, x = .int i ∧ i < 1 ∧ i.natAbs < 2 ^ 200) := ⟨_, rfl⟩
    refine go_for I ?_ ?_ ?_ ?_
    · rw [hI]
      refine ⟨[], a, b, rfl, rfl, ?_⟩
      simp
    · intro xs e h2 q
      rw [hI] at q
      obtain ⟨t, a, b, rfl, rfl, hx⟩ := q
      simp
    · intro x xs e h2 q
      rw [hI] at q
      obtain ⟨t, a, b, rfl, rfl, hx⟩ := q
      obtain ⟨i, e1, l, f⟩ := hx x (by simp)
      refine ⟨_, rfl, ?_⟩
      obtain ⟨t3, e3⟩ := refused2 (k := k) (w := b) (h := h ++ (t0 ++ MO.lst [MV.int 0, .int (-1), .int (-1000000000000000000000000000000000000000)] :: t)) (tyOk_app tv) (tyOk_app tu) fu fv wv i e1 l f
      show (exSs (CK (k + 4)) _ [some v, some u, some x, b] _).go _
      rw [e3]
      show I _ _ _
      rw [hI]
      exact ⟨t ++ t3, some x, b, by simp, rfl, fun y hy => hx y (by simp [hy])⟩
    · intro e h2 q
      rw [hI] at q
      obtain ⟨t, a, b, rfl, rfl, hx⟩ := q
      obtain ⟨h5, e5⟩ : ∃ h5, h5 = h ++ (t0 ++ MO.lst [MV.int 0, .int (-1), .int (-1000000000000000000000000000000000000000)] :: t) := ⟨_, rfl⟩
      rw [← e5]
      have tu5 : ∀ t, tyOk (h5 ++ t) u := fun t => by rw [e5]; exact tyOk_app (tyOk_app tu)
      have tv5 : ∀ t, tyOk (h5 ++ t) v := fun t => by rw [e5]; exact tyOk_app (tyOk_app tv)
      suffices g : ∀ r h', (r = MV.bl true ∧ ∃ t, h' = h5 ++ t) → (r = MV.bl true ∧ ∃ t, h' = h ++ t) by
        simp [wipeE, Nat.add_assoc]
        obtain ⟨h', e1, t', rfl, _⟩ := lcL_none (g := some (h5.length + 4, .lst [MV.non, .str "", .str "Down", .str "half", .str "half-up", .str "halfup", .str "half  up", .str " down", .str "down ", .int 0, .bl true, .obj h5.length, .tup [.str "up"], .obj (h5.length + 1), .str "near", .str "DOWN", .str "up\n"])) (tg := .nm 3)
          (c := evE (CK (k + 4)) (.cmp .ne (.call 209 [.var 0, .var 1, .var 3]) (.list [.kon (.str "way"), .var 3]))) (el := evE (CK (k + 4)) (.var 3)) (e := [some v, some u, some (.obj (h5.length + 2)), none])
          (xs := [MV.non, .str "", .str "Down", .str "half", .str "half-up", .str "halfup", .str "half  up", .str " down", .str "down ", .int 0, .bl true, .obj h5.length, .tup [.str "up"], .obj (h5.length + 1), .str "near", .str "DOWN", .str "up\n"])
          (h := h5 ++ [MO.lst [.str "down"], .dct false [], .lst [MV.non, .str "", .str "Down", .str "half", .str "half-up", .str "halfup", .str "half  up", .str " down", .str "down ", .int 0, .bl true, .obj h5.length, .tup [.str "up"], .obj (h5.length + 1)],
            .lst [.str "near", .str "DOWN", .str "up\n"], .lst [MV.non, .str "", .str "Down", .str "half", .str "half-up", .str "halfup", .str "half  up", .str " down", .str "down ", .int 0, .bl true, .obj h5.length, .tup [.str "up"], .obj (h5.length + 1), .str "near", .str "DOWN", .str "up\n"]])
          (fun xs h2 => ∃ t, h2 = h5 ++ (MO.lst [.str "down"] :: .dct false [] :: .lst [MV.non, .str "", .str "Down", .str "half", .str "half-up", .str "halfup", .str "half  up", .str " down", .str "down ", .int 0, .bl true, .obj h5.length, .tup [.str "up"], .obj (h5.length + 1)] ::
            .lst [.str "near", .str "DOWN", .str "up\n"] :: .lst [MV.non, .str "", .str "Down", .str "half", .str "half-up", .str "halfup", .str "half  up", .str " down", .str "down ", .int 0, .bl true, .obj h5.length, .tup [.str "up"], .obj (h5.length + 1), .str "near", .str "DOWN", .str "up\n"] :: t) ∧
            ∀ x ∈ xs, wayB x = false ∧ simp2 x = true ∧ ∀ t, tyOk (h5 ++ MO.lst [.str "down"] :: .dct false [] :: t) x)
          ⟨[], rfl, by simp [wayB, simp2, simp1, tyOk, tyN, isWay, ways]⟩ (by rintro xs h2 ⟨t, rfl, _⟩; simp)
          (by
            rintro x xs h2 ⟨t, rfl, hx⟩
            obtain ⟨wx, sx, tx⟩ := hx x (by simp)
            obtain ⟨t3, e3⟩ := refused3 (k := k) (w := some (.obj (h5.length + 2))) (x := x) (tv5 _) (tu5 _) (tx _) fu fv wv lu sx wx
            exact ⟨_, _, rfl, e3, t ++ t3, by simp, fun y hy => hx y (by simp [hy])⟩)
        rw [show evC (CK (k + 4)) (some (ME.cmp COp.ne (ME.call 209 [ME.var 0, ME.var 1, ME.var 3]) (ME.list [ME.kon (Kc.str (Str.ofString "way")), ME.var 3]))) = evE (CK (k + 4)) (.cmp .ne (.call 209 [.var 0, .var 1, .var 3]) (.list [.kon (.str "way"), .var 3])) from rfl, e1]
        simp [eqOb]
        subst e5
        exact ⟨_, List.append_assoc _ _ _⟩
      rintro r h' ⟨e, t', rfl⟩
      exact ⟨e, _, by rw [e5, List.append_assoc]⟩
end U

set_option linter.all false
set_option maxRecDepth 100000
set_option exponentiation.threshold 5000
namespace U
open PySem MP
/-- one way of the law's rounding -/
theorem right_turn {k h} {v u st : Int} {d : Nat} {w : Str} {a b : Option MV} (hu : 0 < u) (u1 : u < 2 ^ 200) (v1 : v.natAbs < 2 ^ 300) (s1 : st.natAbs < 2 ^ 10) (hw : isWay w = true)
    (hd : h[d]? = some (.dct false [(.one (.inr "down"), .str "up"), (.one (.inr "up"), .str "down"), (.one (.inr "half up"), .str "half down"), (.one (.inr "half down"), .str "half up")])) :
    ∃ a' b', exSs (CK (k + 3)) (.cons (.asg (.nm 5) (.call 208 [.var 0, .var 1, .var 4]))
    (.cons (.asg (.nm 6) (.call 13 [.var 0, .var 1, .var 4]))
    (.cons (.ifs (.or (.cmp .ne (.var 6) (.var 5)) (.or (.isi (.var 6) .bool) (.one (.cmp .ne (.bin .mod (.blt .int [.var 6]) (.var 1)) (.kon (.int 0)))))) (.cons (.ret (.kon (.bl false))) .nil) (.nil))
    (.cons (.ifs (.cmp .ne (.call 13 [.bin .add (.var 0) (.bin .mul (.var 2) (.var 1)), .var 1, .var 4]) (.bin .add (.var 5) (.bin .mul (.var 2) (.var 1)))) (.cons (.ret (.kon (.bl false))) .nil) (.nil))
    (.cons (.ifs (.or (.cmp .ne (.call 13 [.bin .sub (.kon (.int 0)) (.var 0), .var 1, .sub (.var 3) (.var 4)]) (.bin .sub (.kon (.int 0)) (.var 5))) (.one (.cmp .ne (.call 13 [.var 5, .var 1, .var 4]) (.var 5)))) (.cons (.ret (.kon (.bl false))) .nil) (.nil)) .nil)))))
      [some (.int v), some (.int u), some (.int st), some (.obj d), some (.str w), a, b] h = .nx [some (.int v), some (.int u), some (.int st), some (.obj d), some (.str w), a', b'] h := by
  have l : leastB 1 (.int u) = true := by simp [leastB]; omega
  have fu : fit u := by unfold fit; exact Nat.lt_trans (show u.natAbs < 2 ^ 200 by omega) (by decide +kernel)
  have ff : ∀ i : Int, i.natAbs < 2 ^ 400 → fit i := fun i hi => by unfold fit; exact Nat.lt_trans hi (by decide +kernel)
  have bd : (rdl v u w).natAbs < 2 ^ 350 := by
    have r0 := Int.emod_nonneg v (show u ≠ 0 by omega)
    have r1 := Int.emod_lt_of_pos v hu
    unfold rdl
    split
    · omega
    · split <;> omega
  have bm : (st * u).natAbs < 2 ^ 210 := by
    rw [Int.natAbs_mul]
    have : st.natAbs * u.natAbs < 2 ^ 10 * 2 ^ 200 := Nat.mul_lt_mul'' s1 (by omega)
    rwa [← Nat.pow_add] at this
  have m1 : mulB st u = true := mulB_of 10 200 s1 (by omega)
  have R : ∀ (i : Int) (z : Str), i.natAbs < 2 ^ 400 → isWay z = true → callK T (k + 3) 13 [.int i, .int u, .str z] h = .ok (.int (rdl i u z)) h := fun i z hi hz => by
    rw [rounded tyOk_int tyOk_int tyOk_str (fun j e => by cases e; exact fu) (fun j e => by cases e; exact ff i hi), l]
    simp [hz, rdn_rdl hu hz]
  have R1 := R v w (by omega) hw
  have R2 := R (v + st * u) w (by omega) hw
  have R3 : callK T (k + 3) 13 [.int (-v), .int u, .str (turned w)] h = .ok (.int (- rdl v u w)) h := by
    rw [R (-v) (turned w) (by omega) (by unfold turned; split <;> (try rfl) <;> split <;> (try rfl) <;> split <;> rfl), rdl_neg hu hw]
  have R4 := R (rdl v u w) w (by omega) hw
  rw [rdl_add hu] at R2
  rw [rdl_id hu (rdl_mod hu)] at R4
  have q : dget [(MK.one (.inr "down"), MV.str "up"), (.one (.inr "up"), .str "down"), (.one (.inr "half up"), .str "half down"), (.one (.inr "half down"), .str "half up")] (.one (.inr w)) = some (.str (turned w)) := by
    rcases isWay_cases hw with rfl | rfl | rfl | rfl <;> simp [dget, turned]
  simp [law_rounded hu fu, R1, R2, R3, R4, m1, isi_bool, tyOk_int, hu, rdl_mod hu, hd, keyOf, kyOf, q]
theorem right {k h} {v u st : Int} (hu : 0 < u) (u1 : u < 2 ^ 200) (v1 : v.natAbs < 2 ^ 300) (s1 : st.natAbs < 2 ^ 10) :
    (callK T (k + 4) 210 [.int v, .int u, .int st] h).wp (fun r h' => r = .bl true ∧ ∃ t, h' = h ++ t) (fun _ _ _ => False) := by
  rw [ck210]
  simp [b210, keyOf, kyOf, dput]
  obtain ⟨I, hI⟩ : ∃ I : List MV → En → Hm → Prop, I = (fun xs e h2 => h2 = h ++ [MO.dct false [(.one (.inr "down"), .str "up"), (.one (.inr "up"), .str "down"), (.one (.inr "half up"), .str "half down"), (.one (.inr "half down"), .str "half up")], .lst [.str "down", .str "up", .str "half up", .str "half down"]] ∧
    (∃ w a b, e = [some (.int v), some (.int u), some (.int st), some (.obj h.length), w, a, b]) ∧ ∀ x ∈ xs, ∃ w, x = .str w ∧ isWay w = true) := ⟨_, rfl⟩
  refine go_for I ?_ ?_ ?_ ?_
  · rw [hI]
    refine ⟨by simp, ⟨_, _, _, rfl⟩, ?_⟩
    simp [isWay, ways]
  · intro xs e h2 q
    rw [hI] at q
    obtain ⟨rfl, _⟩ := q
    simp
  · intro x xs e h2 q
    rw [hI] at q
    obtain ⟨rfl, ⟨w, a, b, rfl⟩, hx⟩ := q
    obtain ⟨w, rfl, hw⟩ := hx x (by simp)
    refine ⟨_, rfl, ?_⟩
    obtain ⟨a', b', e3⟩ := right_turn (k := k) (d := h.length) (a := a) (b := b) (st := st) (v := v) (h := h ++ [MO.dct false [(.one (.inr "down"), .str "up"), (.one (.inr "up"), .str "down"), (.one (.inr "half up"), .str "half down"), (.one (.inr "half down"), .str "half up")], .lst [.str "down", .str "up", .str "half up", .str "half down"]]) hu u1 v1 s1 hw (by simp)
    show (exSs (CK (k + 3)) _ [some (.int v), some (.int u), some (.int st), some (.obj h.length), some (.str w), a, b] _).go _
    rw [e3]
    show I _ _ _
    rw [hI]
    exact ⟨rfl, ⟨_, _, _, rfl⟩, fun y hy => hx y (by simp [hy])⟩
  · intro e h2 q
    rw [hI] at q
    obtain ⟨rfl, ⟨w, a, b, rfl⟩, hx⟩ := q
    simp
end U

set_option linter.all false
set_option maxRecDepth 100000
set_option exponentiation.threshold 5000
namespace U
open PySem MP
theorem pick4 {a b c d : Int} {p : Int} (h0 : 0 ≤ p) (h1 : p < 4) : ∃ m, atI [MV.int a, .int b, .int c, .int d] p = some (.int m) ∧ (m = a ∨ m = b ∨ m = c ∨ m = d) := by
  have : p = 0 ∨ p = 1 ∨ p = 2 ∨ p = 3 := by omega
  rcases this with rfl | rfl | rfl | rfl
  · exact ⟨a, rfl, .inl rfl⟩
  · exact ⟨b, rfl, .inr (.inl rfl)⟩
  · exact ⟨c, rfl, .inr (.inr (.inl rfl))⟩
  · exact ⟨d, rfl, .inr (.inr (.inr rfl))⟩
theorem pick3 {a b c : Int} {p : Int} (h0 : 0 ≤ p) (h1 : p < 3) : ∃ m, atI [MV.int a, .int b, .int c] p = some (.int m) ∧ (m = a ∨ m = b ∨ m = c) := by
  have : p = 0 ∨ p = 1 ∨ p = 2 := by omega
  rcases this with rfl | rfl | rfl
  · exact ⟨a, rfl, .inl rfl⟩
  · exact ⟨b, rfl, .inr (.inl rfl)⟩
  · exact ⟨c, rfl, .inr (.inr rfl)⟩
def lawBody : MSs := match b212 with
  | .cons (.for_ _ _ b) _ => b
  | _ => .nil
theorem turn {k h} {ns : List Int} {i : Int} {b c d f : Option MV} (ha : h[0]? = some (.ro (ns.map MV.int))) (i0 : 0 ≤ i) (i1 : i < 1000) :
    (exSs (CK (k + 5)) lawBody [some (.obj 0), some (.int i), b, c, d, f] h).go ⟨fun e h' => (∃ a b c d f, e = [some (.obj 0), a, b, c, d, f]) ∧ ∃ t, h' = h ++ t, fun _ _ => False, fun _ _ => False, fun _ _ => False, fun _ _ _ _ => False⟩ := by
  obtain ⟨p, p0, p1, ep⟩ := pump (k := k + 4) ha i0 i1
  have C : ∀ (p m : Int) (t : Hm), 0 < m → m < 2 ^ 1000 → callK T (k + 5) 201 [.obj h.length, .int m] (h ++ .lst [.int p] :: t) = .ok (.int (p % m)) (h ++ .lst [.int (p / m)] :: t) := fun p m t h0 h1 => by
    rw [cup (k := k + 4) (p := p) (by simp) h0 h1, set_end]; rfl
  have C4 := fun p t => C p 4 t (by decide) (by decide +kernel)
  have C3 := fun p t => C p 3 t (by decide) (by decide +kernel)
  have C2 := fun p t => C p 2 t (by decide) (by decide +kernel)
  have C9 := fun p t => C p 9 t (by decide) (by decide +kernel)
  obtain ⟨m1, a1, l1⟩ := pick4 (a := 2) (b := 12) (c := 1000) (d := 10 ^ 19) (Int.emod_nonneg p (show (4 : Int) ≠ 0 by decide)) (Int.emod_lt_of_pos p (by decide))
  have l1' : 0 < m1 ∧ m1 ≤ 10 ^ 19 := by omega
  have Cm1 := fun p t => C p m1 t l1'.1 (Int.lt_of_le_of_lt l1'.2 (by decide +kernel))
  have u0 := Int.emod_nonneg (p / 4) (show m1 ≠ 0 by omega)
  have u1 := Int.emod_lt_of_pos (p / 4) l1'.1
  generalize hu : p / 4 % m1 = um at u0 u1
  generalize hp1 : p / 4 / m1 = p1 
  obtain ⟨m2, a2, l2⟩ := pick3 (a := 3) (b := 100) (c := 10 ^ 18) (Int.emod_nonneg p1 (show (3 : Int) ≠ 0 by decide)) (Int.emod_lt_of_pos p1 (by decide))
  have l2' : 0 < m2 ∧ m2 ≤ 10 ^ 18 := by omega
  have Cm2 := fun p t => C p m2 t l2'.1 (Int.lt_of_le_of_lt l2'.2 (by decide +kernel))
  have v0 := Int.emod_nonneg (p1 / 3) (show m2 ≠ 0 by omega)
  have v1 := Int.emod_lt_of_pos (p1 / 3) l2'.1
  generalize hm : p1 / 3 % m2 = mm at v0 v1
  generalize hp2 : p1 / 3 / m2 = p2
  obtain ⟨z, a3, l3⟩ := pick4 (a := 0) (b := 0) (c := (1 + um) / 2) (d := (1 + um + 1) / 2) (Int.emod_nonneg p2 (show (4 : Int) ≠ 0 by decide)) (Int.emod_lt_of_pos p2 (by decide))
  have l3' : 0 ≤ z ∧ z ≤ 1 + um := by omega
  generalize hp3 : p2 / 4 = p3
  have w0 := Int.emod_nonneg p3 (show (3 : Int) ≠ 0 by decide)
  have w1 := Int.emod_lt_of_pos p3 (show (0 : Int) < 3 by decide)
  generalize hw : p3 % 3 = ww at w0 w1
  generalize hp4 : p3 / 3 = p4
  have mb : ((mm - 1) * (1 + um)).natAbs < 2 ^ 150 := by
    rw [Int.natAbs_mul]
    have : (mm - 1).natAbs * (1 + um).natAbs < 2 ^ 70 * 2 ^ 80 := Nat.mul_lt_mul'' (by omega) (by omega)
    rwa [← Nat.pow_add] at this
  have M : mulB (mm - 1) (1 + um) = true := mulB_of 70 80 (by omega) (by omega)
  have D2 : divB 2 = true := by decide +kernel
  have q1 : powB 10 19 = true := by decide +kernel
  have q2 : powB 10 18 = true := by decide +kernel
  simp at a1 a2
  generalize hs : p4 / 2 = p5
  have s0 := Int.emod_nonneg p5 (show (9 : Int) ≠ 0 by decide)
  have s1 := Int.emod_lt_of_pos p5 (show (0 : Int) < 9 by decide)
  generalize hst : p5 % 9 = st at s0 s1
  have fu : fit (1 + um) := by unfold fit; exact Nat.lt_trans (show (1 + um).natAbs < 2 ^ 200 by omega) (by decide +kernel)
  have lu : leastB 1 (.int (1 + um)) = true := by simp [leastB]; omega
  have tail : ∀ (V : Int), V.natAbs < 2 ^ 200 → ∀ (h2 : Hm) (pm : Int) (tt : Hm), h2 = h ++ .lst [.int p5] :: tt → ∀ bb ee,
      (exSs (CK (k + 5)) (.cons (.ifs (.or (.not (.call 210 [.var 5, .var 3, .bin .sub (.call 201 [.var 2, .kon (.int 9)]) (.kon (.int 4))])) (.one (.not (.call 211 [.var 5, .var 3])))) (.cons (.ret (.kon (.bl false))) .nil) (.nil)) .nil)
        [some (.obj 0), bb, some (.obj h.length), some (.int (1 + um)), ee, some (.int V)] h2).go ⟨fun e h' => (∃ a b c d f, e = [some (.obj 0), a, b, c, d, f]) ∧ ∃ t, h' = h ++ t, fun _ _ => False, fun _ _ => False, fun _ _ => False, fun _ _ _ _ => False⟩ := by
    rintro V hV h2 pm tt rfl bb ee
    have fv : fit V := by unfold fit; exact Nat.lt_trans hV (by decide +kernel)
    obtain ⟨r, h3, e3, rfl, t3, rfl⟩ := ok_of_wp (right (k := k + 1) (h := h ++ .lst [.int (p5 / 9)] :: tt) (v := V) (u := 1 + um) (st := st - 4) (by omega) (by omega) (Nat.lt_trans hV (by decide +kernel)) (by omega))
    obtain ⟨r, h4, e4, rfl, t4, rfl⟩ := ok_of_wp (refused (k := k) (h := h ++ .lst [.int (p5 / 9)] :: tt ++ t3) (v := .int V) (u := .int (1 + um)) tyOk_int tyOk_int (fun j e => by cases e; exact fu) (fun j e => by cases e; exact fv) rfl lu)
    rw [List.append_assoc] at e3 e4
    simp at e3 e4
    simp [C9, hst, e3, e4]
  unfold lawBody b212
  simp [ep, q1, q2, C4, C3, C2, a1, a2, a3, hu, hp1, hm, hp2, hp3, hw, hp4, hs, Cm1, Cm2, D2, M]
  have bV : ((mm - 1) * (1 + um) + z + ww - 1).natAbs < 2 ^ 200 := by
    refine Nat.lt_of_lt_of_le (show _ < 2 ^ 150 + 2 ^ 80 by omega) (by decide +kernel)
  by_cases hh : p4 % 2 = 1
  · simp only [hh, decide_true, kIf_t]
    simp only [exSs_cons, go_bind, exS_nm, evE_bin, evE_kon, Kc.v_int, R.bind_ok, kR_eq, evE_var, List.getElem?_cons_succ, List.getElem?_cons_zero, kOp_eq, bin_sub_int, R.sb_ok, kSet_eq, go_nx, kgo_eq, kSs_eq, exSs_nil, List.set_cons_succ, List.set_cons_zero]
    have t2 := fun tt => tail (0 - ((mm - 1) * (1 + um) + z + ww - 1)) (by omega) _ 0 tt rfl (some (.int i)) (some (.int (mm - 1)))
    simp only [exSs_cons, go_bind] at t2
    exact t2 _
  · simp only [hh, decide_false, kIf_f]
    simp only [exSs_nil, go_nx, kgo_eq, kSs_eq]
    exact tail _ bV _ 0 _ rfl _ _
theorem math (ns : List Int) (hl : ns.length ≤ 63) : ∃ h', callK T 8 212 [.obj 0] [.ro (ns.map MV.int)] = .ok (.bl true) h' := by
  suffices g : (callK T 8 212 [.obj 0] [.ro (ns.map MV.int)]).wp (fun r _ => r = .bl true) (fun _ _ _ => False) by
    obtain ⟨a, h, e, rfl⟩ := ok_of_wp g
    exact ⟨h, e⟩
  rw [ck212, b212]
  have lk : mBlt (CK 7) .len [.obj 0] [.ro (ns.map MV.int)] = .ok (.int ns.length) [.ro (ns.map MV.int)] := by rw [len_ro (xs := ns.map MV.int) rfl]; simp
  have r1 : ∀ n : Int, 0 ≤ n → n < 100 → mRange [.int n] [.ro (ns.map MV.int)] = .ok (rangeL 0 n.toNat 1, none) [.ro (ns.map MV.int)] := fun n h0 h1 => range1 (by omega) (by omega)
  have mn : ∀ a b : Int, mBlt (CK 7) .min [.int a, .int b] [.ro (ns.map MV.int)] = .ok (.int (if b < a then b else a)) [.ro (ns.map MV.int)] := fun a b => rfl
  have rr := r1 ((if (20 : Int) < (ns.length : Int) then (20 : Int) else (ns.length : Int)) + 5) (by split <;> omega) (by split <;> omega)
  have mem : ∀ x ∈ rangeL 0 ((if (20 : Int) < (ns.length : Int) then (20 : Int) else (ns.length : Int)) + 5).toNat 1, ∃ i : Int, x = .int i ∧ 0 ≤ i ∧ i < 1000 := fun x hx => by
    obtain ⟨i, e, a, b⟩ := range_mem hx
    refine ⟨i, e, a, ?_⟩
    split at b <;> omega
  have R : ∀ (v u w), 0 < u → u < 100 → v < 100 → -100 < v → isWay w = true → ∀ h, callK T 7 13 [.int v, .int u, .str w] h = .ok (.int (rdn v u w)) h := fun v u w h0 h1 h2 h3 hw h => by
    rw [rounded (k := 4) tyOk_int tyOk_int tyOk_str (fun j e => by cases e; exact fit_small (Nat.lt_trans (show u.natAbs < 2 ^ 10 by omega) (by decide +kernel))) (fun j e => by cases e; exact fit_small (Nat.lt_trans (show v.natAbs < 2 ^ 10 by omega) (by decide +kernel)))]
    have : leastB 1 (.int u) = true := by simp [leastB]; omega
    simp [this, hw]
  have R1 := R 7 4 "half up" (by decide) (by decide) (by decide) (by decide) (by decide +kernel)
  have R2 := R (-6) 4 "half up" (by decide) (by decide) (by decide) (by decide) (by decide +kernel)
  have R3 := R (-6) 4 "half down" (by decide) (by decide) (by decide) (by decide) (by decide +kernel)
  have v1 : rdn 7 4 "half up" = 8 := by decide +kernel
  have v2 : rdn (-6) 4 "half up" = -4 := by decide +kernel
  have v3 : rdn (-6) 4 "half down" = -8 := by decide +kernel
  rw [v1] at R1
  rw [v2] at R2
  rw [v3] at R3
  simp [lk, mn, rr]
  obtain ⟨I, hI⟩ : ∃ I : List MV → En → Hm → Prop, I = (fun xs e h => (∃ a b c d f, e = [some (.obj 0), a, b, c, d, f]) ∧ (∃ t, h = MO.ro (ns.map MV.int) :: t) ∧ ∀ x ∈ xs, ∃ i : Int, x = .int i ∧ 0 ≤ i ∧ i < 1000) := ⟨_, rfl⟩
  refine go_for I ?_ ?_ ?_ ?_
  · rw [hI]
    exact ⟨⟨_, _, _, _, _, rfl⟩, ⟨_, rfl⟩, mem⟩
  · intro xs e h q
    rfl
  · intro x xs e h q
    rw [hI] at q
    obtain ⟨⟨a, b, c, d, f, rfl⟩, ⟨t, rfl⟩, hx⟩ := q
    obtain ⟨i, rfl, i0, i1⟩ := hx x (by simp)
    refine ⟨_, rfl, ?_⟩
    have g := turn (k := 2) (h := MO.ro (ns.map MV.int) :: t) (ns := ns) (b := b) (c := c) (d := d) (f := f) rfl i0 i1
    refine go_mono g (fun e h q => ?_) (fun _ _ q => q.elim) (fun _ _ q => q.elim) (fun _ _ q => q.elim) (fun _ _ _ _ q => q.elim)
    obtain ⟨q1, t2, rfl⟩ := q
    show I _ _ _
    rw [hI]
    exact ⟨q1, ⟨_, rfl⟩, fun y hy => hx y (by simp [hy])⟩
  · intro e h q
    rw [hI] at q
    obtain ⟨⟨a, b, c, d, f, rfl⟩, _, _⟩ := q
    simp [R1, R2, R3]
end U

set_option Elab.async false
set_option linter.all false
set_option maxRecDepth 100000
set_option maxHeartbeats 4000000
namespace U
open PySem PySem.W L2 MP Sd
abbrev prog : Program := PySem.Challenge.pw_roundtotals_k02_numbers_rounded
def top (i : Nat) : Stmt := prog.main.body.getD i (.Pass ⟨0, 0, 0, 0⟩)
def fns : Nat → PySem.Str × Option PySem.Str
  | 0 => ("is_whole", none)
  | 4 => ("check_whole", none)
  | 5 => ("check_least", none)
  | 9 => ("is_way", none)
  | 10 => ("check_way", none)
  | 11 => ("rounded_by", none)
  | 13 => ("rounded", none)
  | 200 => ("_law_pump", none)
  | 201 => ("_law_cup", none)
  | 208 => ("_law_rounded", none)
  | 209 => ("_law_told", none)
  | 210 => ("_law_right", none)
  | 211 => ("_law_refused", none)
  | 212 => ("law", none)
  | _ => ("", none)
def fps : Nat → List PySem.Str
  | 0 => ["value"]
  | 4 => ["value"]
  | 5 => ["value", "least"]
  | 9 => ["value"]
  | 10 => ["value"]
  | 11 => ["value", "unit", "way"]
  | 13 => ["value", "unit", "way"]
  | 200 => ["_law_script", "_law_at"]
  | 201 => ["_law_pump_here", "_law_many"]
  | 208 => ["_law_value", "_law_unit", "_law_way"]
  | 209 => ["_law_value", "_law_unit", "_law_way"]
  | 210 => ["_law_value", "_law_unit", "_law_step"]
  | 211 => ["_law_value", "_law_unit"]
  | 212 => ["_law_script"]
  | _ => []
def D0 : He.DefD := ⟨("is_whole", none), "is_whole", "is_whole", defArgs (top 5), defBody (top 5), defScope (top 5), [], []⟩
theorem sc0 : FnScope n0 (fps 0) (defScope (top 5)) := ⟨by kernel_rfl, by kernel_rfl, by kernel_rfl, by decide +kernel, by kernel_rfl, by decide +kernel, by decide +kernel⟩
theorem tk0 : ckSs T ⟨n0, defScope (top 5), fnt, true, nm, xn, xf⟩ d0.body (defBody (top 5)) = true := by decide +kernel
theorem bi0 (kV doc pm : Value) (an : Option Addr) (cdv ct : Value) (us : List Value) (hl : us.length = (fps 0).length) : bindArgs (PySem.W.fnOf "is_whole" "is_whole" (defArgs (top 5)) (defBody (top 5)) (defScope (top 5)) .none kV doc pm an cdv ct) ⟨us, []⟩ = pure ((fps 0).zip us) := match us, hl with | [_], _ => rfl
def D4 : He.DefD := ⟨("check_whole", none), "check_whole", "check_whole", defArgs (top 6), defBody (top 6), defScope (top 6), [], []⟩
theorem sc4 : FnScope n4 (fps 4) (defScope (top 6)) := ⟨by kernel_rfl, by kernel_rfl, by kernel_rfl, by decide +kernel, by kernel_rfl, by decide +kernel, by decide +kernel⟩
theorem tk4 : ckSs T ⟨n4, defScope (top 6), fnt, true, nm, xn, xf⟩ d4.body (defBody (top 6)) = true := by decide +kernel
theorem bi4 (kV doc pm : Value) (an : Option Addr) (cdv ct : Value) (us : List Value) (hl : us.length = (fps 4).length) : bindArgs (PySem.W.fnOf "check_whole" "check_whole" (defArgs (top 6)) (defBody (top 6)) (defScope (top 6)) .none kV doc pm an cdv ct) ⟨us, []⟩ = pure ((fps 4).zip us) := match us, hl with | [_], _ => rfl
def D5 : He.DefD := ⟨("check_least", none), "check_least", "check_least", defArgs (top 7), defBody (top 7), defScope (top 7), [], []⟩
theorem sc5 : FnScope n5 (fps 5) (defScope (top 7)) := ⟨by kernel_rfl, by kernel_rfl, by kernel_rfl, by decide +kernel, by kernel_rfl, by decide +kernel, by decide +kernel⟩
theorem tk5 : ckSs T ⟨n5, defScope (top 7), fnt, true, nm, xn, xf⟩ d5.body (defBody (top 7)) = true := by decide +kernel
theorem bi5 (kV doc pm : Value) (an : Option Addr) (cdv ct : Value) (us : List Value) (hl : us.length = (fps 5).length) : bindArgs (PySem.W.fnOf "check_least" "check_least" (defArgs (top 7)) (defBody (top 7)) (defScope (top 7)) .none kV doc pm an cdv ct) ⟨us, []⟩ = pure ((fps 5).zip us) := match us, hl with | [_, _], _ => rfl
def D9 : He.DefD := ⟨("is_way", none), "is_way", "is_way", defArgs (top 10), defBody (top 10), defScope (top 10), [], []⟩
theorem sc9 : FnScope n9 (fps 9) (defScope (top 10)) := ⟨by kernel_rfl, by kernel_rfl, by kernel_rfl, by decide +kernel, by kernel_rfl, by decide +kernel, by decide +kernel⟩
theorem tk9 : ckSs T ⟨n9, defScope (top 10), fnt, true, nm, xn, xf⟩ d9.body (defBody (top 10)) = true := by decide +kernel
theorem bi9 (kV doc pm : Value) (an : Option Addr) (cdv ct : Value) (us : List Value) (hl : us.length = (fps 9).length) : bindArgs (PySem.W.fnOf "is_way" "is_way" (defArgs (top 10)) (defBody (top 10)) (defScope (top 10)) .none kV doc pm an cdv ct) ⟨us, []⟩ = pure ((fps 9).zip us) := match us, hl with | [_], _ => rfl
def D10 : He.DefD := ⟨("check_way", none), "check_way", "check_way", defArgs (top 11), defBody (top 11), defScope (top 11), [], []⟩
theorem sc10 : FnScope n10 (fps 10) (defScope (top 11)) := ⟨by kernel_rfl, by kernel_rfl, by kernel_rfl, by decide +kernel, by kernel_rfl, by decide +kernel, by decide +kernel⟩
theorem tk10 : ckSs T ⟨n10, defScope (top 11), fnt, true, nm, xn, xf⟩ d10.body (defBody (top 11)) = true := by decide +kernel
theorem bi10 (kV doc pm : Value) (an : Option Addr) (cdv ct : Value) (us : List Value) (hl : us.length = (fps 10).length) : bindArgs (PySem.W.fnOf "check_way" "check_way" (defArgs (top 11)) (defBody (top 11)) (defScope (top 11)) .none kV doc pm an cdv ct) ⟨us, []⟩ = pure ((fps 10).zip us) := match us, hl with | [_], _ => rfl
def D11 : He.DefD := ⟨("rounded_by", none), "rounded_by", "rounded_by", defArgs (top 12), defBody (top 12), defScope (top 12), [], []⟩
theorem sc11 : FnScope n11 (fps 11) (defScope (top 12)) := ⟨by kernel_rfl, by kernel_rfl, by kernel_rfl, by decide +kernel, by kernel_rfl, by decide +kernel, by decide +kernel⟩
theorem tk11 : ckSs T ⟨n11, defScope (top 12), fnt, true, nm, xn, xf⟩ d11.body (defBody (top 12)) = true := by decide +kernel
theorem bi11 (kV doc pm : Value) (an : Option Addr) (cdv ct : Value) (us : List Value) (hl : us.length = (fps 11).length) : bindArgs (PySem.W.fnOf "rounded_by" "rounded_by" (defArgs (top 12)) (defBody (top 12)) (defScope (top 12)) .none kV doc pm an cdv ct) ⟨us, []⟩ = pure ((fps 11).zip us) := match us, hl with | [_, _, _], _ => rfl
def D13 : He.DefD := ⟨("rounded", none), "rounded", "rounded", defArgs (top 13), defBody (top 13), defScope (top 13), [], []⟩
theorem sc13 : FnScope n13 (fps 13) (defScope (top 13)) := ⟨by kernel_rfl, by kernel_rfl, by kernel_rfl, by decide +kernel, by kernel_rfl, by decide +kernel, by decide +kernel⟩
theorem tk13 : ckSs T ⟨n13, defScope (top 13), fnt, true, nm, xn, xf⟩ d13.body (defBody (top 13)) = true := by decide +kernel
theorem bi13 (kV doc pm : Value) (an : Option Addr) (cdv ct : Value) (us : List Value) (hl : us.length = (fps 13).length) : bindArgs (PySem.W.fnOf "rounded" "rounded" (defArgs (top 13)) (defBody (top 13)) (defScope (top 13)) .none kV doc pm an cdv ct) ⟨us, []⟩ = pure ((fps 13).zip us) := match us, hl with | [_, _, _], _ => rfl
def D200 : He.DefD := ⟨("_law_pump", none), "_law_pump", "_law_pump", defArgs (top 15), defBody (top 15), defScope (top 15), [], []⟩
theorem sc200 : FnScope n200 (fps 200) (defScope (top 15)) := ⟨by kernel_rfl, by kernel_rfl, by kernel_rfl, by decide +kernel, by kernel_rfl, by decide +kernel, by decide +kernel⟩
theorem tk200 : ckSs T ⟨n200, defScope (top 15), fnt, true, nm, xn, xf⟩ d200.body (defBody (top 15)) = true := by decide +kernel
theorem bi200 (kV doc pm : Value) (an : Option Addr) (cdv ct : Value) (us : List Value) (hl : us.length = (fps 200).length) : bindArgs (PySem.W.fnOf "_law_pump" "_law_pump" (defArgs (top 15)) (defBody (top 15)) (defScope (top 15)) .none kV doc pm an cdv ct) ⟨us, []⟩ = pure ((fps 200).zip us) := match us, hl with | [_, _], _ => rfl
def D201 : He.DefD := ⟨("_law_cup", none), "_law_cup", "_law_cup", defArgs (top 16), defBody (top 16), defScope (top 16), [], []⟩
theorem sc201 : FnScope n201 (fps 201) (defScope (top 16)) := ⟨by kernel_rfl, by kernel_rfl, by kernel_rfl, by decide +kernel, by kernel_rfl, by decide +kernel, by decide +kernel⟩
theorem tk201 : ckSs T ⟨n201, defScope (top 16), fnt, true, nm, xn, xf⟩ d201.body (defBody (top 16)) = true := by decide +kernel
theorem bi201 (kV doc pm : Value) (an : Option Addr) (cdv ct : Value) (us : List Value) (hl : us.length = (fps 201).length) : bindArgs (PySem.W.fnOf "_law_cup" "_law_cup" (defArgs (top 16)) (defBody (top 16)) (defScope (top 16)) .none kV doc pm an cdv ct) ⟨us, []⟩ = pure ((fps 201).zip us) := match us, hl with | [_, _], _ => rfl
def D208 : He.DefD := ⟨("_law_rounded", none), "_law_rounded", "_law_rounded", defArgs (top 17), defBody (top 17), defScope (top 17), [], []⟩
theorem sc208 : FnScope n208 (fps 208) (defScope (top 17)) := ⟨by kernel_rfl, by kernel_rfl, by kernel_rfl, by decide +kernel, by kernel_rfl, by decide +kernel, by decide +kernel⟩
theorem tk208 : ckSs T ⟨n208, defScope (top 17), fnt, true, nm, xn, xf⟩ d208.body (defBody (top 17)) = true := by decide +kernel
theorem bi208 (kV doc pm : Value) (an : Option Addr) (cdv ct : Value) (us : List Value) (hl : us.length = (fps 208).length) : bindArgs (PySem.W.fnOf "_law_rounded" "_law_rounded" (defArgs (top 17)) (defBody (top 17)) (defScope (top 17)) .none kV doc pm an cdv ct) ⟨us, []⟩ = pure ((fps 208).zip us) := match us, hl with | [_, _, _], _ => rfl
def D209 : He.DefD := ⟨("_law_told", none), "_law_told", "_law_told", defArgs (top 18), defBody (top 18), defScope (top 18), [], []⟩
theorem sc209 : FnScope n209 (fps 209) (defScope (top 18)) := ⟨by kernel_rfl, by kernel_rfl, by kernel_rfl, by decide +kernel, by kernel_rfl, by decide +kernel, by decide +kernel⟩
theorem tk209 : ckSs T ⟨n209, defScope (top 18), fnt, true, nm, xn, xf⟩ d209.body (defBody (top 18)) = true := by decide +kernel
theorem bi209 (kV doc pm : Value) (an : Option Addr) (cdv ct : Value) (us : List Value) (hl : us.length = (fps 209).length) : bindArgs (PySem.W.fnOf "_law_told" "_law_told" (defArgs (top 18)) (defBody (top 18)) (defScope (top 18)) .none kV doc pm an cdv ct) ⟨us, []⟩ = pure ((fps 209).zip us) := match us, hl with | [_, _, _], _ => rfl
def D210 : He.DefD := ⟨("_law_right", none), "_law_right", "_law_right", defArgs (top 19), defBody (top 19), defScope (top 19), [], []⟩
theorem sc210 : FnScope n210 (fps 210) (defScope (top 19)) := ⟨by kernel_rfl, by kernel_rfl, by kernel_rfl, by decide +kernel, by kernel_rfl, by decide +kernel, by decide +kernel⟩
theorem tk210 : ckSs T ⟨n210, defScope (top 19), fnt, true, nm, xn, xf⟩ d210.body (defBody (top 19)) = true := by decide +kernel
theorem bi210 (kV doc pm : Value) (an : Option Addr) (cdv ct : Value) (us : List Value) (hl : us.length = (fps 210).length) : bindArgs (PySem.W.fnOf "_law_right" "_law_right" (defArgs (top 19)) (defBody (top 19)) (defScope (top 19)) .none kV doc pm an cdv ct) ⟨us, []⟩ = pure ((fps 210).zip us) := match us, hl with | [_, _, _], _ => rfl
def D211 : He.DefD := ⟨("_law_refused", none), "_law_refused", "_law_refused", defArgs (top 20), defBody (top 20), defScope (top 20), [], []⟩
theorem sc211 : FnScope n211 (fps 211) (defScope (top 20)) := ⟨by kernel_rfl, by kernel_rfl, by kernel_rfl, by decide +kernel, by kernel_rfl, by decide +kernel, by decide +kernel⟩
theorem tk211 : ckSs T ⟨n211, defScope (top 20), fnt, true, nm, xn, xf⟩ d211.body (defBody (top 20)) = true := by decide +kernel
theorem bi211 (kV doc pm : Value) (an : Option Addr) (cdv ct : Value) (us : List Value) (hl : us.length = (fps 211).length) : bindArgs (PySem.W.fnOf "_law_refused" "_law_refused" (defArgs (top 20)) (defBody (top 20)) (defScope (top 20)) .none kV doc pm an cdv ct) ⟨us, []⟩ = pure ((fps 211).zip us) := match us, hl with | [_, _], _ => rfl
def D212 : He.DefD := ⟨("law", none), "law", "law", defArgs (top 21), defBody (top 21), defScope (top 21), [], []⟩
theorem sc212 : FnScope n212 (fps 212) (defScope (top 21)) := ⟨by kernel_rfl, by kernel_rfl, by kernel_rfl, by decide +kernel, by kernel_rfl, by decide +kernel, by decide +kernel⟩
theorem tk212 : ckSs T ⟨n212, defScope (top 21), fnt, true, nm, xn, xf⟩ d212.body (defBody (top 21)) = true := by decide +kernel
theorem bi212 (kV doc pm : Value) (an : Option Addr) (cdv ct : Value) (us : List Value) (hl : us.length = (fps 212).length) : bindArgs (PySem.W.fnOf "law" "law" (defArgs (top 21)) (defBody (top 21)) (defScope (top 21)) .none kV doc pm an cdv ct) ⟨us, []⟩ = pure ((fps 212).zip us) := match us, hl with | [_], _ => rfl
def fn : List He.DefD := [D0, D4, D5, D9, D10, D11, D13, D200, D201, D208, D209, D210, D211, D212]
def fa : List He.Fa := [.glo "is_whole", .glo "check_whole", .glo "check_least", .glo "is_way", .glo "check_way", .glo "rounded_by", .glo "rounded", .glo "_law_pump", .glo "_law_cup", .glo "_law_rounded", .glo "_law_told", .glo "_law_right", .glo "_law_refused", .glo "law", .glo "InvalidNumber", .glo "InvalidWay", .glo "OTHER_WAYS"]
def fb : List He.Fa := bltNames.map .free
def fc : List He.Fa := [.exm "InvalidNumber" "InvalidNumber" true, .exm "InvalidNumber" "InvalidWay" false, .exm "InvalidWay" "InvalidNumber" false, .exm "InvalidWay" "InvalidWay" true]
def ts : List He.Tab := [(fun K => He.ga K "OTHER_WAYS", ["down", "up", "half up", "half down"])]
def clsBody1 : List Stmt := match top 2 with | .ClassDef _ _ _ b .. => b | _ => []
abbrev ini1 : Stmt := clsBody1.getD 0 (.Pass ⟨0, 0, 0, 0⟩)
def E1 : ErrD := ⟨"InvalidNumber", "value", "InvalidNumber.__init__", defArgs ini1, defBody ini1, defScope ini1⟩
theorem es1 : ErrS prog E1 := ⟨by decide +kernel, by decide +kernel, ⟨_, _, _, _, _, _, _, _, _, _, _, rfl, rfl, rfl, rfl⟩, fun _ _ _ _ _ _ _ _ _ _ _ => ⟨_, rfl, rfl⟩, by decide +kernel, by decide +kernel, by decide +kernel, by decide +kernel, by decide +kernel, by kernel_rfl, by kernel_rfl, by kernel_rfl, by decide +kernel⟩
def clsBody2 : List Stmt := match top 3 with | .ClassDef _ _ _ b .. => b | _ => []
abbrev ini2 : Stmt := clsBody2.getD 0 (.Pass ⟨0, 0, 0, 0⟩)
def E2 : ErrD := ⟨"InvalidWay", "value", "InvalidWay.__init__", defArgs ini2, defBody ini2, defScope ini2⟩
theorem es2 : ErrS prog E2 := ⟨by decide +kernel, by decide +kernel, ⟨_, _, _, _, _, _, _, _, _, _, _, rfl, rfl, rfl, rfl⟩, fun _ _ _ _ _ _ _ _ _ _ _ => ⟨_, rfl, rfl⟩, by decide +kernel, by decide +kernel, by decide +kernel, by decide +kernel, by decide +kernel, by kernel_rfl, by kernel_rfl, by kernel_rfl, by decide +kernel⟩
def es : List ErrD := [E1, E2]
def exB (K : Frag) : Bool := gdB K "OTHER_WAYS" ((gdOf "OTHER_WAYS").getD [])
def fz : List He.Fa := fa ++ (fb ++ fc)
section
variable {K : Frag} {h : Heap} {mg : PySem.Str → Option Value} {w : World}
abbrev ad (K : Frag) : Ad := adOf K fns fps nm xf xn
theorem df0 (X : K.In h) (G : h.Ns mainGlobals mg) (c : SaysS fz fn ts es prog exB w K) : DefOk (ad K) T K mg fnt nm "is_whole" 0 := mk_def (D := D0) (d := d0) rfl (c.def_ (by simp [fn])) rfl rfl rfl sc0 rfl rfl tk0 bi0 (He.glo_ok X G (c.fact (f := .glo "is_whole") (by simp [fz, fa])))
theorem df4 (X : K.In h) (G : h.Ns mainGlobals mg) (c : SaysS fz fn ts es prog exB w K) : DefOk (ad K) T K mg fnt nm "check_whole" 4 := mk_def (D := D4) (d := d4) rfl (c.def_ (by simp [fn])) rfl rfl rfl sc4 rfl rfl tk4 bi4 (He.glo_ok X G (c.fact (f := .glo "check_whole") (by simp [fz, fa])))
theorem df5 (X : K.In h) (G : h.Ns mainGlobals mg) (c : SaysS fz fn ts es prog exB w K) : DefOk (ad K) T K mg fnt nm "check_least" 5 := mk_def (D := D5) (d := d5) rfl (c.def_ (by simp [fn])) rfl rfl rfl sc5 rfl rfl tk5 bi5 (He.glo_ok X G (c.fact (f := .glo "check_least") (by simp [fz, fa])))
theorem df9 (X : K.In h) (G : h.Ns mainGlobals mg) (c : SaysS fz fn ts es prog exB w K) : DefOk (ad K) T K mg fnt nm "is_way" 9 := mk_def (D := D9) (d := d9) rfl (c.def_ (by simp [fn])) rfl rfl rfl sc9 rfl rfl tk9 bi9 (He.glo_ok X G (c.fact (f := .glo "is_way") (by simp [fz, fa])))
theorem df10 (X : K.In h) (G : h.Ns mainGlobals mg) (c : SaysS fz fn ts es prog exB w K) : DefOk (ad K) T K mg fnt nm "check_way" 10 := mk_def (D := D10) (d := d10) rfl (c.def_ (by simp [fn])) rfl rfl rfl sc10 rfl rfl tk10 bi10 (He.glo_ok X G (c.fact (f := .glo "check_way") (by simp [fz, fa])))
theorem df11 (X : K.In h) (G : h.Ns mainGlobals mg) (c : SaysS fz fn ts es prog exB w K) : DefOk (ad K) T K mg fnt nm "rounded_by" 11 := mk_def (D := D11) (d := d11) rfl (c.def_ (by simp [fn])) rfl rfl rfl sc11 rfl rfl tk11 bi11 (He.glo_ok X G (c.fact (f := .glo "rounded_by") (by simp [fz, fa])))
theorem df13 (X : K.In h) (G : h.Ns mainGlobals mg) (c : SaysS fz fn ts es prog exB w K) : DefOk (ad K) T K mg fnt nm "rounded" 13 := mk_def (D := D13) (d := d13) rfl (c.def_ (by simp [fn])) rfl rfl rfl sc13 rfl rfl tk13 bi13 (He.glo_ok X G (c.fact (f := .glo "rounded") (by simp [fz, fa])))
theorem df200 (X : K.In h) (G : h.Ns mainGlobals mg) (c : SaysS fz fn ts es prog exB w K) : DefOk (ad K) T K mg fnt nm "_law_pump" 200 := mk_def (D := D200) (d := d200) rfl (c.def_ (by simp [fn])) rfl rfl rfl sc200 rfl rfl tk200 bi200 (He.glo_ok X G (c.fact (f := .glo "_law_pump") (by simp [fz, fa])))
theorem df201 (X : K.In h) (G : h.Ns mainGlobals mg) (c : SaysS fz fn ts es prog exB w K) : DefOk (ad K) T K mg fnt nm "_law_cup" 201 := mk_def (D := D201) (d := d201) rfl (c.def_ (by simp [fn])) rfl rfl rfl sc201 rfl rfl tk201 bi201 (He.glo_ok X G (c.fact (f := .glo "_law_cup") (by simp [fz, fa])))
theorem df208 (X : K.In h) (G : h.Ns mainGlobals mg) (c : SaysS fz fn ts es prog exB w K) : DefOk (ad K) T K mg fnt nm "_law_rounded" 208 := mk_def (D := D208) (d := d208) rfl (c.def_ (by simp [fn])) rfl rfl rfl sc208 rfl rfl tk208 bi208 (He.glo_ok X G (c.fact (f := .glo "_law_rounded") (by simp [fz, fa])))
theorem df209 (X : K.In h) (G : h.Ns mainGlobals mg) (c : SaysS fz fn ts es prog exB w K) : DefOk (ad K) T K mg fnt nm "_law_told" 209 := mk_def (D := D209) (d := d209) rfl (c.def_ (by simp [fn])) rfl rfl rfl sc209 rfl rfl tk209 bi209 (He.glo_ok X G (c.fact (f := .glo "_law_told") (by simp [fz, fa])))
theorem df210 (X : K.In h) (G : h.Ns mainGlobals mg) (c : SaysS fz fn ts es prog exB w K) : DefOk (ad K) T K mg fnt nm "_law_right" 210 := mk_def (D := D210) (d := d210) rfl (c.def_ (by simp [fn])) rfl rfl rfl sc210 rfl rfl tk210 bi210 (He.glo_ok X G (c.fact (f := .glo "_law_right") (by simp [fz, fa])))
theorem df211 (X : K.In h) (G : h.Ns mainGlobals mg) (c : SaysS fz fn ts es prog exB w K) : DefOk (ad K) T K mg fnt nm "_law_refused" 211 := mk_def (D := D211) (d := d211) rfl (c.def_ (by simp [fn])) rfl rfl rfl sc211 rfl rfl tk211 bi211 (He.glo_ok X G (c.fact (f := .glo "_law_refused") (by simp [fz, fa])))
theorem df212 (X : K.In h) (G : h.Ns mainGlobals mg) (c : SaysS fz fn ts es prog exB w K) : DefOk (ad K) T K mg fnt nm "law" 212 := mk_def (D := D212) (d := d212) rfl (c.def_ (by simp [fn])) rfl rfl rfl sc212 rfl rfl tk212 bi212 (He.glo_ok X G (c.fact (f := .glo "law") (by simp [fz, fa])))
theorem pg (X : K.In h) (G : h.Ns mainGlobals mg) (c : SaysS fz fn ts es prog exB w K) : PgOk (ad K) T prog w K mg fnt nm where
  fn := fun x f hx => by
    have all : ∀ p ∈ fnt, DefOk (ad K) T K mg fnt nm p.1 p.2 := by
      unfold fnt
      simp only [List.forall_mem_cons]
      exact ⟨df0 X G c, df4 X G c, df5 X G c, df9 X G c, df10 X G c, df11 X G c, df13 X G c, df200 X G c, df201 X G c, df208 X G c, df209 X G c, df210 X G c, df211 X G c, df212 X G c, fun _ h => by cases h⟩
    exact all (x, f) (PySem.mem_of_lookup hx)
  blt := blt_ok X G fun f hf => c.fact (by unfold fz; exact List.mem_append_right _ (List.mem_append_left _ hf))
  err := by
    have sg : mg "super" = none := He.free_ok X G (c.fact (f := .free "super") (by unfold fz; exact List.mem_append_right _ (List.mem_append_left _ (List.mem_map_of_mem (by decide)))))
    have e1 := err_ok (e := E1) es1 (He.glo_ok X G (c.fact (f := .glo "InvalidNumber") (by simp [fz, fa]))) sg (c.err (by simp [es])).1 (c.err (by simp [es])).2
    have e2 := err_ok (e := E2) es2 (He.glo_ok X G (c.fact (f := .glo "InvalidWay") (by simp [fz, fa]))) sg (c.err (by simp [es])).1 (c.err (by simp [es])).2
    refine ⟨?_, ?_, ?_⟩
    · simp only [ad, adOf, xn, List.forall_mem_cons]
      exact ⟨⟨_, e1.1⟩, ⟨_, e2.1⟩, fun _ h => by cases h⟩
    · simp only [ad, adOf, xn, List.forall_mem_cons]
      exact ⟨e1.2, e2.2, fun _ h => by cases h⟩
    · intro a b ha hb
      revert a b
      suffices z : ∀ a ∈ xn, ∀ b ∈ xn, PySem.W.exmOne K (.ref ((ad K).xa a)) (.ref ((ad K).xa b)) = some (decide (b = a)) from fun a b ha hb => z a ha b hb
      simp only [xn, List.forall_mem_cons]
      exact ⟨⟨He.exm_ok (x := "InvalidNumber") (y := "InvalidNumber") (c.fact (by simp [fz, fc])), He.exm_ok (x := "InvalidNumber") (y := "InvalidWay") (c.fact (by simp [fz, fc])), fun _ h => by cases h⟩, ⟨He.exm_ok (x := "InvalidWay") (y := "InvalidNumber") (c.fact (by simp [fz, fc])), He.exm_ok (x := "InvalidWay") (y := "InvalidWay") (c.fact (by simp [fz, fc])), fun _ h => by cases h⟩, fun _ h => by cases h⟩
  gd := fun x ps hx => by
    by_cases q0 : x = "OTHER_WAYS"
    · subst q0
      have e : ps = (gdOf "OTHER_WAYS").getD [] := by rw [show gdOf "OTHER_WAYS" = some ps from hx]; rfl
      rw [e]
      exact gdB_ok (He.glo_ok X G (c.fact (f := .glo "OTHER_WAYS") (by simp [fz, fa]))) (c.t.tab 0 rfl) c.exk
    · exfalso
      have hx : gdOf x = some ps := hx
      unfold gdOf at hx
      simp only [if_neg q0] at hx
      cases hx
  gs := fun x z hx => by cases hx
  hC := fun _ => rfl
end
end U

set_option Elab.async false
set_option linter.all false
set_option maxRecDepth 100000
set_option maxHeartbeats 0
namespace U
open PySem PySem.Spec PyProof.Rows L2 MP Sd
abbrev R : PySem.W.OpenRow := PySem.W.OpenLaw.row PySem.Challenge.rw_roundtotals_k02_numbers_rounded
abbrev hk : PySem.W.Hook := hookS 5 fz fn ts es prog exB
def ob (s : PySem.W.SharedT) : AlS := obsSG 5 fz fn ts es prog exB (HandSHeadRun.getT s)
theorem ob_eq (s : PySem.W.SharedT) : ob s = hk.obs s.abs := obsSG_eq (HandSHeadRun.getT_eq s)
def loose0 : List PySem.Str := ["__name__", "RoundError", "InvalidNumber", "InvalidWay", "is_whole", "check_whole", "check_least", "OTHER_WAYS", "is_way", "check_way", "rounded_by", "rounded", "_law_pump", "_law_cup", "_law_rounded", "_law_told", "_law_right", "_law_refused"]
def loose : List PySem.Str := loose0
theorem runF (w : World) : HandSHeadRun.RunEq R (PySem.W.view R.prog [21]) hk ob 4000 loose (w.withFollow "special-get-raises" false) := by
  intro os
  kernel_rfl
theorem runT (w : World) : HandSHeadRun.RunEq R (PySem.W.view R.prog [21]) hk ob 4000 loose (w.withFollow "special-get-raises" true) := by
  intro os
  kernel_rfl
theorem run (w : World) : HandSHeadRun.RunEq R (PySem.W.view R.prog [21]) hk ob 4000 loose w := PySem.W.byRow2 "special-get-raises" (P := fun w => HandSHeadRun.RunEq R (PySem.W.view R.prog [21]) hk ob 4000 loose w) runF runT w
end U
open PySem PySem.W PySem.Calls PyProof.Rows
theorem PySem.Challenge.cw_roundtotals_k02_numbers_rounded_holds : PySem.Challenge.rw_roundtotals_k02_numbers_rounded.Holds := by
  w_on; o_law
  refine HandSHeadRun.head_any (r := OpenLaw.row PySem.Challenge.rw_roundtotals_k02_numbers_rounded) (q := view (OpenLaw.row PySem.Challenge.rw_roundtotals_k02_numbers_rounded).prog [21]) (H := U.hk) (ob := U.ob) (M := 4000) (loose := U.loose) (d := HandSHeadRun.topDef (OpenLaw.row PySem.Challenge.rw_roundtotals_k02_numbers_rounded).prog 21) (kwd := []) U.ob_eq
    (by kernel_rfl) (fun s => by kernel_rfl) U.run (by kernel_rfl) (by kernel_rfl) (by kernel_rfl) (by rfl) (by first | assumption | decide +kernel) (by decide +kernel) ⟨rfl, rfl, rfl, rfl, rfl, by decide +kernel⟩ ?hw ?hc
  case hw => w_witness2
  case hc =>
    refine Sd.walk_ofS (l := PySem.Challenge.rw_roundtotals_k02_numbers_rounded) (n := 63) (k := Sd.lv 8) (x := "_law_script") rfl (by decide) (by kernel_rfl) ⟨rfl, by decide, by decide⟩ ?F
    intro w mg fa h Y G hmg0
    obtain ⟨K, KX, c⟩ := Y
    have hmg : mg ("law" : PySem.Str) = some (.ref fa) := by
      have e : (HandSHeadRun.topDef (OpenLaw.row PySem.Challenge.rw_roundtotals_k02_numbers_rounded).prog 21).name = ("law" : PySem.Str) := by kernel_rfl
      rw [← e]
      exact hmg0
    exact Sd.law_ok (f := 212) rfl rfl KX (U.pg KX G c) hmg (Sd.bi_of (D := U.D212) rfl (c.def_ (by simp [U.fn])) rfl rfl U.bi212) U.math
